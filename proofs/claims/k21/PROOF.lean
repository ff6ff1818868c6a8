import PyProof.Rows.All
import Wide.All
import OpenK.AllK
import Wide.FinOn
import HandS.ForMost
import HandS.ForExc
import HandS.IsInst
import HandS.Wide
import HandS.WideMore
import HandS.CallSlots
import HandS.Conv
import HandS.Rev
import HandS.Flow
import HandS.Style
import HandS.EndBits
import HandS.TupAny
import HandS.RevTup
import HandS.HeadNt
import HandS.HeadWalk
import HandS.HeadEnd
import HandS.Head0
import HandS.Head1
import HandS.Head2
import KE.KStateDown
import PySem.Challenge.RW_oncecodes_k21_whole_chances_of_many_trie
set_option Elab.async false
set_option linter.all false
set_option maxRecDepth 100000
set_option maxHeartbeats 4000000
set_option autoImplicit false
namespace Mi
open PySem PySem.Spec PyProof.Rows L2

/-- a value with all that it holds -/
inductive D where
  | non | bl (b : Bool) | int (i : Int) | str (x : Str)
  | tup (ds : List D) | lst (ds : List D) | rls (ds : List D)
  | dct (ks : List Key) (ds : List D)
  | ty (n : String)

mutual
def Den (K : PySem.W.Frag) (H : Hp) : D → V → Prop
  | .non, v => v = .non
  | .bl b, v => v = .bl b
  | .int i, v => v = .int i
  | .str x, v => v = .str x
  | .tup ds, v => ∃ a vs, v = .ref a ∧ SqT K H a vs ∧ DenL K H ds vs
  | .lst ds, v => ∃ a vs, v = .ref a ∧ H a = some (.lst vs) ∧ DenL K H ds vs
  | .rls ds, v => ∃ a vs, v = .ref a ∧ SqL K H a vs ∧ DenL K H ds vs
  | .dct ks ds, v => ∃ a vs, v = .ref a ∧ H a = some (.dK (ks.zip vs)) ∧ ks.length = vs.length ∧ DenL K H ds vs
  | .ty n, v => v = .ty n
def DenL (K : PySem.W.Frag) (H : Hp) : List D → List V → Prop
  | [], vs => vs = []
  | d :: ds, vs => ∃ v r, vs = v :: r ∧ Den K H d v ∧ DenL K H ds r
end

theorem Same.seqT {K : PySem.W.Frag} {H H' : Hp} {a : Addr} {xs : List V} (e : Same H H') (h : SqT K H a xs) : SqT K H' a xs := by
  rcases h with (h | ⟨o, h⟩) | h
  · exact .inl (.inl (e _ _ h))
  · exact .inl (.inr ⟨o, e _ _ h⟩)
  · exact .inr h

mutual
theorem Den.mono {K : PySem.W.Frag} {H H' : Hp} (s : Same H H') : ∀ (d : D) (v : V), Den K H d v → Den K H' d v
  | .non, _, h => h
  | .bl _, _, h => h
  | .int _, _, h => h
  | .str _, _, h => h
  | .tup ds, v, h => by
    simp only [Den] at h ⊢
    obtain ⟨a, vs, e, q, l⟩ := h
    exact ⟨a, vs, e, Same.seqT s q, DenL.mono s ds vs l⟩
  | .lst ds, v, h => by
    simp only [Den] at h ⊢
    obtain ⟨a, vs, e, q, l⟩ := h
    exact ⟨a, vs, e, s _ _ q, DenL.mono s ds vs l⟩
  | .rls ds, v, h => by
    simp only [Den] at h ⊢
    obtain ⟨a, vs, e, q, l⟩ := h
    exact ⟨a, vs, e, s.seq q, DenL.mono s ds vs l⟩
  | .dct ks ds, v, h => by
    simp only [Den] at h ⊢
    obtain ⟨a, vs, e, q, n, l⟩ := h
    exact ⟨a, vs, e, s _ _ q, n, DenL.mono s ds vs l⟩
  | .ty _, _, h => h
theorem DenL.mono {K : PySem.W.Frag} {H H' : Hp} (s : Same H H') : ∀ (ds : List D) (vs : List V), DenL K H ds vs → DenL K H' ds vs
  | [], _, h => h
  | d :: ds, vs, h => by
    simp only [DenL] at h ⊢
    obtain ⟨v, r, e, h1, h2⟩ := h
    exact ⟨v, r, e, Den.mono s d v h1, DenL.mono s ds r h2⟩
end

section
variable {K : PySem.W.Frag} {H H' : Hp}
theorem DenL.length : ∀ {ds : List D} {vs : List V}, DenL K H ds vs → ds.length = vs.length
  | [], _, h => by simp only [DenL] at h; subst h; rfl
  | d :: ds, vs, h => by
    simp only [DenL] at h
    obtain ⟨v, r, rfl, _, h2⟩ := h
    rw [List.length_cons, List.length_cons, DenL.length h2]
theorem DenL.nil : DenL K H [] [] := by simp only [DenL]
theorem DenL.cons {d : D} {v : V} {ds : List D} {vs : List V} (h : Den K H d v) (t : DenL K H ds vs) : DenL K H (d :: ds) (v :: vs) := by
  simp only [DenL]
  exact ⟨v, vs, rfl, h, t⟩
theorem DenL.get : ∀ {ds : List D} {vs : List V} {i : Nat} {d : D}, DenL K H ds vs → ds[i]? = some d → ∃ v, vs[i]? = some v ∧ Den K H d v
  | [], _, _, _, _, e => by simp at e
  | d :: ds, vs, i, d', h, e => by
    simp only [DenL] at h
    obtain ⟨v, r, rfl, h1, h2⟩ := h
    cases i with
    | zero =>
      simp only [List.getElem?_cons_zero, Option.some.injEq] at e
      subst e
      exact ⟨v, rfl, h1⟩
    | succ i =>
      simp only [List.getElem?_cons_succ] at e ⊢
      exact DenL.get h2 e
theorem DenL.getV : ∀ {ds : List D} {vs : List V} {i : Nat} {v : V}, DenL K H ds vs → vs[i]? = some v → ∃ d, ds[i]? = some d ∧ Den K H d v
  | [], _, _, _, h, e => by simp only [DenL] at h; subst h; simp at e
  | d :: ds, vs, i, d', h, e => by
    simp only [DenL] at h
    obtain ⟨v, r, rfl, h1, h2⟩ := h
    cases i with
    | zero =>
      simp only [List.getElem?_cons_zero, Option.some.injEq] at e
      subst e
      exact ⟨d, rfl, h1⟩
    | succ i =>
      simp only [List.getElem?_cons_succ] at e ⊢
      exact DenL.getV h2 e
theorem DenL.append : ∀ {ds es : List D} {vs us : List V}, DenL K H ds vs → DenL K H es us → DenL K H (ds ++ es) (vs ++ us)
  | [], _, _, _, h, t => by simp only [DenL] at h; subst h; exact t
  | d :: ds, _, _, _, h, t => by
    simp only [DenL] at h
    obtain ⟨v, r, rfl, h1, h2⟩ := h
    exact DenL.cons h1 (DenL.append h2 t)
theorem DenL.take : ∀ {ds : List D} {vs : List V} (n : Nat), DenL K H ds vs → DenL K H (ds.take n) (vs.take n)
  | [], _, n, h => by simp only [DenL] at h; subst h; simp [DenL]
  | d :: ds, _, 0, h => by simp [DenL]
  | d :: ds, _, n + 1, h => by
    simp only [DenL] at h
    obtain ⟨v, r, rfl, h1, h2⟩ := h
    exact DenL.cons h1 (DenL.take n h2)
theorem DenL.drop : ∀ {ds : List D} {vs : List V} (n : Nat), DenL K H ds vs → DenL K H (ds.drop n) (vs.drop n)
  | [], _, n, h => by simp only [DenL] at h; subst h; simp [DenL]
  | d :: ds, _, 0, h => h
  | d :: ds, _, n + 1, h => by
    simp only [DenL] at h
    obtain ⟨v, r, rfl, h1, h2⟩ := h
    exact DenL.drop n h2
theorem DenL.dropLast : ∀ {ds : List D} {vs : List V}, DenL K H ds vs → DenL K H ds.dropLast vs.dropLast := fun {ds vs} h => by
  rw [List.dropLast_eq_take, List.dropLast_eq_take, ← DenL.length h]
  exact DenL.take _ h
theorem DenL.reverse : ∀ {ds : List D} {vs : List V}, DenL K H ds vs → DenL K H ds.reverse vs.reverse
  | [], _, h => by simp only [DenL] at h; subst h; simp [DenL]
  | d :: ds, _, h => by
    simp only [DenL] at h
    obtain ⟨v, r, rfl, h1, h2⟩ := h
    rw [List.reverse_cons, List.reverse_cons]
    exact DenL.append (DenL.reverse h2) (DenL.cons h1 DenL.nil)
theorem DenL.set : ∀ {ds : List D} {vs : List V} {d : D} {v : V} (i : Nat), DenL K H ds vs → Den K H d v → DenL K H (ds.set i d) (vs.set i v)
  | [], _, _, _, _, h, _ => by simp only [DenL] at h; subst h; simp [DenL]
  | d :: ds, _, d', v', i, h, hd => by
    simp only [DenL] at h
    obtain ⟨v, r, rfl, h1, h2⟩ := h
    cases i with
    | zero => exact DenL.cons hd h2
    | succ i => exact DenL.cons h1 (DenL.set i h2 hd)
theorem DenL.replicate {d : D} {v : V} (h : Den K H d v) : ∀ n : Nat, DenL K H (List.replicate n d) (List.replicate n v)
  | 0 => DenL.nil
  | n + 1 => by
    rw [List.replicate_succ, List.replicate_succ]
    exact DenL.cons h (DenL.replicate h n)
theorem DenL.rep {ds : List D} {vs : List V} (h : DenL K H ds vs) : ∀ n : Nat, DenL K H (List.replicate n ds).flatten (List.replicate n vs).flatten
  | 0 => DenL.nil
  | n + 1 => by
    rw [List.replicate_succ, List.replicate_succ, List.flatten_cons, List.flatten_cons]
    exact DenL.append h (DenL.rep h n)
theorem DenL.eraseIdx : ∀ {ds : List D} {vs : List V} (i : Nat), DenL K H ds vs → DenL K H (ds.eraseIdx i) (vs.eraseIdx i)
  | [], _, _, h => by simp only [DenL] at h; subst h; simp [DenL]
  | d :: ds, _, i, h => by
    simp only [DenL] at h
    obtain ⟨v, r, rfl, h1, h2⟩ := h
    cases i with
    | zero => exact h2
    | succ i => exact DenL.cons h1 (DenL.eraseIdx i h2)
end

/-! ### slots -/
inductive Sl where
  | un | val (d : D) | own (ds : List D) | brw (ds : List D)
abbrev En := List Sl
inductive R (α : Type) where
  | ok (a : α) | exc (c : Str) (e : En) | err

/-- the entry of a def: the heap there, what of it is seen, what is lent -/
structure Act where
  Hr : Hp
  He : Hp
  bor : Addr → Prop
  bld : Addr → Option (List V)
def off (A : Act) (a : Addr) : Prop := A.Hr a ≠ none ∧ A.He a = none
def Held (e : En) (i : Nat) : Prop := ∃ ds, e[i]? = some (.own ds) ∨ e[i]? = some (.brw ds)
def OwnAt (σ : L2.St) (e : En) (a : Addr) : Prop := ∃ i, Held e i ∧ σ[i]? = some (some (.ref a))
open Classical in
noncomputable def hid (A : Act) (σ : L2.St) (e : En) (H : Hp) : Hp := fun a => if OwnAt σ e a ∨ off A a then none else H a

structure Rep (K : PySem.W.Frag) (A : Act) (H : Hp) (σ : L2.St) (e : En) : Prop where
  len : σ.length = e.length
  sub : Same A.He A.Hr
  nbor : ∀ a, A.bor a ∨ A.bld a ≠ none → A.He a = none ∧ H a ≠ none
  nbld : ∀ a vs, A.bld a = some vs → A.Hr a ≠ none ∧ ¬ A.bor a ∧ H a = some (.lst vs)
  keep : ∀ b x, A.Hr b = some x → ¬ (A.bor b ∨ A.bld b ≠ none) → H b = some x
  val : ∀ (i : Nat) (d : D), e[i]? = some (.val d) → ∃ v, σ[i]? = some (some v) ∧ Den K (hid A σ e H) d v
  own : ∀ (i : Nat) (ds : List D), e[i]? = some (.own ds) → ∃ a vs, σ[i]? = some (some (.ref a)) ∧ H a = some (.lst vs) ∧ DenL K (hid A σ e H) ds vs ∧ A.Hr a = none
  brw : ∀ (i : Nat) (ds : List D), e[i]? = some (.brw ds) → ∃ a vs, σ[i]? = some (some (.ref a)) ∧ H a = some (.lst vs) ∧ DenL K (hid A σ e H) ds vs ∧ A.bor a
  inj : ∀ (i j : Nat) (a : Addr), Held e i → Held e j → σ[i]? = some (some (.ref a)) → σ[j]? = some (some (.ref a)) → i = j

section
variable {K : PySem.W.Frag} {A : Act} {H H' : Hp} {σ : L2.St} {e : En}
theorem hid_sub : Same (hid A σ e H) H := fun b o h => by
  unfold hid at h
  split at h
  · cases h
  · exact h
theorem hid_in {b : Addr} (n : ¬ OwnAt σ e b) (m : ¬ off A b) : hid A σ e H b = H b := by
  unfold hid
  rw [if_neg (by rintro (h | h); exact n h; exact m h)]
theorem hid_not {b : Addr} {o : HO} (h : hid A σ e H b = some o) : ¬ OwnAt σ e b ∧ ¬ off A b ∧ H b = some o := by
  unfold hid at h
  split at h
  · cases h
  · rename_i n
    exact ⟨fun x => n (.inl x), fun x => n (.inr x), h⟩
theorem hid_same (s : Same H H') : Same (hid A σ e H) (hid A σ e H') := fun b o h => by
  obtain ⟨n, m, h⟩ := hid_not h
  rw [hid_in n m]
  exact s _ _ h
theorem Rep.held {i : Nat} (r : Rep K A H σ e) (h : Held e i) : ∃ a vs, σ[i]? = some (some (.ref a)) ∧ H a = some (.lst vs) ∧ (A.Hr a = none ∨ A.bor a) := by
  obtain ⟨ds, h | h⟩ := h
  · obtain ⟨a, vs, h1, h2, _, h4⟩ := r.own i ds h
    exact ⟨a, vs, h1, h2, .inl h4⟩
  · obtain ⟨a, vs, h1, h2, _, h4⟩ := r.brw i ds h
    exact ⟨a, vs, h1, h2, .inr h4⟩
theorem Rep.ownAt {a : Addr} (r : Rep K A H σ e) (h : OwnAt σ e a) : ∃ vs, H a = some (.lst vs) ∧ (A.Hr a = none ∨ A.bor a) := by
  obtain ⟨i, hi, ha⟩ := h
  obtain ⟨b, vs, h1, h2, h3⟩ := r.held hi
  rw [ha] at h1
  cases h1
  exact ⟨vs, h2, h3⟩
/-- a new address is neither held nor out of sight -/
theorem Rep.new {p : Addr} (r : Rep K A H σ e) (h : H p = none) : ¬ OwnAt σ e p ∧ ¬ off A p ∧ ¬ (A.bor p ∨ A.bld p ≠ none) ∧ A.Hr p = none := by
  have nb : ¬ (A.bor p ∨ A.bld p ≠ none) := fun b => (r.nbor p b).2 h
  have nr : A.Hr p = none := by
    cases q : A.Hr p with
    | none => rfl
    | some x =>
      have := r.keep p x q nb
      rw [h] at this
      cases this
  refine ⟨fun o => ?_, fun o => o.1 nr, nb, nr⟩
  obtain ⟨vs, h2, _⟩ := r.ownAt o
  rw [h] at h2
  cases h2
theorem Rep.grow (r : Rep K A H σ e) (s : Same H H') : Rep K A H' σ e where
  len := r.len
  sub := r.sub
  nbor := fun a b => ⟨(r.nbor a b).1, fun h => by
    cases q : H a with
    | none => exact (r.nbor a b).2 q
    | some x => rw [s _ _ q] at h; cases h⟩
  nbld := fun a vs h => let ⟨h1, h2, h3⟩ := r.nbld a vs h; ⟨h1, h2, s _ _ h3⟩
  keep := fun b x h n => s _ _ (r.keep b x h n)
  val := fun i d h => by
    obtain ⟨v, h1, h2⟩ := r.val i d h
    exact ⟨v, h1, Den.mono (hid_same s) d v h2⟩
  own := fun i ds h => by
    obtain ⟨a, vs, h1, h2, h3, h4⟩ := r.own i ds h
    exact ⟨a, vs, h1, s _ _ h2, DenL.mono (hid_same s) ds vs h3, h4⟩
  brw := fun i ds h => by
    obtain ⟨a, vs, h1, h2, h3, h4⟩ := r.brw i ds h
    exact ⟨a, vs, h1, s _ _ h2, DenL.mono (hid_same s) ds vs h3, h4⟩
  inj := r.inj
/-- what is new stands in sight -/
theorem Rep.seen {b : Addr} {o : HO} (r : Rep K A H σ e) (h : H' b = some o) (n : H b = none) : hid A σ e H' b = some o := by
  obtain ⟨h1, h2, _⟩ := r.new n
  rw [hid_in h1 h2]
  exact h
/-- what was seen at the entry is seen -/
theorem Rep.entry (r : Rep K A H σ e) : Same A.He (hid A σ e H) := fun b o h => by
  have hr := r.sub _ _ h
  have nb : ¬ (A.bor b ∨ A.bld b ≠ none) := fun x => by rw [(r.nbor b x).1] at h; cases h
  have hb := r.keep b o hr nb
  rw [hid_in _ _]
  · exact hb
  · intro x
    obtain ⟨_, _, h3 | h3⟩ := r.ownAt x
    · rw [h3] at hr; cases hr
    · exact nb (.inl h3)
  · intro x
    rw [x.2] at h; cases h
theorem held_set {i j : Nat} {d : D} (h : Held (e.set i (.val d)) j) : Held e j ∧ j ≠ i := by
  obtain ⟨ds, h⟩ := h
  have ne : j ≠ i := by
    rintro rfl
    by_cases q : j < e.length
    · rw [List.getElem?_set_self q] at h
      rcases h with h | h <;> cases h
    · rw [List.getElem?_eq_none (by simpa using q)] at h
      rcases h with h | h <;> cases h
  rw [List.getElem?_set_ne (fun x => ne x.symm)] at h
  exact ⟨⟨ds, h⟩, ne⟩
theorem ownAt_set {i : Nat} {d : D} {v : Option V} {a : Addr} (h : OwnAt (σ.set i v) (e.set i (.val d)) a) : OwnAt σ e a := by
  obtain ⟨j, hj, ha⟩ := h
  obtain ⟨h1, h2⟩ := held_set hj
  rw [List.getElem?_set_ne (fun x => h2 x.symm)] at ha
  exact ⟨j, h1, ha⟩
theorem hid_set {i : Nat} {d : D} {v : Option V} : Same (hid A σ e H) (hid A (σ.set i v) (e.set i (.val d)) H) := fun b o h => by
  obtain ⟨n, m, h⟩ := hid_not h
  rw [hid_in (fun x => n (ownAt_set x)) m]
  exact h
/-- a slot takes a value -/
theorem Rep.set {i : Nat} {d : D} {v : V} (r : Rep K A H σ e) (h : Den K (hid A σ e H) d v) : Rep K A H (σ.set i (some v)) (e.set i (.val d)) where
  len := by rw [List.length_set, List.length_set]; exact r.len
  sub := r.sub
  nbor := r.nbor
  nbld := r.nbld
  keep := r.keep
  val := fun j d' h' => by
    by_cases hj : j = i
    · subst hj
      have q : j < e.length := by
        by_cases q : j < e.length
        · exact q
        · rw [List.getElem?_eq_none (by simpa using q)] at h'; cases h'
      rw [List.getElem?_set_self q] at h'
      cases h'
      exact ⟨v, List.getElem?_set_self (by rw [r.len]; exact q), Den.mono hid_set _ _ h⟩
    · rw [List.getElem?_set_ne (fun x => hj x.symm)] at h'
      obtain ⟨v', h1, h2⟩ := r.val j d' h'
      exact ⟨v', by rw [List.getElem?_set_ne (fun x => hj x.symm)]; exact h1, Den.mono hid_set _ _ h2⟩
  own := fun j ds h' => by
    have hj := (held_set ⟨ds, .inl h'⟩).2
    rw [List.getElem?_set_ne (fun x => hj x.symm)] at h'
    obtain ⟨a, vs, h1, h2, h3, h4⟩ := r.own j ds h'
    exact ⟨a, vs, by rw [List.getElem?_set_ne (fun x => hj x.symm)]; exact h1, h2, DenL.mono hid_set _ _ h3, h4⟩
  brw := fun j ds h' => by
    have hj := (held_set ⟨ds, .inr h'⟩).2
    rw [List.getElem?_set_ne (fun x => hj x.symm)] at h'
    obtain ⟨a, vs, h1, h2, h3, h4⟩ := r.brw j ds h'
    exact ⟨a, vs, by rw [List.getElem?_set_ne (fun x => hj x.symm)]; exact h1, h2, DenL.mono hid_set _ _ h3, h4⟩
  inj := fun j k a hj hk h1 h2 => by
    obtain ⟨hj, nj⟩ := held_set hj
    obtain ⟨hk, nk⟩ := held_set hk
    rw [List.getElem?_set_ne (fun x => nj x.symm)] at h1
    rw [List.getElem?_set_ne (fun x => nk x.symm)] at h2
    exact r.inj j k a hj hk h1 h2
/-- a held list becomes a value -/
theorem Rep.freeze {i : Nat} {ds : List D} (r : Rep K A H σ e) (h : e[i]? = some (.own ds)) :
    ∃ a, σ[i]? = some (some (.ref a)) ∧ Rep K A H σ (e.set i (.val (.lst ds))) ∧ Same (hid A σ e H) (hid A σ (e.set i (.val (.lst ds))) H) ∧ Den K (hid A σ (e.set i (.val (.lst ds))) H) (.lst ds) (.ref a) := by
  obtain ⟨a, vs, h1, h2, h3, h4⟩ := r.own i ds h
  have q : i < e.length := by
    by_cases q : i < e.length
    · exact q
    · rw [List.getElem?_eq_none (by simpa using q)] at h; cases h
  have es : σ.set i (some (.ref a)) = σ := by
    apply List.ext_getElem?
    intro j
    by_cases hj : i = j
    · subst hj
      rw [List.getElem?_set_self (by rw [r.len]; exact q), h1]
    · rw [List.getElem?_set_ne hj]
  have sm : Same (hid A σ e H) (hid A σ (e.set i (.val (.lst ds))) H) := by
    have := @hid_set A H σ e i (.lst ds) (some (.ref a))
    rw [es] at this
    exact this
  have na : ¬ OwnAt σ (e.set i (.val (.lst ds))) a := by
    rintro ⟨j, hj, ha⟩
    obtain ⟨hj, nj⟩ := held_set hj
    exact nj (r.inj j i a hj ⟨ds, .inl h⟩ ha h1)
  have nf : ¬ off A a := fun x => x.1 h4
  have hd : Den K (hid A σ (e.set i (.val (.lst ds))) H) (.lst ds) (.ref a) := by
    simp only [Den]
    exact ⟨a, vs, rfl, by rw [hid_in na nf]; exact h2, DenL.mono sm _ _ h3⟩
  refine ⟨a, h1, ?_, sm, hd⟩
  exact {
    len := by rw [List.length_set]; exact r.len
    sub := r.sub
    nbor := r.nbor
    nbld := r.nbld
    keep := r.keep
    val := fun j d' h' => by
      by_cases hj : j = i
      · subst hj
        rw [List.getElem?_set_self q] at h'
        cases h'
        exact ⟨_, h1, hd⟩
      · rw [List.getElem?_set_ne (fun x => hj x.symm)] at h'
        obtain ⟨v', h1, h2⟩ := r.val j d' h'
        exact ⟨v', h1, Den.mono sm _ _ h2⟩
    own := fun j ds' h' => by
      have hj := (held_set ⟨ds', .inl h'⟩).2
      rw [List.getElem?_set_ne (fun x => hj x.symm)] at h'
      obtain ⟨a, vs, h1, h2, h3, h4⟩ := r.own j ds' h'
      exact ⟨a, vs, h1, h2, DenL.mono sm _ _ h3, h4⟩
    brw := fun j ds' h' => by
      have hj := (held_set ⟨ds', .inr h'⟩).2
      rw [List.getElem?_set_ne (fun x => hj x.symm)] at h'
      obtain ⟨a, vs, h1, h2, h3, h4⟩ := r.brw j ds' h'
      exact ⟨a, vs, h1, h2, DenL.mono sm _ _ h3, h4⟩
    inj := fun j k b hj hk h1 h2 => r.inj j k b (held_set hj).1 (held_set hk).1 h1 h2 }
/-- the kind of a slot, told by what it holds -/
def Sl.turn : Sl → List D → Sl
  | .own _, ds => .own ds
  | .brw _, ds => .brw ds
  | s, _ => s
theorem held_turn {i j : Nat} {s : Sl} {ds : List D} (hs : e[i]? = some s) : Held (e.set i (s.turn ds)) j ↔ Held e j := by
  by_cases hj : j = i
  · subst hj
    have q : j < e.length := by
      by_cases q : j < e.length
      · exact q
      · rw [List.getElem?_eq_none (by simpa using q)] at hs; cases hs
    unfold Held
    rw [List.getElem?_set_self q, hs]
    cases s <;> simp [Sl.turn]
  · unfold Held
    rw [List.getElem?_set_ne (fun x => hj x.symm)]
theorem ownAt_turn {i : Nat} {s : Sl} {ds : List D} {a : Addr} (hs : e[i]? = some s) : OwnAt σ (e.set i (s.turn ds)) a ↔ OwnAt σ e a := by
  unfold OwnAt
  constructor
  · rintro ⟨j, h1, h2⟩
    exact ⟨j, (held_turn hs).1 h1, h2⟩
  · rintro ⟨j, h1, h2⟩
    exact ⟨j, (held_turn hs).2 h1, h2⟩
/-- a held list is rewritten -/
theorem Rep.put {i : Nat} {s : Sl} {a : Addr} {ds : List D} {vs : List V} (r : Rep K A H σ e) (hs : e[i]? = some s) (hh : Held e i) (ha : σ[i]? = some (some (.ref a))) (h : DenL K (hid A σ e H) ds vs) :
    Rep K A (upd H a (.lst vs)) σ (e.set i (s.turn ds)) ∧ hid A σ (e.set i (s.turn ds)) (upd H a (.lst vs)) = hid A σ e H := by
  have oa : OwnAt σ e a := ⟨i, hh, ha⟩
  obtain ⟨ws, ow, hra⟩ := r.ownAt oa
  have eh : hid A σ (e.set i (s.turn ds)) (upd H a (.lst vs)) = hid A σ e H := by
    funext b
    unfold hid
    by_cases hb : OwnAt σ e b ∨ off A b
    · rw [if_pos hb, if_pos (hb.imp (ownAt_turn hs).2 id)]
    · rw [if_neg hb, if_neg (fun x => hb (x.imp (ownAt_turn hs).1 id)), upd_ne]
      rintro rfl
      exact hb (.inl oa)
  refine ⟨?_, eh⟩
  have qi : i < e.length := by
    by_cases q : i < e.length
    · exact q
    · rw [List.getElem?_eq_none (by simpa using q)] at hs; cases hs
  exact {
    len := by rw [List.length_set]; exact r.len
    sub := r.sub
    nbor := fun b hb => ⟨(r.nbor b hb).1, by
      by_cases q : b = a
      · subst q; rw [upd_same]; exact fun x => by cases x
      · rw [upd_ne q]; exact (r.nbor b hb).2⟩
    nbld := fun b us hb => by
      obtain ⟨h1, h2, h3⟩ := r.nbld b us hb
      refine ⟨h1, h2, ?_⟩
      rw [upd_ne]
      · exact h3
      · rintro rfl
        rcases hra with h | h
        · exact h1 h
        · exact h2 h
    keep := fun b x hx nb => by
      have q : b ≠ a := by
        rintro rfl
        rcases hra with h | h
        · rw [h] at hx; cases hx
        · exact nb (.inl h)
      rw [upd_ne q]
      exact r.keep b x hx nb
    val := fun j d' h' => by
      rw [eh]
      by_cases hj : j = i
      · subst hj
        rw [List.getElem?_set_self qi] at h'
        obtain ⟨ds0, hh | hh⟩ := hh
        · rw [hs] at hh; cases hh; cases h'
        · rw [hs] at hh; cases hh; cases h'
      · rw [List.getElem?_set_ne (fun x => hj x.symm)] at h'
        exact r.val j d' h'
    own := fun j ds' h' => by
      rw [eh]
      by_cases hj : j = i
      · subst hj
        rw [List.getElem?_set_self qi] at h'
        obtain ⟨ds0, hh | hh⟩ := hh
        · rw [hs] at hh
          cases hh
          obtain ⟨b, us, k1, k2, k3, k4⟩ := r.own j ds0 hs
          rw [ha] at k1
          cases k1
          cases h'
          exact ⟨a, vs, ha, upd_same, h, k4⟩
        · rw [hs] at hh; cases hh; cases h'
      · rw [List.getElem?_set_ne (fun x => hj x.symm)] at h'
        obtain ⟨b, us, k1, k2, k3, k4⟩ := r.own j ds' h'
        refine ⟨b, us, k1, ?_, k3, k4⟩
        rw [upd_ne]
        · exact k2
        · rintro rfl
          exact hj (r.inj j i b ⟨ds', .inl h'⟩ hh k1 ha)
    brw := fun j ds' h' => by
      rw [eh]
      by_cases hj : j = i
      · subst hj
        rw [List.getElem?_set_self qi] at h'
        obtain ⟨ds0, hh | hh⟩ := hh
        · rw [hs] at hh; cases hh; cases h'
        · rw [hs] at hh
          cases hh
          obtain ⟨b, us, k1, k2, k3, k4⟩ := r.brw j ds0 hs
          rw [ha] at k1
          cases k1
          cases h'
          exact ⟨a, vs, ha, upd_same, h, k4⟩
      · rw [List.getElem?_set_ne (fun x => hj x.symm)] at h'
        obtain ⟨b, us, k1, k2, k3, k4⟩ := r.brw j ds' h'
        refine ⟨b, us, k1, ?_, k3, k4⟩
        rw [upd_ne]
        · exact k2
        · rintro rfl
          exact hj (r.inj j i b ⟨ds', .inr h'⟩ hh k1 ha)
    inj := fun j k b hj hk h1 h2 => r.inj j k b ((held_turn hs).1 hj) ((held_turn hs).1 hk) h1 h2 }
/-- a slot takes a new list, held -/
theorem Rep.take {i : Nat} {s : Sl} {ds : List D} {vs : List V} {p : Addr} (r : Rep K A H σ e) (hp : H p = none) (h : DenL K (hid A σ e H) ds vs) (hs : s = .own ds) (hi : i < e.length) :
    Rep K A (upd H p (.lst vs)) (σ.set i (some (.ref p))) (e.set i s) := by
  obtain ⟨no, nf, nb, nr⟩ := r.new hp
  have hl : ∀ j, j ≠ i → ((e.set i s)[j]? = e[j]? ∧ (σ.set i (some (V.ref p)))[j]? = σ[j]?) := fun j hj =>
    ⟨List.getElem?_set_ne (fun x => hj x.symm), List.getElem?_set_ne (fun x => hj x.symm)⟩
  have hii : (e.set i s)[i]? = some s := List.getElem?_set_self hi
  have hsi : (σ.set i (some (V.ref p)))[i]? = some (some (.ref p)) := List.getElem?_set_self (by rw [r.len]; exact hi)
  have oa : ∀ b, OwnAt (σ.set i (some (V.ref p))) (e.set i s) b → b = p ∨ OwnAt σ e b := by
    rintro b ⟨j, ⟨ds', h1⟩, h2⟩
    by_cases hj : j = i
    · subst hj
      rw [hsi] at h2
      cases h2
      exact .inl rfl
    · rw [(hl j hj).1] at h1
      rw [(hl j hj).2] at h2
      exact .inr ⟨j, ⟨ds', h1⟩, h2⟩
  have sm : Same (hid A σ e H) (hid A (σ.set i (some (V.ref p))) (e.set i s) (upd H p (.lst vs))) := fun b o h => by
    obtain ⟨n, m, h⟩ := hid_not h
    have q : b ≠ p := by rintro rfl; rw [hp] at h; cases h
    rw [hid_in (fun x => (oa b x).elim q n) m, upd_ne q]
    exact h
  have ne : ∀ b x, H b = some x → b ≠ p := fun b x h q => by rw [q, hp] at h; cases h
  exact {
    len := by rw [List.length_set, List.length_set]; exact r.len
    sub := r.sub
    nbor := fun b hb => ⟨(r.nbor b hb).1, by
      have q : b ≠ p := by rintro rfl; exact nb hb
      rw [upd_ne q]; exact (r.nbor b hb).2⟩
    nbld := fun b us hb => by
      obtain ⟨h1, h2, h3⟩ := r.nbld b us hb
      exact ⟨h1, h2, by rw [upd_ne (ne _ _ h3)]; exact h3⟩
    keep := fun b x hx nb' => by
      have k := r.keep b x hx nb'
      rw [upd_ne (ne _ _ k)]
      exact k
    val := fun j d' h' => by
      by_cases hj : j = i
      · subst hj
        rw [hii] at h'
        subst hs
        cases h'
      · rw [(hl j hj).1] at h'
        obtain ⟨v, k1, k2⟩ := r.val j d' h'
        exact ⟨v, by rw [(hl j hj).2]; exact k1, Den.mono sm _ _ k2⟩
    own := fun j ds' h' => by
      by_cases hj : j = i
      · subst hj
        rw [hii] at h'
        subst hs
        cases h'
        exact ⟨p, vs, hsi, upd_same, DenL.mono sm _ _ h, nr⟩
      · rw [(hl j hj).1] at h'
        obtain ⟨b, us, k1, k2, k3, k4⟩ := r.own j ds' h'
        exact ⟨b, us, by rw [(hl j hj).2]; exact k1, by rw [upd_ne (ne _ _ k2)]; exact k2, DenL.mono sm _ _ k3, k4⟩
    brw := fun j ds' h' => by
      by_cases hj : j = i
      · subst hj
        rw [hii] at h'
        subst hs
        cases h'
      · rw [(hl j hj).1] at h'
        obtain ⟨b, us, k1, k2, k3, k4⟩ := r.brw j ds' h'
        exact ⟨b, us, by rw [(hl j hj).2]; exact k1, by rw [upd_ne (ne _ _ k2)]; exact k2, DenL.mono sm _ _ k3, k4⟩
    inj := fun j k b hj hk h1 h2 => by
      by_cases qj : j = i
      · by_cases qk : k = i
        · rw [qj, qk]
        · subst qj
          rw [hsi] at h1
          cases h1
          rw [(hl k qk).2] at h2
          obtain ⟨ds', hk⟩ := hk
          rw [(hl k qk).1] at hk
          exact absurd ⟨k, ⟨ds', hk⟩, h2⟩ no
      · by_cases qk : k = i
        · subst qk
          rw [hsi] at h2
          cases h2
          rw [(hl j qj).2] at h1
          obtain ⟨ds', hj⟩ := hj
          rw [(hl j qj).1] at hj
          exact absurd ⟨j, ⟨ds', hj⟩, h1⟩ no
        · obtain ⟨d1, hj⟩ := hj
          obtain ⟨d2, hk⟩ := hk
          rw [(hl j qj).1] at hj
          rw [(hl k qk).1] at hk
          rw [(hl j qj).2] at h1
          rw [(hl k qk).2] at h2
          exact r.inj j k b ⟨d1, hj⟩ ⟨d2, hk⟩ h1 h2 }
/-- slots are forgotten -/
def wipeE (e : En) : List Nat → En
  | [] => e
  | v :: vs => (wipeE e vs).set v .un
theorem wipeE_length (e : En) : ∀ vs : List Nat, (wipeE e vs).length = e.length
  | [] => rfl
  | v :: vs => by unfold wipeE; rw [List.length_set, wipeE_length e vs]
theorem wipeE_get {e : En} {i : Nat} : ∀ {vs : List Nat}, i ∉ vs → (wipeE e vs)[i]? = e[i]?
  | [], _ => rfl
  | v :: vs, h => by
    simp only [List.mem_cons, not_or] at h
    unfold wipeE
    rw [List.getElem?_set_ne (fun x => h.1 x.symm), wipeE_get h.2]
theorem wipeE_un {e : En} {i : Nat} : ∀ {vs : List Nat}, i ∈ vs → ∀ s, (wipeE e vs)[i]? = some s → s = .un
  | [], h, _, _ => by simp at h
  | v :: vs, h, s, hs => by
    unfold wipeE at hs
    by_cases hi : v = i
    · subst hi
      by_cases hv : v < (wipeE e vs).length
      · rw [List.getElem?_set_self hv] at hs; cases hs; rfl
      · rw [List.getElem?_eq_none (by simpa using hv)] at hs; cases hs
    · rw [List.getElem?_set_ne hi] at hs
      have : i ∈ vs := by
        rcases List.mem_cons.mp h with x | x
        · exact absurd x.symm hi
        · exact x
      exact wipeE_un this s hs
theorem wipe_get {σ : L2.St} {i : Nat} : ∀ {vs : List Nat}, i ∉ vs → (wipe σ vs)[i]? = σ[i]?
  | [], _ => rfl
  | v :: vs, h => by
    simp only [List.mem_cons, not_or] at h
    unfold wipe
    rw [List.getElem?_set_ne (fun x => h.1 x.symm), wipe_get h.2]
/-- one state's slots are some of another's -/
structure Sub (σ : L2.St) (e : En) (σ' : L2.St) (e' : En) : Prop where
  len : σ'.length = e'.length
  slot : ∀ (i : Nat) (s : Sl), e'[i]? = some s → s = .un ∨ (e[i]? = some s ∧ σ'[i]? = σ[i]?)
theorem Sub.held {σ σ' : L2.St} {e e' : En} (x : Sub σ e σ' e') {i : Nat} (h : Held e' i) : Held e i ∧ σ'[i]? = σ[i]? := by
  obtain ⟨ds, h | h⟩ := h
  · rcases x.slot i _ h with q | ⟨q, z⟩
    · cases q
    · exact ⟨⟨ds, .inl q⟩, z⟩
  · rcases x.slot i _ h with q | ⟨q, z⟩
    · cases q
    · exact ⟨⟨ds, .inr q⟩, z⟩
theorem Sub.hid {A : Act} {H : Hp} {σ σ' : L2.St} {e e' : En} (x : Sub σ e σ' e') : Same (hid A σ e H) (hid A σ' e' H) := fun b o h => by
  obtain ⟨n, m, h⟩ := hid_not h
  rw [hid_in (fun ⟨i, hi, ha⟩ => n ⟨i, (x.held hi).1, (x.held hi).2 ▸ ha⟩) m]
  exact h
theorem Rep.part {σ' : L2.St} {e' : En} (r : Rep K A H σ e) (x : Sub σ e σ' e') : Rep K A H σ' e' where
  len := x.len
  sub := r.sub
  nbor := r.nbor
  nbld := r.nbld
  keep := r.keep
  val := fun i d h => by
    rcases x.slot i _ h with q | ⟨q, z⟩
    · cases q
    · obtain ⟨v, h1, h2⟩ := r.val i d q
      exact ⟨v, z.trans h1, Den.mono x.hid _ _ h2⟩
  own := fun i ds h => by
    rcases x.slot i _ h with q | ⟨q, z⟩
    · cases q
    · obtain ⟨a, vs, h1, h2, h3, h4⟩ := r.own i ds q
      exact ⟨a, vs, z.trans h1, h2, DenL.mono x.hid _ _ h3, h4⟩
  brw := fun i ds h => by
    rcases x.slot i _ h with q | ⟨q, z⟩
    · cases q
    · obtain ⟨a, vs, h1, h2, h3, h4⟩ := r.brw i ds q
      exact ⟨a, vs, z.trans h1, h2, DenL.mono x.hid _ _ h3, h4⟩
  inj := fun i j a hi hj h1 h2 => r.inj i j a (x.held hi).1 (x.held hj).1 ((x.held hi).2 ▸ h1) ((x.held hj).2 ▸ h2)
/-- slots change, none new is held -/
theorem Rep.vals {σ' : L2.St} {e' : En} (r : Rep K A H σ e) (hl : σ'.length = e'.length) (hs : ∀ (i : Nat) (s : Sl), e'[i]? = some s → s = .un ∨ (e[i]? = some s ∧ σ'[i]? = σ[i]?) ∨ ∃ d v, s = .val d ∧ σ'[i]? = some (some v) ∧ Den K (hid A σ e H) d v) :
    Rep K A H σ' e' ∧ Same (hid A σ e H) (hid A σ' e' H) := by
  have hh : ∀ i, Held e' i → Held e i ∧ σ'[i]? = σ[i]? := fun i h => by
    obtain ⟨ds, h | h⟩ := h
    · rcases hs i _ h with q | ⟨q, z⟩ | ⟨_, _, q, _⟩
      · cases q
      · exact ⟨⟨ds, .inl q⟩, z⟩
      · cases q
    · rcases hs i _ h with q | ⟨q, z⟩ | ⟨_, _, q, _⟩
      · cases q
      · exact ⟨⟨ds, .inr q⟩, z⟩
      · cases q
  have sm : Same (hid A σ e H) (hid A σ' e' H) := fun b o h => by
    obtain ⟨n, m, h⟩ := hid_not h
    rw [hid_in (fun ⟨i, hi, ha⟩ => n ⟨i, (hh i hi).1, (hh i hi).2 ▸ ha⟩) m]
    exact h
  refine ⟨{
    len := hl
    sub := r.sub
    nbor := r.nbor
    nbld := r.nbld
    keep := r.keep
    val := fun i d h => by
      rcases hs i _ h with q | ⟨q, z⟩ | ⟨d', v, q, z, dv⟩
      · cases q
      · obtain ⟨v, h1, h2⟩ := r.val i d q
        exact ⟨v, z.trans h1, Den.mono sm _ _ h2⟩
      · cases q
        exact ⟨v, z, Den.mono sm _ _ dv⟩
    own := fun i ds h => by
      rcases hs i _ h with q | ⟨q, z⟩ | ⟨_, _, q, _⟩
      · cases q
      · obtain ⟨a, vs, h1, h2, h3, h4⟩ := r.own i ds q
        exact ⟨a, vs, z.trans h1, h2, DenL.mono sm _ _ h3, h4⟩
      · cases q
    brw := fun i ds h => by
      rcases hs i _ h with q | ⟨q, z⟩ | ⟨_, _, q, _⟩
      · cases q
      · obtain ⟨a, vs, h1, h2, h3, h4⟩ := r.brw i ds q
        exact ⟨a, vs, z.trans h1, h2, DenL.mono sm _ _ h3, h4⟩
      · cases q
    inj := fun i j a hi hj h1 h2 => r.inj i j a (hh i hi).1 (hh j hj).1 ((hh i hi).2 ▸ h1) ((hh j hj).2 ▸ h2) }, sm⟩
theorem sub_wipe {vs : List Nat} (h : σ.length = e.length) : Sub σ e (wipe σ vs) (wipeE e vs) where
  len := by rw [wipe_length, wipeE_length]; exact h
  slot := fun i s hs => by
    by_cases hi : i ∈ vs
    · exact .inl (wipeE_un hi s hs)
    · rw [wipeE_get hi] at hs
      exact .inr ⟨hs, wipe_get hi⟩
/-- a list that is being built, out of sight -/
noncomputable def Act.build (A : Act) (D : Addr) (vs : List V) : Act := { Hr := upd A.Hr D (.lst []), He := A.He, bor := A.bor, bld := fun b => if b = D then some vs else A.bld b }
theorem bld_self {D : Addr} {vs : List V} : (A.build D vs).bld D = some vs := if_pos rfl
theorem bld_ne {D b : Addr} {vs : List V} (h : b ≠ D) : (A.build D vs).bld b = A.bld b := if_neg h
theorem off_build {D b : Addr} {vs : List V} (h : A.Hr D = none) : off (A.build D vs) b ↔ off A b ∨ (b = D ∧ A.He D = none) := by
  unfold off Act.build
  show upd A.Hr D (.lst []) b ≠ none ∧ A.He b = none ↔ _
  by_cases q : b = D
  · subst q
    rw [upd_same, h]
    simp
  · rw [upd_ne q]
    simp [q]
theorem Rep.heNone {p : Addr} (r : Rep K A H σ e) (h : A.Hr p = none) : A.He p = none := by
  cases q : A.He p with
  | none => rfl
  | some x => rw [r.sub _ _ q] at h; cases h
theorem hid_build {D : Addr} {o : HO} {vs : List V} (r : Rep K A H σ e) (h : H D = none) : hid (A.build D vs) σ e (upd H D o) = hid A σ e H := by
  obtain ⟨_, _, _, nr⟩ := r.new h
  funext b
  unfold hid
  by_cases q : b = D
  · subst q
    rw [if_pos (.inr ((off_build nr).2 (.inr ⟨rfl, r.heNone nr⟩))), h]
    split <;> rfl
  · by_cases z : OwnAt σ e b ∨ off A b
    · rw [if_pos z, if_pos (z.imp id fun y => (off_build nr).2 (.inl y))]
    · rw [if_neg z, if_neg (fun y => z (y.imp id fun w => ((off_build nr).1 w).resolve_right fun c => q c.1)), upd_ne q]
theorem Rep.build {D : Addr} (vs : List V) (r : Rep K A H σ e) (h : H D = none) : Rep K (A.build D vs) (upd H D (.lst vs)) σ e := by
  obtain ⟨no, nf, nb, nr⟩ := r.new h
  have ne : ∀ b x, H b = some x → b ≠ D := fun b x h' q => by rw [q, h] at h'; cases h'
  exact {
    len := r.len
    sub := fun b x hx => by
      have hx' : A.He b = some x := hx
      have q : b ≠ D := fun q => by rw [q, r.heNone nr] at hx'; cases hx'
      show upd A.Hr D (.lst []) b = some x
      rw [upd_ne q]
      exact r.sub b x hx
    nbor := fun a ha => by
      by_cases q : a = D
      · subst q
        refine ⟨r.heNone nr, ?_⟩
        rw [upd_same]
        exact fun z => by cases z
      · rw [bld_ne q] at ha
        refine ⟨(r.nbor a ha).1, ?_⟩
        rw [upd_ne q]
        exact (r.nbor a ha).2
    nbld := fun a us ha => by
      by_cases q : a = D
      · subst q
        rw [bld_self] at ha
        cases ha
        refine ⟨?_, fun z => nb (.inl z), upd_same⟩
        show upd A.Hr a (.lst []) a ≠ none
        rw [upd_same]
        exact fun z => by cases z
      · rw [bld_ne q] at ha
        obtain ⟨h1, h2, h3⟩ := r.nbld a us ha
        refine ⟨?_, h2, by rw [upd_ne q]; exact h3⟩
        show upd A.Hr D (.lst []) a ≠ none
        rw [upd_ne q]
        exact h1
    keep := fun b x hx nbb => by
      have q : b ≠ D := fun q => nbb (.inr (by rw [q, bld_self]; exact fun z => by cases z))
      have hx' : upd A.Hr D (.lst []) b = some x := hx
      rw [upd_ne q] at hx'
      rw [upd_ne q]
      refine r.keep b x hx' fun z => nbb (z.imp id fun y => ?_)
      rw [bld_ne q]
      exact y
    val := fun i d h' => by rw [hid_build r h]; exact r.val i d h'
    own := fun i ds h' => by
      rw [hid_build r h]
      obtain ⟨a, vs, h1, h2, h3, h4⟩ := r.own i ds h'
      refine ⟨a, vs, h1, by rw [upd_ne (ne _ _ h2)]; exact h2, h3, ?_⟩
      show upd A.Hr D (.lst []) a = none
      rw [upd_ne (ne _ _ h2)]
      exact h4
    brw := fun i ds h' => by
      rw [hid_build r h]
      obtain ⟨a, vs, h1, h2, h3, h4⟩ := r.brw i ds h'
      exact ⟨a, vs, h1, by rw [upd_ne (ne _ _ h2)]; exact h2, h3, h4⟩
    inj := r.inj }
theorem Rep.notOwn {D : Addr} {us : List V} (r : Rep K (A.build D us) H σ e) : ¬ OwnAt σ e D ∧ off (A.build D us) D ∧ H D = some (.lst us) := by
  obtain ⟨h1, h2, h3⟩ := r.nbld D us bld_self
  refine ⟨fun o => ?_, ⟨h1, (r.nbor D (.inr (by rw [bld_self]; exact fun z => by cases z))).1⟩, h3⟩
  obtain ⟨_, _, q | q⟩ := r.ownAt o
  · exact h1 q
  · exact h2 q
theorem hid_bput {D : Addr} {us ws : List V} {o : HO} (r : Rep K (A.build D us) H σ e) : hid (A.build D ws) σ e (upd H D o) = hid (A.build D us) σ e H := by
  obtain ⟨h1, h2, _⟩ := r.notOwn
  funext b
  unfold hid
  by_cases z : OwnAt σ e b ∨ off (A.build D us) b
  · rw [if_pos z, if_pos (show OwnAt σ e b ∨ off (A.build D ws) b from z)]
  · rw [if_neg z, if_neg (show ¬ (OwnAt σ e b ∨ off (A.build D ws) b) from z), upd_ne]
    rintro rfl
    exact z (.inr h2)
theorem Rep.bput {D : Addr} {us : List V} (ws : List V) (r : Rep K (A.build D us) H σ e) : Rep K (A.build D ws) (upd H D (.lst ws)) σ e := by
  obtain ⟨n1, n2, n3⟩ := r.notOwn
  exact {
    len := r.len
    sub := r.sub
    nbor := fun a ha => by
      by_cases q : a = D
      · subst q
        exact ⟨(r.nbor a (.inr (by rw [bld_self]; exact fun z => by cases z))).1, by rw [upd_same]; exact fun z => by cases z⟩
      · rw [bld_ne q] at ha
        rw [upd_ne q]
        exact r.nbor a (by rw [bld_ne q]; exact ha)
    nbld := fun a xs ha => by
      by_cases q : a = D
      · subst q
        rw [bld_self] at ha
        cases ha
        obtain ⟨h1, h2, _⟩ := r.nbld a us bld_self
        exact ⟨h1, h2, upd_same⟩
      · rw [bld_ne q] at ha
        rw [upd_ne q]
        exact r.nbld a xs (by rw [bld_ne q]; exact ha)
    keep := fun b x hx nb => by
      have q : b ≠ D := fun q => nb (.inr (by rw [q, bld_self]; exact fun z => by cases z))
      rw [upd_ne q]
      exact r.keep b x hx (by rw [bld_ne q] at nb ⊢; exact nb)
    val := fun i d h' => by rw [hid_bput r]; exact r.val i d h'
    own := fun i ds h' => by
      rw [hid_bput r]
      obtain ⟨a, vs, h1, h2, h3, h4⟩ := r.own i ds h'
      exact ⟨a, vs, h1, by rw [upd_ne (show a ≠ D from fun q => n1 ⟨i, ⟨ds, .inl h'⟩, by rw [← q]; exact h1⟩)]; exact h2, h3, h4⟩
    brw := fun i ds h' => by
      rw [hid_bput r]
      obtain ⟨a, vs, h1, h2, h3, h4⟩ := r.brw i ds h'
      exact ⟨a, vs, h1, by rw [upd_ne (show a ≠ D from fun q => n1 ⟨i, ⟨ds, .inr h'⟩, by rw [← q]; exact h1⟩)]; exact h2, h3, h4⟩
    inj := r.inj }
/-- what was so ahead of the building -/
structure Old (A : Act) (D : Addr) : Prop where
  hr : A.Hr D = none
  sub : Same A.He A.Hr
  bld : ∀ a vs, A.bld a = some vs → A.Hr a ≠ none
  nb : ¬ (A.bor D ∨ A.bld D ≠ none)
theorem Rep.old {D : Addr} (r : Rep K A H σ e) (h : H D = none) : Old A D :=
  ⟨(r.new h).2.2.2, r.sub, fun a vs q => (r.nbld a vs q).1, (r.new h).2.2.1⟩
/-- the built list comes into sight -/
theorem Rep.built {D : Addr} {us : List V} (r : Rep K (A.build D us) H σ e) (o : Old A D) : Rep K A H σ e ∧ Same (hid (A.build D us) σ e H) (hid A σ e H) ∧ hid A σ e H D = some (.lst us) := by
  obtain ⟨n1, n2, n3⟩ := r.notOwn
  have h := o.hr
  have sm : Same (hid (A.build D us) σ e H) (hid A σ e H) := fun b o q => by
    obtain ⟨n, m, q⟩ := hid_not q
    rw [hid_in n fun z => m ((off_build h).2 (.inl z))]
    exact q
  have nD : ∀ a, A.bor a ∨ A.bld a ≠ none → a ≠ D := fun a ha q => o.nb (q ▸ ha)
  refine ⟨{
    len := r.len
    sub := o.sub
    nbor := fun a ha => r.nbor a (by rw [bld_ne (nD a ha)]; exact ha)
    nbld := fun a vs ha => by
      have q : a ≠ D := nD a (.inr (by rw [ha]; exact fun z => by cases z))
      obtain ⟨_, h2, h3⟩ := r.nbld a vs (by rw [bld_ne q]; exact ha)
      exact ⟨o.bld a vs ha, h2, h3⟩
    keep := fun b x hx nbb => by
      have q : b ≠ D := fun q => by rw [q, h] at hx; cases hx
      refine r.keep b x ?_ (by rw [bld_ne q]; exact nbb)
      show upd A.Hr D (.lst []) b = some x
      rw [upd_ne q]
      exact hx
    val := fun i d h' => by
      obtain ⟨v, h1, h2⟩ := r.val i d h'
      exact ⟨v, h1, Den.mono sm _ _ h2⟩
    own := fun i ds h' => by
      obtain ⟨a, vs, h1, h2, h3, h4⟩ := r.own i ds h'
      refine ⟨a, vs, h1, h2, DenL.mono sm _ _ h3, ?_⟩
      have h4' : upd A.Hr D (.lst []) a = none := h4
      by_cases q : a = D
      · rw [q, upd_same] at h4'; cases h4'
      · rw [upd_ne q] at h4'; exact h4'
    brw := fun i ds h' => by
      obtain ⟨a, vs, h1, h2, h3, h4⟩ := r.brw i ds h'
      exact ⟨a, vs, h1, h2, DenL.mono sm _ _ h3, h4⟩
    inj := r.inj }, sm, ?_⟩
  rw [hid_in n1 fun z => z.1 h]
  exact n3
/-- the built list becomes a slot's own -/
theorem Rep.claim {ds : List D} {D : Addr} {us : List V} {i : Nat} {s : Sl} (r : Rep K (A.build D us) H σ e) (o : Old A D) (hd : DenL K (hid (A.build D us) σ e H) ds us) (hs : s = .own ds) (hi : i < e.length) :
    Rep K A H (σ.set i (some (.ref D))) (e.set i s) ∧ Same (hid (A.build D us) σ e H) (hid A (σ.set i (some (.ref D))) (e.set i s) H) := by
  obtain ⟨n1, n2, n3⟩ := r.notOwn
  obtain ⟨q, sm, hD⟩ := r.built o
  have hl : ∀ j, j ≠ i → ((e.set i s)[j]? = e[j]? ∧ (σ.set i (some (V.ref D)))[j]? = σ[j]?) := fun j hj =>
    ⟨List.getElem?_set_ne (fun x => hj x.symm), List.getElem?_set_ne (fun x => hj x.symm)⟩
  have hii : (e.set i s)[i]? = some s := List.getElem?_set_self hi
  have hsi : (σ.set i (some (V.ref D)))[i]? = some (some (.ref D)) := List.getElem?_set_self (by rw [r.len]; exact hi)
  have oa : ∀ b, OwnAt (σ.set i (some (V.ref D))) (e.set i s) b → b = D ∨ OwnAt σ e b := by
    rintro b ⟨j, ⟨ds', h1⟩, h2⟩
    by_cases hj : j = i
    · subst hj
      rw [hsi] at h2
      cases h2
      exact .inl rfl
    · rw [(hl j hj).1] at h1
      rw [(hl j hj).2] at h2
      exact .inr ⟨j, ⟨ds', h1⟩, h2⟩
  have sm2 : Same (hid (A.build D us) σ e H) (hid A (σ.set i (some (V.ref D))) (e.set i s) H) := fun b o' h => by
    obtain ⟨n, m, h⟩ := hid_not h
    have qb : b ≠ D := by rintro rfl; exact m n2
    rw [hid_in (fun x => (oa b x).elim qb n) fun z => m ((off_build o.hr).2 (.inl z))]
    exact h
  refine ⟨{
    len := by rw [List.length_set, List.length_set]; exact r.len
    sub := q.sub
    nbor := q.nbor
    nbld := q.nbld
    keep := q.keep
    val := fun j d' h' => by
      by_cases hj : j = i
      · subst hj
        rw [hii] at h'
        subst hs
        cases h'
      · rw [(hl j hj).1] at h'
        obtain ⟨v, k1, k2⟩ := r.val j d' h'
        exact ⟨v, by rw [(hl j hj).2]; exact k1, Den.mono sm2 _ _ k2⟩
    own := fun j ds' h' => by
      by_cases hj : j = i
      · subst hj
        rw [hii] at h'
        subst hs
        cases h'
        exact ⟨D, us, hsi, n3, DenL.mono sm2 _ _ hd, o.hr⟩
      · rw [(hl j hj).1] at h'
        obtain ⟨b, xs, k1, k2, k3, _⟩ := r.own j ds' h'
        obtain ⟨_, _, z1, _, _, z4⟩ := q.own j ds' h'
        rw [k1] at z1
        cases z1
        exact ⟨b, xs, by rw [(hl j hj).2]; exact k1, k2, DenL.mono sm2 _ _ k3, z4⟩
    brw := fun j ds' h' => by
      by_cases hj : j = i
      · subst hj
        rw [hii] at h'
        subst hs
        cases h'
      · rw [(hl j hj).1] at h'
        obtain ⟨b, xs, k1, k2, k3, _⟩ := r.brw j ds' h'
        obtain ⟨_, _, z1, _, _, z4⟩ := q.brw j ds' h'
        rw [k1] at z1
        cases z1
        exact ⟨b, xs, by rw [(hl j hj).2]; exact k1, k2, DenL.mono sm2 _ _ k3, z4⟩
    inj := fun j k b hj hk h1 h2 => by
      by_cases qj : j = i
      · by_cases qk : k = i
        · rw [qj, qk]
        · subst qj
          rw [hsi] at h1
          cases h1
          rw [(hl k qk).2] at h2
          obtain ⟨ds', hk⟩ := hk
          rw [(hl k qk).1] at hk
          exact absurd ⟨k, ⟨ds', hk⟩, h2⟩ n1
      · by_cases qk : k = i
        · subst qk
          rw [hsi] at h2
          cases h2
          rw [(hl j qj).2] at h1
          obtain ⟨ds', hj⟩ := hj
          rw [(hl j qj).1] at hj
          exact absurd ⟨j, ⟨ds', hj⟩, h1⟩ n1
        · obtain ⟨d1, hj⟩ := hj
          obtain ⟨d2, hk⟩ := hk
          rw [(hl j qj).1] at hj
          rw [(hl k qk).1] at hk
          rw [(hl j qj).2] at h1
          rw [(hl k qk).2] at h2
          exact r.inj j k b ⟨d1, hj⟩ ⟨d2, hk⟩ h1 h2 }, sm2⟩
end
end Mi
namespace Mi
open PySem PySem.Spec PyProof.Rows L2

abbrev FE := En → R (D × En)
abbrev FT := En → R (Bool × En)
abbrev FA := En → R (List D × En)
inductive Fl where
  | nx (e : En) | rt (d : D) (e : En) | rn (ds : List D) (e : En) | bk (e : En) | ct (e : En)
abbrev FS := En → R Fl
def R.bind {α β : Type} : R α → (α → R β) → R β
  | .ok a, f => f a
  | .exc c e, _ => .exc c e
  | .err, _ => .err
def lim : Nat := 16777216
theorem lim_eq : lim = sizeLine := by rw [sizeLine_eq]; rfl

/-! ### readings -/
def WX1 (mg : Str → Option Value) (W : WX) (c : Str) (σ : L2.St) (H : Hp) : Prop := ∃ u, mg c = some u ∧ W u none σ H
def Post {α β : Type} (K : PySem.W.Frag) (mg : Str → Option Value) (W : WX) (den : Hp → α → β → Prop) (A : Act) (σ : L2.St) (e : En) (H : Hp) (Q : β → Hp → Prop) : R (α × En) → Prop
  | .ok p => ∀ b H', Rep K A H' σ p.2 → Same (hid A σ e H) (hid A σ p.2 H') → den (hid A σ p.2 H') p.1 b → Q b H'
  | .exc c e' => ∀ H', Rep K A H' σ e' → WX1 mg W c σ H'
  | .err => False
def rd {α β : Type} (K : PySem.W.Frag) (mg : Str → Option Value) (W : WX) (den : Hp → α → β → Prop) (f : En → R (α × En)) : L2.St → Hp → (β → Hp → Prop) → Prop :=
  fun σ H Q => ∃ A e, Rep K A H σ e ∧ Post K mg W den A σ e H Q (f e)
def PostS (K : PySem.W.Frag) (mg : Str → Option Value) (W : WX) (D : Ends) (A : Act) (σ : L2.St) (e : En) (H : Hp) : R Fl → Prop
  | .ok (.nx e') => ∀ σ' H', Rep K A H' σ' e' → Same (hid A σ e H) (hid A σ' e' H') → D.nx σ' H'
  | .ok (.bk e') => ∀ σ' H', Rep K A H' σ' e' → Same (hid A σ e H) (hid A σ' e' H') → D.bk σ' H'
  | .ok (.ct e') => ∀ σ' H', Rep K A H' σ' e' → Same (hid A σ e H) (hid A σ' e' H') → D.ct σ' H'
  | .ok (.rt d e') => ∀ v σ' H', Rep K A H' σ' e' → Same (hid A σ e H) (hid A σ' e' H') → Den K (hid A σ' e' H') d v → D.rt v H'
  | .ok (.rn ds e') => ∀ q vs σ' H', Old A q → Rep K (A.build q vs) H' σ' e' → Same (hid A σ e H) (hid (A.build q vs) σ' e' H') → DenL K (hid (A.build q vs) σ' e' H') ds vs → D.rt (.ref q) H'
  | .exc c e' => ∀ σ' H', Rep K A H' σ' e' → WX1 mg W c σ' H'
  | .err => False
def rdS (K : PySem.W.Frag) (mg : Str → Option Value) (W : WX) (g : FS) : TS := fun D σ H => ∃ A e, Rep K A H σ e ∧ PostS K mg W D A σ e H (g e)

abbrev rE (K : PySem.W.Frag) (mg : Str → Option Value) (W : WX) (f : FE) : TE := rd K mg W (Den K) f
abbrev rT (K : PySem.W.Frag) (mg : Str → Option Value) (W : WX) (f : FT) : TT := rd K mg W (fun _ (a : Bool) (b : Bool) => b = a) f
abbrev rA (K : PySem.W.Frag) (mg : Str → Option Value) (W : WX) (f : FA) : TA := rd K mg W (DenL K) f

theorem _root_.L2.PE.imp {X : Cx} {e : Expr} {t t' : TE} (h : PE X e t) (i : ∀ σ H Q, t' σ H Q → t σ H Q) : PE X e t' := ⟨fun pins s σ H Q I q => h.run pins s σ H Q I (i _ _ _ q)⟩
theorem _root_.L2.PT.imp {X : Cx} {e : Expr} {t t' : TT} (h : PT X e t) (i : ∀ σ H Q, t' σ H Q → t σ H Q) : PT X e t' := ⟨fun pins s σ H Q I q => h.run pins s σ H Q I (i _ _ _ q)⟩
theorem _root_.L2.PW.imp {X : Cx} {e : Expr} {t t' : TT} (h : PW X e t) (i : ∀ σ H Q, t' σ H Q → t σ H Q) : PW X e t' := ⟨fun wh pins s σ H Q I q => h.run wh pins s σ H Q I (i _ _ _ q)⟩
theorem _root_.L2.PA.imp {X : Cx} {e : List Expr} {t t' : TA} (h : PA X e t) (i : ∀ σ H Q, t' σ H Q → t σ H Q) : PA X e t' := ⟨fun pos pins s σ H Q I q => h.run pos pins s σ H Q I (i _ _ _ q)⟩
theorem _root_.L2.PS.imp {X : Cx} {e : Stmt} {t t' : TS} (h : PS X e t) (i : ∀ D σ H, t' D σ H → t D σ H) : PS X e t' := ⟨fun pins s σ H D I q => h.run pins s σ H D I (i _ _ _ q)⟩
theorem _root_.L2.PSs.imp {X : Cx} {e : List Stmt} {t t' : TS} (h : PSs X e t) (i : ∀ D σ H, t' D σ H → t D σ H) : PSs X e t' := ⟨fun pins s σ H D I q => h.run pins s σ H D I (i _ _ _ q)⟩
theorem _root_.L2.PI.imp {X : Cx} {tg it : Expr} {t t' : TI} (h : PI X tg it t) (i : ∀ σ H Q, t' σ H Q → t σ H Q) : PI X tg it t' := ⟨fun pins s σ H Q I q => h.run pins s σ H Q I (i _ _ _ q)⟩

section
variable {α β γ δ : Type} {K : PySem.W.Frag} {mg : Str → Option Value} {W : WX} {A : Act} {σ : L2.St} {e e1 : En} {H H1 : Hp}
theorem Post.shift {den : Hp → α → β → Prop} {Q : β → Hp → Prop} {r : R (α × En)} (s : Same (hid A σ e H) (hid A σ e1 H1)) (h : Post K mg W den A σ e H Q r) : Post K mg W den A σ e1 H1 Q r := by
  cases r with
  | ok p => exact fun b H' r' s' d => h b H' r' (s.trans s') d
  | exc c e' => exact h
  | err => exact h
theorem PostS.shift {σ1 : L2.St} {D : Ends} {r : R Fl} (s : Same (hid A σ e H) (hid A σ1 e1 H1)) (h : PostS K mg W D A σ e H r) : PostS K mg W D A σ1 e1 H1 r := by
  cases r with
  | ok p =>
    cases p with
    | nx e' => exact fun σ' H' r' s' => h σ' H' r' (s.trans s')
    | bk e' => exact fun σ' H' r' s' => h σ' H' r' (s.trans s')
    | ct e' => exact fun σ' H' r' s' => h σ' H' r' (s.trans s')
    | rt d e' => exact fun v σ' H' r' s' => h v σ' H' r' (s.trans s')
    | rn ds e' => exact fun q vs σ' H' o r' s' => h q vs σ' H' o r' (s.trans s')
  | exc c e' => exact h
  | err => exact h
/-- one part, then the rest -/
theorem rd_seq {den : Hp → α → β → Prop} {den' : Hp → γ → δ → Prop} {f : En → R (α × En)} {k : α × En → R (γ × En)} {Q : δ → Hp → Prop} {G : β → Hp → Prop} (r : Rep K A H σ e) (p : Post K mg W den' A σ e H Q ((f e).bind k))
    (hG : ∀ a e1 b H1, f e = .ok (a, e1) → Rep K A H1 σ e1 → Same (hid A σ e H) (hid A σ e1 H1) → den (hid A σ e1 H1) a b → Post K mg W den' A σ e1 H1 Q (k (a, e1)) → G b H1) : rd K mg W den f σ H G := by
  refine ⟨A, e, r, ?_⟩
  cases h : f e with
  | ok q =>
    obtain ⟨a, e1⟩ := q
    rw [h] at p
    exact fun b H1 r1 s1 d1 => hG a e1 b H1 h r1 s1 d1 (Post.shift s1 p)
  | exc c e' => rw [h] at p; exact p
  | err => rw [h] at p; exact p
theorem rd_seqS {den : Hp → α → β → Prop} {f : En → R (α × En)} {k : α × En → R Fl} {D : Ends} {G : β → Hp → Prop} (r : Rep K A H σ e) (p : PostS K mg W D A σ e H ((f e).bind k))
    (hG : ∀ a e1 b H1, f e = .ok (a, e1) → Rep K A H1 σ e1 → Same (hid A σ e H) (hid A σ e1 H1) → den (hid A σ e1 H1) a b → PostS K mg W D A σ e1 H1 (k (a, e1)) → G b H1) : rd K mg W den f σ H G := by
  refine ⟨A, e, r, ?_⟩
  cases h : f e with
  | ok q =>
    obtain ⟨a, e1⟩ := q
    rw [h] at p
    exact fun b H1 r1 s1 d1 => hG a e1 b H1 h r1 s1 d1 (PostS.shift s1 p)
  | exc c e' =>
    rw [h] at p
    exact fun H' r' => p σ H' r'
  | err => rw [h] at p; exact p
/-- a value that may lean on new objects -/
def Fresh (K : PySem.W.Frag) (Hh H H' : Hp) (d : D) (v : V) : Prop := ∀ Hv : Hp, Same Hh Hv → (∀ a o, H' a = some o → H a = none → Hv a = some o) → Den K Hv d v
theorem Fresh.flat {Hh H H' : Hp} {d : D} {v : V} (h : Den K Hh d v) : Fresh K Hh H H' d v := fun Hv s _ => Den.mono s _ _ h
theorem Fresh.lst {Hh H : Hp} {ds : List D} {vs : List V} {p : Addr} (hp : H p = none) (h : DenL K Hh ds vs) : Fresh K Hh H (upd H p (.lst vs)) (.lst ds) (.ref p) := fun Hv s n => by
  simp only [Den]
  exact ⟨p, vs, rfl, n p _ upd_same hp, DenL.mono s _ _ h⟩
theorem Fresh.tup {Hh H : Hp} {ds : List D} {vs : List V} {p : Addr} (hp : H p = none) (h : DenL K Hh ds vs) : Fresh K Hh H (upd H p (.tup vs)) (.tup ds) (.ref p) := fun Hv s n => by
  simp only [Den]
  exact ⟨p, vs, rfl, .inl (.inl (n p _ upd_same hp)), DenL.mono s _ _ h⟩
theorem same_upd {H : Hp} {p : Addr} {o : HO} (h : H p = none) : Same H (upd H p o) := fun b x e => by
  rw [upd_ne (ne_of_none e h)]
  exact e
theorem fin {H' : Hp} {Q : VK} {d : D} {v : V} (r : Rep K A H σ e) (p : Post K mg W (Den K) A σ e H Q (.ok (d, e))) (s : Same H H') (h : Fresh K (hid A σ e H) H H' d v) : Q v H' :=
  p v H' (r.grow s) (hid_same s) (h _ (hid_same s) fun _ _ a b => r.seen a b)
end

/-! ### expressions -/
section
variable {X : Cx} {W : WX} {pos : Pos} {a b c : Expr} {fa fb fc : FE}
def eC (d : D) : FE := fun e => .ok (d, e)
theorem v_const {ex : Expr} {v : V} {d : D} (h : PE X ex (tC v)) (hd : ∀ H, Den X.K H d v) : PE X ex (rE X.K X.mg W (eC d)) :=
  h.imp fun σ H Q ⟨A, e, r, p⟩ => p v H r (Same.refl _) (hd _)
theorem v_int {i : Int} {j : Nat} : PE X (.Constant (.int i) j pos) (rE X.K X.mg W (eC (.int i))) := v_const pe_int fun _ => by simp only [Den]
theorem v_bl {i : Bool} {j : Nat} : PE X (.Constant (.bool i) j pos) (rE X.K X.mg W (eC (.bl i))) := v_const pe_bl fun _ => by simp only [Den]
theorem v_non {j : Nat} : PE X (.Constant .none j pos) (rE X.K X.mg W (eC .non)) := v_const pe_non fun _ => by simp only [Den]
theorem v_str {i : Str} {j : Nat} : PE X (.Constant (.str i) j pos) (rE X.K X.mg W (eC (.str i))) := v_const pe_str fun _ => by simp only [Den]
/-- a local name; a held list is a value from then on -/
def eV (i : Nat) : FE := fun e => match e[i]? with
  | some (.val d) => .ok (d, e)
  | some (.own ds) => .ok (.lst ds, e.set i (.val (.lst ds)))
  | _ => .err
theorem v_var (i : Nat) {x : Str} (hN : X.N[i]? = some x := by rfl) (hv : Vis X.env.scope x := by first | exact Or.inl rfl | exact Or.inr (Or.inl rfl) | exact Or.inr (Or.inr rfl)) (hd : (x == ("__debug__" : Str)) = false := by decide)
    (hcd : (x == ("__classdict__" : Str)) = false := by decide) : PE X (.Name x pos) (rE X.K X.mg W (eV i)) :=
  (pe_var hN hv hd hcd).imp fun σ H Q ⟨A, e, r, p⟩ => by
    unfold eV at p
    cases h : e[i]? with
    | none => rw [h] at p; exact p.elim
    | some s =>
      rw [h] at p
      cases s with
      | un => exact p.elim
      | brw ds => exact p.elim
      | val d =>
        obtain ⟨v, h1, h2⟩ := r.val i d h
        exact ⟨v, h1, p v H r (Same.refl _) h2⟩
      | own ds =>
        obtain ⟨a, h1, h2, h3, h4⟩ := r.freeze h
        exact ⟨_, h1, p _ H h2 h3 h4⟩
/-- an operation by values -/
def eB (g : D → D → Option D) (fa fb : FE) : FE := fun e => (fa e).bind fun p => (fb p.2).bind fun q => match g p.1 q.1 with
  | some d => .ok (d, q.2)
  | none => .err
def RB (K : PySem.W.Frag) (r : R2) (g : D → D → Option D) : Prop := ∀ (Hh H : Hp) (a b : D) (x y : V) (d : D) (Q : VK), Same Hh H → Den K Hh a x → Den K Hh b y → g a b = some d → (∀ v H', Same H H' → Fresh K Hh H H' d v → Q v H') → r x y H Q
theorem rB_of {r : R2} {g : D → D → Option D} (hg : RB X.K r g) : ∀ σ H Q, rE X.K X.mg W (eB g fa fb) σ H Q → tOp r (rE X.K X.mg W fa) (rE X.K X.mg W fb) σ H Q := fun σ H Q ⟨A, e, rp, p⟩ => by
  refine rd_seq rp p fun da e1 x H1 _ r1 s1 d1 p1 => rd_seq r1 p1 fun db e2 y H2 _ r2 s2 d2 p2 => ?_
  cases h : g da db with
  | none =>
    simp only [h] at p2
    exact p2.elim
  | some d =>
    simp only [h] at p2
    exact hg _ H2 da db x y d Q hid_sub (Den.mono s2 _ _ d1) d2 h fun v H' s f => fin r2 p2 s f
theorem v_op {op : Operator} {r : R2} {g : D → D → Option D} (hg : RB X.K r g) (ho : OpR X (binaryOp op) r) (ha : PE X a (rE X.K X.mg W fa)) (hb : PE X b (rE X.K X.mg W fb)) : PE X (.BinOp a op b pos) (rE X.K X.mg W (eB g fa fb)) :=
  (pe_op ho ha hb).imp (rB_of hg)
theorem v_cmp {op : CmpOp} {r : R2} {g : D → D → Option D} (hg : RB X.K r g) (ho : OpR X (compareOp op) r) (hm : behindInMarks op b = false) (ha : PE X a (rE X.K X.mg W fa)) (hb : PE X b (rE X.K X.mg W fb)) : PE X (.Compare a [op] [b] pos) (rE X.K X.mg W (eB g fa fb)) :=
  (pe_cmpR ho ha hb hm).imp (rB_of hg)
theorem v_ix {r : R2} {g : D → D → Option D} (hg : RB X.K r g) (ho : IxR X r) (ha : PE X a (rE X.K X.mg W fa)) (hb : PE X b (rE X.K X.mg W fb)) (hs : PlainIx b := by exact fun _ _ => rfl) : PE X (.Subscript a b pos) (rE X.K X.mg W (eB g fa fb)) :=
  (pe_ix ho ha hb hs).imp (rB_of hg)
/-- a one-place operation -/
def eU (g : D → Option D) (fa : FE) : FE := fun e => (fa e).bind fun p => match g p.1 with
  | some d => .ok (d, p.2)
  | none => .err
def RU (K : PySem.W.Frag) (r : V → Hp → VK → Prop) (g : D → Option D) : Prop := ∀ (Hh H : Hp) (a : D) (x : V) (d : D) (Q : VK), Same Hh H → Den K Hh a x → g a = some d → (∀ v H', Same H H' → Fresh K Hh H H' d v → Q v H') → r x H Q
theorem v_un {op : UnaryOp} {r : V → Hp → VK → Prop} {g : D → Option D} (hg : RU X.K r g) (ho : UnR X (unaryOp op) r) (ha : PE X a (rE X.K X.mg W fa)) : PE X (.UnaryOp op a pos) (rE X.K X.mg W (eU g fa)) :=
  (pe_un ho ha).imp fun σ H Q ⟨A, e, rp, p⟩ => by
    refine rd_seq rp p fun da e1 x H1 _ r1 s1 d1 p1 => ?_
    cases h : g da with
    | none =>
      simp only [h] at p1
      exact p1.elim
    | some d =>
      simp only [h] at p1
      exact hg _ H1 da x d Q hid_sub d1 h fun v H' s f => fin r1 p1 s f
/-- argument lists -/
def aN : FA := fun e => .ok ([], e)
def aC (f : FE) (g : FA) : FA := fun e => (f e).bind fun p => (g p.2).bind fun q => .ok (p.1 :: q.1, q.2)
theorem va_nil : PA X [] (rA X.K X.mg W aN) := pa_nil.imp fun σ H Q ⟨A, e, r, p⟩ => p [] H r (Same.refl _) DenL.nil
theorem va_cons {es : List Expr} {f : FE} {g : FA} (ha : PE X a (rE X.K X.mg W f)) (hr : PA X es (rA X.K X.mg W g)) (hs : starEach (a :: es) X.env = (false, eval a X.env) :: starEach es X.env := by rfl) : PA X (a :: es) (rA X.K X.mg W (aC f g)) :=
  (pa_cons ha hr hs).imp fun σ H Q ⟨A, e, r, p⟩ => by
    refine rd_seq r p fun da e1 x H1 _ r1 s1 d1 p1 => rd_seq r1 p1 fun ds e2 xs H2 _ r2 s2 d2 p2 => ?_
    exact p2 _ _ r2 (Same.refl _) (DenL.cons (Den.mono s2 _ _ d1) d2)
/-- displays -/
def eTup (f : FA) : FE := fun e => (f e).bind fun p => if p.1.length ≤ lim then .ok (.tup p.1, p.2) else .err
def eLst (f : FA) : FE := fun e => (f e).bind fun p => if p.1.length ≤ lim then .ok (.lst p.1, p.2) else .err
theorem v_tup {es : List Expr} {f : FA} {x1 : Nat} (h : PA X es (rA X.K X.mg W f)) : PE X (.Tuple es x1 pos) (rE X.K X.mg W (eTup f)) :=
  (pe_tup h).imp fun σ H Q ⟨A, e, r, p⟩ => by
    refine rd_seq r p fun ds e1 xs H1 _ r1 s1 d1 p1 => ?_
    by_cases h : ds.length ≤ lim
    · simp only [h, if_true] at p1
      exact ⟨by rw [← d1.length, ← lim_eq]; exact h, fun q nq => fin r1 p1 (same_upd nq) (Fresh.tup nq d1)⟩
    · simp only [h, if_false] at p1
      exact p1.elim
theorem v_lst {es : List Expr} {f : FA} (h : PA X es (rA X.K X.mg W f)) : PE X (.List es pos) (rE X.K X.mg W (eLst f)) :=
  (pe_lst h).imp fun σ H Q ⟨A, e, r, p⟩ => by
    refine rd_seq r p fun ds e1 xs H1 _ r1 s1 d1 p1 => ?_
    by_cases h : ds.length ≤ lim
    · simp only [h, if_true] at p1
      exact ⟨by rw [← d1.length, ← lim_eq]; exact h, fun q nq => fin r1 p1 (same_upd nq) (Fresh.lst nq d1)⟩
    · simp only [h, if_false] at p1
      exact p1.elim
/-- a built-in -/
def eF (g : List D → Option D) (f : FA) : FE := fun e => (f e).bind fun p => match g p.1 with
  | some d => .ok (d, p.2)
  | none => .err
def RC (K : PySem.W.Frag) (r : List V → Hp → VK → Prop) (g : List D → Option D) : Prop := ∀ (Hh H : Hp) (ds : List D) (vs : List V) (d : D) (Q : VK), Same Hh H → DenL K Hh ds vs → g ds = some d → (∀ v H', Same H H' → Fresh K Hh H H' d v → Q v H') → r vs H Q
theorem rC_of {r : List V → Hp → VK → Prop} {g : List D → Option D} {f : FA} (hg : RC X.K r g) : ∀ σ H Q, rE X.K X.mg W (eF g f) σ H Q → tCB r (rA X.K X.mg W f) σ H Q := fun σ H Q ⟨A, e, rp, p⟩ => by
  refine rd_seq rp p fun ds e1 xs H1 _ r1 s1 d1 p1 => ?_
  cases h : g ds with
  | none =>
    simp only [h] at p1
    exact p1.elim
  | some d =>
    simp only [h] at p1
    exact hg _ H1 ds xs d Q hid_sub d1 h fun v H' s f => fin r1 p1 s f
/-- and, or, not as values; a if c else b -/
def eAnd (fa fb : FE) : FE := fun e => (fa e).bind fun p => match p.1 with
  | .bl true => fb p.2
  | .bl false => .ok (.bl false, p.2)
  | _ => .err
def eOr (fa fb : FE) : FE := fun e => (fa e).bind fun p => match p.1 with
  | .bl false => fb p.2
  | .bl true => .ok (.bl true, p.2)
  | _ => .err
def eNot (fa : FE) : FE := eU (fun d => match d with
  | .bl b => some (.bl (!b))
  | _ => none) fa
def eIf (c : FT) (fa fb : FE) : FE := fun e => (c e).bind fun p => if p.1 = true then fa p.2 else fb p.2
theorem den_bl {K : PySem.W.Frag} {H : Hp} {b : Bool} {v : V} (h : Den K H (.bl b) v) : v = .bl b := by simpa only [Den] using h
theorem den_int {K : PySem.W.Frag} {H : Hp} {b : Int} {v : V} (h : Den K H (.int b) v) : v = .int b := by simpa only [Den] using h
theorem den_str {K : PySem.W.Frag} {H : Hp} {b : Str} {v : V} (h : Den K H (.str b) v) : v = .str b := by simpa only [Den] using h
theorem den_non {K : PySem.W.Frag} {H : Hp} {v : V} (h : Den K H .non v) : v = .non := by simpa only [Den] using h
theorem v_one {op : BoolOp} (ha : PE X a (rE X.K X.mg W fa)) : PE X (.BoolOp op [a] pos) (rE X.K X.mg W fa) := pe_one ha
theorem v_and {rest : List Expr} (ha : PE X a (rE X.K X.mg W fa)) (hb : PE X (.BoolOp .And (b :: rest) pos) (rE X.K X.mg W fb)) : PE X (.BoolOp .And (a :: b :: rest) pos) (rE X.K X.mg W (eAnd fa fb)) :=
  (pe_and ha hb).imp fun σ H Q ⟨A, e, r, p⟩ => by
    refine rd_seq r p fun da e1 x H1 _ r1 s1 d1 p1 => ?_
    cases da with
    | bl k =>
      refine ⟨k, den_bl d1, ?_⟩
      cases k with
      | true => exact iteT ⟨A, e1, r1, p1⟩
      | false => exact iteF (p1 _ _ r1 (Same.refl _) (by simp only [Den]))
    | _ => exact p1.elim
theorem v_or {rest : List Expr} (ha : PE X a (rE X.K X.mg W fa)) (hb : PE X (.BoolOp .Or (b :: rest) pos) (rE X.K X.mg W fb)) : PE X (.BoolOp .Or (a :: b :: rest) pos) (rE X.K X.mg W (eOr fa fb)) :=
  (pe_or ha hb).imp fun σ H Q ⟨A, e, r, p⟩ => by
    refine rd_seq r p fun da e1 x H1 _ r1 s1 d1 p1 => ?_
    cases da with
    | bl k =>
      refine ⟨k, den_bl d1, ?_⟩
      cases k with
      | false => exact iteF ⟨A, e1, r1, p1⟩
      | true => exact iteT (p1 _ _ r1 (Same.refl _) (by simp only [Den]))
    | _ => exact p1.elim
theorem v_not (ha : PE X a (rE X.K X.mg W fa)) : PE X (.UnaryOp .Not a pos) (rE X.K X.mg W (eNot fa)) :=
  (pe_not ha).imp fun σ H Q ⟨A, e, r, p⟩ => by
    refine rd_seq r p fun da e1 x H1 _ r1 s1 d1 p1 => ?_
    cases da with
    | bl k => exact ⟨k, den_bl d1, p1 _ _ r1 (Same.refl _) (by simp only [Den])⟩
    | _ => exact p1.elim
theorem v_if {fc : FT} (hc : PT X c (rT X.K X.mg W fc)) (ha : PE X a (rE X.K X.mg W fa)) (hb : PE X b (rE X.K X.mg W fb)) : PE X (.IfExp c a b pos) (rE X.K X.mg W (eIf fc fa fb)) :=
  (pe_ifExp hc ha hb).imp fun σ H Q ⟨A, e, r, p⟩ => by
    refine rd_seq r p fun k e1 x H1 _ r1 s1 d1 p1 => ?_
    subst d1
    cases x with
    | true => exact iteT ⟨A, e1, r1, p1⟩
    | false => exact iteF ⟨A, e1, r1, p1⟩
/-! ### tests -/
def truth : D → Option Bool
  | .non => some false
  | .bl b => some b
  | .int i => some (i != 0)
  | .str x => if x.length ≤ lim then some ((x.length : Int) != 0) else none
  | .tup ds => some (!ds.isEmpty)
  | .lst ds => some (!ds.isEmpty)
  | .rls ds => some (!ds.isEmpty)
  | .dct _ ds => some (!ds.isEmpty)
  | .ty _ => none
theorem denL_empty {K : PySem.W.Frag} {H : Hp} {ds : List D} {vs : List V} (h : DenL K H ds vs) : (!ds.isEmpty) = !vs.isEmpty := by
  have := h.length
  cases ds <;> cases vs <;> first | rfl | simp at this
theorem truV {K : PySem.W.Frag} {H Hh : Hp} {d : D} {v : V} {k : Bool} (s : Same Hh H) (h : Den K Hh d v) (t : truth d = some k) : TruV K v H k := by
  have h' := Den.mono s _ _ h
  cases d with
  | non => rw [den_non h']; simp only [truth, Option.some.injEq] at t; subst t; rfl
  | bl b => rw [den_bl h']; simp only [truth, Option.some.injEq] at t; subst t; rfl
  | int i => rw [den_int h']; simp only [truth, Option.some.injEq] at t; subst t; rfl
  | str x =>
    rw [den_str h']
    simp only [truth] at t
    split at t
    · simp only [Option.some.injEq] at t
      rename_i q
      exact ⟨by rw [← lim_eq]; exact q, t.symm⟩
    · cases t
  | tup ds =>
    simp only [Den] at h'
    obtain ⟨a, vs, rfl, h1, h2⟩ := h'
    simp only [truth, Option.some.injEq] at t
    subst t
    exact .inr (.inl ⟨vs, h1, denL_empty h2⟩)
  | lst ds =>
    simp only [Den] at h'
    obtain ⟨a, vs, rfl, h1, h2⟩ := h'
    simp only [truth, Option.some.injEq] at t
    subst t
    exact .inl ⟨vs, .inl (.inl h1), denL_empty h2⟩
  | rls ds =>
    simp only [Den] at h'
    obtain ⟨a, vs, rfl, h1, h2⟩ := h'
    simp only [truth, Option.some.injEq] at t
    subst t
    exact .inl ⟨vs, h1, denL_empty h2⟩
  | dct ks ds =>
    simp only [Den] at h'
    obtain ⟨a, vs, rfl, h1, h2, h3⟩ := h'
    simp only [truth, Option.some.injEq] at t
    subst t
    refine .inr (.inr ⟨_, h1, ?_⟩)
    rw [denL_empty h3]
    cases ks <;> cases vs <;> first | rfl | simp at h2
  | ty n => cases t
def tE (f : FE) : FT := fun e => (f e).bind fun p => match truth p.1 with
  | some k => .ok (k, p.2)
  | none => .err
theorem vt_val (ha : PE X a (rE X.K X.mg W fa)) (he : ∀ whole, isTrue a X.env whole = (do let v ← whole; standAt a.pos; holding [v] (truthy v)) := by intro _; rfl) : PT X a (rT X.K X.mg W (tE fa)) :=
  (pt_truth ha he).imp fun σ H Q ⟨A, e, r, p⟩ => by
    refine rd_seq r p fun da e1 x H1 _ r1 s1 d1 p1 => ?_
    cases h : truth da with
    | none => simp only [h] at p1; exact p1.elim
    | some k =>
      simp only [h] at p1
      exact ⟨k, truV hid_sub d1 h, p1 _ _ r1 (Same.refl _) rfl⟩
/-- a comparison as a test -/
def bl? : D → Option Bool
  | .bl b => some b
  | _ => none
def tC1 (f : FE) : FT := fun e => (f e).bind fun p => match bl? p.1 with
  | some k => .ok (k, p.2)
  | none => .err
theorem bl_some {d : D} {k : Bool} (h : bl? d = some k) : d = .bl k := by
  cases d <;> simp only [bl?, Option.some.injEq] at h <;> first | (subst h; rfl) | cases h
theorem vt_cmp {op : CmpOp} {r : R2} {g : D → D → Option D} (hg : RB X.K r g) (ho : OpR X (compareOp op) r) (hm : behindInMarks op b = false) (ha : PE X a (rE X.K X.mg W fa)) (hb : PE X b (rE X.K X.mg W fb)) : PT X (.Compare a [op] [b] pos) (rT X.K X.mg W (tC1 (eB g fa fb))) :=
  (pt_cmpR ho ha hb hm).imp fun σ H Q ⟨A, e, r, p⟩ => by
    refine rB_of hg σ H _ ?_
    refine rd_seq r p fun da e1 x H1 _ r1 s1 d1 p1 => ?_
    cases h : bl? da with
    | none => simp only [h] at p1; exact p1.elim
    | some k =>
      simp only [h] at p1
      rw [bl_some h] at d1
      exact ⟨k, den_bl d1, p1 _ _ r1 (Same.refl _) rfl⟩
def tAnd1 (f g : FT) : FT := fun e => (f e).bind fun p => if p.1 = true then g p.2 else .ok (false, p.2)
def tOr1 (f g : FT) : FT := fun e => (f e).bind fun p => if p.1 = true then .ok (true, p.2) else g p.2
def tNot1 (f : FT) : FT := fun e => (f e).bind fun p => .ok (!p.1, p.2)
section
variable {ga gb : FT} {rest : List Expr}
theorem vw_and1 (ha : PT X a (rT X.K X.mg W ga)) : PW X (.BoolOp .And [a] pos) (rT X.K X.mg W ga) := pw_and1 ha
theorem vw_or1 (ha : PT X a (rT X.K X.mg W ga)) : PW X (.BoolOp .Or [a] pos) (rT X.K X.mg W ga) := pw_or1 ha
theorem vw_and (ha : PT X a (rT X.K X.mg W ga)) (hb : PW X (.BoolOp .And (b :: rest) pos) (rT X.K X.mg W gb)) : PW X (.BoolOp .And (a :: b :: rest) pos) (rT X.K X.mg W (tAnd1 ga gb)) :=
  (pw_and ha hb).imp fun σ H Q ⟨A, e, r, p⟩ => by
    refine rd_seq r p fun k e1 x H1 _ r1 s1 d1 p1 => ?_
    subst d1
    cases x with
    | true => exact iteT ⟨A, e1, r1, p1⟩
    | false => exact iteF (p1 _ _ r1 (Same.refl _) rfl)
theorem vw_or (ha : PT X a (rT X.K X.mg W ga)) (hb : PW X (.BoolOp .Or (b :: rest) pos) (rT X.K X.mg W gb)) : PW X (.BoolOp .Or (a :: b :: rest) pos) (rT X.K X.mg W (tOr1 ga gb)) :=
  (pw_or ha hb).imp fun σ H Q ⟨A, e, r, p⟩ => by
    refine rd_seq r p fun k e1 x H1 _ r1 s1 d1 p1 => ?_
    subst d1
    cases x with
    | true => exact iteT (p1 _ _ r1 (Same.refl _) rfl)
    | false => exact iteF ⟨A, e1, r1, p1⟩
theorem vt_not (ha : PT X a (rT X.K X.mg W ga)) : PT X (.UnaryOp .Not a pos) (rT X.K X.mg W (tNot1 ga)) :=
  (pt_not ha).imp fun σ H Q ⟨A, e, r, p⟩ => by
    refine rd_seq r p fun k e1 x H1 _ r1 s1 d1 p1 => ?_
    subst d1
    exact p1 _ _ r1 (Same.refl _) rfl
end
/-- a chain of two comparisons -/
def eCh (g g' : D → D → Option D) (fa fb fc : FE) : FE := fun e => (fa e).bind fun p => (fb p.2).bind fun q => match (g p.1 q.1).bind bl? with
  | some true => (fc q.2).bind fun s => match g' q.1 s.1 with
    | some d => .ok (d, s.2)
    | none => .err
  | some false => .ok (.bl false, q.2)
  | none => .err
theorem rCh_of {r r' : R2} {g g' : D → D → Option D} (hg : RB X.K r g) (hg' : RB X.K r' g') : ∀ σ H Q, rE X.K X.mg W (eCh g g' fa fb fc) σ H Q → tChain r r' (rE X.K X.mg W fa) (rE X.K X.mg W fb) (rE X.K X.mg W fc) σ H Q := fun σ H Q ⟨A, e, rp, p⟩ => by
  refine rd_seq rp p fun da e1 x H1 _ r1 s1 d1 p1 => rd_seq r1 p1 fun db e2 y H2 _ r2 s2 d2 p2 => ?_
  cases h : g da db with
  | none => simp only [h] at p2; exact p2.elim
  | some d =>
    refine hg _ H2 da db x y d _ hid_sub (Den.mono s2 _ _ d1) d2 h fun v H' s f => ?_
    have hv := f (hid A σ e2 H') (hid_same s) fun _ _ a b => r2.seen a b
    have r3 := r2.grow s
    simp only [h, Option.bind_some] at p2
    cases k : bl? d with
    | none => simp only [k] at p2; exact p2.elim
    | some b =>
      rw [bl_some k] at hv
      refine ⟨b, den_bl hv, ?_⟩
      cases b with
      | false =>
        simp only [k] at p2
        exact iteF (p2 _ _ r3 (hid_same s) (by simp only [Den]))
      | true =>
        simp only [k] at p2
        refine iteT (rd_seq r3 (Post.shift (hid_same s) p2) fun dc e3 z H3 _ r4 s4 d4 p4 => ?_)
        cases h' : g' db dc with
        | none => simp only [h'] at p4; exact p4.elim
        | some d' =>
          simp only [h'] at p4
          exact hg' _ H3 db dc y z d' Q hid_sub (Den.mono s4 _ _ (Den.mono (hid_same s) _ _ d2)) d4 h' fun v H' s f => fin r4 p4 s f
theorem v_chain {op op' : CmpOp} {r r' : R2} {g g' : D → D → Option D} (hg : RB X.K r g) (hg' : RB X.K r' g') (ho : OpR X (compareOp op) r) (ho' : OpR X (compareOp op') r')
    (ha : PE X a (rE X.K X.mg W fa)) (hb : PE X b (rE X.K X.mg W fb)) (hc : PE X c (rE X.K X.mg W fc)) (hm : lastMarks [op, op'] [b, c] = false := by with_unfolding_all rfl) : PE X (.Compare a [op, op'] [b, c] pos) (rE X.K X.mg W (eCh g g' fa fb fc)) :=
  (pe_chain ho ho' ha hb hc hm).imp (rCh_of hg hg')
theorem vt_chain {op op' : CmpOp} {r r' : R2} {g g' : D → D → Option D} (hg : RB X.K r g) (hg' : RB X.K r' g') (ho : OpR X (compareOp op) r) (ho' : OpR X (compareOp op') r')
    (ha : PE X a (rE X.K X.mg W fa)) (hb : PE X b (rE X.K X.mg W fb)) (hc : PE X c (rE X.K X.mg W fc)) (hm : lastMarks [op, op'] [b, c] = false := by with_unfolding_all rfl) : PT X (.Compare a [op, op'] [b, c] pos) (rT X.K X.mg W (tC1 (eCh g g' fa fb fc))) :=
  (pt_chain ho ho' ha hb hc hm).imp fun σ H Q ⟨A, e, r, p⟩ => by
    refine rCh_of hg hg' σ H _ ?_
    refine rd_seq r p fun da e1 x H1 _ r1 s1 d1 p1 => ?_
    cases h : bl? da with
    | none => simp only [h] at p1; exact p1.elim
    | some k =>
      simp only [h] at p1
      rw [bl_some h] at d1
      exact ⟨k, den_bl d1, p1 _ _ r1 (Same.refl _) rfl⟩
end
end Mi
namespace Mi
open PySem PySem.Spec PyProof.Rows L2

/-! ### targets -/
abbrev TD := D → En → Option En
def rdG (K : PySem.W.Frag) (G : TD) (js : List Nat) : TG := fun v σ H Q => ∃ A e d, Rep K A H σ e ∧ Den K (hid A σ e H) d v ∧ ∃ e1, G d e = some e1 ∧
  ∀ σ', Rep K A H σ' e1 → Same (hid A σ e H) (hid A σ' e1 H) → σ'.length = σ.length → (∀ j, j ∉ js → σ'[j]? = σ[j]?) → Q σ' H
abbrev TDs := List D → En → Option En
def rdGs (K : PySem.W.Frag) (G : TDs) (js : List Nat) : TGs := fun vs σ H Q => ∃ A e ds, Rep K A H σ e ∧ DenL K (hid A σ e H) ds vs ∧ ∃ e1, G ds e = some e1 ∧
  ∀ σ', Rep K A H σ' e1 → Same (hid A σ e H) (hid A σ' e1 H) → σ'.length = σ.length → (∀ j, j ∉ js → σ'[j]? = σ[j]?) → Q σ' H
theorem _root_.L2.PG.imp {X : Cx} {e : Expr} {t t' : TG} (h : PG X e t) (i : ∀ v σ H Q, t' v σ H Q → t v σ H Q) : PG X e t' := ⟨fun pins s σ H v u Q I r q => h.run pins s σ H v u Q I r (i _ _ _ _ q)⟩
theorem _root_.L2.PGs.imp {X : Cx} {e : List Expr} {t t' : TGs} (h : PGs X e t) (i : ∀ v σ H Q, t' v σ H Q → t v σ H Q) : PGs X e t' := ⟨fun pins s σ H v u Q I r q => h.run pins s σ H v u Q I r (i _ _ _ _ q)⟩
section
variable {X : Cx} {pos : Pos}
def gN (i : Nat) : TD := fun d e => some (e.set i (.val d))
theorem vg_name (i : Nat) {x : Str} (hN : X.N.Nodup) (hi : X.N[i]? = some x := by rfl) (hx : Loc X.env.scope x := by first | exact .inl rfl | exact .inr rfl) (hf : X.fn x = true ∨ X.env.scope.names.lookup x = some .local := by first | exact .inl rfl | exact .inr rfl) : PG X (.Name x pos) (rdG X.K (gN i) [i]) :=
  (pg_name hN hi hx hf).imp fun v σ H Q ⟨A, e, d, r, hd, e1, he, q⟩ => by
    cases he
    refine q _ (r.set hd) hid_set (List.length_set) fun j hj => ?_
    rw [List.getElem?_set_ne (fun z => hj (by simp [z]))]
def gsN : TDs := fun ds e => match ds with
  | [] => some e
  | _ => none
def gsC (G : TD) (Gs : TDs) : TDs := fun ds e => match ds with
  | d :: r => (G d e).bind (Gs r)
  | [] => none
theorem vgs_nil : PGs X [] (rdGs X.K gsN []) := pgs_nil.imp fun vs σ H Q ⟨A, e, ds, r, hd, e1, he, q⟩ => by
  cases ds with
  | nil =>
    simp only [DenL] at hd
    cases he
    exact ⟨hd, q σ r (Same.refl _) rfl fun _ _ => rfl⟩
  | cons d ds => cases he
theorem vgs_cons {t : Expr} {ts : List Expr} {G : TD} {Gs : TDs} {js ks : List Nat} (h1 : PG X t (rdG X.K G js)) (h2 : PGs X ts (rdGs X.K Gs ks))
    (hs : (assignEach (t :: ts) X.env).map (·.2) = assign t X.env :: (assignEach ts X.env).map (·.2) := by rfl) : PGs X (t :: ts) (rdGs X.K (gsC G Gs) (js ++ ks)) :=
  (pgs_cons h1 h2 hs).imp fun vs σ H Q ⟨A, e, ds, r, hd, e1, he, q⟩ => by
    cases ds with
    | nil => cases he
    | cons d ds =>
      simp only [DenL] at hd
      obtain ⟨v, us, rfl, hv, hu⟩ := hd
      cases h : G d e with
      | none => simp only [gsC, h] at he; cases he
      | some e2 =>
        have he' : Gs ds e2 = some e1 := by simpa only [gsC, h, Option.bind_some] using he
        refine ⟨v, us, rfl, A, e, d, r, hv, e2, h, fun σ' r' s' l' k' => ⟨A, e2, ds, r', DenL.mono s' _ _ hu, e1, he', fun σ2 r2 s2 l2 k2 => q σ2 r2 (s'.trans s2) (l2.trans l') fun j hj => ?_⟩⟩
        rw [k2 j (fun z => hj (List.mem_append_right _ z)), k' j (fun z => hj (List.mem_append_left _ z))]
def gT (n : Nat) (Gs : TDs) : TD := fun d e => match d with
  | .tup ds => if ds.length = n then Gs ds e else none
  | _ => none
theorem vg_tup {ts : List Expr} {k n : Nat} {Gs : TDs} {js : List Nat} (hc : X.calm = true) (h : PGs X ts (rdGs X.K Gs js)) (hn : (assignEach ts X.env).length = n := by rfl)
    (hst : (assignEach ts X.env).findIdx? (·.1) = none := by rfl) : PG X (.Tuple ts k pos) (rdG X.K (gT n Gs) js) :=
  (pg_tup hc h hn hst).imp fun v σ H Q ⟨A, e, d, r, hd, e1, he, q⟩ => by
    cases d with
    | tup ds =>
      simp only [Den] at hd
      obtain ⟨a, vs, rfl, h1, h2⟩ := hd
      by_cases hl : ds.length = n
      · have he' : Gs ds e = some e1 := by simpa only [gT, hl, if_true] using he
        exact ⟨a, vs, rfl, Same.seqT hid_sub h1, by rw [← h2.length]; exact hl, A, e, ds, r, h2, e1, he', q⟩
      · simp only [gT, hl, if_false] at he
        cases he
    | _ => cases he

/-! ### statements -/
section
variable {W : WX} {a b : Expr} {fa fb : FE} {st : Stmt} {rest : List Stmt} {g h : FS}
def sNx : FS := fun e => .ok (.nx e)
def sSeq (g h : FS) : FS := fun e => match g e with
  | .ok (.nx e1) => h e1
  | r => r
theorem vss_nil : PSs X [] (rdS X.K X.mg W sNx) := pss_nil.imp fun D σ H ⟨A, e, r, p⟩ => p σ H r (Same.refl _)
theorem vss_cons (h1 : PS X st (rdS X.K X.mg W g)) (h2 : PSs X rest (rdS X.K X.mg W h)) : PSs X (st :: rest) (rdS X.K X.mg W (sSeq g h)) :=
  (pss_cons h1 h2).imp fun D σ H ⟨A, e, r, p⟩ => by
    refine ⟨A, e, r, ?_⟩
    unfold sSeq at p
    cases q : g e with
    | ok f =>
      rw [q] at p
      cases f with
      | nx e1 => exact fun σ' H' r' s' => ⟨A, e1, r', PostS.shift s' p⟩
      | rt d e1 => exact p
      | rn ds e1 => exact p
      | bk e1 => exact p
      | ct e1 => exact p
    | exc c e1 => rw [q] at p; exact p
    | err => rw [q] at p; exact p
theorem vss_one (h1 : PS X st (rdS X.K X.mg W g)) : PSs X [st] (rdS X.K X.mg W g) := pss_one h1
theorem vs_pass : PS X (.Pass pos) (rdS X.K X.mg W sNx) := ps_pass.imp fun D σ H ⟨A, e, r, p⟩ => p σ H r (Same.refl _)
def sBk : FS := fun e => .ok (.bk e)
def sCt : FS := fun e => .ok (.ct e)
theorem vs_break : PS X (.Break pos) (rdS X.K X.mg W sBk) := ps_break.imp fun D σ H ⟨A, e, r, p⟩ => p σ H r (Same.refl _)
theorem vs_continue : PS X (.Continue pos) (rdS X.K X.mg W sCt) := ps_continue.imp fun D σ H ⟨A, e, r, p⟩ => p σ H r (Same.refl _)
def sErr : FS := fun _ => .err
theorem vs_never : PS X st (rdS X.K X.mg W sErr) := ps_never.imp fun D σ H ⟨A, e, r, p⟩ => p.elim
theorem vss_never {sts : List Stmt} : PSs X sts (rdS X.K X.mg W sErr) := pss_never.imp fun D σ H ⟨A, e, r, p⟩ => p.elim
def sRet (f : FE) : FS := fun e => (f e).bind fun p => .ok (.rt p.1 p.2)
theorem vs_ret (ha : PE X a (rE X.K X.mg W fa)) : PS X (.Return (some a) pos) (rdS X.K X.mg W (sRet fa)) :=
  (ps_ret ha).imp fun D σ H ⟨A, e, r, p⟩ => rd_seqS r p fun d e1 x H1 _ r1 s1 d1 p1 => p1 x σ H1 r1 (Same.refl _) d1
def sIf (c : FT) (g h : FS) : FS := fun e => (c e).bind fun p => if p.1 = true then g p.2 else h p.2
theorem vs_if {c : Expr} {fc : FT} {s1 s2 : List Stmt} (hc : PT X c (rT X.K X.mg W fc)) (ha : PSs X s1 (rdS X.K X.mg W g)) (hb : PSs X s2 (rdS X.K X.mg W h)) : PS X (.If c s1 s2 pos) (rdS X.K X.mg W (sIf fc g h)) :=
  (ps_if hc ha hb).imp fun D σ H ⟨A, e, r, p⟩ => rd_seqS r p fun k e1 x H1 _ r1 s1 d1 p1 => by
    subst d1
    cases x with
    | true => exact iteT ⟨A, e1, r1, p1⟩
    | false => exact iteF ⟨A, e1, r1, p1⟩
def sSet (i : Nat) (f : FE) : FS := fun e => (f e).bind fun p => .ok (.nx (p.2.set i (.val p.1)))
theorem rSet_of {i : Nat} : ∀ (D : Ends) σ H, rdS X.K X.mg W (sSet i fa) D σ H → tAsg (rE X.K X.mg W fa) (gName i) D σ H := fun D σ H ⟨A, e, r, p⟩ =>
  rd_seqS r p fun d e1 x H1 _ r1 s1 d1 p1 => p1 _ H1 (r1.set d1) hid_set
theorem vs_set (i : Nat) {x : Str} {pos' : Pos} (hN : X.N.Nodup) (ha : PE X a (rE X.K X.mg W fa)) (hi : X.N[i]? = some x := by rfl) (hx : Loc X.env.scope x := by first | exact .inl rfl | exact .inr rfl) (hs : swapsWith a (some (.Name x pos')) pos.line X.env = pure false := by rfl)
    (hf : X.fn x = true ∨ X.env.scope.names.lookup x = some .local := by first | exact .inl rfl | exact .inr rfl) : PS X (.Assign [.Name x pos'] a pos) (rdS X.K X.mg W (sSet i fa)) :=
  (ps_set hN hi hx ha hs hf).imp rSet_of
/-- a general target -/
def sAsg (G : TD) (f : FE) : FS := fun e => (f e).bind fun p => match G p.1 p.2 with
  | some e1 => .ok (.nx e1)
  | none => .err
theorem vs_asg {tg : Expr} {G : TD} {js : List Nat} (ha : PE X a (rE X.K X.mg W fa)) (hg : PG X tg (rdG X.K G js)) (hs : swapsWithSole [tg] a pos.line X.env = pure false := by rfl) (hw : swappedStores [tg] a X.env = pure none := by rfl)
    (h1 : (assignEach [tg] X.env).map (·.2) = [assign tg X.env] := by rfl) : PS X (.Assign [tg] a pos) (rdS X.K X.mg W (sAsg G fa)) :=
  (ps_asg ha hg hs hw h1).imp fun D σ H ⟨A, e, r, p⟩ => rd_seqS r p fun d e1 x H1 _ r1 s1 d1 p1 => by
    cases h : G d e1 with
    | none => simp only [h] at p1; exact p1.elim
    | some e2 =>
      simp only [h] at p1
      exact ⟨A, e1, d, r1, d1, e2, h, fun σ' r' s' _ _ => p1 σ' H1 r' s'⟩
/-! ### new lists -/
def PostN (K : PySem.W.Frag) (mg : Str → Option Value) (W : WX) (A : Act) (σ : L2.St) (e : En) (H : Hp) (Q : VK) : R (List D × En) → Prop
  | .ok p => ∀ q vs H', Old A q → Rep K (A.build q vs) H' σ p.2 → Same (hid A σ e H) (hid (A.build q vs) σ p.2 H') → DenL K (hid (A.build q vs) σ p.2 H') p.1 vs → Q (.ref q) H'
  | .exc c e' => ∀ H', Rep K A H' σ e' → WX1 mg W c σ H'
  | .err => False
def rN (K : PySem.W.Frag) (mg : Str → Option Value) (W : WX) (f : FA) : TE := fun σ H Q => ∃ A e, Rep K A H σ e ∧ PostN K mg W A σ e H Q (f e)
/-- how a reading of parts leads to a new list -/
theorem rN_seq {α β : Type} {K : PySem.W.Frag} {mg : Str → Option Value} {A : Act} {σ : L2.St} {e : En} {H : Hp} {den : Hp → α → β → Prop} {f : En → R (α × En)} {k : α × En → R (List D × En)} {Q : VK} {G : β → Hp → Prop} (r : Rep K A H σ e) (p : PostN K mg W A σ e H Q ((f e).bind k))
    (hG : ∀ a e1 b H1, f e = .ok (a, e1) → Rep K A H1 σ e1 → Same (hid A σ e H) (hid A σ e1 H1) → den (hid A σ e1 H1) a b → PostN K mg W A σ e1 H1 Q (k (a, e1)) → G b H1) : rd K mg W den f σ H G := by
  refine ⟨A, e, r, ?_⟩
  cases h : f e with
  | ok q =>
    obtain ⟨a, e1⟩ := q
    rw [h] at p
    refine fun b H1 r1 s1 d1 => hG a e1 b H1 h r1 s1 d1 ?_
    have p' : PostN K mg W A σ e H Q (k (a, e1)) := p
    revert p'
    cases k (a, e1) with
    | ok q => exact fun p' q vs H' o r' s' d' => p' q vs H' o r' (s1.trans s') d'
    | exc c e' => exact fun p' => p'
    | err => exact fun p' => p'
  | exc c e' => rw [h] at p; exact p
  | err => rw [h] at p; exact p
theorem finN {K : PySem.W.Frag} {mg : Str → Option Value} {A : Act} {σ : L2.St} {e : En} {H : Hp} {Q : VK} {ds : List D} {vs : List V} {q : Addr} (r : Rep K A H σ e) (p : PostN K mg W A σ e H Q (.ok (ds, e))) (hq : H q = none) (h : DenL K (hid A σ e H) ds vs) : Q (.ref q) (upd H q (.lst vs)) := by
  refine p q vs _ (r.old hq) (r.build vs hq) ?_ ?_
  · rw [hid_build r hq]; exact Same.refl _
  · rw [hid_build r hq]; exact h
/-- as a value -/
def eL (f : FA) : FE := fun e => (f e).bind fun p => .ok (.lst p.1, p.2)
theorem v_ofN {ex : Expr} {f : FA} (h : PE X ex (rN X.K X.mg W f)) : PE X ex (rE X.K X.mg W (eL f)) :=
  h.imp fun σ H Q ⟨A, e, r, p⟩ => by
    refine ⟨A, e, r, ?_⟩
    unfold eL at p
    cases q : f e with
    | ok z =>
      obtain ⟨ds, e1⟩ := z
      rw [q] at p
      intro a vs H' o r' s' d'
      obtain ⟨rb, sb, hb⟩ := r'.built o
      refine p _ H' rb (s'.trans sb) ?_
      simp only [Den]
      exact ⟨a, vs, rfl, hb, DenL.mono sb _ _ d'⟩
    | exc c e1 => rw [q] at p; exact p
    | err => rw [q] at p; exact p
def nLst (f : FA) : FA := fun e => (f e).bind fun p => if p.1.length ≤ lim then .ok p else .err
theorem n_lst {es : List Expr} {f : FA} (h : PA X es (rA X.K X.mg W f)) : PE X (.List es pos) (rN X.K X.mg W (nLst f)) :=
  (pe_lst h).imp fun σ H Q ⟨A, e, r, p⟩ => by
    refine rN_seq r p fun ds e1 xs H1 _ r1 s1 d1 p1 => ?_
    by_cases h : ds.length ≤ lim
    · simp only [h, if_true] at p1
      exact ⟨by rw [← d1.length, ← lim_eq]; exact h, fun q nq => finN r1 p1 nq d1⟩
    · simp only [h, if_false] at p1
      exact p1.elim
def RBN (K : PySem.W.Frag) (r : R2) (g : D → D → Option (List D)) : Prop := ∀ (Hh H : Hp) (a b : D) (x y : V) (ds : List D) (Q : VK), Same Hh H → Den K Hh a x → Den K Hh b y → g a b = some ds → (∀ p vs, H p = none → DenL K Hh ds vs → Q (.ref p) (upd H p (.lst vs))) → r x y H Q
def nB (g : D → D → Option (List D)) (fa fb : FE) : FA := fun e => (fa e).bind fun p => (fb p.2).bind fun q => match g p.1 q.1 with
  | some d => .ok (d, q.2)
  | none => .err
theorem n_op {op : Operator} {r : R2} {g : D → D → Option (List D)} (hg : RBN X.K r g) (ho : OpR X (binaryOp op) r) (ha : PE X a (rE X.K X.mg W fa)) (hb : PE X b (rE X.K X.mg W fb)) : PE X (.BinOp a op b pos) (rN X.K X.mg W (nB g fa fb)) :=
  (pe_op ho ha hb).imp fun σ H Q ⟨A, e, rp, p⟩ => by
    refine rN_seq rp p fun da e1 x H1 _ r1 s1 d1 p1 => rN_seq r1 p1 fun db e2 y H2 _ r2 s2 d2 p2 => ?_
    cases h : g da db with
    | none => simp only [h] at p2; exact p2.elim
    | some ds =>
      simp only [h] at p2
      exact hg _ H2 da db x y ds Q hid_sub (Den.mono s2 _ _ d1) d2 h fun q vs nq d => finN r2 p2 nq d
def RCN (K : PySem.W.Frag) (r : List V → Hp → VK → Prop) (g : List D → Option (List D)) : Prop := ∀ (Hh H : Hp) (ds : List D) (vs : List V) (es : List D) (Q : VK), Same Hh H → DenL K Hh ds vs → g ds = some es → (∀ p us, H p = none → DenL K Hh es us → Q (.ref p) (upd H p (.lst us))) → r vs H Q
def nF (g : List D → Option (List D)) (f : FA) : FA := fun e => (f e).bind fun p => match g p.1 with
  | some d => .ok (d, p.2)
  | none => .err
theorem rCN_of {r : List V → Hp → VK → Prop} {g : List D → Option (List D)} {f : FA} (hg : RCN X.K r g) : ∀ σ H Q, rN X.K X.mg W (nF g f) σ H Q → tCB r (rA X.K X.mg W f) σ H Q := fun σ H Q ⟨A, e, rp, p⟩ => by
  refine rN_seq rp p fun ds e1 xs H1 _ r1 s1 d1 p1 => ?_
  cases h : g ds with
  | none => simp only [h] at p1; exact p1.elim
  | some es =>
    simp only [h] at p1
    exact hg _ H1 ds xs es Q hid_sub d1 h fun q vs nq d => finN r1 p1 nq d
def sRetN (f : FA) : FS := fun e => (f e).bind fun p => .ok (.rn p.1 p.2)
theorem vs_retN {f : FA} (ha : PE X a (rN X.K X.mg W f)) : PS X (.Return (some a) pos) (rdS X.K X.mg W (sRetN f)) :=
  (ps_ret ha).imp fun D σ H ⟨A, e, r, p⟩ => by
    refine ⟨A, e, r, ?_⟩
    unfold sRetN at p
    cases q : f e with
    | ok z =>
      rw [q] at p
      exact fun a vs H' o r' s' d' => p a vs σ H' o r' s' d'
    | exc c e1 =>
      rw [q] at p
      exact fun H' r' => p σ H' r'
    | err => rw [q] at p; exact p
/-- x = a new list, to be changed in place -/
def sNew (i : Nat) (f : FA) : FS := fun e => (f e).bind fun p => if i < p.2.length then .ok (.nx (p.2.set i (.own p.1))) else .err
theorem vs_new (i : Nat) {x : Str} {pos' : Pos} {f : FA} (hN : X.N.Nodup) (ha : PE X a (rN X.K X.mg W f)) (hi : X.N[i]? = some x := by rfl) (hx : Loc X.env.scope x := by first | exact .inl rfl | exact .inr rfl)
    (hs : swapsWith a (some (.Name x pos')) pos.line X.env = pure false := by rfl)
    (hf : X.fn x = true ∨ X.env.scope.names.lookup x = some .local := by first | exact .inl rfl | exact .inr rfl) : PS X (.Assign [.Name x pos'] a pos) (rdS X.K X.mg W (sNew i f)) :=
  (ps_set hN hi hx ha hs hf).imp fun D σ H ⟨A, e, r, p⟩ => by
    refine ⟨A, e, r, ?_⟩
    unfold sNew at p
    cases q : f e with
    | ok z =>
      obtain ⟨ds, e1⟩ := z
      rw [q] at p
      intro a vs H' o r' s' d'
      by_cases h : i < e1.length
      · have p2 : PostS X.K X.mg W D A σ e H (if i < e1.length then .ok (.nx (e1.set i (.own ds))) else .err) := p
        rw [if_pos h] at p2
        obtain ⟨rc, sc⟩ := r'.claim (ds := ds) (i := i) (s := .own ds) o d' rfl h
        exact p2 _ _ rc (s'.trans sc)
      · have p2 : PostS X.K X.mg W D A σ e H (if i < e1.length then .ok (.nx (e1.set i (.own ds))) else .err) := p
        rw [if_neg h] at p2
        exact p2.elim
    | exc c e1 =>
      rw [q] at p
      exact fun H' r' => p σ H' r'
    | err => rw [q] at p; exact p
/-! ### x, y = e1, e2: each a value, or a new list to be changed in place -/
inductive Bp where
  | v (d : D) | n (ds : List D)
inductive Got (K : PySem.W.Frag) (Hf : Hp) : Act → Act → List Bp → List V → Prop
  | nil {A : Act} : Got K Hf A A [] []
  | v {A A' : Act} {d : D} {x : V} {bs : List Bp} {vs : List V} : Den K Hf d x → Got K Hf A A' bs vs → Got K Hf A A' (.v d :: bs) (x :: vs)
  | n {A A' : Act} {p : Addr} {ds : List D} {us : List V} {bs : List Bp} {vs : List V} : Old A p → DenL K Hf ds us → Got K Hf (A.build p us) A' bs vs → Got K Hf A A' (.n ds :: bs) (.ref p :: vs)
theorem Got.mono {K : PySem.W.Frag} {Hf Hg : Hp} (s : Same Hf Hg) {A A' : Act} {bs : List Bp} {vs : List V} (g : Got K Hf A A' bs vs) : Got K Hg A A' bs vs := by
  induction g with
  | nil => exact .nil
  | v h _ ih => exact .v (Den.mono s _ _ h) ih
  | n o h _ ih => exact .n o (DenL.mono s _ _ h) ih
def Bp.sl : Bp → Sl
  | .v d => .val d
  | .n ds => .own ds
def setsV (σ : L2.St) : List Nat → List V → L2.St
  | i :: is, v :: vs => (setsV σ is vs).set i (some v)
  | _, _ => σ
def setsE (e : En) : List Nat → List Bp → En
  | i :: is, b :: bs => (setsE e is bs).set i b.sl
  | _, _ => e
theorem setsE_length (e : En) : ∀ (is : List Nat) (bs : List Bp), (setsE e is bs).length = e.length
  | [], _ => rfl
  | _ :: _, [] => rfl
  | i :: is, b :: bs => by unfold setsE; rw [List.length_set, setsE_length e is bs]
theorem Got.all {K : PySem.W.Frag} {Hf H : Hp} {σ : L2.St} {e : En} {A A' : Act} {bs : List Bp} {vs : List V} (g : Got K Hf A A' bs vs) : ∀ (is : List Nat), is.length = bs.length → (∀ i ∈ is, i < e.length) → Rep K A' H σ e → Same Hf (hid A' σ e H) →
    Rep K A H (setsV σ is vs) (setsE e is bs) ∧ Same (hid A' σ e H) (hid A (setsV σ is vs) (setsE e is bs) H) := by
  induction g with
  | nil =>
    intro is hl hi r s
    cases is with
    | nil => exact ⟨r, Same.refl _⟩
    | cons i is => cases hl
  | v h _ ih =>
    intro is hl hi r s
    cases is with
    | nil => cases hl
    | cons i is =>
      obtain ⟨r1, s1⟩ := ih is (Nat.succ.inj hl) (fun j hj => hi j (List.mem_cons_of_mem _ hj)) r s
      exact ⟨r1.set (Den.mono (s.trans s1) _ _ h), s1.trans hid_set⟩
  | n o h _ ih =>
    intro is hl hi r s
    cases is with
    | nil => cases hl
    | cons i is =>
      obtain ⟨r1, s1⟩ := ih is (Nat.succ.inj hl) (fun j hj => hi j (List.mem_cons_of_mem _ hj)) r s
      obtain ⟨r2, s2⟩ := r1.claim (i := i) o (DenL.mono (s.trans s1) _ _ h) rfl (by rw [setsE_length]; exact hi i List.mem_cons_self)
      exact ⟨r2, s1.trans s2⟩
abbrev FB := En → R (List Bp × En)
def PostB (K : PySem.W.Frag) (mg : Str → Option Value) (W : WX) (A : Act) (σ : L2.St) (e : En) (H : Hp) (Q : List V → Hp → Prop) : R (List Bp × En) → Prop
  | .ok p => ∀ A' vs H', Rep K A' H' σ p.2 → Same (hid A σ e H) (hid A' σ p.2 H') → Got K (hid A' σ p.2 H') A A' p.1 vs → Q vs H'
  | .exc _ _ => False
  | .err => False
def rB (K : PySem.W.Frag) (mg : Str → Option Value) (W : WX) (f : FB) : TA := fun σ H Q => ∃ A e, Rep K A H σ e ∧ PostB K mg W A σ e H Q (f e)
def bN : FB := fun e => .ok ([], e)
def bV (f : FE) (g : FB) : FB := fun e => (f e).bind fun p => (g p.2).bind fun q => .ok (.v p.1 :: q.1, q.2)
def bL (f : FA) (g : FB) : FB := fun e => (f e).bind fun p => (g p.2).bind fun q => .ok (.n p.1 :: q.1, q.2)
theorem vb_nil : PA X [] (rB X.K X.mg W bN) := pa_nil.imp fun σ H Q ⟨A, e, r, p⟩ => p A [] H r (Same.refl _) .nil
theorem vb_v {es : List Expr} {f : FE} {g : FB} (ha : PE X a (rE X.K X.mg W f)) (hr : PA X es (rB X.K X.mg W g)) (hs : starEach (a :: es) X.env = (false, eval a X.env) :: starEach es X.env := by rfl) : PA X (a :: es) (rB X.K X.mg W (bV f g)) :=
  (pa_cons ha hr hs).imp fun σ H Q ⟨A, e, r, p⟩ => by
    refine ⟨A, e, r, ?_⟩
    unfold bV at p
    cases q : f e with
    | ok z =>
      obtain ⟨d, e1⟩ := z
      rw [q] at p
      intro x H1 r1 s1 d1
      refine ⟨A, e1, r1, ?_⟩
      have p1 : PostB X.K X.mg W A σ e H Q ((g e1).bind fun q => .ok (.v d :: q.1, q.2)) := p
      cases q2 : g e1 with
      | ok z =>
        rw [q2] at p1
        exact fun A' vs H2 r2 s2 g2 => p1 A' (x :: vs) H2 r2 (s1.trans s2) (.v (Den.mono s2 _ _ d1) g2)
      | exc c e2 => rw [q2] at p1; exact p1.elim
      | err => rw [q2] at p1; exact p1
    | exc c e1 => rw [q] at p; exact p.elim
    | err => rw [q] at p; exact p
theorem vb_l {es : List Expr} {f : FA} {g : FB} (ha : PE X a (rN X.K X.mg W f)) (hr : PA X es (rB X.K X.mg W g)) (hs : starEach (a :: es) X.env = (false, eval a X.env) :: starEach es X.env := by rfl) : PA X (a :: es) (rB X.K X.mg W (bL f g)) :=
  (pa_cons ha hr hs).imp fun σ H Q ⟨A, e, r, p⟩ => by
    refine ⟨A, e, r, ?_⟩
    unfold bL at p
    cases q : f e with
    | ok z =>
      obtain ⟨ds, e1⟩ := z
      rw [q] at p
      intro w us H1 o r1 s1 d1
      refine ⟨A.build w us, e1, r1, ?_⟩
      have p1 : PostB X.K X.mg W A σ e H Q ((g e1).bind fun q => .ok (.n ds :: q.1, q.2)) := p
      cases q2 : g e1 with
      | ok z =>
        rw [q2] at p1
        exact fun A' vs H2 r2 s2 g2 => p1 A' (.ref w :: vs) H2 r2 (s1.trans s2) (.n o (DenL.mono s2 _ _ d1) g2)
      | exc c e2 => rw [q2] at p1; exact p1.elim
      | err => rw [q2] at p1; exact p1
    | exc c e1 => rw [q] at p; exact p.elim
    | err => rw [q] at p; exact p
def sPar (is : List Nat) (f : FB) : FS := fun e => match f e with
  | .ok p => if p.1.length = is.length ∧ (∀ i ∈ is, i < p.2.length) then .ok (.nx (setsE p.2 is p.1)) else .err
  | _ => .err
theorem rPar_of {is : List Nat} {f : FB} : ∀ (D : Ends) σ H, rdS X.K X.mg W (sPar is f) D σ H → rB X.K X.mg W f σ H (fun vs H1 => vs.length = is.length ∧ D.nx (setsV σ is vs) H1) := fun D σ H ⟨A, e, r, p⟩ => by
  refine ⟨A, e, r, ?_⟩
  unfold sPar at p
  cases q : f e with
  | ok z =>
    obtain ⟨bs, e1⟩ := z
    rw [q] at p
    have p1 : PostS X.K X.mg W D A σ e H (if bs.length = is.length ∧ (∀ i ∈ is, i < e1.length) then .ok (.nx (setsE e1 is bs)) else .err) := p
    intro A' vs H1 r1 s1 g
    by_cases h : bs.length = is.length ∧ (∀ i ∈ is, i < e1.length)
    · rw [if_pos h] at p1
      obtain ⟨r2, s2⟩ := g.all is h.1.symm h.2 r1 (Same.refl _)
      have hl : ∀ {A A' : Act} {Hf : Hp} {bs : List Bp} {vs : List V}, Got X.K Hf A A' bs vs → bs.length = vs.length := fun g => by
        induction g with
        | nil => rfl
        | v _ _ ih => rw [List.length_cons, List.length_cons, ih]
        | n _ _ _ ih => rw [List.length_cons, List.length_cons, ih]
      exact ⟨(hl g).symm.trans h.1, p1 _ _ r2 (s1.trans s2)⟩
    · rw [if_neg h] at p1
      exact p1.elim
  | exc c e1 => rw [q] at p; exact p
  | err => rw [q] at p; exact p
theorem vs_par (i j : Nat) {x y : Str} {px py pt : Pos} {kt k2 : Nat} {pt2 : Pos} {f : FB} (hc : X.calm = true) (hN : X.N.Nodup) (ha : PA X [a, b] (rB X.K X.mg W f)) (hi : X.N[i]? = some x := by rfl) (hj : X.N[j]? = some y := by rfl) (hij : i ≠ j := by decide)
    (hx : X.env.scope.names.lookup x = some .local := by rfl) (hy : X.env.scope.names.lookup y = some .local := by rfl)
    (hw : swappedStores [.Tuple [.Name x px, .Name y py] kt pt] (.Tuple [a, b] k2 pt2) X.env = pure (some [x, y]) := by rfl)
    (hs : swapsWithSole [.Tuple [.Name x px, .Name y py] kt pt] (.Tuple [a, b] k2 pt2) pos.line X.env = pure false := by rfl) :
    PS X (.Assign [.Tuple [.Name x px, .Name y py] kt pt] (.Tuple [a, b] k2 pt2) pos) (rdS X.K X.mg W (sPar [i, j] f)) :=
  (ps_par hc hN hi hj hij hx hy ha hw hs).imp fun D σ H h => by
    obtain ⟨A, e, r, p⟩ := rPar_of D σ H h
    refine ⟨A, e, r, ?_⟩
    revert p
    cases f e with
    | ok z =>
      intro p A' vs H' r' s' g
      obtain ⟨hl, q⟩ := p A' vs H' r' s' g
      match vs, hl, q with
      | [v, w], _, q =>
        refine ⟨v, w, rfl, ?_⟩
        have q' : D.nx ((σ.set j (some w)).set i (some v)) H' := q
        rw [List.set_comm _ _ (Ne.symm hij)] at q'
        exact q'
    | exc c e1 => exact fun p => p
    | err => exact fun p => p
theorem vs_par3 (i j l : Nat) {c : Expr} {x y z : Str} {px py pz pt : Pos} {kt k2 : Nat} {pt2 : Pos} {f : FB} (hc : X.calm = true) (hN : X.N.Nodup) (ha : PA X [a, b, c] (rB X.K X.mg W f)) (hi : X.N[i]? = some x := by rfl) (hj : X.N[j]? = some y := by rfl) (hl : X.N[l]? = some z := by rfl)
    (hij : i ≠ j := by decide) (hil : i ≠ l := by decide) (hjl : j ≠ l := by decide)
    (hx : X.env.scope.names.lookup x = some .local := by rfl) (hy : X.env.scope.names.lookup y = some .local := by rfl) (hz : X.env.scope.names.lookup z = some .local := by rfl)
    (hw : swappedStores [.Tuple [.Name x px, .Name y py, .Name z pz] kt pt] (.Tuple [a, b, c] k2 pt2) X.env = pure (some [x, y, z]) := by rfl)
    (hs : swapsWithSole [.Tuple [.Name x px, .Name y py, .Name z pz] kt pt] (.Tuple [a, b, c] k2 pt2) pos.line X.env = pure false := by rfl) :
    PS X (.Assign [.Tuple [.Name x px, .Name y py, .Name z pz] kt pt] (.Tuple [a, b, c] k2 pt2) pos) (rdS X.K X.mg W (sPar [i, j, l] f)) :=
  (ps_par3 hc hN hi hj hl hij hil hjl hx hy hz ha hw hs).imp fun D σ H h => by
    obtain ⟨A, e, r, p⟩ := rPar_of D σ H h
    refine ⟨A, e, r, ?_⟩
    revert p
    cases f e with
    | ok z =>
      intro p A' vs H' r' s' g
      obtain ⟨hl, q⟩ := p A' vs H' r' s' g
      match vs, hl, q with
      | [u, v, w], _, q =>
        refine ⟨u, v, w, rfl, ?_⟩
        have q' : D.nx (((σ.set l (some w)).set j (some v)).set i (some u)) H' := q
        rw [List.set_comm _ _ (Ne.symm hjl), List.set_comm _ _ (Ne.symm hil), List.set_comm _ _ (Ne.symm hij)] at q'
        exact q'
    | exc c e1 => exact fun p => p
    | err => exact fun p => p
/-! ### x.append(e), x.pop() -/
def sApp (i : Nat) (f : FE) : FS := fun e => match e[i]? with
  | some (.own _) => (f e).bind fun p => match p.2[i]? with
    | some (.own ds) => if ds.length < lim then .ok (.nx (p.2.set i (.own (ds ++ [p.1])))) else .err
    | _ => .err
  | _ => .err
theorem vs_append (i : Nat) {x : Str} {p1 p2 p3 : Pos} (ha : PE X a (rE X.K X.mg W fa)) (hN : X.N[i]? = some x := by rfl) (hv : Vis X.env.scope x := by first | exact Or.inl rfl | exact Or.inr (Or.inl rfl) | exact Or.inr (Or.inr rfl))
    (hd : (x == ("__debug__" : Str)) = false := by decide) (hcd : (x == ("__classdict__" : Str)) = false := by decide)
    (hbase : attributeBase (.Name x p1) "append" X.env (eval (.Name x p1) X.env) = eval (.Name x p1) X.env := by rfl)
    (hfew : ((backTo p3 (starEach [a] X.env)).all (fun x => !x.1) && (backToKw p3 (keywordEach [] X.env)).all (fun x => x.1.isSome)
      && decide ([a].length + ([] : List Keyword).length + (if ([] : List Keyword).isEmpty then 0 else 1) < 30)) = true := by rfl)
    (hline : (p2.endLine == p3.line) = true := by rfl) (hs : starEach [a] X.env = (false, eval a X.env) :: starEach [] X.env := by rfl) (hplain : (backTo p3 (starEach [] X.env)).any (·.1) = false := by rfl)
    (hsw : swapsWith (.Call (.Attribute (.Name x p1) "append" p2) [a] [] p3) none pos.line X.env = pure false := by rfl) :
    PS X (.Expr (.Call (.Attribute (.Name x p1) "append" p2) [a] [] p3) pos) (rdS X.K X.mg W (sApp i fa)) :=
  (ps_expr (pe_bm PySem.F.plainAttrs_list PySem.F.slot_list_append PySem.F.type_list_append mt_append (pe_var hN hv hd hcd) (pa_cons ha pa_nil hs) hbase hfew hline hs hplain) hsw).imp fun D σ H ⟨A, e, r, p⟩ => by
    unfold sApp at p
    cases h : e[i]? with
    | none => rw [h] at p; exact p.elim
    | some s =>
      rw [h] at p
      cases s with
      | own ds0 =>
        obtain ⟨l, vs0, h1, h2, h3, h4⟩ := r.own i ds0 h
        refine ⟨.ref l, h1, .inl ⟨rfl, vs0, .inl (.inl h2)⟩, ?_⟩
        refine rd_seqS r p fun d e1 y H1 _ r1 s1 d1 p1 => ?_
        cases h' : e1[i]? with
        | none => simp only [h'] at p1; exact p1.elim
        | some s' =>
          simp only [h'] at p1
          cases s' with
          | own ds =>
            by_cases hl : ds.length < lim
            · simp only [hl, if_true] at p1
              obtain ⟨l', vs, k1, k2, k3, k4⟩ := r1.own i ds h'
              rw [h1] at k1
              cases k1
              obtain ⟨rp, hp⟩ := r1.put h' ⟨ds, .inl h'⟩ h1 (DenL.append k3 (DenL.cons d1 DenL.nil))
              have hp' : hid A σ (e1.set i (.own (ds ++ [d]))) (upd H1 l (.lst (vs ++ [y]))) = hid A σ e1 H1 := hp
              refine ⟨l, vs, y, rfl, rfl, k2, by rw [← k3.length, ← lim_eq]; exact hl, p1 σ _ rp ?_⟩
              rw [hp']
              exact Same.refl _
            · simp only [hl, if_false] at p1
              exact p1.elim
          | _ => exact p1.elim
      | _ => exact p.elim
/-- the last one is taken off -/
def ePop (i : Nat) : FE := fun e => match e[i]? with
  | some s => (match s with
    | .own ds | .brw ds => (match ds.getLast? with
      | some d => .ok (d, e.set i (s.turn ds.dropLast))
      | none => .err)
    | _ => .err)
  | none => .err
theorem v_pop (i : Nat) {x : Str} {p1 p2 : Pos} (hN : X.N[i]? = some x := by rfl) (hv : Vis X.env.scope x := by first | exact Or.inl rfl | exact Or.inr (Or.inl rfl) | exact Or.inr (Or.inr rfl))
    (hd : (x == ("__debug__" : Str)) = false := by decide) (hcd : (x == ("__classdict__" : Str)) = false := by decide)
    (hbase : attributeBase (.Name x p1) "pop" X.env (eval (.Name x p1) X.env) = eval (.Name x p1) X.env := by rfl) (hline : (p2.endLine == pos.line) = true := by rfl) :
    PE X (.Call (.Attribute (.Name x p1) "pop" p2) [] [] pos) (rE X.K X.mg W (ePop i)) :=
  (pe_bm0 PySem.F.plainAttrs_list PySem.F.slot_list_pop PySem.F.type_list_pop mt_pop (pe_var hN hv hd hcd) hbase hline).imp fun σ H Q ⟨A, e, r, p⟩ => by
    unfold ePop at p
    cases h : e[i]? with
    | none => rw [h] at p; exact p.elim
    | some s =>
      rw [h] at p
      have go : ∀ ds, (s = .own ds ∨ s = .brw ds) → Post X.K X.mg W (Den X.K) A σ e H Q (match ds.getLast? with
          | some d => .ok (d, e.set i (s.turn ds.dropLast))
          | none => .err) → tBM0 X.K "list" rPop (tVar i) σ H Q := fun ds hs p => by
        have hh : Held e i := ⟨ds, by rcases hs with rfl | rfl; exact .inl h; exact .inr h⟩
        have ho : ∃ a vs, σ[i]? = some (some (.ref a)) ∧ H a = some (.lst vs) ∧ DenL X.K (hid A σ e H) ds vs := by
          rcases hs with rfl | rfl
          · obtain ⟨a, vs, k1, k2, k3, _⟩ := r.own i ds h
            exact ⟨a, vs, k1, k2, k3⟩
          · obtain ⟨a, vs, k1, k2, k3, _⟩ := r.brw i ds h
            exact ⟨a, vs, k1, k2, k3⟩
        obtain ⟨a, vs, k1, k2, k3⟩ := ho
        cases hg : ds.getLast? with
        | none => rw [hg] at p; exact p.elim
        | some d =>
          rw [hg] at p
          rw [List.getLast?_eq_getElem?] at hg
          obtain ⟨v, hv, dv⟩ := k3.get hg
          rw [k3.length] at hv
          obtain ⟨rp, hp⟩ := r.put h hh k1 k3.dropLast
          refine ⟨.ref a, k1, .inl ⟨rfl, vs, .inl (.inl k2)⟩, a, vs, v, rfl, rfl, k2, hv, ?_⟩
          refine p v _ rp ?_ ?_
          · rw [hp]; exact Same.refl _
          · rw [hp]; exact dv
      cases s with
      | own ds => exact go ds (.inl rfl) p
      | brw ds => exact go ds (.inr rfl) p
      | _ => exact p.elim
/-- len(x), x[k] of a held list, which stays held -/
def ePeek (i : Nat) (g : List D → Option D) : FE := fun e => match e[i]? with
  | some (.own ds) | some (.brw ds) => (match g ds with
    | some d => .ok (d, e)
    | none => .err)
  | _ => .err
theorem peek {i : Nat} {A : Act} {σ : L2.St} {e : En} {H : Hp} {g : List D → Option D} {Q : VK} (r : Rep X.K A H σ e) (p : Post X.K X.mg W (Den X.K) A σ e H Q (ePeek i g e)) :
    ∃ ds a vs d, σ[i]? = some (some (.ref a)) ∧ H a = some (.lst vs) ∧ DenL X.K (hid A σ e H) ds vs ∧ g ds = some d ∧ ∀ v, Den X.K (hid A σ e H) d v → Q v H := by
  unfold ePeek at p
  have go : ∀ ds, (e[i]? = some (.own ds) ∨ e[i]? = some (.brw ds)) → Post X.K X.mg W (Den X.K) A σ e H Q (match g ds with
      | some d => .ok (d, e)
      | none => .err) → ∃ ds a vs d, σ[i]? = some (some (.ref a)) ∧ H a = some (.lst vs) ∧ DenL X.K (hid A σ e H) ds vs ∧ g ds = some d ∧ ∀ v, Den X.K (hid A σ e H) d v → Q v H := fun ds hs p => by
    have ho : ∃ a vs, σ[i]? = some (some (.ref a)) ∧ H a = some (.lst vs) ∧ DenL X.K (hid A σ e H) ds vs := by
      rcases hs with h | h
      · obtain ⟨a, vs, k1, k2, k3, _⟩ := r.own i ds h
        exact ⟨a, vs, k1, k2, k3⟩
      · obtain ⟨a, vs, k1, k2, k3, _⟩ := r.brw i ds h
        exact ⟨a, vs, k1, k2, k3⟩
    obtain ⟨a, vs, k1, k2, k3⟩ := ho
    cases hg : g ds with
    | none => rw [hg] at p; exact p.elim
    | some d =>
      rw [hg] at p
      exact ⟨ds, a, vs, d, k1, k2, k3, hg, fun v hv => p v H r (Same.refl _) hv⟩
  cases h : e[i]? with
  | none => rw [h] at p; exact p.elim
  | some s =>
    rw [h] at p
    cases s with
    | own ds => exact go ds (.inl h) p
    | brw ds => exact go ds (.inr h) p
    | _ => exact p.elim
def lenOf : List D → Option D := fun ds => some (.int ds.length)
theorem v_lenHeld (i : Nat) {x : Str} {p p1 : Pos} (hg : Gl X "len") (hm : X.mg "len" = none) (hN : X.N[i]? = some x := by rfl) (hv : Vis X.env.scope x := by first | exact Or.inl rfl | exact Or.inr (Or.inl rfl) | exact Or.inr (Or.inr rfl))
    (hd : (x == ("__debug__" : Str)) = false := by decide) (hcd : (x == ("__classdict__" : Str)) = false := by decide) :
    PE X (.Call (.Name "len" p) [.Name x p1] [] pos) (rE X.K X.mg W (ePeek i lenOf)) :=
  (pe_callB call_len_seq hg hm PySem.boot_len (pa_cons (pe_var hN hv hd hcd) pa_nil)).imp fun σ H Q ⟨A, e, r, p⟩ => by
    obtain ⟨ds, a, vs, d, k1, k2, k3, k4, q⟩ := peek r p
    refine ⟨.ref a, k1, a, vs, rfl, .inl (.inl (.inl k2)), q _ ?_⟩
    simp only [lenOf, Option.some.injEq] at k4
    subst k4
    simp only [Den]
    rw [k3.length]
/-! ### x op= e -/
def RI (K : PySem.W.Frag) (t : TIp) (g : D → D → Option D) : Prop := RB K t g
def sAug (i : Nat) (g : D → D → Option D) (f : FE) : FS := fun e => match e[i]? with
  | some (.val d0) => (f e).bind fun p => match g d0 p.1 with
    | some d => .ok (.nx (p.2.set i (.val d)))
    | none => .err
  | _ => .err
theorem vs_aug (i : Nat) {x : Str} {op : Operator} {t : TIp} {g : D → D → Option D} {pos' : Pos} (hg : RB X.K t g) (ho : PIp X op t) (hN : X.N.Nodup) (ha : PE X a (rE X.K X.mg W fa)) (hi : X.N[i]? = some x := by rfl) (hx : Loc X.env.scope x := by first | exact .inl rfl | exact .inr rfl)
    (hf : X.fn x = true ∨ X.env.scope.names.lookup x = some .local := by first | exact .inl rfl | exact .inr rfl) : PS X (.AugAssign (.Name x pos') op a pos) (rdS X.K X.mg W (sAug i g fa)) :=
  (ps_aug hN hi hx ha ho hf).imp fun D σ H ⟨A, e, r, p⟩ => by
    unfold sAug at p
    cases h : e[i]? with
    | none => rw [h] at p; exact p.elim
    | some s =>
      rw [h] at p
      cases s with
      | val d0 =>
        obtain ⟨v0, h1, h2⟩ := r.val i d0 h
        refine ⟨v0, h1, rd_seqS r p fun d e1 y H1 _ r1 s1 d1 p1 => ?_⟩
        cases h' : g d0 d with
        | none => simp only [h'] at p1; exact p1.elim
        | some d' =>
          simp only [h'] at p1
          refine hg _ H1 d0 d v0 y d' _ hid_sub (Den.mono s1 _ _ h2) d1 h' fun z H2 s2 f2 => ?_
          have dz := f2 (hid A σ e1 H2) (hid_same s2) fun _ _ a b => r1.seen a b
          exact p1 _ H2 ((r1.grow s2).set dz) ((hid_same s2).trans hid_set)
      | _ => exact p.elim
end
end
end Mi
namespace Mi
open PySem PySem.Spec PyProof.Rows L2

/-! ### what a loop walks -/
def JD (K : PySem.W.Frag) (Hh : Hp) (items : List D) (J : It) : Prop := ∀ Hv H : Hp, Same Hh Hv → Same Hv H → ∀ i : Nat,
  (i < items.length → J.go i H) ∧ (∀ d, items[i]? = some d → ∀ x H', J.yld i H x H' → Same H H' ∧ Fresh K Hv H H' d x) ∧ (items.length ≤ i → J.stop i H)
abbrev rI (K : PySem.W.Frag) (mg : Str → Option Value) (W : WX) (f : FA) : TI := rd K mg W (JD K) f
theorem JD.mono {K : PySem.W.Frag} {Hh Hg : Hp} {items : List D} {J : It} (s : Same Hh Hg) (h : JD K Hh items J) : JD K Hg items J := fun Hv H s1 s2 => h Hv H (s.trans s1) s2
section
variable {X : Cx} {W : WX} {tg : Expr} {pos : Pos} {a : Expr} {fa : FE}
theorem jd_list {K : PySem.W.Frag} {Hh : Hp} {ds : List D} {vs : List V} {p : Addr} (h1 : SqL K Hh p vs) (h2 : DenL K Hh ds vs) : JD K Hh ds (Itl K p) := fun Hv H s1 s2 i => by
  have hq : SqL K H p vs := (s1.trans s2).seq h1
  refine ⟨fun hi => ?_, fun d hd x H' y => ?_, fun hi => ⟨vs, hq, by rw [← h2.length]; exact hi⟩⟩
  · rw [h2.length] at hi
    exact ⟨vs, vs[i], hq, List.getElem?_eq_getElem hi⟩
  · obtain ⟨rfl, y⟩ := y
    obtain ⟨v, hv, dv⟩ := h2.get hd
    have := y vs hq
    rw [hv] at this
    cases this
    exact ⟨Same.refl _, Fresh.flat (Den.mono s1 _ _ dv)⟩
theorem jd_tup {K : PySem.W.Frag} {Hh : Hp} {ds : List D} {vs : List V} {p : Addr} (h1 : SqT K Hh p vs) (h2 : DenL K Hh ds vs) : JD K Hh ds (Itt K p) := fun Hv H s1 s2 i => by
  have hq : SqT K H p vs := Same.seqT (s1.trans s2) h1
  refine ⟨fun hi => ?_, fun d hd x H' y => ?_, fun hi => ⟨vs, hq, by rw [← h2.length]; exact hi⟩⟩
  · rw [h2.length] at hi
    exact ⟨vs, vs[i], hq, List.getElem?_eq_getElem hi⟩
  · obtain ⟨rfl, y⟩ := y
    obtain ⟨v, hv, dv⟩ := h2.get hd
    have := y vs hq
    rw [hv] at this
    cases this
    exact ⟨Same.refl _, Fresh.flat (Den.mono s1 _ _ dv)⟩
/-- a list is walked -/
def iL (f : FE) : FA := fun e => (f e).bind fun p => match p.1 with
  | .lst ds => .ok (ds, p.2)
  | .rls ds => .ok (ds, p.2)
  | _ => .err
theorem vi_list (ha : PE X a (rE X.K X.mg W fa)) : PI X tg a (rI X.K X.mg W (iL fa)) :=
  (pi_list ha).imp fun σ H Q ⟨A, e, r, p⟩ => by
    refine rd_seq r p fun d e1 x H1 _ r1 s1 d1 p1 => ?_
    cases d with
    | lst ds =>
      simp only [Den] at d1
      obtain ⟨q, vs, rfl, h1, h2⟩ := d1
      exact ⟨q, rfl, ⟨vs, .inl (.inl (hid_sub _ _ h1))⟩, p1 _ _ r1 (Same.refl _) (jd_list (.inl (.inl h1)) h2)⟩
    | rls ds =>
      simp only [Den] at d1
      obtain ⟨q, vs, rfl, h1, h2⟩ := d1
      exact ⟨q, rfl, ⟨vs, hid_sub.seq h1⟩, p1 _ _ r1 (Same.refl _) (jd_list h1 h2)⟩
    | _ => exact p1.elim
/-- a tuple is walked -/
def iT (f : FE) : FA := fun e => (f e).bind fun p => match p.1 with
  | .tup ds => .ok (ds, p.2)
  | _ => .err
theorem vi_tup (ha : PE X a (rE X.K X.mg W fa)) : PI X tg a (rI X.K X.mg W (iT fa)) :=
  (pi_tup ha).imp fun σ H Q ⟨A, e, r, p⟩ => by
    refine rd_seq r p fun d e1 x H1 _ r1 s1 d1 p1 => ?_
    cases d with
    | tup ds =>
      simp only [Den] at d1
      obtain ⟨q, vs, rfl, h1, h2⟩ := d1
      exact ⟨q, rfl, ⟨vs, Same.seqT hid_sub h1⟩, p1 _ _ r1 (Same.refl _) (jd_tup h1 h2)⟩
    | _ => exact p1.elim
/-- a range -/
def rangeD (lo : Int) (n : Nat) : List D := (List.range n).map fun (k : Nat) => D.int (lo + (k : Int))
theorem rangeD_length {lo : Int} {n : Nat} : (rangeD lo n).length = n := by unfold rangeD; rw [List.length_map, List.length_range]
theorem jd_range {K : PySem.W.Frag} {Hh : Hp} {lo : Int} {n : Nat} : JD K Hh (rangeD lo n) (Itr lo n) := fun Hv H s1 s2 i => by
  refine ⟨fun hi => ?_, fun d hd x H' y => ?_, fun hi => ?_⟩
  · rw [rangeD_length] at hi; exact hi
  · obtain ⟨rfl, rfl⟩ := y
    unfold rangeD at hd
    rw [List.getElem?_map] at hd
    by_cases hi : i < n
    · rw [List.getElem?_range hi] at hd
      simp only [Option.map_some, Option.some.injEq] at hd
      subst hd
      exact ⟨Same.refl _, Fresh.flat (by simp only [Den])⟩
    · rw [List.getElem?_eq_none (by rw [List.length_range]; omega)] at hd
      cases hd
  · rw [rangeD_length] at hi; exact hi
theorem den1 {K : PySem.W.Frag} {H : Hp} {d : D} {vs : List V} (h : DenL K H [d] vs) : ∃ v, vs = [v] ∧ Den K H d v := by
  simp only [DenL] at h
  obtain ⟨v, r, rfl, h, rfl⟩ := h
  exact ⟨v, rfl, h⟩
theorem den2 {K : PySem.W.Frag} {H : Hp} {d d' : D} {vs : List V} (h : DenL K H [d, d'] vs) : ∃ v v', vs = [v, v'] ∧ Den K H d v ∧ Den K H d' v' := by
  simp only [DenL] at h
  obtain ⟨v, r, rfl, h, v', r', rfl, h', rfl⟩ := h
  exact ⟨v, v', rfl, h, h'⟩
theorem den3 {K : PySem.W.Frag} {H : Hp} {d d' d'' : D} {vs : List V} (h : DenL K H [d, d', d''] vs) : ∃ v v' v'', vs = [v, v', v''] ∧ Den K H d v ∧ Den K H d' v' ∧ Den K H d'' v'' := by
  simp only [DenL] at h
  obtain ⟨v, r, rfl, h, v', r', rfl, h', v'', r'', rfl, h'', rfl⟩ := h
  exact ⟨v, v', v'', rfl, h, h', h''⟩
def int? : D → Option Int
  | .int i => some i
  | _ => none
theorem int_some {d : D} {i : Int} (h : int? d = some i) : d = .int i := by
  cases d <;> simp only [int?, Option.some.injEq] at h <;> first | (subst h; rfl) | cases h
def ar1 : List D → Option D
  | [a] => some a
  | _ => none
def ar2 : List D → Option (D × D)
  | [a, b] => some (a, b)
  | _ => none
theorem ar1_some {ds : List D} {a : D} (h : ar1 ds = some a) : ds = [a] := by
  cases ds with
  | nil => cases h
  | cons x r =>
    cases r with
    | nil => simp only [ar1, Option.some.injEq] at h; subst h; rfl
    | cons y r => cases h
theorem ar2_some {ds : List D} {a b : D} (h : ar2 ds = some (a, b)) : ds = [a, b] := by
  cases ds with
  | nil => cases h
  | cons x r =>
    cases r with
    | nil => cases h
    | cons y r =>
      cases r with
      | nil => simp only [ar2, Option.some.injEq, Prod.mk.injEq] at h; obtain ⟨rfl, rfl⟩ := h; rfl
      | cons z r => cases h
/-- within 2 ^ 62 either way; so written that the kernel stops at a j it does not know -/
def r62 : Int → Bool
  | .ofNat n => Nat.ble n 4611686018427387903
  | .negSucc n => Nat.ble n 4611686018427387903
theorem r62_iff {j : Int} : r62 j = true ↔ -4611686018427387904 ≤ j ∧ j < 4611686018427387904 := by
  cases j with
  | ofNat n =>
    show Nat.ble n 4611686018427387903 = true ↔ _
    rw [Nat.ble_eq]
    have : (Int.ofNat n) = (n : Int) := rfl
    omega
  | negSucc n =>
    show Nat.ble n 4611686018427387903 = true ↔ _
    rw [Nat.ble_eq]
    have : Int.negSucc n = -(n : Int) - 1 := by omega
    omega
theorem r62_ok {j : Int} (h : r62 j = true) : -(2 ^ 62) ≤ j ∧ j < 2 ^ 62 := by
  have := r62_iff.1 h
  have e : (2 : Int) ^ 62 = 4611686018427387904 := by decide +kernel
  rw [e]
  exact this
def rn1 (ds : List D) : Option Int := (ar1 ds).bind fun a => (int? a).bind fun j => if r62 j = true then some j else none
def rn2 (ds : List D) : Option (Int × Int) := (ar2 ds).bind fun q => (int? q.1).bind fun i => (int? q.2).bind fun j => if r62 i = true ∧ r62 j = true then some (i, j) else none
theorem rn1_some {ds : List D} {j : Int} (h : rn1 ds = some j) : ds = [.int j] ∧ r62 j = true := by
  unfold rn1 at h
  cases e : ar1 ds with
  | none => rw [e] at h; cases h
  | some a =>
    rw [e, Option.bind_some] at h
    cases k : int? a with
    | none => rw [k] at h; cases h
    | some i =>
      rw [k, Option.bind_some] at h
      by_cases c : r62 i = true
      · rw [if_pos c] at h
        cases h
        rw [ar1_some e, int_some k]
        exact ⟨rfl, c⟩
      · rw [if_neg c] at h
        cases h
theorem rn2_some {ds : List D} {i j : Int} (h : rn2 ds = some (i, j)) : ds = [.int i, .int j] ∧ r62 i = true ∧ r62 j = true := by
  unfold rn2 at h
  cases e : ar2 ds with
  | none => rw [e] at h; cases h
  | some q =>
    obtain ⟨a, b⟩ := q
    rw [e, Option.bind_some] at h
    cases k : int? a with
    | none => simp only [k, Option.bind_none] at h; cases h
    | some i =>
      cases k2 : int? b with
      | none => simp only [k, k2, Option.bind_some, Option.bind_none] at h; cases h
      | some j =>
        simp only [k, k2, Option.bind_some] at h
        by_cases c : r62 i = true ∧ r62 j = true
        · rw [if_pos c] at h
          cases h
          rw [ar2_some e, int_some k, int_some k2]
          exact ⟨rfl, c⟩
        · rw [if_neg c] at h
          cases h
def iR1 (f : FA) : FA := fun e => (f e).bind fun p => match rn1 p.1 with
  | some j => .ok (rangeD 0 j.toNat, p.2)
  | none => .err
def iR2 (f : FA) : FA := fun e => (f e).bind fun p => match rn2 p.1 with
  | some q => .ok (rangeD q.1 (q.2 - q.1).toNat, p.2)
  | none => .err
theorem vi_range1 {p : Pos} {f : FA} (hg : Gl X "range") (hm : X.mg "range" = none) (ha : PA X [a] (rA X.K X.mg W f)) (hs : starEach [a] X.env = [(false, eval a X.env)] := by rfl) : PI X tg (.Call (.Name "range" p) [a] [] pos) (rI X.K X.mg W (iR1 f)) :=
  (pi_range1 hg hm ha hs).imp fun σ H Q ⟨A, e, r, p⟩ => by
    refine rd_seq r p fun ds e1 x H1 _ r1 s1 d1 p1 => ?_
    cases q : rn1 ds with
    | none => simp only [q] at p1; exact p1.elim
    | some j =>
      simp only [q] at p1
      obtain ⟨rfl, c⟩ := rn1_some q
      obtain ⟨v, rfl, h⟩ := den1 d1
      rw [den_int h]
      exact ⟨j, rfl, (r62_ok c).1, (r62_ok c).2, p1 _ _ r1 (Same.refl _) jd_range⟩
theorem vi_range2 {b : Expr} {p : Pos} {f : FA} (hg : Gl X "range") (hm : X.mg "range" = none) (ha : PA X [a, b] (rA X.K X.mg W f)) (hs : starEach [a, b] X.env = [(false, eval a X.env), (false, eval b X.env)] := by rfl) (hs2 : starEach [b] X.env = [(false, eval b X.env)] := by rfl) :
    PI X tg (.Call (.Name "range" p) [a, b] [] pos) (rI X.K X.mg W (iR2 f)) :=
  (pi_range2 hg hm ha hs hs2).imp fun σ H Q ⟨A, e, r, p⟩ => by
    refine rd_seq r p fun ds e1 x H1 _ r1 s1 d1 p1 => ?_
    cases q : rn2 ds with
    | none => simp only [q] at p1; exact p1.elim
    | some ij =>
      obtain ⟨i, j⟩ := ij
      simp only [q] at p1
      obtain ⟨rfl, c, c'⟩ := rn2_some q
      obtain ⟨v, v', rfl, h, h'⟩ := den2 d1
      rw [den_int h, den_int h']
      exact ⟨i, j, rfl, ⟨(r62_ok c).1, (r62_ok c).2, (r62_ok c').1, (r62_ok c').2⟩, p1 _ _ r1 (Same.refl _) jd_range⟩
/-- the signs of a text -/
def signs (x : Str) : List D := x.cps.toList.map fun c => D.str ⟨#[c]⟩
theorem jd_str {K : PySem.W.Frag} {Hh : Hp} {x : Str} : JD K Hh (signs x) (Its x) := fun Hv H s1 s2 i => by
  have hl : (signs x).length = x.cps.size := by unfold signs; rw [List.length_map]; simp
  refine ⟨fun hi => ?_, fun d hd y H' z => ?_, fun hi => ?_⟩
  · rw [hl] at hi; exact hi
  · obtain ⟨rfl, c, hc, rfl⟩ := z
    unfold signs at hd
    rw [List.getElem?_map, Array.getElem?_toList, hc] at hd
    simp only [Option.map_some, Option.some.injEq] at hd
    subst hd
    exact ⟨Same.refl _, Fresh.flat (by simp only [Den])⟩
  · rw [hl] at hi; exact hi
def iS (f : FE) : FA := fun e => (f e).bind fun p => match p.1 with
  | .str x => .ok (signs x, p.2)
  | _ => .err
theorem vi_str (ha : PE X a (rE X.K X.mg W fa)) : PI X tg a (rI X.K X.mg W (iS fa)) :=
  (pi_str ha).imp fun σ H Q ⟨A, e, r, p⟩ => by
    refine rd_seq r p fun d e1 x H1 _ r1 s1 d1 p1 => ?_
    cases d with
    | str z => exact ⟨z, den_str d1, p1 _ _ r1 (Same.refl _) jd_str⟩
    | _ => exact p1.elim
/-- zip of two lists, enumerate of a list -/
def zipD : List D → List D → List D
  | a :: as, b :: bs => .tup [a, b] :: zipD as bs
  | _, _ => []
theorem zipD_get : ∀ {as bs : List D} {i : Nat} {d : D}, (zipD as bs)[i]? = some d → ∃ a b, as[i]? = some a ∧ bs[i]? = some b ∧ d = .tup [a, b]
  | [], _, _, _, h => by simp [zipD] at h
  | _ :: _, [], _, _, h => by simp [zipD] at h
  | a :: as, b :: bs, 0, d, h => by
    simp only [zipD, List.getElem?_cons_zero, Option.some.injEq] at h
    exact ⟨a, b, rfl, rfl, h.symm⟩
  | a :: as, b :: bs, i + 1, d, h => by
    simp only [zipD, List.getElem?_cons_succ] at h ⊢
    exact zipD_get h
theorem zipD_length : ∀ as bs : List D, (zipD as bs).length = min as.length bs.length
  | [], _ => by simp [zipD]
  | _ :: _, [] => by simp [zipD]
  | a :: as, b :: bs => by simp only [zipD, List.length_cons, zipD_length as bs]; omega
theorem fresh_tup2 {K : PySem.W.Frag} {Hh H : Hp} {d d' : D} {v v' : V} {p : Addr} (hp : H p = none) (h : Den K Hh d v) (h' : Den K Hh d' v') : Fresh K Hh H (upd H p (.tup [v, v'])) (.tup [d, d']) (.ref p) :=
  Fresh.tup hp (DenL.cons h (DenL.cons h' DenL.nil))
theorem jd_zip {K : PySem.W.Frag} {Hh : Hp} {as bs : List D} {vs us : List V} {p q : Addr} (h1 : SqL K Hh p vs) (h2 : DenL K Hh as vs) (h3 : SqL K Hh q us) (h4 : DenL K Hh bs us) : JD K Hh (zipD as bs) (Itz K p q) := fun Hv H s1 s2 i => by
  have k1 : SqL K H p vs := (s1.trans s2).seq h1
  have k3 : SqL K H q us := (s1.trans s2).seq h3
  refine ⟨fun hi => ?_, fun d hd x H' y => ?_, fun hi => ?_⟩
  · rw [zipD_length, h2.length, h4.length] at hi
    have i1 : i < vs.length := by omega
    have i2 : i < us.length := by omega
    exact ⟨vs, us, vs[i], us[i], k1, k3, List.getElem?_eq_getElem i1, List.getElem?_eq_getElem i2⟩
  · obtain ⟨a, b, ha, hb, rfl⟩ := zipD_get hd
    obtain ⟨T, x1, x2, rfl, nT, rfl, f1, f2⟩ := y
    obtain ⟨v, hv, dv⟩ := h2.get ha
    obtain ⟨u, hu, du⟩ := h4.get hb
    have e1 := f1 vs k1
    rw [hv] at e1
    cases e1
    have e2 := f2 us k3
    rw [hu] at e2
    cases e2
    exact ⟨same_upd nT, fresh_tup2 nT (Den.mono s1 _ _ dv) (Den.mono s1 _ _ du)⟩
  · rw [zipD_length, h2.length, h4.length] at hi
    refine ⟨vs, us, k1, k3, ?_⟩
    omega
def lst? : D → Option (List D)
  | .lst ds => some ds
  | .rls ds => some ds
  | _ => none
theorem den_lst? {K : PySem.W.Frag} {H : Hp} {d : D} {ds : List D} {v : V} (h : Den K H d v) (e : lst? d = some ds) : ∃ p vs, v = .ref p ∧ SqL K H p vs ∧ DenL K H ds vs := by
  cases d with
  | lst es =>
    simp only [lst?, Option.some.injEq] at e
    subst e
    simp only [Den] at h
    obtain ⟨p, vs, rfl, h1, h2⟩ := h
    exact ⟨p, vs, rfl, .inl (.inl h1), h2⟩
  | rls es =>
    simp only [lst?, Option.some.injEq] at e
    subst e
    simp only [Den] at h
    obtain ⟨p, vs, rfl, h1, h2⟩ := h
    exact ⟨p, vs, rfl, h1, h2⟩
  | _ => cases e
def zp2 (ds : List D) : Option (List D × List D) := (ar2 ds).bind fun q => (lst? q.1).bind fun as => (lst? q.2).bind fun bs => some (as, bs)
theorem zp2_some {ds as bs : List D} (h : zp2 ds = some (as, bs)) : ∃ a b, ds = [a, b] ∧ lst? a = some as ∧ lst? b = some bs := by
  unfold zp2 at h
  cases e : ar2 ds with
  | none => rw [e] at h; cases h
  | some q =>
    obtain ⟨a, b⟩ := q
    rw [e, Option.bind_some] at h
    cases k : lst? a with
    | none => simp only [k, Option.bind_none] at h; cases h
    | some i =>
      cases k2 : lst? b with
      | none => simp only [k, k2, Option.bind_some, Option.bind_none] at h; cases h
      | some j =>
        simp only [k, k2, Option.bind_some, Option.some.injEq, Prod.mk.injEq] at h
        obtain ⟨rfl, rfl⟩ := h
        exact ⟨a, b, ar2_some e, k, k2⟩
def iZ (f : FA) : FA := fun e => (f e).bind fun p => match zp2 p.1 with
  | some q => .ok (zipD q.1 q.2, p.2)
  | none => .err
theorem vi_zip {b : Expr} {p tpos : Pos} {elts : List Expr} {kk : Nat} {f : FA} (hg : Gl X "zip") (hm : X.mg "zip" = none) (ha : PA X [a, b] (rA X.K X.mg W f)) (hs : starEach [a, b] X.env = (false, eval a X.env) :: starEach [b] X.env := by rfl)
    (hpl : (backTo pos (starEach [b] X.env)).any (·.1) = false := by rfl) : PI X (.Tuple elts kk tpos) (.Call (.Name "zip" p) [a, b] [] pos) (rI X.K X.mg W (iZ f)) :=
  (pi_zip hg hm ha hs hpl).imp fun σ H Q ⟨A, e, r, p⟩ => by
    refine rd_seq r p fun ds e1 x H1 _ r1 s1 d1 p1 => ?_
    cases z : zp2 ds with
    | none => simp only [z] at p1; exact p1.elim
    | some z' =>
          obtain ⟨as, bs⟩ := z'
          simp only [z] at p1
          obtain ⟨a', b', rfl, ea, eb⟩ := zp2_some z
          obtain ⟨v, v', rfl, h, h'⟩ := den2 d1
          obtain ⟨q, vs, rfl, k1, k2⟩ := den_lst? h ea
          obtain ⟨q', us, rfl, k3, k4⟩ := den_lst? h' eb
          exact ⟨q, q', vs, us, rfl, hid_sub.seq k1, hid_sub.seq k3, p1 _ _ r1 (Same.refl _) (jd_zip k1 k2 k3 k4)⟩
def enumD : Nat → List D → List D
  | k, a :: as => .tup [.int (k : Nat), a] :: enumD (k + 1) as
  | _, [] => []
theorem enumD_get : ∀ {as : List D} {k i : Nat} {d : D}, (enumD k as)[i]? = some d → ∃ a, as[i]? = some a ∧ d = .tup [.int ((k + i : Nat) : Int), a]
  | [], _, _, _, h => by simp [enumD] at h
  | a :: as, k, 0, d, h => by
    simp only [enumD, List.getElem?_cons_zero, Option.some.injEq] at h
    exact ⟨a, rfl, by rw [← h]; simp⟩
  | a :: as, k, i + 1, d, h => by
    simp only [enumD, List.getElem?_cons_succ] at h ⊢
    obtain ⟨b, h1, h2⟩ := enumD_get h
    exact ⟨b, h1, by rw [h2]; congr 2; congr 1; omega⟩
theorem enumD_length : ∀ (as : List D) (k : Nat), (enumD k as).length = as.length
  | [], _ => rfl
  | a :: as, k => by simp only [enumD, List.length_cons, enumD_length as]
theorem jd_enum {K : PySem.W.Frag} {Hh : Hp} {as : List D} {vs : List V} {p : Addr} (h1 : SqL K Hh p vs) (h2 : DenL K Hh as vs) : JD K Hh (enumD 0 as) (Ite K p) := fun Hv H s1 s2 i => by
  have k1 : SqL K H p vs := (s1.trans s2).seq h1
  refine ⟨fun hi => ?_, fun d hd x H' y => ?_, fun hi => ?_⟩
  · rw [enumD_length, h2.length] at hi
    exact ⟨vs, vs[i], k1, List.getElem?_eq_getElem hi⟩
  · obtain ⟨a, ha, rfl⟩ := enumD_get hd
    obtain ⟨T, x1, rfl, nT, rfl, f1⟩ := y
    obtain ⟨v, hv, dv⟩ := h2.get ha
    have e1 := f1 vs k1
    rw [hv] at e1
    cases e1
    exact ⟨same_upd nT, fresh_tup2 nT (by simp only [Den, Nat.zero_add]) (Den.mono s1 _ _ dv)⟩
  · rw [enumD_length, h2.length] at hi
    exact ⟨vs, k1, hi⟩
def en1 (ds : List D) : Option (List D) := (ar1 ds).bind lst?
theorem en1_some {ds as : List D} (h : en1 ds = some as) : ∃ a, ds = [a] ∧ lst? a = some as := by
  unfold en1 at h
  cases e : ar1 ds with
  | none => rw [e] at h; cases h
  | some q =>
    rw [e, Option.bind_some] at h
    exact ⟨q, ar1_some e, h⟩
def iEn (f : FA) : FA := fun e => (f e).bind fun p => match en1 p.1 with
  | some as => .ok (enumD 0 as, p.2)
  | none => .err
theorem vi_enum {p tpos : Pos} {elts : List Expr} {kk : Nat} {f : FA} (hg : Gl X "enumerate") (hm : X.mg "enumerate" = none) (ha : PA X [a] (rA X.K X.mg W f)) (hs : starEach [a] X.env = [(false, eval a X.env)] := by rfl) :
    PI X (.Tuple elts kk tpos) (.Call (.Name "enumerate" p) [a] [] pos) (rI X.K X.mg W (iEn f)) :=
  (pi_enum hg hm ha hs).imp fun σ H Q ⟨A, e, r, p⟩ => by
    refine rd_seq r p fun ds e1 x H1 _ r1 s1 d1 p1 => ?_
    cases z : en1 ds with
    | none => simp only [z] at p1; exact p1.elim
    | some as =>
        simp only [z] at p1
        obtain ⟨a', rfl, ea⟩ := en1_some z
        obtain ⟨v, rfl, h⟩ := den1 d1
        obtain ⟨q, vs, rfl, k1, k2⟩ := den_lst? h ea
        exact ⟨q, vs, rfl, hid_sub.seq k1, p1 _ _ r1 (Same.refl _) (jd_enum k1 k2)⟩

/-! ### for -/
def forF (G : TD) (b : FS) : List D → En → R Fl
  | [], e => .ok (.nx e)
  | d :: ds, e => match G d e with
    | none => .err
    | some e1 => match b e1 with
      | .ok (.nx e2) => forF G b ds e2
      | .ok (.ct e2) => forF G b ds e2
      | .ok (.bk e2) => .ok (.nx e2)
      | .ok (.rt d e2) => .ok (.rt d e2)
      | .ok (.rn ds e2) => .ok (.rn ds e2)
      | .exc c e2 => .exc c e2
      | .err => .err
def sFor (it : FA) (G : TD) (b : FS) : FS := fun e => (it e).bind fun p => forF G b p.1 p.2
theorem vs_for {iter : Expr} {body : List Stmt} {it : FA} {G : TD} {js : List Nat} {b : FS} (hp : PassesOwn (model X.prog X.w) X.A X.env X.xe) (hc : X.calm = true) (hi : PI X tg iter (rI X.K X.mg W it)) (hg : PG X tg (rdG X.K G js)) (hb : PSs X body (rdS X.K X.mg W b))
    (hs : ∀ x, foldedSetIterable iter X.env x = pure x := by intro _; rfl) : PS X (.For tg iter body [] pos) (rdS X.K X.mg W (sFor it G b)) :=
  (ps_for hp hc hi hg hb hs).imp fun D σ H ⟨A, e, r, p⟩ => by
    refine rd_seqS r p fun items e1 J H1 _ r1 s1 jd p1 => ?_
    refine ⟨fun i m σ' H' => m = items.length - i ∧ ∃ e', Rep X.K A H' σ' e' ∧ Same (hid A σ e1 H1) (hid A σ' e' H') ∧ PostS X.K X.mg W D A σ' e' H' (forF G b (items.drop i) e'),
      ⟨items.length, by simp, e1, r1, Same.refl _, p1⟩, ?_⟩
    rintro i m σ' H' ⟨rfl, e', r', s', p'⟩
    obtain ⟨j1, j2, j3⟩ := jd _ H' s' hid_sub i
    by_cases hi : i < items.length
    · refine .inr ⟨j1 hi, fun σ2 H2 => ∃ e2, Rep X.K A H2 σ2 e2 ∧ Same (hid A σ e1 H1) (hid A σ2 e2 H2) ∧ PostS X.K X.mg W D A σ2 e2 H2 (forF G b (items.drop (i + 1)) e2), fun σ2 H2 ⟨e2, q1, q2, q3⟩ => ⟨items.length - (i + 1), by omega, rfl, e2, q1, q2, q3⟩, fun x H2 y => ?_⟩
      have hd : items[i]? = some items[i] := List.getElem?_eq_getElem hi
      obtain ⟨sy, fy⟩ := j2 _ hd x H2 y
      have r2 := r'.grow sy
      have dx := fy (hid A σ' e' H2) (hid_same sy) fun _ _ a b => r'.seen a b
      rw [List.drop_eq_getElem_cons hi] at p'
      unfold forF at p'
      cases hG : G items[i] e' with
      | none => rw [hG] at p'; exact p'.elim
      | some e2 =>
        rw [hG] at p'
        refine ⟨A, e', items[i], r2, dx, e2, hG, fun σ3 r3 s3 _ _ => ?_⟩
        have s13 : Same (hid A σ e1 H1) (hid A σ3 e2 H2) := s'.trans ((hid_same sy).trans s3)
        have p3 := PostS.shift (σ1 := σ3) (e1 := e2) (H1 := H2) ((hid_same sy).trans s3) p'
        refine ⟨A, e2, r3, ?_⟩
        revert p3
        dsimp only
        cases b e2 with
        | ok f =>
          cases f with
          | nx e4 => exact fun p3 σ4 H4 r4 s4 => ⟨e4, r4, s13.trans s4, PostS.shift s4 p3⟩
          | ct e4 => exact fun p3 σ4 H4 r4 s4 => ⟨e4, r4, s13.trans s4, PostS.shift s4 p3⟩
          | bk e4 => exact fun p3 => p3
          | rt d e4 => exact fun p3 => p3
          | rn ds e4 => exact fun p3 => p3
        | exc c e4 => exact fun p3 => p3
        | err => exact fun p3 => p3
    · refine .inl ⟨j3 (by omega), ?_⟩
      rw [List.drop_eq_nil_of_le (by omega)] at p'
      exact p' σ' H' r' (Same.refl _)
/-! ### while -/
def whF (c : FT) (b : FS) : Nat → En → R Fl
  | 0, _ => .err
  | n + 1, e => match c e with
    | .ok (true, e1) => (match b e1 with
      | .ok (.nx e2) => whF c b n e2
      | .ok (.ct e2) => whF c b n e2
      | .ok (.bk e2) => .ok (.nx e2)
      | .ok (.rt d e2) => .ok (.rt d e2)
      | .ok (.rn ds e2) => .ok (.rn ds e2)
      | .exc c e2 => .exc c e2
      | .err => .err)
    | .ok (false, e1) => .ok (.nx e1)
    | .exc c e1 => .exc c e1
    | .err => .err
theorem vs_while {c : Expr} {body : List Stmt} {fc : FT} {b : FS} (n : Nat) (hp : PassesOwn (model X.prog X.w) X.A X.env X.xe) (hc : PT X c (rT X.K X.mg W fc)) (hb : PSs X body (rdS X.K X.mg W b)) : PS X (.While c body [] pos) (rdS X.K X.mg W (whF fc b n)) :=
  (ps_while hp hc hb).imp fun D σ H ⟨A, e, r, p⟩ => by
    refine ⟨fun m σ' H' => ∃ e', Rep X.K A H' σ' e' ∧ PostS X.K X.mg W D A σ' e' H' (whF fc b m e'), ⟨n, e, r, p⟩, ?_⟩
    rintro m σ' H' ⟨e', r', p'⟩
    refine ⟨A, e', r', ?_⟩
    cases m with
    | zero => exact p'.elim
    | succ m =>
      unfold whF at p'
      revert p'
      cases fc e' with
      | ok z =>
        obtain ⟨k, e1⟩ := z
        cases k with
        | false =>
          intro p' k H1 r1 s1 hk
          subst hk
          exact iteF (p' σ' H1 r1 s1)
        | true =>
          intro p' k H1 r1 s1 hk
          subst hk
          have p1 := PostS.shift (σ1 := σ') (e1 := e1) (H1 := H1) s1 p'
          refine iteT ⟨fun σ2 H2 => ∃ e2, Rep X.K A H2 σ2 e2 ∧ PostS X.K X.mg W D A σ2 e2 H2 (whF fc b m e2), fun σ2 H2 q => ⟨m, Nat.lt_succ_self m, q⟩, A, e1, r1, ?_⟩
          revert p1
          dsimp only
          cases b e1 with
          | ok f =>
            cases f with
            | nx e4 => exact fun p3 σ4 H4 r4 s4 => ⟨e4, r4, PostS.shift s4 p3⟩
            | ct e4 => exact fun p3 σ4 H4 r4 s4 => ⟨e4, r4, PostS.shift s4 p3⟩
            | bk e4 => exact fun p3 => p3
            | rt d e4 => exact fun p3 => p3
            | rn ds e4 => exact fun p3 => p3
          | exc c e4 => exact fun p3 => p3
          | err => exact fun p3 => p3
      | exc c e1 => exact fun p' H1 r1 => p' σ' H1 r1
      | err => exact fun p' => p'
end
end Mi
namespace Mi
open PySem PySem.Spec PyProof.Rows L2

/-! ### list comprehensions -/
def lcF (vs : List Nat) (G : TD) (c : FT) (f : FE) : List D → En → R (List D × En)
  | [], e => .ok ([], e)
  | d :: ds, e => match G d e with
    | none => .err
    | some e1 => match c e1 with
      | .ok (true, e2) => (match f e2 with
        | .ok (y, e3) => (match lcF vs G c f ds (wipeE e3 vs) with
          | .ok (ys, e4) => .ok (y :: ys, e4)
          | _ => .err)
        | _ => .err)
      | .ok (false, e2) => lcF vs G c f ds (wipeE e2 vs)
      | _ => .err
def resE (e0 e : En) : List Nat → En
  | [] => e
  | v :: vs => (resE e0 e vs).set v ((e0[v]?).getD .un)
def okW (e0 : En) (vs : List Nat) : Bool := vs.all fun v => match e0[v]? with
  | some (.own _) => false
  | some (.brw _) => false
  | _ => true
theorem resE_length (e0 e : En) : ∀ vs : List Nat, (resE e0 e vs).length = e.length
  | [] => rfl
  | v :: vs => by unfold resE; rw [List.length_set, resE_length e0 e vs]
theorem resE_out {e0 e : En} {i : Nat} : ∀ {vs : List Nat}, i ∉ vs → (resE e0 e vs)[i]? = e[i]?
  | [], _ => rfl
  | v :: vs, h => by
    simp only [List.mem_cons, not_or] at h
    unfold resE
    rw [List.getElem?_set_ne (fun x => h.1 x.symm), resE_out h.2]
theorem resE_in {e0 e : En} {i : Nat} {s : Sl} : ∀ {vs : List Nat}, i ∈ vs → (resE e0 e vs)[i]? = some s → s = (e0[i]?).getD .un
  | [], h, _ => by simp at h
  | v :: vs, h, hs => by
    unfold resE at hs
    by_cases hi : v = i
    · subst hi
      by_cases hv : v < (resE e0 e vs).length
      · rw [List.getElem?_set_self hv] at hs; cases hs; rfl
      · rw [List.getElem?_eq_none (by simpa using hv)] at hs; cases hs
    · rw [List.getElem?_set_ne hi] at hs
      rcases List.mem_cons.mp h with x | x
      · exact absurd x.symm hi
      · exact resE_in x hs
def nLc (it : FA) (vs : List Nat) (G : TD) (c : FT) (f : FE) : FA := fun e => (it e).bind fun p => match lcF vs G c f p.1 (wipeE p.2 vs) with
  | .ok q => if q.1.length ≤ lim ∧ okW p.2 vs = true then .ok (q.1, resE p.2 q.2 vs) else .err
  | _ => .err
abbrev W0 : WX := fun _ _ _ _ => False
def tYes1 : FT := fun e => .ok (true, e)
theorem wipe_eq {σ σ' : L2.St} {vs : List Nat} (hl : σ'.length = σ.length) (h : ∀ j, j ∉ vs → σ'[j]? = (wipe σ vs)[j]?) : wipe σ' vs = wipe σ vs := by
  apply List.ext_getElem?
  intro j
  by_cases hj : j ∈ vs
  · have key : ∀ (τ : L2.St) (ws : List Nat), j ∈ ws → (wipe τ ws)[j]? = if j < τ.length then some none else none := by
      intro τ ws
      induction ws with
      | nil => intro z; simp at z
      | cons w ws ih =>
        intro z
        unfold wipe
        by_cases hw : w = j
        · subst hw
          by_cases q : w < τ.length
          · rw [List.getElem?_set_self (by rw [wipe_length]; exact q), if_pos q]
          · rw [List.getElem?_eq_none (by rw [List.length_set, wipe_length]; omega), if_neg q]
        · rw [List.getElem?_set_ne hw]
          exact ih ((List.mem_cons.mp z).resolve_left fun x => hw x.symm)
    rw [key _ _ hj, key _ _ hj, hl]
  · rw [wipe_get hj, h j hj]
section
variable {X : Cx} {W : WX} {pos : Pos}
theorem rLc_of {it : FA} {G : TD} {js : List Nat} {c : FT} {f : FE} {vs : List Nat} (hj : ∀ j ∈ js, j ∈ vs) : ∀ (σ : L2.St) (H : Hp) (Q : VK), rN X.K X.mg W (nLc it vs G c f) σ H Q →
    tLc (rI X.K X.mg W it) (rdG X.K G js) (rT X.K X.mg W0 c) (rE X.K X.mg W0 f) vs σ H Q := fun σ H Q ⟨A, e, r, p⟩ => by
  refine rN_seq r p fun items e1 J H1 _ r1 s1 jd p1 => ?_
  intro D hD
  cases q : lcF vs G c f items (wipeE e1 vs) with
  | err => simp only [q] at p1; exact p1.elim
  | exc _ _ => simp only [q] at p1; exact p1.elim
  | ok z =>
    obtain ⟨fi, ef⟩ := z
    simp only [q] at p1
    by_cases hc : fi.length ≤ lim ∧ okW e1 vs = true
    case neg =>
      rw [if_neg hc] at p1
      exact p1.elim
    rw [if_pos hc] at p1
    have od := r1.old hD
    refine ⟨fun i m H' => m = items.length - i ∧ ∃ e' acc accV ys, Rep X.K (A.build D accV) H' (wipe σ vs) e' ∧ DenL X.K (hid (A.build D accV) (wipe σ vs) e' H') acc accV ∧
        Same (hid A σ e1 H1) (hid (A.build D accV) (wipe σ vs) e' H') ∧ lcF vs G c f (items.drop i) e' = .ok (ys, ef) ∧ acc ++ ys = fi, ⟨items.length, by simp, wipeE e1 vs, [], [], fi, ?_, DenL.nil, ?_, q, rfl⟩, ?_⟩
    · exact (r1.build [] hD).part (sub_wipe r1.len)
    · have := (sub_wipe (vs := vs) r1.len).hid (A := A.build D []) (H := upd H1 D (.lst []))
      rw [hid_build r1 hD] at this
      exact this
    rintro i m H' ⟨rfl, e', acc, accV, ys, r', da, s', hl, hf⟩
    obtain ⟨j1, j2, j3⟩ := jd _ H' s' hid_sub i
    by_cases hi : i < items.length
    · refine .inr ⟨j1 hi, fun H2 => ∃ e2 acc accV ys, Rep X.K (A.build D accV) H2 (wipe σ vs) e2 ∧ DenL X.K (hid (A.build D accV) (wipe σ vs) e2 H2) acc accV ∧
        Same (hid A σ e1 H1) (hid (A.build D accV) (wipe σ vs) e2 H2) ∧ lcF vs G c f (items.drop (i + 1)) e2 = .ok (ys, ef) ∧ acc ++ ys = fi, fun H2 h => ⟨items.length - (i + 1), by omega, rfl, h⟩, fun x H2 y => ?_⟩
      have hd : items[i]? = some items[i] := List.getElem?_eq_getElem hi
      obtain ⟨sy, fy⟩ := j2 _ hd x H2 y
      have r2 := r'.grow sy
      have dx := fy (hid (A.build D accV) (wipe σ vs) e' H2) (hid_same sy) fun _ _ a b => r'.seen a b
      rw [List.drop_eq_getElem_cons hi] at hl
      unfold lcF at hl
      cases hG : G items[i] e' with
      | none => rw [hG] at hl; cases hl
      | some e2 =>
        rw [hG] at hl
        dsimp only at hl
        refine ⟨A.build D accV, e', items[i], r2, dx, e2, hG, fun σ2 r3 s3 l3 k3 => ?_⟩
        have we : wipe σ2 vs = wipe σ vs := wipe_eq (l3.trans (wipe_length σ vs)) fun j h => k3 j fun z => h (hj j z)
        refine ⟨we, A.build D accV, e2, r3, ?_⟩
        have s13 : Same (hid A σ e1 H1) (hid (A.build D accV) σ2 e2 H2) := s'.trans ((hid_same sy).trans s3)
        have da3 := DenL.mono ((hid_same sy).trans s3) _ _ da
        revert hl
        cases c e2 with
        | err => exact fun hl => nomatch hl
        | exc _ _ => exact fun hl => nomatch hl
        | ok z =>
          obtain ⟨k, e4⟩ := z
          intro hl b H4 r4 s4 hb
          subst hb
          cases b with
          | false =>
            refine iteF ⟨wipeE e4 vs, acc, accV, ys, ?_, ?_, ?_, hl, hf⟩
            · rw [← we]; exact r4.part (sub_wipe r4.len)
            · rw [← we]; exact DenL.mono (s4.trans (sub_wipe r4.len).hid) _ _ da3
            · rw [← we]; exact s13.trans (s4.trans (sub_wipe r4.len).hid)
          | true =>
            refine iteT ⟨A.build D accV, e4, r4, ?_⟩
            revert hl
            dsimp only
            cases f e4 with
            | err => exact fun hl => nomatch hl
            | exc _ _ => exact fun hl => nomatch hl
            | ok z =>
              obtain ⟨y1, e5⟩ := z
              dsimp only
              intro hl yv H5 r5 s5 dy
              cases hr : lcF vs G c f (items.drop (i + 1)) (wipeE e5 vs) with
              | err => rw [hr] at hl; cases hl
              | exc _ _ => rw [hr] at hl; cases hl
              | ok z =>
                obtain ⟨ys', e6⟩ := z
                rw [hr] at hl
                cases hl
                have da5 := DenL.mono (s4.trans s5) _ _ da3
                have hz : acc.length < lim := by
                  have := congrArg List.length hf
                  rw [List.length_append, List.length_cons] at this
                  have := hc.1
                  omega
                have hb := hid_bput (ws := accV ++ [yv]) (o := .lst (accV ++ [yv])) r5
                refine ⟨accV, r5.notOwn.2.2, by rw [← da5.length, ← lim_eq]; exact hz, wipeE e5 vs, acc ++ [y1], accV ++ [yv], ys', ?_, ?_, ?_, hr, by rw [List.append_assoc]; exact hf⟩
                · rw [← we]; exact (r5.bput (accV ++ [yv])).part (sub_wipe r5.len)
                · rw [← we]
                  refine DenL.mono (sub_wipe r5.len).hid _ _ ?_
                  rw [hb]
                  exact DenL.append da5 (DenL.cons dy DenL.nil)
                · rw [← we]
                  refine (s13.trans (s4.trans s5)).trans ?_
                  rw [← hb]
                  exact (sub_wipe r5.len).hid
    · refine .inl ⟨j3 (by omega), ?_⟩
      rw [List.drop_eq_nil_of_le (by omega)] at hl
      unfold lcF at hl
      injection hl with hl3
      injection hl3 with hy hee
      subst hy
      rw [List.append_nil] at hf
      subst hf
      rw [← hee] at p1
      have hlen : e'.length = e1.length := by rw [← r'.len, wipe_length, r1.len]
      obtain ⟨rv, sv⟩ := r'.vals (σ' := σ) (e' := resE e1 e' vs) (by rw [resE_length, hlen, ← r1.len]) fun j s hs => by
        by_cases hv : j ∈ vs
        · have es := resE_in hv hs
          cases h1 : e1[j]? with
          | none => rw [h1] at es; exact .inl es
          | some s1 =>
            rw [h1] at es
            have ok := (List.all_eq_true.mp hc.2) j hv
            rw [h1] at ok
            cases s1 with
            | un => exact .inl es
            | val d =>
              obtain ⟨v, k1, k2⟩ := r1.val j d h1
              exact .inr (.inr ⟨d, v, es, k1, Den.mono s' _ _ k2⟩)
            | own ds => cases ok
            | brw ds => cases ok
        · rw [resE_out hv] at hs
          exact .inr (.inl ⟨hs, (wipe_get hv).symm⟩)
      exact p1 D accV H' od rv (s'.trans sv) (DenL.mono sv _ _ da)
theorem n_lc {elt tg iter : Expr} {ifs : List Expr} {scope : Scope} {own : List (Str × Nat)} {it : FA} {G : TD} {js : List Nat} {c : FT} {f : FE} (hc : X.calm = true) (hN : X.N.Nodup) (hi : PI X tg iter (rI X.K X.mg W it)) (ok : blkC X.N X.env.scope scope own = true)
    (hg : ∀ (s : Shared) (H : Hp) (C : Addr) (cl : List (Str × Addr)) (fp : List Addr), PG (X.blk s H scope (compEnvC scope cl C X.env) fp) tg (rdG X.K G js))
    (ht : ∀ (s : Shared) (H : Hp) (C : Addr) (cl : List (Str × Addr)) (fp : List Addr), PTs (X.blk s H scope (compEnvC scope cl C X.env) fp) ifs (rT X.K X.mg W0 c))
    (he : ∀ (s : Shared) (H : Hp) (C : Addr) (cl : List (Str × Addr)) (fp : List Addr), PE (X.blk s H scope (compEnvC scope cl C X.env) fp) elt (rE X.K X.mg W0 f))
    (hj : ∀ j ∈ js, j ∈ own.map (·.2) := by decide) (hs : ∀ x, foldedSetIterable iter X.env x = pure x := by intro _; rfl) :
    PE X (.ListComp elt [⟨tg, iter, ifs, 0⟩] scope pos) (rN X.K X.mg W (nLc it (own.map (·.2)) G c f)) :=
  (pe_lc hc hN hi (blkOk_by ok) hg ht he hs).imp (rLc_of hj)
theorem vts_nil : PTs X [] (rT X.K X.mg W tYes1) := ⟨fun pins s σ H Q I ⟨A, e, r, p⟩ => pts_nil.run pins s σ H Q I (p true H r (Same.refl _) rfl)⟩
theorem vts_one {c : Expr} {fc : FT} (h : PT X c (rT X.K X.mg W fc)) : PTs X [c] (rT X.K X.mg W fc) := pts_one h
/-- name = [..] -/
theorem rSetN_of {i : Nat} {te : TE} {f : FA} (h : ∀ σ H Q, rN X.K X.mg W f σ H Q → te σ H Q) : ∀ (D : Ends) σ H, rdS X.K X.mg W (sNew i f) D σ H → tAsg te (gName i) D σ H := fun D σ H ⟨A, e, r, p⟩ => by
  refine h σ H _ ⟨A, e, r, ?_⟩
  unfold sNew at p
  cases q : f e with
  | ok z =>
    obtain ⟨ds, e1⟩ := z
    rw [q] at p
    intro a vs H' o r' s' d'
    have p2 : PostS X.K X.mg W D A σ e H (if i < e1.length then .ok (.nx (e1.set i (.own ds))) else .err) := p
    by_cases h : i < e1.length
    · rw [if_pos h] at p2
      obtain ⟨rc, sc⟩ := r'.claim (ds := ds) (i := i) (s := .own ds) o d' rfl h
      exact p2 _ _ rc (s'.trans sc)
    · rw [if_neg h] at p2
      exact p2.elim
  | exc c e1 =>
    rw [q] at p
    exact fun H' r' => p σ H' r'
  | err => rw [q] at p; exact p
theorem rSetL_of {i : Nat} {te : TE} {f : FA} (h : ∀ σ H Q, rN X.K X.mg W f σ H Q → te σ H Q) : ∀ (D : Ends) σ H, rdS X.K X.mg W (sSet i (eL f)) D σ H → tAsg te (gName i) D σ H := fun D σ H ⟨A, e, r, p⟩ => by
  refine h σ H _ ⟨A, e, r, ?_⟩
  unfold sSet eL at p
  cases q : f e with
  | ok z =>
    obtain ⟨ds, e1⟩ := z
    rw [q] at p
    intro a vs H' o r' s' d'
    obtain ⟨rb, sb, hb⟩ := r'.built o
    have dl : Den X.K (hid A σ e1 H') (.lst ds) (.ref a) := by
      simp only [Den]
      exact ⟨a, vs, rfl, hb, DenL.mono sb _ _ d'⟩
    exact p _ H' (rb.set dl) ((s'.trans sb).trans hid_set)
  | exc c e1 =>
    rw [q] at p
    exact fun H' r' => p σ H' r'
  | err => rw [q] at p; exact p
section
variable {i : Nat} {y : Str} {py spos : Pos} {elt tg iter : Expr} {ifs : List Expr} {scope : Scope} {own : List (Str × Nat)} {it : FA} {G : TD} {js : List Nat} {c : FT} {f : FE}
theorem vs_setLc (i : Nat) (hc : X.calm = true) (hN : X.N.Nodup) (hi : PI X tg iter (rI X.K X.mg W it)) (ok : blkC X.N X.env.scope scope own = true)
    (hg : ∀ (s : Shared) (H : Hp) (C : Addr) (cl : List (Str × Addr)) (fp : List Addr), PG (X.blk s H scope (compEnvC scope cl C X.env) fp) tg (rdG X.K G js))
    (ht : ∀ (s : Shared) (H : Hp) (C : Addr) (cl : List (Str × Addr)) (fp : List Addr), PTs (X.blk s H scope (compEnvC scope cl C X.env) fp) ifs (rT X.K X.mg W0 c))
    (he : ∀ (s : Shared) (H : Hp) (C : Addr) (cl : List (Str × Addr)) (fp : List Addr), PE (X.blk s H scope (compEnvC scope cl C X.env) fp) elt (rE X.K X.mg W0 f))
    (hsw : swapsWith (.ListComp elt [⟨tg, iter, ifs, 0⟩] scope pos) (some (.Name y py)) spos.line X.env = pure true) (hy : X.N[i]? = some y := by rfl) (hyl : X.env.scope.names.lookup y = some .local := by rfl)
    (hj : ∀ j ∈ js, j ∈ own.map (·.2) := by decide) (hs : ∀ x, foldedSetIterable iter X.env x = pure x := by intro _; rfl) :
    PS X (.Assign [.Name y py] (.ListComp elt [⟨tg, iter, ifs, 0⟩] scope pos) spos) (rdS X.K X.mg W (sSet i (eL (nLc it (own.map (·.2)) G c f)))) :=
  (ps_setLc hc hN hy hyl hsw hi (blkOk_by ok) hg ht he hs).imp (rSetL_of (rLc_of hj))
theorem vs_newLc (i : Nat) (hc : X.calm = true) (hN : X.N.Nodup) (hi : PI X tg iter (rI X.K X.mg W it)) (ok : blkC X.N X.env.scope scope own = true)
    (hg : ∀ (s : Shared) (H : Hp) (C : Addr) (cl : List (Str × Addr)) (fp : List Addr), PG (X.blk s H scope (compEnvC scope cl C X.env) fp) tg (rdG X.K G js))
    (ht : ∀ (s : Shared) (H : Hp) (C : Addr) (cl : List (Str × Addr)) (fp : List Addr), PTs (X.blk s H scope (compEnvC scope cl C X.env) fp) ifs (rT X.K X.mg W0 c))
    (he : ∀ (s : Shared) (H : Hp) (C : Addr) (cl : List (Str × Addr)) (fp : List Addr), PE (X.blk s H scope (compEnvC scope cl C X.env) fp) elt (rE X.K X.mg W0 f))
    (hsw : swapsWith (.ListComp elt [⟨tg, iter, ifs, 0⟩] scope pos) (some (.Name y py)) spos.line X.env = pure true) (hy : X.N[i]? = some y := by rfl) (hyl : X.env.scope.names.lookup y = some .local := by rfl)
    (hj : ∀ j ∈ js, j ∈ own.map (·.2) := by decide) (hs : ∀ x, foldedSetIterable iter X.env x = pure x := by intro _; rfl) :
    PS X (.Assign [.Name y py] (.ListComp elt [⟨tg, iter, ifs, 0⟩] scope pos) spos) (rdS X.K X.mg W (sNew i (nLc it (own.map (·.2)) G c f))) :=
  (ps_setLc hc hN hy hyl hsw hi (blkOk_by ok) hg ht he hs).imp (rSetN_of (rLc_of hj))
end

/-! ### raise -/
def sRaise (c : Str) : FS := fun e => .exc c e
theorem vs_raise {x m : Str} {j : Nat} {p p2 cp : Pos} {B newId initId : String} {bmB : List Value} {C : Addr} (hc : X.calm = true) (tk : Takes X W) (F : ExcBaseFacts B newId initId bmB) (q : PySem.W.excIn X.K C bmB newId = true) (gC : X.mg x = some (.ref C)) (kC : PySem.W.keepIn X.K (.ref C) = true)
    (r : Raises X (.ref C)) (hg : Gl X x) (hdb : (x == ("__debug__" : Str)) = false := by decide) : PS X (.Raise (some (.Call (.Name x p) [.Constant (.str m) j p2] [] cp)) none pos) (rdS X.K X.mg W (sRaise x)) :=
  (ps_raise hc tk (pmk_own F q gC kC r hg hdb)).imp fun D σ H ⟨A, e, rp, h⟩ => by
    obtain ⟨u, hu, w⟩ := h σ H rp
    rw [gC] at hu
    cases hu
    exact w

/-! ### calls of the text's defs -/
/-- a new list comes back -/
def CallN (K : PySem.W.Frag) (Hv H : Hp) (Q : VK) (ds : List D) : Prop := ∀ p us H', Same H H' → H p = none → H' p = some (.lst us) → (∀ Hw : Hp, Same Hv Hw → (∀ a o, a ≠ p → H' a = some o → H a = none → Hw a = some o) → DenL K Hw ds us) → Q (.ref p) H'
def lstOf (fr : Bool) : D → Option (List D)
  | .lst ds => if fr = true then some ds else none
  | _ => none
def CallP (K : PySem.W.Frag) (mg : Str → Option Value) (fr : Bool) (Hv H : Hp) (Q : VK) (E : XK) : R D → Prop
  | .ok d => (match lstOf fr d with
    | some ds => CallN K Hv H Q ds
    | none => ∀ v H', Same H H' → Fresh K Hv H H' d v → Q v H')
  | .exc c _ => ∀ H', Same H H' → ∃ u, mg c = some u ∧ E u none H'
  | .err => False
theorem lstOf_some {fr : Bool} {d : D} {ds : List D} (h : lstOf fr d = some ds) : d = .lst ds ∧ fr = true := by
  cases d with
  | lst es =>
    simp only [lstOf] at h
    by_cases c : fr = true
    · rw [if_pos c] at h
      cases h
      exact ⟨rfl, c⟩
    · rw [if_neg c] at h
      cases h
  | _ => cases h
/-- whoever takes it as a value -/
theorem CallP.of {K : PySem.W.Frag} {mg : Str → Option Value} {fr : Bool} {Hv H : Hp} {Q : VK} {E : XK} {d : D} (h : ∀ v H', Same H H' → Fresh K Hv H H' d v → Q v H') : CallP K mg fr Hv H Q E (.ok d) := by
  cases k : lstOf fr d with
  | none => simp only [CallP, k]; exact h
  | some ds =>
    simp only [CallP, k]
    obtain ⟨rfl, _⟩ := lstOf_some k
    exact fun p us H' s hp hp' f => h _ _ s fun Hw s1 s2 => by
      simp only [Den]
      exact ⟨p, us, rfl, s2 p _ hp' hp, f Hw s1 fun a o _ h1 h2 => s2 a o h1 h2⟩
def spA (K : PySem.W.Frag) (mg : Str → Option Value) (n : Nat) (fr : Bool) (fn : List D → R D) : Sp := fun vs H Q E => ∃ ds Hv, Same Hv H ∧ DenL K Hv ds vs ∧ ds.length = n ∧ CallP K mg fr Hv H Q E (fn ds)
def eCall (n : Nat) (fn : List D → R D) (f : FA) : FE := fun e => (f e).bind fun p => if p.1.length = n then (match fn p.1 with
  | .ok d => .ok (d, p.2)
  | .exc c _ => .exc c p.2
  | .err => .err) else .err
def nCall (n : Nat) (fn : List D → R D) (f : FA) : FA := fun e => (f e).bind fun p => if p.1.length = n then (match fn p.1 with
  | .ok d => (match lstOf true d with
    | some ds => .ok (ds, p.2)
    | none => .err)
  | .exc c _ => .exc c p.2
  | .err => .err) else .err
section
variable {k n : Nat} {fr : Bool} {fa : Addr} {fd : FuncData} {ps : List Str} {fn : List D → R D} {x : Str} {p : Pos} {a : Expr} {es : List Expr} {f : FA}
theorem v_call (F : FnOk X.prog X.w X.K X.mg X.base (L2.CX X.prog X.w) k fa fd ps (spA X.K X.mg n fr fn)) (hr : Room k X.A) (tk : Takes X W) (hk : PySem.W.keepIn X.K (.ref fa) = true) (hb : Binds X.K fd ps []) (hm : X.mg x = some (.ref fa)) (hg : Gl X x)
    (ha : PA X (a :: es) (rA X.K X.mg W f)) (hdb : (x == ("__debug__" : Str)) = false := by decide) (he : starEach (a :: es) X.env = (false, eval a X.env) :: starEach es X.env := by rfl) (hpl : (backTo pos (starEach es X.env)).any (·.1) = false := by rfl) :
    PE X (.Call (.Name x p) (a :: es) [] pos) (rE X.K X.mg W (eCall n fn f)) :=
  (pe_callS (E := WE W) F hr hg hm hk hb (fun σ => passAt tk σ) ha hdb he hpl).imp fun σ H Q ⟨A, e, r, q⟩ => by
    refine rd_seq r q fun ds e1 vs H1 _ r1 s1 d1 p1 => ?_
    by_cases hl : ds.length = n
    · rw [if_pos hl] at p1
      refine ⟨ds, hid A σ e1 H1, hid_sub, d1, hl, ?_⟩
      revert p1
      dsimp only
      cases fn ds with
      | ok d => exact fun p1 => CallP.of fun v H' s fr => fin r1 p1 s fr
      | exc c z => exact fun p1 H' s => p1 H' (r1.grow s)
      | err => exact fun p1 => p1
    · rw [if_neg hl] at p1
      exact p1.elim
/-- a def that hands back a new list -/
theorem n_call (F : FnOk X.prog X.w X.K X.mg X.base (L2.CX X.prog X.w) k fa fd ps (spA X.K X.mg n true fn)) (hr : Room k X.A) (tk : Takes X W) (hk : PySem.W.keepIn X.K (.ref fa) = true) (hb : Binds X.K fd ps []) (hm : X.mg x = some (.ref fa)) (hg : Gl X x)
    (ha : PA X (a :: es) (rA X.K X.mg W f)) (hdb : (x == ("__debug__" : Str)) = false := by decide) (he : starEach (a :: es) X.env = (false, eval a X.env) :: starEach es X.env := by rfl) (hpl : (backTo pos (starEach es X.env)).any (·.1) = false := by rfl) :
    PE X (.Call (.Name x p) (a :: es) [] pos) (rN X.K X.mg W (nCall n fn f)) :=
  (pe_callS (E := WE W) F hr hg hm hk hb (fun σ => passAt tk σ) ha hdb he hpl).imp fun σ H Q ⟨A, e, r, q⟩ => by
    refine rN_seq r q fun ds e1 vs H1 _ r1 s1 d1 p1 => ?_
    by_cases hl : ds.length = n
    · rw [if_pos hl] at p1
      refine ⟨ds, hid A σ e1 H1, hid_sub, d1, hl, ?_⟩
      revert p1
      dsimp only
      cases fn ds with
      | ok d =>
        dsimp only
        cases k : lstOf true d with
        | none => exact fun p1 => p1.elim
        | some es =>
          simp only [CallP, k]
          intro p1 q us H' s hq hq' hd
          -- the heap without the new list, then the new list
          have s2 : Same H1 (fun b => if b = q then none else H' b) := fun b o h => by
            show (if b = q then none else H' b) = some o
            rw [if_neg (ne_of_none h hq)]
            exact s b o h
          have r2 := r1.grow s2
          have hn2 : (fun b => if b = q then none else H' b : Hp) q = none := if_pos rfl
          have eH : upd (fun b => if b = q then none else H' b) q (.lst us) = H' := by
            funext b
            by_cases hb : b = q
            · subst hb; rw [upd_same, hq']
            · rw [upd_ne hb]
              exact if_neg hb
          have rb := r2.build us hn2
          have hb := hid_build (vs := us) (o := .lst us) r2 hn2
          rw [eH] at rb hb
          refine p1 q us H' (r1.old hq) rb ?_ ?_
          · rw [hb]; exact hid_same s2
          · rw [hb]
            exact hd _ (hid_same s2) fun a o ha h1 h2 => r1.seen (H' := fun b => if b = q then none else H' b) ((if_neg ha).trans h1) h2
      | exc c z => exact fun p1 H' s => p1 H' (r1.grow s)
      | err => exact fun p1 => p1
    · rw [if_neg hl] at p1
      exact p1.elim
end
/-- a def that takes numbers off the list it is handed first -/
def spB (K : PySem.W.Frag) (n : Nat) (fn : List Int → List D → R (D × List Int)) : Sp := fun vs H Q _ => ∃ a ns ds Hv us, vs = .ref a :: us ∧ H a = some (.lst (ns.map V.int)) ∧ Same Hv H ∧ Hv a = none ∧ DenL K Hv ds us ∧ ds.length + 1 = n ∧
  match fn ns ds with
  | .ok q => ∀ v H', (∀ b o, b ≠ a → H b = some o → H' b = some o) → H' a = some (.lst (q.2.map V.int)) → Fresh K Hv H H' q.1 v → Q v H'
  | _ => False
def intsOf : List D → Option (List Int)
  | [] => some []
  | .int i :: ds => (intsOf ds).map (i :: ·)
  | _ :: _ => none
theorem intsOf_some : ∀ {ds : List D} {ns : List Int}, intsOf ds = some ns → ds = ns.map D.int
  | [], ns, h => by simp only [intsOf, Option.some.injEq] at h; subst h; rfl
  | d :: ds, ns, h => by
    cases d with
    | int i =>
      simp only [intsOf] at h
      cases q : intsOf ds with
      | none => rw [q] at h; cases h
      | some ms =>
        rw [q] at h
        simp only [Option.map_some, Option.some.injEq] at h
        subst h
        rw [intsOf_some q]
        rfl
    | _ => cases h
theorem intsOf_map (ns : List Int) : intsOf (ns.map D.int) = some ns := by
  induction ns with
  | nil => rfl
  | cons n ns ih => simp only [List.map_cons, intsOf, ih, Option.map_some]
theorem denL_ints {K : PySem.W.Frag} {H : Hp} : ∀ {ns : List Int} {vs : List V}, DenL K H (ns.map D.int) vs ↔ vs = ns.map V.int
  | [], vs => by simp only [List.map_nil, DenL]
  | n :: ns, vs => by
    simp only [List.map_cons, DenL, Den]
    constructor
    · rintro ⟨v, r, rfl, rfl, h⟩
      rw [denL_ints.1 h]
    · rintro rfl
      exact ⟨_, _, rfl, rfl, denL_ints.2 rfl⟩
def eCallB (n i : Nat) (fn : List Int → List D → R (D × List Int)) (f : FA) : FE := fun e => match e[i]? with
  | some s0 => (match s0 with
    | .own _ | .brw _ => (f e).bind fun p => if p.1.length + 1 = n then (match p.2[i]? with
      | some s => (match s with
        | .own cs | .brw cs => (match intsOf cs with
          | some ns => (match fn ns p.1 with
            | .ok q => .ok (q.1, p.2.set i (s.turn (q.2.map D.int)))
            | _ => .err)
          | none => .err)
        | _ => .err)
      | none => .err) else .err
    | _ => .err)
  | none => .err
section
variable {k n : Nat} {fa : Addr} {fd : FuncData} {ps : List Str} {fn : List Int → List D → R (D × List Int)} {x : Str} {p : Pos} {es : List Expr} {f : FA}
theorem v_callB (i : Nat) {y : Str} {py : Pos} (F : FnOk X.prog X.w X.K X.mg X.base (L2.CX X.prog X.w) k fa fd ps (spB X.K n fn)) (hr : Room k X.A) (tk : Takes X W) (hk : PySem.W.keepIn X.K (.ref fa) = true) (hb : Binds X.K fd ps []) (hm : X.mg x = some (.ref fa)) (hg : Gl X x)
    (ha : PA X es (rA X.K X.mg W f)) (hN : X.N[i]? = some y := by rfl) (hv : Vis X.env.scope y := by first | exact Or.inl rfl | exact Or.inr (Or.inl rfl) | exact Or.inr (Or.inr rfl)) (hd : (y == ("__debug__" : Str)) = false := by decide) (hcd : (y == ("__classdict__" : Str)) = false := by decide)
    (hdb : (x == ("__debug__" : Str)) = false := by decide) (he : starEach (.Name y py :: es) X.env = (false, eval (.Name y py) X.env) :: starEach es X.env := by rfl) (hpl : (backTo pos (starEach es X.env)).any (·.1) = false := by rfl) :
    PE X (.Call (.Name x p) (.Name y py :: es) [] pos) (rE X.K X.mg W (eCallB n i fn f)) :=
  (pe_callS (E := WE W) F hr hg hm hk hb (fun σ => passAt tk σ) (pa_cons (pe_var hN hv hd hcd) ha he) hdb he hpl).imp fun σ H Q ⟨A, e, r, q⟩ => by
    unfold eCallB at q
    cases h0 : e[i]? with
    | none => rw [h0] at q; exact q.elim
    | some s0 =>
      rw [h0] at q
      have step : (∃ ds, s0 = .own ds ∨ s0 = .brw ds) → Post X.K X.mg W (Den X.K) A σ e H Q ((f e).bind fun p => if p.1.length + 1 = n then (match p.2[i]? with
          | some s => (match s with
            | .own cs | .brw cs => (match intsOf cs with
              | some ns => (match fn ns p.1 with
                | .ok q => .ok (q.1, p.2.set i (s.turn (q.2.map D.int)))
                | _ => .err)
              | none => .err)
            | _ => .err)
          | none => .err) else .err) → tCallS (spB X.K n fn) (WE W) (tCons (tVar i) (rA X.K X.mg W f)) σ H Q := by
        rintro ⟨ds0, hs0⟩ q
        have hh0 : Held e i := ⟨ds0, by rcases hs0 with rfl | rfl; exact .inl h0; exact .inr h0⟩
        obtain ⟨a, vs0, k1, _, _⟩ := r.held hh0
        refine ⟨.ref a, k1, rd_seq r q fun ds e1 us H1 _ r1 s1 d1 p1 => ?_⟩
        by_cases hl : ds.length + 1 = n
        case neg =>
          rw [if_neg hl] at p1
          exact p1.elim
        rw [if_pos hl] at p1
        cases h1 : e1[i]? with
        | none => rw [h1] at p1; exact p1.elim
        | some s =>
          rw [h1] at p1
          have go : ∀ cs, (s = .own cs ∨ s = .brw cs) → Post X.K X.mg W (Den X.K) A σ e1 H1 Q (match intsOf cs with
              | some ns => (match fn ns ds with
                | .ok q => .ok (q.1, e1.set i (s.turn (q.2.map D.int)))
                | _ => .err)
              | none => .err) → spB X.K n fn (.ref a :: us) H1 Q (WE W σ) := by
            intro cs hs p1
            have hh : Held e1 i := ⟨cs, by rcases hs with rfl | rfl; exact .inl h1; exact .inr h1⟩
            have ho : ∃ b vs, σ[i]? = some (some (.ref b)) ∧ H1 b = some (.lst vs) ∧ DenL X.K (hid A σ e1 H1) cs vs := by
              rcases hs with rfl | rfl
              · obtain ⟨b, vs, k1, k2, k3, _⟩ := r1.own i cs h1
                exact ⟨b, vs, k1, k2, k3⟩
              · obtain ⟨b, vs, k1, k2, k3, _⟩ := r1.brw i cs h1
                exact ⟨b, vs, k1, k2, k3⟩
            obtain ⟨b, vs, kb, k2, k3⟩ := ho
            rw [k1] at kb
            cases kb
            cases hn : intsOf cs with
            | none => rw [hn] at p1; exact p1.elim
            | some ns =>
              rw [hn] at p1
              have ec := intsOf_some hn
              subst ec
              rw [denL_ints.1 k3] at k2
              have oa : OwnAt σ e1 a := ⟨i, hh, k1⟩
              have ha0 : hid A σ e1 H1 a = none := by
                unfold hid
                rw [if_pos (.inl oa)]
              refine ⟨a, ns, ds, hid A σ e1 H1, us, rfl, k2, hid_sub, ha0, d1, hl, ?_⟩
              revert p1
              dsimp only
              cases fn ns ds with
              | err => exact fun p1 => p1.elim
              | exc _ _ => exact fun p1 => p1.elim
              | ok z =>
                intro p1 v H' ke ka fr
                obtain ⟨rp, hp⟩ := r1.put h1 hh k1 (denL_ints.2 (rfl : z.2.map V.int = _))
                have sm : Same (upd H1 a (.lst (z.2.map V.int))) H' := fun b o hb => by
                  by_cases hq : b = a
                  · subst hq
                    rw [upd_same] at hb
                    cases hb
                    exact ka
                  · rw [upd_ne hq] at hb
                    exact ke b o hq hb
                have sh : Same (hid A σ e1 H1) (hid A σ (e1.set i (s.turn (z.2.map D.int))) H') := by
                  rw [← hp]
                  exact hid_same sm
                refine p1 v H' (rp.grow sm) sh (fr _ sh fun b o hb hn => ?_)
                have hq : b ≠ a := by
                  rintro rfl
                  rw [k2] at hn
                  cases hn
                exact rp.seen hb (by rw [upd_ne hq]; exact hn)
          cases s with
          | own cs => exact go cs (.inl rfl) p1
          | brw cs => exact go cs (.inr rfl) p1
          | _ => exact p1.elim
      cases s0 with
      | own ds0 => exact step ⟨ds0, .inl rfl⟩ q
      | brw ds0 => exact step ⟨ds0, .inr rfl⟩ q
      | _ => exact q.elim
end
end
/-! ### defs -/
def runA (m : Nat) (fr : Bool) (g : FS) (ds : List D) : R D := match g (ds.map Sl.val ++ List.replicate (m - ds.length) .un) with
  | .ok (.rt d _) => (match lstOf fr d with
    | some _ => .err
    | none => .ok d)
  | .ok (.rn ds _) => .ok (.lst ds)
  | .ok (.nx _) => .ok .non
  | .exc c _ => .exc c []
  | _ => .err
def runB (m : Nat) (g : FS) (ns : List Int) (ds : List D) : R (D × List Int) :=
  let out (d : D) (e : En) : R (D × List Int) := match e[(0 : Nat)]? with
    | some (.brw cs) => (match intsOf cs with
      | some ms => .ok (d, ms)
      | none => .err)
    | _ => .err
  match g (.brw (ns.map D.int) :: ds.map Sl.val ++ List.replicate (m - (ds.length + 1)) .un) with
  | .ok (.rt d e) => out d e
  | .ok (.nx e) => out .non e
  | _ => .err
section
variable {P : Program} {w : World} {K : PySem.W.Frag} {mg : Str → Option Value} {base : Heap}
theorem ok_A {x qual : Str} {st : Stmt} {f : Addr} {fd : FuncData} {N ps : List Str} {k n : Nat} {g : FS} (fr : Bool) (F : Fun K x qual st f fd) (S : FnScope N ps (defScope st)) (hn : n = ps.length) (hN : ps.length ≤ N.length)
    (hbody : ∀ (cdv : Value) (A : Around) (outer : List Env) (s : Shared) (H : Hp) (E : XK), Room k (A.deeper (envOfC qual (defScope st) s.heap.objs.size f cdv)) →
      PSs (cxOf (L2.CX P w) P w K mg base N qual (defScope st) f cdv A outer s H E) (defBody st) (rdS K mg (fun cls d _ H => E cls d H) g)) : FnOk P w K mg base (L2.CX P w) (k + 1) f fd ps (spA K mg n fr (runA N.length fr g)) := by
  refine F.okX S (fun vs H Q E h => ?_) (fun cdv A outer s H vs Q E hr h => ⟨_, hbody cdv A outer s H E hr, ?_⟩)
  · obtain ⟨ds, Hv, _, hd, hl, _⟩ := h
    rw [← hd.length, hl, hn]
  · obtain ⟨ds, Hv, sv, hd, hl, hc⟩ := h
    have hlen := hd.length
    refine ⟨⟨H, Hv, fun _ => False, fun _ => none⟩, ds.map Sl.val ++ List.replicate (N.length - ds.length) .un, ?_⟩
    generalize hA : (⟨H, Hv, fun _ => False, fun _ => none⟩ : Act) = A0
    have noH : ∀ (e : En), (∀ (i : Nat) (ds : List D), e[i]? ≠ some (.own ds) ∧ e[i]? ≠ some (.brw ds)) → ∀ σ a, ¬ OwnAt σ e a := fun e he σ a ⟨i, ⟨es, h⟩, _⟩ => h.elim (he i es).1 (he i es).2
    have he0 : ∀ (i : Nat) (es : List D), (ds.map Sl.val ++ List.replicate (N.length - ds.length) .un)[i]? ≠ some (.own es) ∧ (ds.map Sl.val ++ List.replicate (N.length - ds.length) .un)[i]? ≠ some (.brw es) := fun i es => by
      constructor
      all_goals
        intro h
        rcases List.mem_append.mp (List.mem_of_getElem? h) with m | m
        · obtain ⟨d, _, z⟩ := List.mem_map.mp m
          cases z
        · exact absurd (List.eq_of_mem_replicate m) (by simp)
    have eh : Same Hv (hid A0 (L2.start N vs) (ds.map Sl.val ++ List.replicate (N.length - ds.length) .un) H) := fun b o hb => by
      rw [hid_in (noH _ he0 _ b) (fun z => by rw [← hA] at z; rw [show Hv b = none from z.2] at hb; cases hb)]
      exact sv _ _ hb
    have R0 : Rep K A0 H (L2.start N vs) (ds.map Sl.val ++ List.replicate (N.length - ds.length) .un) := {
      len := by unfold L2.start; simp [hlen]
      sub := by rw [← hA]; exact sv
      nbor := fun a z => by rw [← hA] at z; exact z.elim (fun z => z.elim) (fun z => absurd rfl z)
      nbld := fun a us z => by rw [← hA] at z; cases z
      keep := fun b o z _ => by rw [← hA] at z; exact z
      val := fun i d z => by
        by_cases hi : i < ds.length
        · rw [List.getElem?_append_left (by rw [List.length_map]; exact hi), List.getElem?_map] at z
          cases hg : ds[i]? with
          | none => rw [hg] at z; cases z
          | some d' =>
            rw [hg] at z
            cases z
            obtain ⟨v, hv, dv⟩ := hd.get hg
            refine ⟨v, ?_, Den.mono eh _ _ dv⟩
            unfold L2.start
            rw [List.getElem?_append_left (by rw [List.length_map, ← hlen]; exact hi), List.getElem?_map, hv]
            rfl
        · rw [List.getElem?_append_right (by rw [List.length_map]; omega)] at z
          exact absurd (List.eq_of_mem_replicate (List.mem_of_getElem? z)) (by simp)
      own := fun i es z => absurd z (he0 i es).1
      brw := fun i es z => absurd z (he0 i es).2
      inj := fun i j a ⟨es, z⟩ => (z.elim (he0 i es).1 (he0 i es).2).elim }
    have fin' : ∀ {d : D} {v : V} {σ' : L2.St} {H' : Hp} {e' : En}, (∀ v H', Same H H' → Fresh K Hv H H' d v → Q v H') → Rep K A0 H' σ' e' → Den K (hid A0 σ' e' H') d v → Q v H' := fun {d v σ' H' e'} hc r' d' => by
      refine hc v H' (fun b o hb => r'.keep b o (by rw [← hA]; exact hb) (by rw [← hA]; exact fun z => z.elim id fun z => z rfl)) fun Hw s1 s2 => Den.mono (fun b o hb => ?_) _ _ d'
      obtain ⟨n1, n2, hb'⟩ := hid_not hb
      by_cases hq : H b = none
      · exact s2 b o hb' hq
      · have : Hv b ≠ none := fun z => n2 (by rw [← hA]; exact ⟨hq, z⟩)
        cases hv : Hv b with
        | none => exact absurd hv this
        | some o' =>
          have k := r'.keep b o' (by rw [← hA]; exact sv _ _ hv) (by rw [← hA]; exact fun z => z.elim id fun z => z rfl)
          rw [hb'] at k
          cases k
          exact s1 _ _ hv
    refine ⟨R0, ?_⟩
    unfold runA at hc
    revert hc
    cases g (ds.map Sl.val ++ List.replicate (N.length - ds.length) .un) with
    | ok fl =>
      cases fl with
      | nx e' => exact fun hc σ' H' r' _ => fin' (d := .non) (show ∀ v H', Same H H' → Fresh K Hv H H' .non v → Q v H' from hc) r' (by simp only [Den])
      | rt d e' =>
        dsimp only
        cases k : lstOf fr d with
        | some _ => exact fun hc => hc.elim
        | none =>
          intro hc v σ' H' r' _ d'
          simp only [CallP, k] at hc
          exact fin' hc r' d'
      | rn es e' =>
        intro hc q us σ' H' od r' s' d'
        obtain ⟨rb, sb, hb⟩ := r'.built od
        cases k : lstOf fr (.lst es) with
        | none =>
          simp only [CallP, k] at hc
          refine fin' hc rb ?_
          simp only [Den]
          exact ⟨q, us, rfl, hb, DenL.mono sb _ _ d'⟩
        | some es' =>
          simp only [CallP, k] at hc
          obtain ⟨ee, _⟩ := lstOf_some k
          cases ee
          have hq : H q = none := by
            have := od.hr
            rw [← hA] at this
            exact this
          refine hc q us H' (fun b o hb => rb.keep b o (by rw [← hA]; exact hb) (by rw [← hA]; exact fun z => z.elim id fun z => z rfl)) hq r'.notOwn.2.2 fun Hw s1 s2 => DenL.mono (fun b o hb => ?_) _ _ d'
          obtain ⟨n1, n2, hb'⟩ := hid_not hb
          have hbq : b ≠ q := by rintro rfl; exact n2 r'.notOwn.2.1
          have n3 : ¬ off A0 b := fun z => n2 ((off_build od.hr).2 (.inl z))
          by_cases hq : H b = none
          · exact s2 b o hbq hb' hq
          · have hz : Hv b ≠ none := fun z => n3 (by rw [← hA]; exact ⟨hq, z⟩)
            cases hv : Hv b with
            | none => exact absurd hv hz
            | some o' =>
              have k := rb.keep b o' (by rw [← hA]; exact sv _ _ hv) (by rw [← hA]; exact fun z => z.elim id fun z => z rfl)
              rw [hb'] at k
              cases k
              exact s1 _ _ hv
      | bk e' => exact fun hc => hc.elim
      | ct e' => exact fun hc => hc.elim
    | exc c e' => exact fun hc σ' H' r' => hc H' fun b o hb => r'.keep b o (by rw [← hA]; exact hb) (by rw [← hA]; exact fun z => z.elim id fun z => z rfl)
    | err => exact fun hc => hc
theorem ok_B {x qual : Str} {st : Stmt} {f : Addr} {fd : FuncData} {N ps : List Str} {k n : Nat} {g : FS} (F : Fun K x qual st f fd) (S : FnScope N ps (defScope st)) (hn : n = ps.length) (hN : ps.length ≤ N.length)
    (hbody : ∀ (cdv : Value) (A : Around) (outer : List Env) (s : Shared) (H : Hp) (E : XK), Room k (A.deeper (envOfC qual (defScope st) s.heap.objs.size f cdv)) →
      PSs (cxOf (L2.CX P w) P w K mg base N qual (defScope st) f cdv A outer s H E) (defBody st) (rdS K mg (fun cls d _ H => E cls d H) g)) : FnOk P w K mg base (L2.CX P w) (k + 1) f fd ps (spB K n (runB N.length g)) := by
  refine F.okX S (fun vs H Q E h => ?_) (fun cdv A outer s H vs Q E hr h => ⟨_, hbody cdv A outer s H E hr, ?_⟩)
  · obtain ⟨a, ns, ds, Hv, us, rfl, _, _, _, hd, hl, _⟩ := h
    rw [List.length_cons, ← hd.length, hl, hn]
  · obtain ⟨a, ns, ds, Hv, us, rfl, ha, sv, hva, hd, hl, hc⟩ := h
    have hlen := hd.length
    have hnl : ds.length + 1 ≤ N.length := by omega
    generalize he : (Sl.brw (ns.map D.int) :: ds.map Sl.val ++ List.replicate (N.length - (ds.length + 1)) Sl.un : En) = e0
    refine ⟨⟨H, Hv, fun b => b = a, fun _ => none⟩, e0, ?_⟩
    generalize hA : (⟨H, Hv, fun b => b = a, fun _ => none⟩ : Act) = A0
    have g0 : e0[(0 : Nat)]? = some (.brw (ns.map D.int)) := by rw [← he]; rfl
    have gS : ∀ i : Nat, e0[i + 1]? = (ds.map Sl.val ++ List.replicate (N.length - (ds.length + 1)) Sl.un)[i]? := fun i => by rw [← he]; rfl
    have gV : ∀ (i : Nat) (s : Sl), (ds.map Sl.val ++ List.replicate (N.length - (ds.length + 1)) Sl.un)[i]? = some s → s = .un ∨ ∃ d v, s = .val d ∧ us[i]? = some v ∧ Den K Hv d v := fun i s z => by
      by_cases hi : i < ds.length
      · rw [List.getElem?_append_left (by rw [List.length_map]; exact hi), List.getElem?_map] at z
        cases hg : ds[i]? with
        | none => rw [hg] at z; cases z
        | some d' =>
          rw [hg] at z
          cases z
          obtain ⟨v, hv, dv⟩ := hd.get hg
          exact .inr ⟨d', v, rfl, hv, dv⟩
      · rw [List.getElem?_append_right (by rw [List.length_map]; omega)] at z
        exact .inl (List.eq_of_mem_replicate (List.mem_of_getElem? z))
    have st0 : (L2.start N (V.ref a :: us))[(0 : Nat)]? = some (some (.ref a)) := rfl
    have stS : ∀ (i : Nat) (v : V), us[i]? = some v → (L2.start N (V.ref a :: us))[i + 1]? = some (some v) := fun i v hv => by
      have hi : i < us.length := (List.getElem?_eq_some_iff.mp hv).1
      unfold L2.start
      rw [List.getElem?_append_left (by rw [List.length_map, List.length_cons]; omega), List.getElem?_map, List.getElem?_cons_succ, hv]
      rfl
    have hheld : ∀ i, Held e0 i → i = 0 := fun i ⟨es, z⟩ => by
      cases i with
      | zero => rfl
      | succ i =>
        rw [gS] at z
        rcases z with z | z
        · rcases gV i _ z with q | ⟨_, _, q, _⟩ <;> cases q
        · rcases gV i _ z with q | ⟨_, _, q, _⟩ <;> cases q
    have hown : ∀ b, OwnAt (L2.start N (V.ref a :: us)) e0 b → b = a := fun b ⟨i, hi, hb⟩ => by
      rw [hheld i hi, st0] at hb
      cases hb
      rfl
    have eh : Same Hv (hid A0 (L2.start N (V.ref a :: us)) e0 H) := fun b o hb => by
      have hq : b ≠ a := by rintro rfl; rw [hva] at hb; cases hb
      rw [hid_in (fun z => hq (hown b z)) (fun z => by rw [← hA] at z; rw [show Hv b = none from z.2] at hb; cases hb)]
      exact sv _ _ hb
    have R0 : Rep K A0 H (L2.start N (V.ref a :: us)) e0 := {
      len := by rw [← he]; unfold L2.start; simp [hlen]
      sub := by rw [← hA]; exact sv
      nbor := fun b z => by
        rw [← hA] at z ⊢
        rcases z with z | z
        · rw [show b = a from z]; exact ⟨hva, by rw [ha]; exact fun z => nomatch z⟩
        · exact absurd rfl z
      nbld := fun b us z => by rw [← hA] at z; cases z
      keep := fun b o z _ => by rw [← hA] at z; exact z
      val := fun i d z => by
        cases i with
        | zero => rw [g0] at z; cases z
        | succ i =>
          rw [gS] at z
          rcases gV i _ z with q | ⟨d', v, q, hv, dv⟩
          · cases q
          · cases q
            exact ⟨v, stS i v hv, Den.mono eh _ _ dv⟩
      own := fun i es z => by
        cases i with
        | zero => rw [g0] at z; cases z
        | succ i =>
          rw [gS] at z
          rcases gV i _ z with q | ⟨_, _, q, _⟩ <;> cases q
      brw := fun i es z => by
        cases i with
        | zero =>
          rw [g0] at z
          cases z
          exact ⟨a, _, st0, ha, denL_ints.2 rfl, by rw [← hA]⟩
        | succ i =>
          rw [gS] at z
          rcases gV i _ z with q | ⟨_, _, q, _⟩ <;> cases q
      inj := fun i j b hi hj _ _ => by rw [hheld i hi, hheld j hj] }
    have nb : ∀ b, b ≠ a → ¬ (A0.bor b ∨ A0.bld b ≠ none) := fun b hq => by rw [← hA]; exact fun z => z.elim hq fun z => z rfl
    have fin' : ∀ {d : D} {v : V} {σ' : L2.St} {H' : Hp} {e' : En}, (match (match e'[(0 : Nat)]? with
          | some (.brw cs) => (match intsOf cs with
            | some ms => R.ok (d, ms)
            | none => .err)
          | _ => .err : R (D × List Int)) with
        | .ok q => ∀ v H', (∀ b o, b ≠ a → H b = some o → H' b = some o) → H' a = some (.lst (q.2.map V.int)) → Fresh K Hv H H' q.1 v → Q v H'
        | _ => False) → Rep K A0 H' σ' e' → Den K (hid A0 σ' e' H') d v → Q v H' := fun {d v σ' H' e'} hc r' d' => by
      cases h0 : e'[(0 : Nat)]? with
      | none => rw [h0] at hc; exact hc.elim
      | some s =>
        rw [h0] at hc
        cases s with
        | brw cs =>
          dsimp only at hc
          cases hn : intsOf cs with
          | none => rw [hn] at hc; exact hc.elim
          | some ms =>
            rw [hn] at hc
            obtain ⟨b, vs, k1, k2, k3, k4⟩ := r'.brw 0 cs h0
            rw [← hA] at k4
            have k4' : b = a := k4
            subst k4'
            rw [intsOf_some hn] at k3
            rw [denL_ints.1 k3] at k2
            refine hc v H' (fun c o hq hb => r'.keep c o (by rw [← hA]; exact hb) (nb c hq)) k2 fun Hw s1 s2 => Den.mono (fun c o hb => ?_) _ _ d'
            obtain ⟨n1, n2, hb'⟩ := hid_not hb
            by_cases hq : H c = none
            · exact s2 c o hb' hq
            · have hz : Hv c ≠ none := fun z => n2 (by rw [← hA]; exact ⟨hq, z⟩)
              cases hv : Hv c with
              | none => exact absurd hv hz
              | some o' =>
                have hcb : c ≠ b := by rintro rfl; exact hz hva
                have k := r'.keep c o' (by rw [← hA]; exact sv _ _ hv) (nb c hcb)
                rw [hb'] at k
                cases k
                exact s1 _ _ hv
        | _ => exact hc.elim
    refine ⟨R0, ?_⟩
    unfold runB at hc
    rw [he] at hc
    revert hc
    dsimp only
    cases g e0 with
    | ok fl =>
      cases fl with
      | nx e' => exact fun hc σ' H' r' _ => fin' (d := .non) hc r' (by simp only [Den])
      | rt d e' => exact fun hc v σ' H' r' _ d' => fin' hc r' d'
      | rn ds e' => exact fun hc => hc.elim
      | bk e' => exact fun hc => hc.elim
      | ct e' => exact fun hc => hc.elim
    | exc c e' => exact fun hc => hc.elim
    | err => exact fun hc => hc
end
end Mi
namespace Mi
open PySem PySem.Spec PyProof.Rows L2

section
variable {K : PySem.W.Frag}
/-- a flat answer -/
theorem flatQ {Hh H : Hp} {d : D} {v : V} {Q : VK} (h : ∀ H, Den K H d v) (q : ∀ v H', Same H H' → Fresh K Hh H H' d v → Q v H') : Q v H := q v H (Same.refl _) (Fresh.flat (h _))
/-! ### ints -/
def gI (C : Int → Int → Bool) (g : Int → Int → D) (a b : D) : Option D := (int? a).bind fun i => (int? b).bind fun j => if C i j = true then some (g i j) else none
theorem gI_some {C : Int → Int → Bool} {g : Int → Int → D} {a b d : D} (h : gI C g a b = some d) : ∃ i j, a = .int i ∧ b = .int j ∧ C i j = true ∧ d = g i j := by
  unfold gI at h
  cases k : int? a with
  | none => rw [k] at h; cases h
  | some i =>
    cases k2 : int? b with
    | none => rw [k, k2] at h; cases h
    | some j =>
      rw [k, k2, Option.bind_some, Option.bind_some] at h
      by_cases c : C i j = true
      · rw [if_pos c] at h
        cases h
        exact ⟨i, j, int_some k, int_some k2, c, rfl⟩
      · rw [if_neg c] at h
        cases h
theorem rb_I {C : Int → Int → Bool} {g : Int → Int → D} {P : Int → Int → Prop} {gv : Int → Int → V} (hC : ∀ i j, C i j = true → P i j) (hg : ∀ i j H, Den K H (g i j) (gv i j)) : RB K (L2.rI P gv) (gI C g) := fun Hh H a b x y d Q s ha hb h q => by
  obtain ⟨i, j, rfl, rfl, c, rfl⟩ := gI_some h
  exact ⟨i, j, den_int ha, den_int hb, hC i j c, flatQ (hg i j) q⟩
theorem rb_I0 {g : Int → Int → D} {gv : Int → Int → V} (hg : ∀ i j H, Den K H (g i j) (gv i j)) : RB K (rI0 gv) (gI (fun _ _ => true) g) := fun Hh H a b x y d Q s ha hb h q => by
  obtain ⟨i, j, rfl, rfl, c, rfl⟩ := gI_some h
  exact ⟨i, j, den_int ha, den_int hb, flatQ (hg i j) q⟩
def T2 : Int → Int → Bool := fun _ _ => true
abbrev gSub := gI T2 fun i j => .int (i - j)
theorem rb_sub : RB K (rI0 fun i j => .int (i - j)) gSub := rb_I0 fun _ _ _ => by simp only [Den]
/-- two factors of together less than a hundred million bits -/
def CMulX (i j : Int) : Prop := i.natAbs.log2 + j.natAbs.log2 < 100000000
theorem bits_log (x : Int) : Builtin.Int.intBits x ≤ x.natAbs.log2 + 1 := by
  unfold Builtin.Int.intBits
  split <;> omega
theorem CMulX.ok {i j : Int} (h : CMulX i j) : IntMulOk i j := fun z => by
  have h1 := bits_log i
  have h2 := bits_log j
  have h3 : i.natAbs.log2 + j.natAbs.log2 < 100000000 := h
  have e : bitsLine = 134217728 := by decide
  have z2 := (Bool.and_eq_true_iff.mp z).2
  unfold Builtin.Int.intTooBig at z2
  have z3 := of_decide_eq_true z2
  rw [e] at z3
  omega
theorem op_mulX {X : Cx} : OpR X (binaryOp .Mult) (L2.rI CMulX fun i j => .int (i * j)) := opI fun _ _ _ _ _ _ _ hc q => mul_int q hc.ok
def mulOk (i j : Int) : Bool := decide (i.natAbs.log2 + j.natAbs.log2 < 100000000)
abbrev gMulI := gI mulOk fun i j => .int (i * j)
theorem rb_mulI : RB K (L2.rI CMulX fun i j => .int (i * j)) gMulI := rb_I (fun i j h => @of_decide_eq_true (i.natAbs.log2 + j.natAbs.log2 < 100000000) _ h) fun _ _ _ => by simp only [Den]
def modOk (_ j : Int) : Bool := decide (0 < j)
abbrev gMod := gI modOk fun i j => .int (i % j)
theorem rb_mod : RB K (L2.rI (fun _ j => 0 < j) fun i j => .int (i % j)) gMod := rb_I (fun i j h => of_decide_eq_true (show decide (0 < j) = true from h)) fun _ _ _ => by simp only [Den]
def divOk (_ j : Int) : Bool := decide (0 < j) && decide (j.natAbs.log2 < 9000)
abbrev gDiv := gI divOk fun i j => .int (i / j)
theorem rb_div : RB K (L2.rI CDivW fun i j => .int (i / j)) gDiv := rb_I (fun i j h => by
  unfold divOk at h
  rw [Bool.and_eq_true] at h
  exact ⟨of_decide_eq_true h.1, of_decide_eq_true h.2⟩) fun _ _ _ => by simp only [Den]
def powOk (i j : Int) : Bool := decide (0 ≤ j) && (decide (j ≤ 1000000) && decide (i.natAbs < 18446744073709551616))
abbrev gPow := gI powOk fun i j => .int (i ^ j.toNat)
theorem rb_pow : RB K (L2.rI CPow fun i j => .int (i ^ j.toNat)) gPow := rb_I (fun i j h => by
  unfold powOk at h
  rw [Bool.and_eq_true, Bool.and_eq_true] at h
  have e : 2 ^ 64 = 18446744073709551616 := by decide +kernel
  exact ⟨of_decide_eq_true h.1, of_decide_eq_true h.2.1, by rw [e]; exact of_decide_eq_true h.2.2⟩) fun _ _ _ => by simp only [Den]
abbrev gLtI := gI T2 fun i j => .bl (decide (i < j))
abbrev gLeI := gI T2 fun i j => .bl (decide (i ≤ j))
abbrev gGtI := gI T2 fun i j => .bl (decide (j < i))
abbrev gGeI := gI T2 fun i j => .bl (decide (j ≤ i))
theorem rb_ltI : RB K (rI0 fun i j => .bl (decide (i < j))) gLtI := rb_I0 fun _ _ _ => by simp only [Den]
theorem rb_leI : RB K (rI0 fun i j => .bl (decide (i ≤ j))) gLeI := rb_I0 fun _ _ _ => by simp only [Den]
theorem rb_gtI : RB K (rI0 fun i j => .bl (decide (j < i))) gGtI := rb_I0 fun _ _ _ => by simp only [Den]
theorem rb_geI : RB K (rI0 fun i j => .bl (decide (j ≤ i))) gGeI := rb_I0 fun _ _ _ => by simp only [Den]
def gNeg (a : D) : Option D := (int? a).map fun i => .int (-i)
theorem ru_neg : RU K (rU fun i => .int (-i)) gNeg := fun Hh H a x d Q s ha h q => by
  unfold gNeg at h
  cases k : int? a with
  | none => rw [k] at h; cases h
  | some i =>
    rw [k] at h
    cases h
    rw [int_some k] at ha
    exact ⟨i, den_int ha, flatQ (fun _ => by simp only [Den]) q⟩
/-! ### + of any kind -/
def str? : D → Option Str
  | .str x => some x
  | _ => none
theorem str_some {d : D} {x : Str} (h : str? d = some x) : d = .str x := by
  cases d <;> simp only [str?, Option.some.injEq] at h <;> first | (subst h; rfl) | cases h
def tup? : D → Option (List D)
  | .tup ds => some ds
  | _ => none
theorem tup_some {d : D} {x : List D} (h : tup? d = some x) : d = .tup x := by
  cases d <;> simp only [tup?, Option.some.injEq] at h <;> first | (subst h; rfl) | cases h
def gAdd : D → D → Option D
  | .int i, .int j => some (.int (i + j))
  | .str x, .str y => if x.length + y.length ≤ lim then some (.str (x ++ y)) else none
  | .lst a, .lst b => if a.length + b.length ≤ lim then some (.lst (a ++ b)) else none
  | .tup a, .tup b => if a.length + b.length ≤ lim then some (.tup (a ++ b)) else none
  | _, _ => none
def rAddA (K : PySem.W.Frag) : R2 := fun x y H Q => (rI0 (fun i j => .int (i + j)) x y H Q ∨ (∃ i j, x = .str i ∧ y = .str j ∧ i.length + j.length ≤ sizeLine ∧ Q (.str (i ++ j)) H)) ∨ (rCat x y H Q ∨ rCatA K x y H Q)
theorem op_addA {X : Cx} : OpR X (binaryOp .Add) (rAddA X.K) := OpR.or (OpR.or op_add op_add_str) (OpR.or op_cat op_catA)
theorem den_lst {H : Hp} {ds : List D} {v : V} (h : Den K H (.lst ds) v) : ∃ a vs, v = .ref a ∧ H a = some (.lst vs) ∧ DenL K H ds vs := by simpa only [Den] using h
theorem den_tup {H : Hp} {ds : List D} {v : V} (h : Den K H (.tup ds) v) : ∃ a vs, v = .ref a ∧ SqT K H a vs ∧ DenL K H ds vs := by simpa only [Den] using h
theorem rb_add : RB K (rAddA K) gAdd := fun Hh H a b x y d Q s ha hb h q => by
  cases a with
  | int i =>
    cases b with
    | int j =>
      simp only [gAdd, Option.some.injEq] at h
      subst h
      exact .inl (.inl ⟨i, j, den_int ha, den_int hb, flatQ (fun _ => by simp only [Den]) q⟩)
    | _ => cases h
  | str i =>
    cases b with
    | str j =>
      simp only [gAdd] at h
      by_cases c : i.length + j.length ≤ lim
      · rw [if_pos c] at h
        cases h
        exact .inl (.inr ⟨i, j, den_str ha, den_str hb, by rw [← lim_eq]; exact c, flatQ (fun _ => by simp only [Den]) q⟩)
      · rw [if_neg c] at h; cases h
    | _ => cases h
  | lst i =>
    cases b with
    | lst j =>
      simp only [gAdd] at h
      by_cases c : i.length + j.length ≤ lim
      · rw [if_pos c] at h
        cases h
        obtain ⟨p, vs, rfl, h1, h2⟩ := den_lst ha
        obtain ⟨p', us, rfl, h3, h4⟩ := den_lst hb
        exact .inr (.inl ⟨p, p', vs, us, rfl, rfl, s _ _ h1, s _ _ h3, by rw [← h2.length, ← h4.length, ← lim_eq]; exact c, fun r hr => q _ _ (same_upd hr) (Fresh.lst hr (DenL.append h2 h4))⟩)
      · rw [if_neg c] at h; cases h
    | _ => cases h
  | tup i =>
    cases b with
    | tup j =>
      simp only [gAdd] at h
      by_cases c : i.length + j.length ≤ lim
      · rw [if_pos c] at h
        cases h
        obtain ⟨p, vs, rfl, h1, h2⟩ := den_tup ha
        obtain ⟨p', us, rfl, h3, h4⟩ := den_tup hb
        refine .inr (.inr ⟨p, p', vs, us, rfl, rfl, Same.seqT s h1, Same.seqT s h3, by rw [← h2.length, ← h4.length, ← lim_eq]; exact c, fun e => ?_, fun _ e => ?_, fun _ _ r hr => q _ _ (same_upd hr) (Fresh.tup hr (DenL.append h2 h4))⟩)
        · subst e
          have hl := h2.length
          have e0 : i = [] := by cases i with | nil => rfl | cons _ _ => cases hl
          subst e0
          exact q _ _ (Same.refl _) (Fresh.flat hb)
        · subst e
          have hl := h4.length
          have e0 : j = [] := by cases j with | nil => rfl | cons _ _ => cases hl
          subst e0
          rw [List.append_nil] at q
          exact q _ _ (Same.refl _) (Fresh.flat ha)
      · rw [if_neg c] at h; cases h
    | _ => cases h
  | _ => cases h
/-- list * int -/
def gRep : D → D → Option (List D)
  | .lst ds, .int k => if r62 k = true ∧ ds.length * k.toNat ≤ lim then some (List.replicate k.toNat ds).flatten else none
  | _, _ => none
theorem rbn_rep : RBN K rRep gRep := fun Hh H a b x y ds Q s ha hb h q => by
  cases a with
  | lst es =>
    cases b with
    | int k =>
      simp only [gRep] at h
      by_cases c : r62 k = true ∧ es.length * k.toNat ≤ lim
      · rw [if_pos c] at h
        cases h
        obtain ⟨p, vs, rfl, h1, h2⟩ := den_lst ha
        have e : (2 : Int) ^ 63 = 9223372036854775808 := by decide +kernel
        have c1 := c.1
        have c2 := (r62_iff.1 c1).1
        have c3 := (r62_iff.1 c1).2
        exact ⟨p, k, vs, rfl, den_int hb, s _ _ h1, by rw [e]; omega, by rw [e]; omega, by rw [← h2.length, ← lim_eq]; exact c.2, fun r hr => q r _ hr (DenL.rep h2 _)⟩
      · rw [if_neg c] at h; cases h
    | _ => cases h
  | _ => cases h
def gMul : D → D → Option D
  | .lst ds, k => (gRep (.lst ds) k).map .lst
  | a, b => gMulI a b
def rMulA : R2 := fun x y H Q => L2.rI CMulX (fun i j => .int (i * j)) x y H Q ∨ rRep x y H Q
theorem op_mulA {X : Cx} : OpR X (binaryOp .Mult) rMulA := OpR.or op_mulX op_rep
theorem rb_mul : RB K rMulA gMul := fun Hh H a b x y d Q s ha hb h q => by
  by_cases ca : ∃ ds, a = .lst ds
  · obtain ⟨ds, rfl⟩ := ca
    simp only [gMul] at h
    cases k : gRep (.lst ds) b with
    | none => rw [k] at h; cases h
    | some es =>
      rw [k] at h
      cases h
      exact .inr (rbn_rep Hh H _ _ x y es Q s ha hb k fun p vs hp dl => q _ _ (same_upd hp) (Fresh.lst hp dl))
  · have e : gMul a b = gMulI a b := by
      cases a with
      | lst ds => exact absurd ⟨ds, rfl⟩ ca
      | _ => rfl
    rw [e] at h
    exact .inl (rb_mulI Hh H a b x y d Q s ha hb h q)
/-! ### comparisons of any kind -/
def rLtA : R2 := fun x y H Q => rI0 (fun i j => .bl (decide (i < j))) x y H Q ∨ ∃ i j, x = .str i ∧ y = .str j ∧ Q (.bl (decide (i.cps.toList < j.cps.toList))) H
def rLeA : R2 := fun x y H Q => rI0 (fun i j => .bl (decide (i ≤ j))) x y H Q ∨ ∃ i j, x = .str i ∧ y = .str j ∧ Q (.bl (!decide (j.cps.toList < i.cps.toList))) H
def gLt : D → D → Option D
  | .int i, .int j => some (.bl (decide (i < j)))
  | .str i, .str j => some (.bl (decide (i.cps.toList < j.cps.toList)))
  | _, _ => none
def gLe : D → D → Option D
  | .int i, .int j => some (.bl (decide (i ≤ j)))
  | .str i, .str j => some (.bl (!decide (j.cps.toList < i.cps.toList)))
  | _, _ => none
theorem op_ltA {X : Cx} : OpR X (compareOp .Lt) rLtA := OpR.or op_lt op_lt_str
theorem op_leA {X : Cx} : OpR X (compareOp .LtE) rLeA := OpR.or op_le op_le_str
theorem rb_lt : RB K rLtA gLt := fun Hh H a b x y d Q s ha hb h q => by
  cases a <;> cases b <;> simp only [gLt, Option.some.injEq] at h <;> first
    | (subst h; exact .inl ⟨_, _, den_int ha, den_int hb, flatQ (fun _ => by simp only [Den]) q⟩)
    | (subst h; exact .inr ⟨_, _, den_str ha, den_str hb, flatQ (fun _ => by simp only [Den]) q⟩)
    | cases h
theorem rb_le : RB K rLeA gLe := fun Hh H a b x y d Q s ha hb h q => by
  cases a <;> cases b <;> simp only [gLe, Option.some.injEq] at h <;> first
    | (subst h; exact .inl ⟨_, _, den_int ha, den_int hb, flatQ (fun _ => by simp only [Den]) q⟩)
    | (subst h; exact .inr ⟨_, _, den_str ha, den_str hb, flatQ (fun _ => by simp only [Den]) q⟩)
    | cases h
mutual
def pd : D → Option PyData
  | .non => some .none
  | .bl b => some (.bool b)
  | .int i => some (.int i)
  | .str x => some (.str x)
  | .tup ds => (pdL ds).map .tuple
  | .lst ds => (pdL ds).map .list
  | .rls ds => (pdL ds).map .list
  | .dct _ _ => none
  | .ty _ => none
def pdL : List D → Option (List PyData)
  | [] => some []
  | d :: ds => (pd d).bind fun x => (pdL ds).map (x :: ·)
end
mutual
theorem pd_dp {H : Hp} : ∀ (d : D) (v : V) (x : PyData), Den K H d v → pd d = some x → Dp K H v x
  | .non, v, x, h, e => by
    simp only [pd, Option.some.injEq] at e
    subst e
    rw [den_non h]
    exact .non
  | .bl b, v, x, h, e => by
    simp only [pd, Option.some.injEq] at e
    subst e
    rw [den_bl h]
    exact .bl b
  | .int b, v, x, h, e => by
    simp only [pd, Option.some.injEq] at e
    subst e
    rw [den_int h]
    exact .int b
  | .str b, v, x, h, e => by
    simp only [pd, Option.some.injEq] at e
    subst e
    rw [den_str h]
    exact .str b
  | .tup ds, v, x, h, e => by
    simp only [pd] at e
    obtain ⟨a, vs, rfl, h1, h2⟩ := den_tup h
    cases k : pdL ds with
    | none => rw [k] at e; cases e
    | some xs =>
      rw [k] at e
      cases e
      exact .tup h1 (pdL_dp ds vs xs h2 k)
  | .lst ds, v, x, h, e => by
    simp only [pd] at e
    obtain ⟨a, vs, rfl, h1, h2⟩ := den_lst h
    cases k : pdL ds with
    | none => rw [k] at e; cases e
    | some xs =>
      rw [k] at e
      cases e
      exact .lst (.inl (.inl h1)) (pdL_dp ds vs xs h2 k)
  | .rls ds, v, x, h, e => by
    simp only [pd] at e
    simp only [Den] at h
    obtain ⟨a, vs, rfl, h1, h2⟩ := h
    cases k : pdL ds with
    | none => rw [k] at e; cases e
    | some xs =>
      rw [k] at e
      cases e
      exact .lst h1 (pdL_dp ds vs xs h2 k)
  | .dct _ _, _, _, _, e => by simp only [pd] at e; cases e
  | .ty _, _, _, _, e => by simp only [pd] at e; cases e
theorem pdL_dp {H : Hp} : ∀ (ds : List D) (vs : List V) (xs : List PyData), DenL K H ds vs → pdL ds = some xs → DpAll K H vs xs
  | [], vs, xs, h, e => by
    simp only [pdL, Option.some.injEq] at e
    simp only [DenL] at h
    subst e h
    exact .nil
  | d :: ds, vs, xs, h, e => by
    simp only [pdL] at e
    simp only [DenL] at h
    obtain ⟨v, r, rfl, h1, h2⟩ := h
    cases k : pd d with
    | none => rw [k] at e; cases e
    | some x =>
      rw [k, Option.bind_some] at e
      cases k2 : pdL ds with
      | none => rw [k2] at e; cases e
      | some ys =>
        rw [k2] at e
        cases e
        exact .cons (pd_dp d v x h1 k) (pdL_dp ds r ys h2 k2)
end
def eqDeep (a b : D) : Option Bool := (pd a).bind fun x => (pd b).bind fun y => if SeqAt.shaped x = true ∧ SeqAt.shaped y = true then some (PyData.eqv x y) else none
def eqB : D → D → Option Bool
  | .int i, .int j => some (decide (i = j))
  | .str i, .str j => some (decide (i = j))
  | .bl i, .bl j => some (decide (i = j))
  | .non, .non => some true
  | a, b => eqDeep a b
def gEq (a b : D) : Option D := (eqB a b).map .bl
def gNe (a b : D) : Option D := (eqB a b).map fun k => .bl (!k)
def rEqA (K : PySem.W.Frag) : R2 := fun x y H Q => rEq x y H Q ∨ rEqD K x y H Q
def rNeA (K : PySem.W.Frag) : R2 := fun x y H Q => rNe x y H Q ∨ rNeD K x y H Q
theorem eqB_cases {a b : D} {k : Bool} (h : eqB a b = some k) : (∃ i j, a = .int i ∧ b = .int j ∧ k = decide (i = j)) ∨ (∃ i j, a = .str i ∧ b = .str j ∧ k = decide (i = j)) ∨ (∃ i j, a = .bl i ∧ b = .bl j ∧ k = decide (i = j)) ∨ (a = .non ∧ b = .non ∧ k = true) ∨ eqDeep a b = some k := by
  cases a <;> cases b <;> first
    | (simp only [eqB, Option.some.injEq] at h; exact .inl ⟨_, _, rfl, rfl, h.symm⟩)
    | (simp only [eqB, Option.some.injEq] at h; exact .inr (.inl ⟨_, _, rfl, rfl, h.symm⟩))
    | (simp only [eqB, Option.some.injEq] at h; exact .inr (.inr (.inl ⟨_, _, rfl, rfl, h.symm⟩)))
    | (simp only [eqB, Option.some.injEq] at h; exact .inr (.inr (.inr (.inl ⟨rfl, rfl, h.symm⟩))))
    | exact .inr (.inr (.inr (.inr h)))
theorem eqDeep_some {a b : D} {k : Bool} (h : eqDeep a b = some k) : ∃ x y, pd a = some x ∧ pd b = some y ∧ SeqAt.shaped x = true ∧ SeqAt.shaped y = true ∧ k = PyData.eqv x y := by
  unfold eqDeep at h
  cases ka : pd a with
  | none => rw [ka] at h; cases h
  | some x =>
    cases kb : pd b with
    | none => rw [ka, kb] at h; cases h
    | some y =>
      rw [ka, kb, Option.bind_some, Option.bind_some] at h
      by_cases c : SeqAt.shaped x = true ∧ SeqAt.shaped y = true
      · rw [if_pos c] at h
        cases h
        exact ⟨x, y, rfl, rfl, c.1, c.2, rfl⟩
      · rw [if_neg c] at h
        cases h
theorem op_eqA {X : Cx} (hu : X.A.units + 64 < cLine) : OpR X (compareOp .Eq) (rEqA X.K) := OpR.or op_eq (op_eqD hu)
theorem op_neA {X : Cx} (hu : X.A.units + 64 < cLine) : OpR X (compareOp .NotEq) (rNeA X.K) := OpR.or op_ne (op_neD hu)
theorem dec_v {α : Type} {f : α → V} (hf : ∀ a b, f a = f b → a = b) {i j : α} [DecidableEq α] : decide (f i = f j) = decide (i = j) := by
  by_cases h : i = j
  · subst h; simp
  · rw [decide_eq_false h, decide_eq_false fun z => h (hf _ _ z)]
theorem rb_eq : RB K (rEqA K) gEq := fun Hh H a b x y d Q s ha hb h q => by
  unfold gEq at h
  cases k : eqB a b with
  | none => rw [k] at h; cases h
  | some r =>
    rw [k] at h
    cases h
    have fl : Q (.bl r) H := flatQ (fun _ => by simp only [Den]) q
    rcases eqB_cases k with ⟨i, j, rfl, rfl, e⟩ | ⟨i, j, rfl, rfl, e⟩ | ⟨i, j, rfl, rfl, e⟩ | ⟨rfl, rfl, e⟩ | e
    · rw [den_int ha, den_int hb]
      refine .inl ⟨rfl, ?_⟩
      rw [dec_v (f := V.int) (fun _ _ z => V.int.inj z), ← e]
      exact fl
    · rw [den_str ha, den_str hb]
      refine .inl ⟨rfl, ?_⟩
      rw [dec_v (f := V.str) (fun _ _ z => V.str.inj z), ← e]
      exact fl
    · rw [den_bl ha, den_bl hb]
      refine .inl ⟨rfl, ?_⟩
      rw [dec_v (f := V.bl) (fun _ _ z => V.bl.inj z), ← e]
      exact fl
    · rw [den_non ha, den_non hb]
      refine .inl ⟨rfl, ?_⟩
      rw [decide_eq_true rfl, ← e]
      exact fl
    · obtain ⟨u, w, ku, kw, su, sw, e⟩ := eqDeep_some e
      refine .inr ⟨u, w, pd_dp _ _ _ (Den.mono s _ _ ha) ku, pd_dp _ _ _ (Den.mono s _ _ hb) kw, su, sw, ?_⟩
      rw [← e]
      exact fl
theorem rb_ne : RB K (rNeA K) gNe := fun Hh H a b x y d Q s ha hb h q => by
  unfold gNe at h
  cases k : eqB a b with
  | none => rw [k] at h; cases h
  | some r =>
    rw [k] at h
    cases h
    have fl : Q (.bl (!r)) H := flatQ (fun _ => by simp only [Den]) q
    rcases eqB_cases k with ⟨i, j, rfl, rfl, e⟩ | ⟨i, j, rfl, rfl, e⟩ | ⟨i, j, rfl, rfl, e⟩ | ⟨rfl, rfl, e⟩ | e
    · rw [den_int ha, den_int hb]
      refine .inl ⟨rfl, ?_⟩
      rw [dec_v (f := V.int) (fun _ _ z => V.int.inj z), ← e]
      exact fl
    · rw [den_str ha, den_str hb]
      refine .inl ⟨rfl, ?_⟩
      rw [dec_v (f := V.str) (fun _ _ z => V.str.inj z), ← e]
      exact fl
    · rw [den_bl ha, den_bl hb]
      refine .inl ⟨rfl, ?_⟩
      rw [dec_v (f := V.bl) (fun _ _ z => V.bl.inj z), ← e]
      exact fl
    · rw [den_non ha, den_non hb]
      refine .inl ⟨rfl, ?_⟩
      rw [decide_eq_true rfl, ← e]
      exact fl
    · obtain ⟨u, w, ku, kw, su, sw, e⟩ := eqDeep_some e
      refine .inr ⟨u, w, pd_dp _ _ _ (Den.mono s _ _ ha) ku, pd_dp _ _ _ (Den.mono s _ _ hb) kw, su, sw, ?_⟩
      rw [← e]
      exact fl
def non? : D → Bool
  | .non => true
  | _ => false
def gIsN : D → D → Option D
  | a, .non => some (.bl (non? a))
  | _, _ => none
def gNotN : D → D → Option D
  | a, .non => some (.bl (!non? a))
  | _, _ => none
theorem non_dec {H : Hp} {d : D} {v : V} (h : Den K H d v) : decide (v = .non) = non? d := by
  cases d with
  | non => rw [den_non h]; rfl
  | bl b => rw [den_bl h]; rfl
  | int b => rw [den_int h]; rfl
  | str b => rw [den_str h]; rfl
  | tup ds => obtain ⟨a, vs, rfl, _⟩ := den_tup h; rfl
  | lst ds => obtain ⟨a, vs, rfl, _⟩ := den_lst h; rfl
  | rls ds => simp only [Den] at h; obtain ⟨a, vs, rfl, _⟩ := h; rfl
  | dct ks ds => simp only [Den] at h; obtain ⟨a, vs, rfl, _⟩ := h; rfl
  | ty n => simp only [Den] at h; subst h; rfl
theorem rb_isN : RB K (fun x y H Q => y = .non ∧ Q (.bl (decide (x = .non))) H) gIsN := fun Hh H a b x y d Q s ha hb h q => by
  cases b with
  | non =>
    simp only [gIsN, Option.some.injEq] at h
    subst h
    refine ⟨den_non hb, ?_⟩
    rw [non_dec ha]
    exact flatQ (fun _ => by simp only [Den]) q
  | _ => simp only [gIsN] at h; cases h
theorem rb_notN : RB K (fun x y H Q => y = .non ∧ Q (.bl (!decide (x = .non))) H) gNotN := fun Hh H a b x y d Q s ha hb h q => by
  cases b with
  | non =>
    simp only [gNotN, Option.some.injEq] at h
    subst h
    refine ⟨den_non hb, ?_⟩
    rw [non_dec ha]
    exact flatQ (fun _ => by simp only [Den]) q
  | _ => simp only [gNotN] at h; cases h
/-! ### x[i] -/
def gIx : D → D → Option D
  | .tup ds, .int i => atI ds i
  | .lst ds, .int i => atI ds i
  | .rls ds, .int i => atI ds i
  | .str x, .int i => if x.length ≤ lim then (atI x.cps.toList i).map fun c => .str ⟨#[c]⟩ else none
  | _, _ => none
theorem atI_den {H : Hp} {ds : List D} {vs : List V} {i : Int} {d : D} (h : DenL K H ds vs) (e : atI ds i = some d) : ∃ v, atI vs i = some v ∧ Den K H d v := by
  unfold atI at e ⊢
  rw [← h.length]
  cases k : ixN ds.length i with
  | none => rw [k] at e; cases e
  | some j =>
    rw [k, Option.bind_some] at e
    obtain ⟨v, hv, dv⟩ := h.get e
    exact ⟨v, by rw [Option.bind_some]; exact hv, dv⟩
theorem rb_ix : RB K (rIx K) gIx := fun Hh H a b x y d Q s ha hb h q => by
  cases b with
  | int i =>
    cases a with
    | tup ds =>
      obtain ⟨p, vs, rfl, h1, h2⟩ := den_tup ha
      obtain ⟨v, hv, dv⟩ := atI_den h2 h
      exact .inr (.inl ⟨p, vs, i, v, rfl, den_int hb, Same.seqT s h1, hv, q v H (Same.refl _) (Fresh.flat dv)⟩)
    | lst ds =>
      obtain ⟨p, vs, rfl, h1, h2⟩ := den_lst ha
      obtain ⟨v, hv, dv⟩ := atI_den h2 h
      exact .inl ⟨p, vs, i, v, rfl, den_int hb, .inl (.inl (s _ _ h1)), hv, q v H (Same.refl _) (Fresh.flat dv)⟩
    | rls ds =>
      simp only [Den] at ha
      obtain ⟨p, vs, rfl, h1, h2⟩ := ha
      obtain ⟨v, hv, dv⟩ := atI_den h2 h
      exact .inl ⟨p, vs, i, v, rfl, den_int hb, s.seq h1, hv, q v H (Same.refl _) (Fresh.flat dv)⟩
    | str z =>
      simp only [gIx] at h
      by_cases c : z.length ≤ lim
      · rw [if_pos c] at h
        cases k : atI z.cps.toList i with
        | none => rw [k] at h; cases h
        | some w =>
          rw [k] at h
          cases h
          exact .inr (.inr ⟨z, i, w, den_str ha, den_int hb, by rw [← lim_eq]; exact c, k, flatQ (fun _ => by simp only [Den]) q⟩)
      · rw [if_neg c] at h; cases h
    | _ => cases h
  | _ => cases a <;> cases h
/-! ### built-ins -/
def fLen : List D → Option D
  | [.str x] => if x.length ≤ lim then some (.int x.length) else none
  | [.tup ds] => some (.int ds.length)
  | [.lst ds] => some (.int ds.length)
  | [.rls ds] => some (.int ds.length)
  | _ => none
def rLenA (K : PySem.W.Frag) : List V → Hp → VK → Prop := fun xs H Q => (∃ p ys, xs = [.ref p] ∧ (SqL K H p ys ∨ SqT K H p ys) ∧ Q (.int ys.length) H) ∨ ∃ z, xs = [.str z] ∧ z.length ≤ sizeLine ∧ Q (.int z.length) H
theorem call_lenA {X : Cx} : CallR X (.builtin "len") (rLenA X.K) := CallR.or call_len_seq call_len_str
theorem rc_len : RC K (rLenA K) fLen := fun Hh H ds vs d Q s h e q => by
  match ds, e with
  | [.str x], e =>
    simp only [fLen] at e
    by_cases c : x.length ≤ lim
    · rw [if_pos c] at e
      cases e
      obtain ⟨v, rfl, hv⟩ := den1 h
      rw [den_str hv]
      exact .inr ⟨x, rfl, by rw [← lim_eq]; exact c, flatQ (fun _ => by simp only [Den]) q⟩
    · rw [if_neg c] at e; cases e
  | [.tup es], e =>
    cases e
    obtain ⟨v, rfl, hv⟩ := den1 h
    obtain ⟨p, us, rfl, h1, h2⟩ := den_tup hv
    exact .inl ⟨p, us, rfl, .inr (Same.seqT s h1), flatQ (fun _ => by simp only [Den]; rw [h2.length]) q⟩
  | [.lst es], e =>
    cases e
    obtain ⟨v, rfl, hv⟩ := den1 h
    obtain ⟨p, us, rfl, h1, h2⟩ := den_lst hv
    exact .inl ⟨p, us, rfl, .inl (.inl (.inl (s _ _ h1))), flatQ (fun _ => by simp only [Den]; rw [h2.length]) q⟩
  | [.rls es], e =>
    cases e
    obtain ⟨v, rfl, hv⟩ := den1 h
    simp only [Den] at hv
    obtain ⟨p, us, rfl, h1, h2⟩ := hv
    exact .inl ⟨p, us, rfl, .inl (s.seq h1), flatQ (fun _ => by simp only [Den]; rw [h2.length]) q⟩
def fAbs : List D → Option D
  | [.int i] => some (.int (if i < 0 then -i else i))
  | _ => none
theorem rc_abs : RC K (fun xs H Q => ∃ i, xs = [.int i] ∧ Q (.int (if i < 0 then -i else i)) H) fAbs := fun Hh H ds vs d Q s h e q => by
  match ds, e with
  | [.int i], e =>
    cases e
    obtain ⟨v, rfl, hv⟩ := den1 h
    rw [den_int hv]
    exact ⟨i, rfl, flatQ (fun _ => by simp only [Den]) q⟩
def fMax2 : List D → Option D
  | [.int i, .int j] => some (.int (if j > i then j else i))
  | _ => none
def fMin2 : List D → Option D
  | [.int i, .int j] => some (.int (if j < i then j else i))
  | _ => none
theorem rc_max2 : RC K (fun xs H Q => ∃ i j, xs = [.int i, .int j] ∧ Q (.int (if j > i then j else i)) H) fMax2 := fun Hh H ds vs d Q s h e q => by
  match ds, e with
  | [.int i, .int j], e =>
    cases e
    obtain ⟨v, v', rfl, hv, hv'⟩ := den2 h
    rw [den_int hv, den_int hv']
    exact ⟨i, j, rfl, flatQ (fun _ => by simp only [Den]) q⟩
theorem rc_min2 : RC K (fun xs H Q => ∃ i j, xs = [.int i, .int j] ∧ Q (.int (if j < i then j else i)) H) fMin2 := fun Hh H ds vs d Q s h e q => by
  match ds, e with
  | [.int i, .int j], e =>
    cases e
    obtain ⟨v, v', rfl, hv, hv'⟩ := den2 h
    rw [den_int hv, den_int hv']
    exact ⟨i, j, rfl, flatQ (fun _ => by simp only [Den]) q⟩
def fInt : List D → Option D
  | [.int i] => some (.int i)
  | [.bl b] => some (.int (if b then 1 else 0))
  | _ => none
theorem rc_int : RC K (fun xs H Q => (∃ i, xs = [.int i] ∧ Q (.int i) H) ∨ ∃ k, xs = [.bl k] ∧ Q (.int (if k then 1 else 0)) H) fInt := fun Hh H ds vs d Q s h e q => by
  match ds, e with
  | [.int i], e =>
    cases e
    obtain ⟨v, rfl, hv⟩ := den1 h
    rw [den_int hv]
    exact .inl ⟨i, rfl, flatQ (fun _ => by simp only [Den]) q⟩
  | [.bl i], e =>
    cases e
    obtain ⟨v, rfl, hv⟩ := den1 h
    rw [den_bl hv]
    exact .inr ⟨i, rfl, flatQ (fun _ => by simp only [Den]) q⟩
def bls : List D → Option (List Bool)
  | [] => some []
  | .bl b :: ds => (bls ds).map (b :: ·)
  | _ :: _ => none
theorem bls_some {H : Hp} : ∀ {ds : List D} {bs : List Bool} {vs : List V}, bls ds = some bs → DenL K H ds vs → vs = bs.map V.bl
  | [], bs, vs, h, e => by simp only [bls, Option.some.injEq] at h; subst h; simp only [DenL] at e; exact e
  | d :: ds, bs, vs, h, e => by
    cases d with
    | bl b =>
      simp only [bls] at h
      simp only [DenL] at e
      obtain ⟨v, r, rfl, h1, h2⟩ := e
      cases k : bls ds with
      | none => rw [k] at h; cases h
      | some cs =>
        rw [k] at h
        cases h
        rw [den_bl h1, bls_some k h2]
        rfl
    | _ => cases h
def fAll : List D → Option D
  | [.lst ds] => (bls ds).map fun bs => .bl (bs.all id)
  | _ => none
theorem rc_all : RC K (rAll K) fAll := fun Hh H ds vs d Q s h e q => by
  match ds, e with
  | [.lst es], e =>
    simp only [fAll] at e
    cases k : bls es with
    | none => rw [k] at e; cases e
    | some bs =>
      rw [k] at e
      cases e
      obtain ⟨v, rfl, hv⟩ := den1 h
      obtain ⟨p, us, rfl, h1, h2⟩ := den_lst hv
      rw [bls_some k h2] at h1
      exact ⟨p, bs, rfl, .inl (.inl (s _ _ h1)), flatQ (fun _ => by simp only [Den]) q⟩
/-- isinstance(x, T) -/
def tyName : D → Option String
  | .non => some "NoneType"
  | .bl _ => some "bool"
  | .int _ => some "int"
  | .str _ => some "str"
  | .tup _ => some "tuple"
  | .lst _ => some "list"
  | .rls _ => some "list"
  | .dct _ _ => some "dict"
  | .ty _ => none
def isT (a b : String) : Option Bool := if a = "bool" ∧ b = "int" then some true else if ["int", "bool", "str", "tuple", "list", "dict"].contains b then some (decide (a = b)) else none
def fIs : List D → Option D
  | [d, .ty n] => (tyName d).bind fun a => (isT a n).map .bl
  | _ => none
theorem tyX {Hh H : Hp} {d : D} {v : V} {a : String} (s : Same Hh H) (h : Den K Hh d v) (e : tyName d = some a) : TyX K H v (.type a) := by
  cases d with
  | non => cases e; rw [den_non h]; exact .base .non
  | bl b => cases e; rw [den_bl h]; exact .base (.bl b)
  | int b => cases e; rw [den_int h]; exact .base (.int b)
  | str b => cases e; rw [den_str h]; exact .base (.str b)
  | tup ds =>
    cases e
    obtain ⟨p, vs, rfl, h1, _⟩ := den_tup h
    rcases Same.seqT s h1 with (h1 | ⟨o, h1⟩) | ⟨o, its, n, h1, h2, _⟩
    · exact .base (.tup h1)
    · exact .fTuple h1
    · exact .kTuple h1 h2
  | lst ds =>
    cases e
    obtain ⟨p, vs, rfl, h1, _⟩ := den_lst h
    exact .base (.lst (s _ _ h1))
  | rls ds =>
    cases e
    simp only [Den] at h
    obtain ⟨p, vs, rfl, h1, _⟩ := h
    rcases s.seq h1 with (h1 | ⟨o, h1⟩) | ⟨o, its, n, h1, h2, _⟩
    · exact .base (.lst h1)
    · exact .base (.frz h1)
    · exact .kList h1 h2
  | dct ks ds =>
    cases e
    simp only [Den] at h
    obtain ⟨p, vs, rfl, h1, _⟩ := h
    exact .base (.dK (s _ _ h1))
  | ty n => cases e
theorem isT_kit {a b : String} {r : Bool} (ha : a ∈ ["NoneType", "bool", "int", "str", "tuple", "list", "dict"]) (h : isT a b = some r) : kitB a b = some r := by
  have hb : b ∈ ["int", "bool", "str", "tuple", "list", "dict"] := by
    unfold isT at h
    by_cases c : a = "bool" ∧ b = "int"
    · rw [c.2]; decide
    · rw [if_neg c] at h
      by_cases c2 : ["int", "bool", "str", "tuple", "list", "dict"].contains b = true
      · exact List.contains_iff_mem.mp c2
      · rw [if_neg c2] at h; cases h
  have key : ∀ a ∈ ["NoneType", "bool", "int", "str", "tuple", "list", "dict"], ∀ b ∈ ["int", "bool", "str", "tuple", "list", "dict"], kitB a b = isT a b := by decide +kernel
  rw [key a ha b hb]
  exact h
theorem tyName_mem {d : D} {a : String} (e : tyName d = some a) : a ∈ ["NoneType", "bool", "int", "str", "tuple", "list", "dict"] := by
  cases d <;> simp only [tyName, Option.some.injEq] at e <;> first | (subst e; decide) | cases e
theorem rc_is : RC K (rIsi K) fIs := fun Hh H ds vs d Q s h e q => by
  match ds, e with
  | [x, .ty n], e =>
    simp only [fIs] at e
    cases k : tyName x with
    | none => rw [k] at e; cases e
    | some a =>
      rw [k, Option.bind_some] at e
      cases k2 : isT a n with
      | none => rw [k2] at e; cases e
      | some r =>
        rw [k2] at e
        cases e
        obtain ⟨v, v', rfl, hv, hv'⟩ := den2 h
        simp only [Den] at hv'
        subst hv'
        exact ⟨v, .ty n, .type a, .type n, r, rfl, .ty n, tyX s hv k, kit_ty (isT_kit (tyName_mem k) k2), flatQ (fun _ => by simp only [Den]) q⟩
end
section
variable {X : Cx} {W : WX} {pos : Pos}
theorem v_ty {x : Str} {n : String} (hg : Gl X x) (hm : X.mg x = none) (hv : bootBuiltins x = some (.type n) := by decide +kernel) (hn : x ≠ "__name__" := by decide) (hd : (x == ("__debug__" : Str)) = false := by decide) : PE X (.Name x pos) (rE X.K X.mg W (eC (.ty n))) :=
  v_const (pe_bltn hg hm hv (v := .ty n) rfl hn hd) fun _ => by simp only [Den]
theorem v_globI {x : Str} {i : Int} {u : Value} (hg : Gl X x) (hm : X.mg x = some u) (r : RelV (.int i) u) (hd : (x == ("__debug__" : Str)) = false := by decide) : PE X (.Name x pos) (rE X.K X.mg W (eC (.int i))) :=
  v_const (pe_glob hg hm r hd) fun _ => by simp only [Den]
theorem v_globS {x i : Str} {u : Value} (hg : Gl X x) (hm : X.mg x = some u) (r : RelV (.str i) u) (hd : (x == ("__debug__" : Str)) = false := by decide) : PE X (.Name x pos) (rE X.K X.mg W (eC (.str i))) :=
  v_const (pe_glob hg hm r hd) fun _ => by simp only [Den]
theorem v_blt {x : Str} {id : String} {r : List V → Hp → VK → Prop} {g : List D → Option D} {p : Pos} {a : Expr} {es : List Expr} {f : FA} (hr : RC X.K r g) (hc : CallR X (.builtin id) r) (hg : Gl X x) (hm : X.mg x = none) (ha : PA X (a :: es) (rA X.K X.mg W f)) (hv : bootBuiltins x = some (.builtin id) := by decide +kernel)
    (hn : x ≠ "__name__" := by decide) (hdb : (x == ("__debug__" : Str)) = false := by decide) (he : starEach (a :: es) X.env = (false, eval a X.env) :: starEach es X.env := by rfl) (hpl : (backTo pos (starEach es X.env)).any (·.1) = false := by rfl) :
    PE X (.Call (.Name x p) (a :: es) [] pos) (rE X.K X.mg W (eF g f)) := (pe_callB hc hg hm hv ha hn hdb he hpl).imp (rC_of hr)
theorem v_bty {x : Str} {T : String} {r : List V → Hp → VK → Prop} {g : List D → Option D} {p : Pos} {a : Expr} {es : List Expr} {f : FA} (hr : RC X.K r g) (hc : CallR X (.type T) r) (hg : Gl X x) (hm : X.mg x = none) (ha : PA X (a :: es) (rA X.K X.mg W f)) (hv : bootBuiltins x = some (.type T) := by decide +kernel)
    (hn : x ≠ "__name__" := by decide) (hdb : (x == ("__debug__" : Str)) = false := by decide) (he : starEach (a :: es) X.env = (false, eval a X.env) :: starEach es X.env := by rfl) (hpl : (backTo pos (starEach es X.env)).any (·.1) = false := by rfl) :
    PE X (.Call (.Name x p) (a :: es) [] pos) (rE X.K X.mg W (eF g f)) := (pe_callTy hc hg hm hv ha hn hdb he hpl).imp (rC_of hr)
end
end Mi
namespace Mi
open PySem PySem.Spec PyProof.Rows L2 RT
section
variable {prog : Program} {w : World} {A : Around} {E : Value → Shared → Prop} {s : Shared}
theorem ext_rev {R : Result → Shared → Prop} {it l S : Addr} {items : Array Value} {res : Value} {c₀ : Nat} (hh : A.handled = none) (hit : s.heap.IsRevIter it l ((items.size : Int) - 1)) (hl : s.heap.IsList l items) (hne : l ≠ it) (hn : items.size ≤ sizeLine)
    (hS : s.heap.get? S = some { cls := .type "list", data := .seq #[] c₀ }) (hSi : S ≠ it) (hSl : S ≠ l)
    (hR : ∀ h' tk acc' c', (∀ b o, b ≠ S → b ≠ it → s.heap.get? b = some o → h'.get? b = some o) → h'.get? S = some { cls := .type "list", dict := none, data := .seq acc' c', slots := #[] } →
      ItemsOf (fun i v => items[items.size - 1 - i]? = some v) acc' items.size → R (.ok (.ret res)) { s with heap := h', toks := tk }) :
    wpAny (model prog w) A.in1 (Builtin.List.listExtendWith (.ref S) (.ref it) res)
      (fun fin s' => match fin with | .done f => R (.ok f) s' | .again c' => c'.quiet = true ∧ codeAny (model prog w) A c' R s') (fun e s' => R (.error e) s') s := by
  have W := (Walks.listRev (prog := prog) (w := w) (A := A.in1) hh it l hne items).toS
  have hSf : S ∉ [it, l] := by simp only [List.mem_cons, List.not_mem_nil, or_false, not_or]; exact ⟨hSi, hSl⟩
  have hT : s.TypeIs (.ref it) "list_reverseiterator" := hit.typeIs
  have h1 : Builtin.List.listSameRef (.ref S) (.ref it) = false := by simp [Builtin.List.listSameRef, hSi]
  unfold Builtin.List.listExtendWith
  refine wpAny_bind (wpAny_typeOf hT ?_)
  rw [if_neg (by rw [h1]; decide)]
  refine wpAny_bind (wpAny_pyIter_revIter hit ?_)
  refine wpAny_bind (wpAny_holding ?_)
  unfold Builtin.List.listLengthHint
  refine wpAny_bind (wpAny_specialOf hT nolen_lri ?_)
  show wpAny _ A.in1 (specialOf (Value.ref it) (Str.ofString "__length_hint__") >>= _) _ _ _
  refine wpAny_bind (wpAny_specialOf hT hint_lri ?_)
  generalize hid : ("list_reverseiterator.__length_hint__" : String) = id0
  wp_delta
  rw [show splitId id0 = some ("list_reverseiterator", "__length_hint__") from by subst hid; decide +kernel]
  subst hid
  refine wpAny_bind (wpAny_isInstance (b := true) hT (by rw [isSubtype_type]; kernel_rfl) ?_)
  refine wpAny_pure ?_
  rw [if_neg (by decide)]
  have e0 : ((items.size : Nat) : Int) - 1 - ((0 : Nat) : Int) = (items.size : Int) - 1 := by omega
  refine wpAny_pure ⟨plainId_quiet F.plain_extend_loop _, codeAny_extend_loopS W hn S hSf res items.size 0 _ _ _ rfl (Nat.zero_le _) ⟨Nat.zero_le _, by rw [e0]; exact hit, hl⟩ hS (ItemsOf.nil _) fun s' acc' c' hm hS' hacc => ?_⟩
  rw [Moved.eq_with hm]
  refine hR s'.heap s'.toks acc' c' (fun b o hb hb' e => hm.heap b o (fun hmem => ?_) e) hS' hacc
  rcases List.mem_cons.mp hmem with e' | hmem
  · exact hb e'
  · exact hb' (List.mem_singleton.mp hmem)
theorem list_init_rev {R : Result → Shared → Prop} {it l S : Addr} {items : Array Value} (hh : A.handled = none) (hit : s.heap.IsRevIter it l ((items.size : Int) - 1)) (hl : s.heap.IsList l items) (hne : l ≠ it) (hn : items.size ≤ sizeLine)
    (hS : s.heap.get? S = some { cls := .type "list", data := .seq #[] }) (hSi : S ≠ it) (hSl : S ≠ l)
    (hR : ∀ h' tk acc' c', (∀ b o, b ≠ S → b ≠ it → s.heap.get? b = some o → h'.get? b = some o) → h'.get? S = some { cls := .type "list", dict := none, data := .seq acc' c', slots := #[] } →
      ItemsOf (fun i v => items[items.size - 1 - i]? = some v) acc' items.size → R (.ok (.ret .none)) { s with heap := h', toks := tk }) :
    wpAny (model prog w) A.in1 (Builtin.«list.__init__» ⟨[.ref S, .ref it], []⟩)
      (fun fin s' => match fin with | .done f => R (.ok f) s' | .again c' => c'.quiet = true ∧ codeAny (model prog w) A c' R s') (fun e s' => R (.error e) s') s := by
  show wpAny _ _ (do let old ← Builtin.List.listItems (.ref S); Builtin.List.listUpdate (.ref S) (fun _ => #[]); letGo old.toList.reverse; Builtin.List.listExtendWith (.ref S) (.ref it) .none) _ _ s
  refine wpAny_bind ?_
  unfold Builtin.List.listItems
  refine wpAny_bind (wpAny_seqItems hS rfl (wpAny_pure ?_))
  show wpAny _ _ (updateSeq S (fun _ => #[]) >>= fun _ => letGo (#[] : Array Value).toList.reverse >>= fun _ => Builtin.List.listExtendWith (.ref S) (.ref it) .none) _ _ s
  refine wpAny_bind (wpAny_updateSeq hS rfl ?_)
  have hS₂ := Heap.get?_update_self (Obj.mapSeq (fun _ => (#[] : Array Value))) hS rfl
  have oth : ∀ b o, b ≠ S → s.heap.get? b = some o → (s.heap.update S (Obj.mapSeq (fun _ => (#[] : Array Value)))).get? b = some o :=
    fun b o hb e => (Heap.get?_update_other _ _ (Ne.symm hb)).trans e
  refine wpAny_bind (wpAny_letGo ?_)
  obtain ⟨ol, hol, hcl, nl, hdl⟩ := hl
  refine ext_rev (s := { s with heap := s.heap.update S (Obj.mapSeq (fun _ => (#[] : Array Value))) }) hh (hit.at fun o e => oth it o (Ne.symm hSi) e) ⟨ol, oth l ol (Ne.symm hSl) hol, hcl, nl, hdl⟩ hne hn hS₂ hSi hSl fun h' tk acc' c' hk hS' hacc => ?_
  exact hR h' tk acc' c' (fun b o hb hb' e => hk b o hb hb' (oth b o hb e)) hS' hacc
theorem call_list_rev {it l : Addr} {items : Array Value} {Q : Value → Shared → Prop} (hh : A.handled = none) (hit : s.heap.IsRevIter it l ((items.size : Int) - 1)) (hl : s.heap.IsList l items) (hne : l ≠ it) (hn : items.size ≤ sizeLine)
    (hQ : ∀ h' tk acc' c', (∀ b o, b ≠ it → s.heap.get? b = some o → h'.get? b = some o) → h'.get? s.heap.objs.size = some { cls := .type "list", dict := none, data := .seq acc' c', slots := #[] } →
      ItemsOf (fun i v => items[items.size - 1 - i]? = some v) acc' items.size → Q (.ref s.heap.objs.size) { s with heap := h', toks := tk }) :
    wpAny (model prog w) A (call (.type "list") [.ref it]) Q E s := by
  refine callType_codes (Q₁ := fun obj s₁ => obj = .ref s.heap.objs.size ∧ s₁ = { s with heap := s.heap.push { cls := .type "list", data := .seq #[] } }) F.called_list (F.typeCall_list_1 _) F.entry_list_init
    (code_list_new _ ⟨rfl, rfl⟩) fun obj s₁ h₁ => ?_
  obtain ⟨rfl, rfl⟩ := h₁
  have hS : (s.heap.push { cls := .type "list", data := .seq #[] }).get? s.heap.objs.size = some { cls := .type "list", data := .seq #[] } := Heap.get?_push_size _ rfl
  obtain ⟨oi, hoi, _⟩ := id hit
  obtain ⟨ol, hol, _⟩ := id hl
  refine ⟨⟨_, hS, rfl⟩, F.args_list_init_2 _ _, list_init_rev (A := A.in1) (s := { s with heap := s.heap.push { cls := .type "list", data := .seq #[] } }) hh (hit.at fun o e => Heap.get?_push_of_some _ e) (hl.push _) hne hn hS (Nat.ne_of_gt (Heap.lt_size hoi)) (Nat.ne_of_gt (Heap.lt_size hol)) fun h' tk acc' c' hk hS' hacc => ?_⟩
  exact ⟨rfl, hQ h' tk acc' c' (fun b o hb e => hk b o (Nat.ne_of_lt (Heap.lt_size e)) hb (Heap.get?_push_of_some _ e)) hS' hacc⟩
end
section
variable {X : Cx} {W : WX}
def tLstRev (K : PySem.W.Frag) (te : TE) : TE := fun σ H Q => te σ H fun v H1 => ∃ (a : Addr) (xs : List V), v = .ref a ∧ SqL K H1 a xs ∧ ∀ p, H1 p = none → Q (.ref p) (upd H1 p (.lst xs.reverse))
theorem pe_lstRev {e : Expr} {te : TE} {p p2 pos pos2 : Pos} (hc : X.calm = true) (hg : Gl X "list") (hm : X.mg "list" = none) (hg2 : Gl X "reversed") (hm2 : X.mg "reversed" = none) (he : PE X e te)
    (hs : starEach [e] X.env = (false, eval e X.env) :: starEach [] X.env := by rfl)
    (hs2 : starEach [.Call (.Name "reversed" p2) [e] [] pos2] X.env = (false, eval (.Call (.Name "reversed" p2) [e] [] pos2) X.env) :: starEach [] X.env := by rfl) :
    PE X (.Call (.Name "list" p) [.Call (.Name "reversed" p2) [e] [] pos2] [] pos) (tLstRev X.K te) := by
  refine ⟨fun pins s σ H Q I h => ?_⟩
  refine Call_ (ld_blt I hg hm boot_list (PyProof.Rows.callWith_type1 (args_cons (Call_ (ld_blt I hg2 hm2 PyProof.Rows.boot_reversed (PyProof.Rows.callWith_type1 (args_cons (thn (he.run pins s σ H _ I h) fun u s1 ⟨v, H1, I1, r1, q1⟩ => args_nil ?_) hs) hs rfl))) hs2) hs2 rfl))
  obtain ⟨a, xs, ev, hq, q⟩ := q1
  subst ev
  obtain rfl : u = Value.ref a := r1
  obtain ⟨its, rv, p', hz⟩ := I1.list hq
  refine call_reversed_list p'.isList (args_nil ?_)
  have k0 : ∀ b o, s1.heap.get? b = some o → (s1.heap.push (revObj a ((its.toArray.size : Int) - 1))).get? b = some o := fun b o e => Heap.get?_push_of_some _ e
  have I2 : Inv X pins σ H1 { s1 with heap := s1.heap.push (revObj a ((its.toArray.size : Int) - 1)) } := I1.kept (t' := s1.toks) k0
  obtain ⟨f0, f1, f2, f3, f4, f5⟩ := I1.fpOk (H' := H1) (b := s1.heap.objs.size) (Nat.le_refl _) (I1.hok.fresh (Nat.le_refl _))
  have hl := p'.isList
  obtain ⟨ol, hol, _⟩ := id hl
  have hne : a ≠ s1.heap.objs.size := Nat.ne_of_lt (Heap.lt_size hol)
  have hn : its.toArray.size ≤ sizeLine := by rw [List.size_toArray, ← rv.length]; exact hz
  refine call_list_rev (s := { s1 with heap := s1.heap.push (revObj a ((its.toArray.size : Int) - 1)) }) (I1.ok.hd hc) ⟨_, Heap.get?_push_size _ rfl, rfl, rfl⟩ (hl.push _) hne hn fun h' tk acc c' hk hS' hi => ?_
  have hf : ∀ b ∈ [s1.heap.objs.size], FpOk X pins H1 b := fun b hb => by
    rw [List.mem_singleton.mp hb]
    exact ⟨f0, f1, f2, f3, f4, f5⟩
  have hfr := I2.hok.fresh (Nat.le_refl _)
  have new : ObjOk X.prog X.w (upd H1 (s1.heap.push (revObj a ((its.toArray.size : Int) - 1))).objs.size (.lst xs.reverse)) h' (s1.heap.push (revObj a ((its.toArray.size : Int) - 1))).objs.size (.lst xs.reverse) :=
    ⟨by rw [List.length_reverse]; exact hz, acc.toList, c', vals_rev rv hi, by rw [Array.toArray_toList]; exact hS'⟩
  have I3 := I2.turnedNew (t' := tk) (ch := [s1.heap.objs.size]) (fun b o hb e => hk b o (fun z => hb (by rw [z]; exact List.mem_singleton.mpr rfl)) e) hf (Nat.le_refl _) new
  exact ⟨.ref _, _, I3, rfl, q _ hfr⟩
def gRevL (d : D) : Option (List D) := (lst? d).map List.reverse
def nU (g : D → Option (List D)) (fa : FE) : FA := fun e => (fa e).bind fun p => match g p.1 with
  | some d => .ok (d, p.2)
  | none => .err
theorem n_lstRev {e : Expr} {f : FE} {p p2 pos pos2 : Pos} (hc : X.calm = true) (hg : Gl X "list") (hm : X.mg "list" = none) (hg2 : Gl X "reversed") (hm2 : X.mg "reversed" = none) (he : PE X e (rE X.K X.mg W f))
    (hs : starEach [e] X.env = (false, eval e X.env) :: starEach [] X.env := by rfl)
    (hs2 : starEach [.Call (.Name "reversed" p2) [e] [] pos2] X.env = (false, eval (.Call (.Name "reversed" p2) [e] [] pos2) X.env) :: starEach [] X.env := by rfl) :
    PE X (.Call (.Name "list" p) [.Call (.Name "reversed" p2) [e] [] pos2] [] pos) (rN X.K X.mg W (nU gRevL f)) :=
  (pe_lstRev hc hg hm hg2 hm2 he hs hs2).imp fun σ H Q ⟨A, en, r, q⟩ => by
    refine rN_seq r q fun d e1 x H1 _ r1 s1 d1 p1 => ?_
    unfold gRevL at p1
    cases k : lst? d with
    | none => simp only [k, Option.map_none] at p1; exact p1.elim
    | some ds =>
      simp only [k, Option.map_some] at p1
      obtain ⟨a, vs, rfl, h1, h2⟩ := den_lst? d1 k
      exact ⟨a, vs, rfl, hid_sub.seq h1, fun t ht => finN r1 p1 ht (DenL.reverse h2)⟩
end
/-! ### op= -/
section
variable {X : Cx}
theorem ip_mulW : PIp X .Mult (L2.rI CMulX fun i j => .int (i * j)) := by
  intro pins s σ H x y v u Q I r1 r2 h
  obtain ⟨i, j, e1, e2, hc, q⟩ := h
  subst e1; subst e2
  obtain ⟨t, rfl⟩ := r1
  obtain ⟨t', rfl⟩ := r2
  exact PyProof.Rows.imul_int ⟨.int _, H, I.tok _, ⟨_, rfl⟩, q⟩ hc.ok
abbrev gAddI := gI T2 fun i j => .int (i + j)
theorem rb_ipadd {K : PySem.W.Frag} : RB K (ipI fun i j => i + j) gAddI := fun Hh H a b x y d Q s ha hb h q => by
  obtain ⟨i, j, rfl, rfl, _, rfl⟩ := gI_some h
  exact ⟨i, j, den_int ha, den_int hb, flatQ (fun _ => by simp only [Den]) q⟩
theorem rb_ipsub {K : PySem.W.Frag} : RB K (ipI fun i j => i - j) gSub := fun Hh H a b x y d Q s ha hb h q => by
  obtain ⟨i, j, rfl, rfl, _, rfl⟩ := gI_some h
  exact ⟨i, j, den_int ha, den_int hb, flatQ (fun _ => by simp only [Den]) q⟩
end
end Mi
namespace Mi
open PySem PySem.Spec PyProof.Rows L2

section
variable {X : Cx} {W : WX} {pos : Pos} {a b c : Expr} {fa fb fc : FE}
/-! ### a statement that is an expression -/
def sExp (f : FE) : FS := fun e => (f e).bind fun p => .ok (.nx p.2)
theorem vs_expr (ha : PE X a (rE X.K X.mg W fa)) (hs : swapsWith a none pos.line X.env = pure false := by rfl) : PS X (.Expr a pos) (rdS X.K X.mg W (sExp fa)) :=
  (ps_expr ha hs).imp fun D σ H ⟨A, e, r, p⟩ => by
    refine ⟨A, e, r, ?_⟩
    unfold sExp at p
    cases q : fa e with
    | ok z =>
      rw [q] at p
      exact fun v H' r' s' d' => p σ H' r' s'
    | exc c e1 =>
      rw [q] at p
      exact fun H' r' => p σ H' r'
    | err => rw [q] at p; exact p
end
/-! ### // of great ints, by any divisor that is above a little below the other -/
theorem noPylong_near {x y : Int} (h : x.natAbs.log2 < 13500) : Builtin.divisionGoesByPylong x y = false := by
  show (decide ((if y == 0 then 0 else y.natAbs.log2 / 30 + 1) > 300) && decide ((if x == 0 then 0 else x.natAbs.log2 / 30 + 1) > (if y == 0 then 0 else y.natAbs.log2 / 30 + 1) + 150)) = false
  rw [Bool.and_eq_false_iff]
  by_cases c : (if y == 0 then 0 else y.natAbs.log2 / 30 + 1) > 300
  · refine .inr (decide_eq_false ?_)
    generalize (if y == 0 then 0 else y.natAbs.log2 / 30 + 1) = k at c
    have : (if (x == 0) = true then 0 else x.natAbs.log2 / 30 + 1) ≤ 450 := by
      split <;> omega
    omega
  · exact .inl (decide_eq_false c)
def CDivX (i j : Int) : Prop := 0 < j ∧ (j.natAbs.log2 < 9000 ∨ i.natAbs.log2 < 13500)
theorem noPyX {i j : Int} (h : CDivX i j) : Builtin.divisionGoesByPylong i j = false := h.2.elim PyProof.noPylong_of_log2 noPylong_near
theorem op_fdivX {X : Cx} : OpR X (binaryOp .FloorDiv) (L2.rI CDivX fun i j => .int (i / j)) := opI fun i j _ _ _ _ _ hc q => by
  have h1 : (0 : Int) < j := hc.1
  exact floordiv_int (by omega) (by rw [Int.fdiv_eq_ediv_of_nonneg i (by omega)]; exact q) (.inl (noPyX hc))
def divXOk (i j : Int) : Bool := decide (0 < j) && (decide (j.natAbs.log2 < 9000) || decide (i.natAbs.log2 < 13500))
theorem divXOk_iff {i j : Int} : divXOk i j = true ↔ CDivX i j := by
  unfold divXOk CDivX
  rw [Bool.and_eq_true, Bool.or_eq_true, decide_eq_true_iff, decide_eq_true_iff, decide_eq_true_iff]
abbrev gDivX := gI divXOk fun i j => .int (i / j)
theorem rb_divX {K : PySem.W.Frag} : RB K (L2.rI CDivX fun i j => .int (i / j)) gDivX := rb_I (fun i j h => divXOk_iff.1 h) fun _ _ _ => by simp only [Den]
theorem _root_.L2.Room.hu {k : Nat} {A : Around} (r : Room k A) : A.units + 64 < cLine := by have := r.un; omega
/-- turns enough for any while -/
def fuelN : Nat := 1099511627776
/-! ### where a def stands, a call of it -/
def DefA (K : PySem.W.Frag) (mg : Str → Option Value) (x : Str) (st : Stmt) (ps : List Str) : Prop :=
  ∃ (f : Addr) (fd : FuncData), Fun K x x st f fd ∧ mg x = some (.ref f) ∧ PySem.W.keepIn K (.ref f) = true ∧ Binds K fd ps []
def CallA (P : Program) (w : World) (K : PySem.W.Frag) (mg : Str → Option Value) (base : Heap) (k : Nat) (x : Str) (n : Nat) (fr : Bool) (fn : List D → R D) : Prop :=
  ∃ (fa : Addr) (fd : FuncData) (ps : List Str), FnOk P w K mg base (L2.CX P w) k fa fd ps (spA K mg n fr fn) ∧ PySem.W.keepIn K (.ref fa) = true ∧ Binds K fd ps [] ∧ mg x = some (.ref fa)
def CallB (P : Program) (w : World) (K : PySem.W.Frag) (mg : Str → Option Value) (base : Heap) (k : Nat) (x : Str) (n : Nat) (fn : List Int → List D → R (D × List Int)) : Prop :=
  ∃ (fa : Addr) (fd : FuncData) (ps : List Str), FnOk P w K mg base (L2.CX P w) k fa fd ps (spB K n fn) ∧ PySem.W.keepIn K (.ref fa) = true ∧ Binds K fd ps [] ∧ mg x = some (.ref fa)
def ExcA (K : PySem.W.Frag) (mg : Str → Option Value) (x : Str) : Prop :=
  ∃ C : Addr, mg x = some (.ref C) ∧ PySem.W.excIn K C He.veBase "ValueError.__new__" = true ∧ PySem.W.keepIn K (.ref C) = true ∧ PySem.W.subIn K (.ref C) (.type "BaseException") = some true ∧ PySem.W.typeIn K (.ref C) = some (.type "type")
def IntA (mg : Str → Option Value) (x : Str) (i : Int) : Prop := ∃ t, mg x = some (.int i t)
section
variable {X : Cx} {W : WX} {pos p : Pos} {x : Str} {a : Expr} {es : List Expr} {f : FA} {k n : Nat}
theorem v_callU {fr : Bool} {fn : List D → R D} (h : CallA X.prog X.w X.K X.mg X.base k x n fr fn) (hr : Room k X.A) (tk : Takes X W) (hg : Gl X x) (ha : PA X (a :: es) (rA X.K X.mg W f)) (hdb : (x == ("__debug__" : Str)) = false := by decide)
    (he : starEach (a :: es) X.env = (false, eval a X.env) :: starEach es X.env := by rfl) (hpl : (backTo pos (starEach es X.env)).any (·.1) = false := by rfl) : PE X (.Call (.Name x p) (a :: es) [] pos) (rE X.K X.mg W (eCall n fn f)) := by
  obtain ⟨fa, fd, ps, F, hk, hb, hm⟩ := h
  exact v_call F hr tk hk hb hm hg ha hdb he hpl
theorem n_callU {fn : List D → R D} (h : CallA X.prog X.w X.K X.mg X.base k x n true fn) (hr : Room k X.A) (tk : Takes X W) (hg : Gl X x) (ha : PA X (a :: es) (rA X.K X.mg W f)) (hdb : (x == ("__debug__" : Str)) = false := by decide)
    (he : starEach (a :: es) X.env = (false, eval a X.env) :: starEach es X.env := by rfl) (hpl : (backTo pos (starEach es X.env)).any (·.1) = false := by rfl) : PE X (.Call (.Name x p) (a :: es) [] pos) (rN X.K X.mg W (nCall n fn f)) := by
  obtain ⟨fa, fd, ps, F, hk, hb, hm⟩ := h
  exact n_call F hr tk hk hb hm hg ha hdb he hpl
theorem v_callBU (i : Nat) {y : Str} {py : Pos} {fn : List Int → List D → R (D × List Int)} (h : CallB X.prog X.w X.K X.mg X.base k x n fn) (hr : Room k X.A) (tk : Takes X W) (hg : Gl X x)
    (ha : PA X es (rA X.K X.mg W f)) (hN : X.N[i]? = some y := by rfl) (hv : Vis X.env.scope y := by first | exact Or.inl rfl | exact Or.inr (Or.inl rfl) | exact Or.inr (Or.inr rfl)) (hd : (y == ("__debug__" : Str)) = false := by decide) (hcd : (y == ("__classdict__" : Str)) = false := by decide)
    (hdb : (x == ("__debug__" : Str)) = false := by decide) (he : starEach (.Name y py :: es) X.env = (false, eval (.Name y py) X.env) :: starEach es X.env := by rfl) (hpl : (backTo pos (starEach es X.env)).any (·.1) = false := by rfl) :
    PE X (.Call (.Name x p) (.Name y py :: es) [] pos) (rE X.K X.mg W (eCallB n i fn f)) := by
  obtain ⟨fa, fd, ps, F, hk, hb, hm⟩ := h
  exact v_callB i F hr tk hk hb hm hg ha hN hv hd hcd hdb he hpl
theorem vs_raiseU {m : Str} {j : Nat} {p2 cp : Pos} (h : ExcA X.K X.mg x) (hc : X.calm = true) (tk : Takes X W) (hg : Gl X x) (hdb : (x == ("__debug__" : Str)) = false := by decide) :
    PS X (.Raise (some (.Call (.Name x p) [.Constant (.str m) j p2] [] cp)) none pos) (rdS X.K X.mg W (sRaise x)) := by
  obtain ⟨C, h1, h2, h3, h4, h5⟩ := h
  exact vs_raise hc tk PySem.F.excBase_ValueError h2 h1 h3 (raises_own h4 h5) hg hdb
theorem v_globIU {i : Int} (h : IntA X.mg x i) (hg : Gl X x) (hd : (x == ("__debug__" : Str)) = false := by decide) : PE X (.Name x pos) (rE X.K X.mg W (eC (.int i))) := by
  obtain ⟨t, h⟩ := h
  exact v_globI hg h ⟨t, rfl⟩ hd
end
end Mi
namespace Mi
open PySem PySem.Spec PyProof.Rows L2
/-! What the readings compute, one step each: for simp only [mi, mo, ..]. sSeq, whF, forF, nLc, eCallB, runA, runB are left out. -/
theorem mi0 : (∀ {α β : Type} (x : α) (f : α → R β), (R.ok x).bind f = f x) ∧
  (∀ {α β : Type} (c : Str) (e : En) (f : α → R β), (R.exc c e : R α).bind f = .exc c e) ∧
  (∀ (d : D) (e : En), eC d e = .ok (d, e)) ∧
  (∀ (i : Nat) (e : En), eV i e = match e[i]? with | some (.val d) => .ok (d, e) | some (.own ds) => .ok (.lst ds, e.set i (.val (.lst ds))) | _ => .err) ∧
  (∀ (g : D → D → Option D) (f h : FE) (e : En), eB g f h e = (f e).bind fun p => (h p.2).bind fun q => match g p.1 q.1 with | some d => .ok (d, q.2) | none => .err) ∧
  (∀ (g : D → Option D) (f : FE) (e : En), eU g f e = (f e).bind fun p => match g p.1 with | some d => .ok (d, p.2) | none => .err) ∧
  (∀ (e : En), aN e = .ok ([], e)) ∧
  (∀ (f : FE) (a : FA) (e : En), aC f a e = (f e).bind fun p => (a p.2).bind fun q => .ok (p.1 :: q.1, q.2)) ∧
  (∀ (a : FA) (e : En), eTup a e = (a e).bind fun p => if p.1.length ≤ lim then .ok (.tup p.1, p.2) else .err) ∧
  (∀ (a : FA) (e : En), eLst a e = (a e).bind fun p => if p.1.length ≤ lim then .ok (.lst p.1, p.2) else .err) ∧
  (∀ (g : List D → Option D) (a : FA) (e : En), eF g a e = (a e).bind fun p => match g p.1 with | some d => .ok (d, p.2) | none => .err) ∧
  (∀ (f h : FE) (e : En), eAnd f h e = (f e).bind fun p => match p.1 with | .bl true => h p.2 | .bl false => .ok (.bl false, p.2) | _ => .err) :=
  ⟨by intros; rfl, by intros; rfl, by intros; rfl, by intros; rfl, by intros; rfl, by intros; rfl, by intros; rfl, by intros; rfl, by intros; rfl, by intros; rfl, by intros; rfl, by intros; rfl⟩
theorem mi1 : (∀ (f h : FE) (e : En), eOr f h e = (f e).bind fun p => match p.1 with | .bl false => h p.2 | .bl true => .ok (.bl true, p.2) | _ => .err) ∧
  (∀ (f : FE) (e : En), eNot f e = (f e).bind fun p => match (match p.1 with | .bl b => some (D.bl (!b)) | _ => none) with | some d => .ok (d, p.2) | none => .err) ∧
  (∀ (k : FT) (f h : FE) (e : En), eIf k f h e = (k e).bind fun p => if p.1 = true then f p.2 else h p.2) ∧
  (∀ (f : FE) (e : En), tE f e = (f e).bind fun p => match truth p.1 with | some k => .ok (k, p.2) | none => .err) ∧
  (∀ (f : FE) (e : En), tC1 f e = (f e).bind fun p => match bl? p.1 with | some k => .ok (k, p.2) | none => .err) ∧
  (∀ (b : Bool), bl? (.bl b) = some b) ∧
  (∀ (b : Bool), truth (.bl b) = some b) ∧
  (∀ (b : Int), truth (.int b) = some (b != 0)) ∧
  (∀ (k l : FT) (e : En), tAnd1 k l e = (k e).bind fun p => if p.1 = true then l p.2 else .ok (false, p.2)) ∧
  (∀ (k l : FT) (e : En), tOr1 k l e = (k e).bind fun p => if p.1 = true then .ok (true, p.2) else l p.2) ∧
  (∀ (k : FT) (e : En), tNot1 k e = (k e).bind fun p => .ok (!p.1, p.2)) ∧
  (∀ (g g' : D → D → Option D) (fa fb fc : FE) (e : En), eCh g g' fa fb fc e = (fa e).bind fun p => (fb p.2).bind fun q => match (g p.1 q.1).bind bl? with | some true => ((fc q.2).bind fun s => match g' q.1 s.1 with | some d => .ok (d, s.2) | none => .err) | some false => .ok (.bl false, q.2) | none => .err) :=
  ⟨by intros; rfl, by intros; rfl, by intros; rfl, by intros; rfl, by intros; rfl, by intros; rfl, by intros; rfl, by intros; rfl, by intros; rfl, by intros; rfl, by intros; rfl, by intros; rfl⟩
theorem mi2 : (∀ (i : Nat) (d : D) (e : En), gN i d e = some (e.set i (.val d))) ∧
  (∀ (e : En), gsN [] e = some e) ∧
  (∀ (G : TD) (Gs : TDs) (d : D) (r : List D) (e : En), gsC G Gs (d :: r) e = (G d e).bind (Gs r)) ∧
  (∀ (n : Nat) (Gs : TDs) (ds : List D) (e : En), gT n Gs (.tup ds) e = if ds.length = n then Gs ds e else none) ∧
  (∀ (e : En), sNx e = .ok (.nx e)) ∧
  (∀ (e : En), sBk e = .ok (.bk e)) ∧
  (∀ (e : En), sCt e = .ok (.ct e)) ∧
  (∀ (e : En), sErr e = .err) ∧
  (∀ (f : FE) (e : En), sRet f e = (f e).bind fun p => .ok (.rt p.1 p.2)) ∧
  (∀ (k : FT) (S U : FS) (e : En), sIf k S U e = (k e).bind fun p => if p.1 = true then S p.2 else U p.2) ∧
  (∀ (i : Nat) (f : FE) (e : En), sSet i f e = (f e).bind fun p => .ok (.nx (p.2.set i (.val p.1)))) ∧
  (∀ (G : TD) (f : FE) (e : En), sAsg G f e = (f e).bind fun p => match G p.1 p.2 with | some e1 => .ok (.nx e1) | none => .err) :=
  ⟨by intros; rfl, by intros; rfl, by intros; rfl, by intros; rfl, by intros; rfl, by intros; rfl, by intros; rfl, by intros; rfl, by intros; rfl, by intros; rfl, by intros; rfl, by intros; rfl⟩
theorem mi3 : (∀ (a : FA) (e : En), eL a e = (a e).bind fun p => .ok (.lst p.1, p.2)) ∧
  (∀ (a : FA) (e : En), nLst a e = (a e).bind fun p => if p.1.length ≤ lim then .ok p else .err) ∧
  (∀ (a : FA) (e : En), sRetN a e = (a e).bind fun p => .ok (.rn p.1 p.2)) ∧
  (∀ (i : Nat) (a : FA) (e : En), sNew i a e = (a e).bind fun p => if i < p.2.length then .ok (.nx (p.2.set i (.own p.1))) else .err) ∧
  (∀ (e : En), bN e = .ok ([], e)) ∧
  (∀ (f : FE) (b : FB) (e : En), bV f b e = (f e).bind fun p => (b p.2).bind fun q => .ok (.v p.1 :: q.1, q.2)) ∧
  (∀ (f : FA) (b : FB) (e : En), bL f b e = (f e).bind fun p => (b p.2).bind fun q => .ok (.n p.1 :: q.1, q.2)) ∧
  (∀ (i j : Nat) (f : FB) (e : En), sPar [i, j] f e = match f e with | .ok p => if p.1.length = [i, j].length ∧ (∀ k ∈ [i, j], k < p.2.length) then .ok (.nx (setsE p.2 [i, j] p.1)) else .err | _ => .err) ∧
  (∀ (i j l : Nat) (f : FB) (e : En), sPar [i, j, l] f e = match f e with | .ok p => if p.1.length = [i, j, l].length ∧ (∀ k ∈ [i, j, l], k < p.2.length) then .ok (.nx (setsE p.2 [i, j, l] p.1)) else .err | _ => .err) ∧
  (∀ (i : Nat) (is : List Nat) (b : Bp) (bs : List Bp) (e : En), setsE e (i :: is) (b :: bs) = (setsE e is bs).set i b.sl) ∧
  (∀ (e : En), setsE e [] [] = e) ∧
  (∀ (d : D), (Bp.v d).sl = .val d) :=
  ⟨by intros; rfl, by intros; rfl, by intros; rfl, by intros; rfl, by intros; rfl, by intros; rfl, by intros; rfl, by intros; rfl, by intros; rfl, by intros; rfl, by intros; rfl, by intros; rfl⟩
theorem mi4 : (∀ (d : List D), (Bp.n d).sl = .own d) ∧
  (∀ (i : Nat) (f : FE) (e : En), sApp i f e = match e[i]? with | some (.own _) => (f e).bind (fun p => match p.2[i]? with | some (.own ds) => if ds.length < lim then .ok (.nx (p.2.set i (.own (ds ++ [p.1])))) else .err | _ => .err) | _ => .err) ∧
  (∀ (i : Nat) (g : List D → Option D) (e : En), ePeek i g e = match e[i]? with | some (.own ds) | some (.brw ds) => (match g ds with | some d => .ok (d, e) | none => .err) | _ => .err) ∧
  (∀ (ds : List D), lenOf ds = some (.int ds.length)) ∧
  (∀ (i : Nat) (g : D → D → Option D) (f : FE) (e : En), sAug i g f e = match e[i]? with | some (.val d0) => (f e).bind (fun p => match g d0 p.1 with | some d => .ok (.nx (p.2.set i (.val d))) | none => .err) | _ => .err) ∧
  (∀ (f : FE) (e : En), sExp f e = (f e).bind fun p => .ok (.nx p.2)) ∧
  (∀ (f : FE) (e : En), iL f e = (f e).bind fun p => match p.1 with | .lst ds => .ok (ds, p.2) | .rls ds => .ok (ds, p.2) | _ => .err) ∧
  (∀ (a : FA) (e : En), iR1 a e = (a e).bind fun p => match rn1 p.1 with | some j => .ok (rangeD 0 j.toNat, p.2) | none => .err) ∧
  (∀ (a : FA) (e : En), iR2 a e = (a e).bind fun p => match rn2 p.1 with | some q => .ok (rangeD q.1 (q.2 - q.1).toNat, p.2) | none => .err) ∧
  (∀ (a : FA) (G : TD) (S : FS) (e : En), sFor a G S e = (a e).bind fun p => forF G S p.1 p.2) ∧
  (∀ (e : En), tYes1 e = .ok (true, e)) ∧
  (∀ (c : Str) (e : En), sRaise c e = .exc c e) :=
  ⟨by intros; rfl, by intros; rfl, by intros; rfl, by intros; rfl, by intros; rfl, by intros; rfl, by intros; rfl, by intros; rfl, by intros; rfl, by intros; rfl, by intros; rfl, by intros; rfl⟩
theorem mi5 : (∀ (n : Nat) (fn : List D → R D) (a : FA) (e : En), eCall n fn a e = (a e).bind fun p => if p.1.length = n then (match fn p.1 with | .ok d => .ok (d, p.2) | .exc c _ => .exc c p.2 | .err => .err) else .err) ∧
  (∀ (n : Nat) (fn : List D → R D) (a : FA) (e : En), nCall n fn a e = (a e).bind fun p => if p.1.length = n then (match fn p.1 with | .ok d => (match lstOf true d with | some ds => .ok (ds, p.2) | none => .err) | .exc c _ => .exc c p.2 | .err => .err) else .err) ∧
  (∀ (ds : List D), lstOf true (.lst ds) = some ds) ∧
  (∀ (g : D → Option (List D)) (f : FE) (e : En), nU g f e = (f e).bind fun p => match g p.1 with | some d => .ok (d, p.2) | none => .err) :=
  ⟨by intros; rfl, by intros; rfl, by intros; rfl, by intros; rfl⟩
theorem mo0 : (∀ (i j : Int), gAdd (.int i) (.int j) = some (.int (i + j))) ∧
  (∀ (i j : Int), gSub (.int i) (.int j) = some (.int (i - j))) ∧
  (∀ (i j : Int), gAddI (.int i) (.int j) = some (.int (i + j))) ∧
  (∀ (i j : Int), gMul (.int i) (.int j) = if mulOk i j = true then some (.int (i * j)) else none) ∧
  (∀ (i j : Int), gMulI (.int i) (.int j) = if mulOk i j = true then some (.int (i * j)) else none) ∧
  (∀ (i j : Int), gMod (.int i) (.int j) = if modOk i j = true then some (.int (i % j)) else none) ∧
  (∀ (i j : Int), gDivX (.int i) (.int j) = if divXOk i j = true then some (.int (i / j)) else none) ∧
  (∀ (i j : Int), gPow (.int i) (.int j) = if powOk i j = true then some (.int (i ^ j.toNat)) else none) ∧
  (∀ (i j : Int), gLt (.int i) (.int j) = some (.bl (decide (i < j)))) ∧
  (∀ (i j : Int), gLe (.int i) (.int j) = some (.bl (decide (i ≤ j)))) ∧
  (∀ (i j : Int), gGtI (.int i) (.int j) = some (.bl (decide (j < i)))) ∧
  (∀ (i j : Int), gGeI (.int i) (.int j) = some (.bl (decide (j ≤ i)))) :=
  ⟨by intros; rfl, by intros; rfl, by intros; rfl, by intros; rfl, by intros; rfl, by intros; rfl, by intros; rfl, by intros; rfl, by intros; rfl, by intros; rfl, by intros; rfl, by intros; rfl⟩
theorem mo1 : (∀ (i j : Int), gEq (.int i) (.int j) = some (.bl (decide (i = j)))) ∧
  (∀ (i j : Int), gNe (.int i) (.int j) = some (.bl (!decide (i = j)))) ∧
  (∀ (i j : Bool), gEq (.bl i) (.bl j) = some (.bl (decide (i = j)))) ∧
  (∀ (i j : Bool), gNe (.bl i) (.bl j) = some (.bl (!decide (i = j)))) ∧
  (∀ (i : Int), gNeg (.int i) = some (.int (-i))) ∧
  (∀ (a : D), gIsN a .non = some (.bl (non? a))) ∧
  (∀ (a : D), gNotN a .non = some (.bl (!non? a))) ∧
  (non? .non = true) ∧
  (∀ (i : Int), non? (.int i) = false) ∧
  (∀ (i : Bool), non? (.bl i) = false) ∧
  (∀ (i : List D), non? (.tup i) = false) ∧
  (∀ (i : List D), non? (.lst i) = false) :=
  ⟨by intros; rfl, by intros; rfl, by intros; rfl, by intros; rfl, by intros; rfl, by intros; rfl, by intros; rfl, by intros; rfl, by intros; rfl, by intros; rfl, by intros; rfl, by intros; rfl⟩
theorem mo2 : (∀ (ds : List D) (i : Int), gIx (.tup ds) (.int i) = atI ds i) ∧
  (∀ (ds : List D) (i : Int), gIx (.lst ds) (.int i) = atI ds i) ∧
  (∀ (ds : List D) (i : Int), gIx (.rls ds) (.int i) = atI ds i) ∧
  (∀ (ds : List D), fLen [.tup ds] = some (.int ds.length)) ∧
  (∀ (ds : List D), fLen [.lst ds] = some (.int ds.length)) ∧
  (∀ (ds : List D), fLen [.rls ds] = some (.int ds.length)) ∧
  (∀ (i : Int), fAbs [.int i] = some (.int (if i < 0 then -i else i))) ∧
  (∀ (i j : Int), fMax2 [.int i, .int j] = some (.int (if j > i then j else i))) :=
  ⟨by intros; rfl, by intros; rfl, by intros; rfl, by intros; rfl, by intros; rfl, by intros; rfl, by intros; rfl, by intros; rfl⟩
theorem mo3 : (∀ (i j : Int), fMin2 [.int i, .int j] = some (.int (if j < i then j else i))) ∧
  (∀ (i : Int), fInt [.int i] = some (.int i)) ∧
  (∀ (b : Bool), fInt [.bl b] = some (.int (if b then 1 else 0))) ∧
  (∀ (i : Int), rn1 [.int i] = if r62 i = true then some i else none) ∧
  (∀ (i j : Int), rn2 [.int i, .int j] = if r62 i = true ∧ r62 j = true then some (i, j) else none) ∧
  (∀ (ds : List D), gRevL (.lst ds) = some ds.reverse) :=
  ⟨by intros; rfl, by intros; rfl, by intros; rfl, by intros; rfl, by intros; rfl, by intros; rfl⟩
theorem mt0 : (fIs [.non, .ty "int"] = some (.bl false)) ∧
  (fIs [.non, .ty "bool"] = some (.bl false)) ∧
  (fIs [.non, .ty "str"] = some (.bl false)) ∧
  (fIs [.non, .ty "tuple"] = some (.bl false)) ∧
  (fIs [.non, .ty "list"] = some (.bl false)) ∧
  (fIs [.non, .ty "dict"] = some (.bl false)) ∧
  (∀ (b : Bool), fIs [(.bl b), .ty "int"] = some (.bl true)) ∧
  (∀ (b : Bool), fIs [(.bl b), .ty "bool"] = some (.bl true)) ∧
  (∀ (b : Bool), fIs [(.bl b), .ty "str"] = some (.bl false)) ∧
  (∀ (b : Bool), fIs [(.bl b), .ty "tuple"] = some (.bl false)) ∧
  (∀ (b : Bool), fIs [(.bl b), .ty "list"] = some (.bl false)) ∧
  (∀ (b : Bool), fIs [(.bl b), .ty "dict"] = some (.bl false)) ∧
  (∀ (i : Int), fIs [(.int i), .ty "int"] = some (.bl true)) ∧
  (∀ (i : Int), fIs [(.int i), .ty "bool"] = some (.bl false)) ∧
  (∀ (i : Int), fIs [(.int i), .ty "str"] = some (.bl false)) ∧
  (∀ (i : Int), fIs [(.int i), .ty "tuple"] = some (.bl false)) ∧
  (∀ (i : Int), fIs [(.int i), .ty "list"] = some (.bl false)) ∧
  (∀ (i : Int), fIs [(.int i), .ty "dict"] = some (.bl false)) ∧
  (∀ (s : Str), fIs [(.str s), .ty "int"] = some (.bl false)) ∧
  (∀ (s : Str), fIs [(.str s), .ty "bool"] = some (.bl false)) ∧
  (∀ (s : Str), fIs [(.str s), .ty "str"] = some (.bl true)) ∧
  (∀ (s : Str), fIs [(.str s), .ty "tuple"] = some (.bl false)) ∧
  (∀ (s : Str), fIs [(.str s), .ty "list"] = some (.bl false)) ∧
  (∀ (s : Str), fIs [(.str s), .ty "dict"] = some (.bl false)) ∧
  (∀ (ds : List D), fIs [(.tup ds), .ty "int"] = some (.bl false)) ∧
  (∀ (ds : List D), fIs [(.tup ds), .ty "bool"] = some (.bl false)) ∧
  (∀ (ds : List D), fIs [(.tup ds), .ty "str"] = some (.bl false)) ∧
  (∀ (ds : List D), fIs [(.tup ds), .ty "tuple"] = some (.bl true)) ∧
  (∀ (ds : List D), fIs [(.tup ds), .ty "list"] = some (.bl false)) ∧
  (∀ (ds : List D), fIs [(.tup ds), .ty "dict"] = some (.bl false)) ∧
  (∀ (ds : List D), fIs [(.lst ds), .ty "int"] = some (.bl false)) ∧
  (∀ (ds : List D), fIs [(.lst ds), .ty "bool"] = some (.bl false)) ∧
  (∀ (ds : List D), fIs [(.lst ds), .ty "str"] = some (.bl false)) ∧
  (∀ (ds : List D), fIs [(.lst ds), .ty "tuple"] = some (.bl false)) ∧
  (∀ (ds : List D), fIs [(.lst ds), .ty "list"] = some (.bl true)) ∧
  (∀ (ds : List D), fIs [(.lst ds), .ty "dict"] = some (.bl false)) :=
  ⟨by intros; rfl, by intros; rfl, by intros; rfl, by intros; rfl, by intros; rfl, by intros; rfl, by intros; rfl, by intros; rfl, by intros; rfl, by intros; rfl, by intros; rfl, by intros; rfl, by intros; rfl, by intros; rfl, by intros; rfl, by intros; rfl, by intros; rfl, by intros; rfl, by intros; rfl, by intros; rfl, by intros; rfl, by intros; rfl, by intros; rfl, by intros; rfl, by intros; rfl, by intros; rfl, by intros; rfl, by intros; rfl, by intros; rfl, by intros; rfl, by intros; rfl, by intros; rfl, by intros; rfl, by intros; rfl, by intros; rfl, by intros; rfl⟩
theorem mo9 : (∀ (a : D) (r : List D), atI (a :: r) 0 = some a) ∧ (∀ (a b : D) (r : List D), atI (a :: b :: r) 1 = some b) ∧ (∀ (a b c : D) (r : List D), atI (a :: b :: c :: r) 2 = some c) ∧ (∀ (a b c d : D) (r : List D), atI (a :: b :: c :: d :: r) 3 = some d) :=
  ⟨fun a r => atI_nat (j := 0) (xs := a :: r) rfl, fun a b r => atI_nat (j := 1) (xs := a :: b :: r) rfl, fun a b c r => atI_nat (j := 2) (xs := a :: b :: c :: r) rfl, fun a b c d r => atI_nat (j := 3) (xs := a :: b :: c :: d :: r) rfl⟩
theorem mo8 : (((0 : Nat) : Int) = 0) ∧ (((1 : Nat) : Int) = 1) ∧ (((2 : Nat) : Int) = 2) ∧ (((3 : Nat) : Int) = 3) ∧ (((4 : Nat) : Int) = 4) ∧ (((5 : Nat) : Int) = 5) ∧ (((6 : Nat) : Int) = 6) ∧ (((7 : Nat) : Int) = 7) ∧ (((8 : Nat) : Int) = 8) ∧ (((9 : Nat) : Int) = 9) ∧ (((10 : Nat) : Int) = 10) ∧ (((11 : Nat) : Int) = 11) ∧ (((12 : Nat) : Int) = 12) :=
  ⟨rfl, rfl, rfl, rfl, rfl, rfl, rfl, rfl, rfl, rfl, rfl, rfl, rfl⟩
theorem seq_ap (S U : FS) (e : En) : sSeq S U e = match S e with | .ok (.nx e1) => U e1 | r => r := rfl
theorem lim_v : lim = 16777216 := rfl
/-- a for over a range, by an invariant -/
theorem for_inv {G : TD} {b : FS} (I : Nat → En → Prop) : ∀ (ds : List D) (k : Nat) (e : En), I k e → (∀ j d e, ds[j]? = some d → I (k + j) e → ∃ e1 e2, G d e = some e1 ∧ b e1 = .ok (.nx e2) ∧ I (k + j + 1) e2) → ∃ e', forF G b ds e = .ok (.nx e') ∧ I (k + ds.length) e'
  | [], k, e, h, _ => ⟨e, rfl, h⟩
  | d :: ds, k, e, h, st => by
    obtain ⟨e1, e2, h1, h2, h3⟩ := st 0 d e rfl h
    obtain ⟨e', h4, h5⟩ := for_inv I ds (k + 1) e2 h3 fun j d' e' hd hi => by
      have := st (j + 1) d' e' (by simpa using hd) (by rw [show k + (j + 1) = k + 1 + j by omega]; exact hi)
      rw [show k + (j + 1) + 1 = k + 1 + j + 1 by omega] at this
      exact this
    refine ⟨e', ?_, by rw [List.length_cons, show k + (ds.length + 1) = k + 1 + ds.length by omega]; exact h5⟩
    unfold forF
    simp only [h1, h2]
    exact h4
theorem rangeD_get {lo : Int} {n j : Nat} {d : D} (h : (rangeD lo n)[j]? = some d) : d = .int (lo + j) ∧ j < n := by
  unfold rangeD at h
  rw [List.getElem?_map] at h
  by_cases c : j < n
  · rw [List.getElem?_range c] at h
    exact ⟨(Option.some.inj h).symm, c⟩
  · rw [List.getElem?_eq_none (by simpa using c)] at h
    cases h
theorem for_rng {G : TD} {b : FS} {lo : Int} {n : Nat} (I : Nat → En → Prop) {e : En} (h0 : I 0 e) (st : ∀ j e, j < n → I j e → ∃ e1 e2, G (.int (lo + j)) e = some e1 ∧ b e1 = .ok (.nx e2) ∧ I (j + 1) e2) : ∃ e', forF G b (rangeD lo n) e = .ok (.nx e') ∧ I n e' := by
  obtain ⟨e', h1, h2⟩ := for_inv I (rangeD lo n) 0 e h0 fun j d e hd hi => by
    obtain ⟨rfl, hj⟩ := rangeD_get hd
    rw [Nat.zero_add] at hi ⊢
    exact st j e hj hi
  rw [rangeD_length, Nat.zero_add] at h2
  exact ⟨e', h1, h2⟩
end Mi
namespace Mi
/-! statement after statement -/
def Go (S : FS) (e : En) (Q : En → Prop) : Prop := ∃ e', S e = .ok (.nx e') ∧ Q e'
def Rt (S : FS) (e : En) (d : D) : Prop := ∃ e', S e = .ok (.rt d e')
theorem Go.seq {S U : FS} {e : En} {Q : En → Prop} (h : Go S e fun e1 => Go U e1 Q) : Go (sSeq S U) e Q := by
  obtain ⟨e1, h1, e2, h2, q⟩ := h
  exact ⟨e2, by rw [seq_ap, h1]; exact h2, q⟩
theorem Go.of {S : FS} {e e' : En} {Q : En → Prop} (h : S e = .ok (.nx e')) (q : Q e') : Go S e Q := ⟨e', h, q⟩
theorem Go.nx {e : En} {Q : En → Prop} (q : Q e) : Go sNx e Q := ⟨e, rfl, q⟩
theorem Go.ifF {k : FT} {S U : FS} {e e1 : En} {Q : En → Prop} (h : k e = .ok (false, e1)) (q : Go U e1 Q) : Go (sIf k S U) e Q := by
  obtain ⟨e2, h2, q⟩ := q
  refine ⟨e2, ?_, q⟩
  show (k e).bind _ = _
  rw [h]
  exact h2
theorem Go.ifT {k : FT} {S U : FS} {e e1 : En} {Q : En → Prop} (h : k e = .ok (true, e1)) (q : Go S e1 Q) : Go (sIf k S U) e Q := by
  obtain ⟨e2, h2, q⟩ := q
  refine ⟨e2, ?_, q⟩
  show (k e).bind _ = _
  rw [h]
  exact h2
theorem Go.mono {S : FS} {e : En} {Q Q' : En → Prop} (h : Go S e Q) (i : ∀ e', Q e' → Q' e') : Go S e Q' := by
  obtain ⟨e', h, q⟩ := h
  exact ⟨e', h, i e' q⟩
theorem Rt.seq {S U : FS} {e : En} {d : D} (h : Go S e fun e1 => Rt U e1 d) : Rt (sSeq S U) e d := by
  obtain ⟨e1, h1, e2, h2⟩ := h
  exact ⟨e2, by rw [seq_ap, h1]; exact h2⟩
theorem Rt.of {S : FS} {e e' : En} {d : D} (h : S e = .ok (.rt d e')) : Rt S e d := ⟨e', h⟩
/-- a for over a range whose body always goes on -/
theorem Go.forR {G : TD} {b : FS} {lo : Int} {n : Nat} (I : Nat → En → Prop) {e : En} {Q : En → Prop} (h0 : I 0 e) (st : ∀ j e, j < n → I j e → ∃ e1, G (.int (lo + j)) e = some e1 ∧ Go b e1 (I (j + 1))) (q : ∀ e', I n e' → Q e') : ∃ e', forF G b (rangeD lo n) e = .ok (.nx e') ∧ Q e' := by
  obtain ⟨e', h1, h2⟩ := for_rng (G := G) (b := b) I h0 fun j e hj hi => by
    obtain ⟨e1, g, e2, h, i⟩ := st j e hj hi
    exact ⟨e1, e2, g, h, i⟩
  exact ⟨e', h1, q e' h2⟩
theorem par2 (i j n : Nat) : (∀ k ∈ [i, j], k < n) = (i < n ∧ j < n) := by simp
theorem par3 (i j l n : Nat) : (∀ k ∈ [i, j, l], k < n) = (i < n ∧ j < n ∧ l < n) := by simp
/-! pairs compared -/
theorem eqv_pair (i j i' j' : Int) : eqDeep (.tup [.int i, .int j]) (.tup [.int i', .int j']) = some (decide (i = i') && decide (j = j')) := by
  have s : ∀ a b : Int, PySem.SeqAt.shaped (.tuple [.int a, .int b]) = true := fun a b => by
    simp [PySem.SeqAt.shaped, PySem.PyData.canLay0, PySem.PyData.canLayAll0, PySem.PyData.depth, PySem.PyData.depthAll]
  unfold eqDeep
  simp only [pd, pdL, Option.bind_some, Option.map_some]
  rw [if_pos ⟨s _ _, s _ _⟩]
  simp only [PySem.PyData.eqv, PySem.PyData.eqvAll, Bool.and_true]
  rfl
theorem ne_pair (i j i' j' : Int) : gNe (.tup [.int i, .int j]) (.tup [.int i', .int j']) = some (.bl (!(decide (i = i') && decide (j = j')))) := by
  show ((eqDeep _ _).map _) = _
  rw [eqv_pair]
  rfl
theorem eq_pair (i j i' j' : Int) : gEq (.tup [.int i, .int j]) (.tup [.int i', .int j']) = some (.bl (decide (i = i') && decide (j = j'))) := by
  show ((eqDeep _ _).map _) = _
  rw [eqv_pair]
  rfl
end Mi
namespace Lw
open PySem PySem.Spec PyProof.Rows L2 Mi
def topS (i : Nat) : Stmt := PySem.Challenge.pw_oncecodes_k21_whole_chances_of_many_trie.main.body.getD i (.Pass ⟨0, 0, 0, 0⟩)
def pk_shared : {s : Stmt // topS 6 = s} := ⟨_, by conv => lhs; whnf⟩
def st_shared : Stmt := pk_shared.1
def pk_ratio : {s : Stmt // topS 7 = s} := ⟨_, by conv => lhs; whnf⟩
def st_ratio : Stmt := pk_ratio.1
def pk_check : {s : Stmt // topS 5 = s} := ⟨_, by conv => lhs; whnf⟩
def st_check : Stmt := pk_check.1
def pk_is_integer : {s : Stmt // topS 3 = s} := ⟨_, by conv => lhs; whnf⟩
def st_is_integer : Stmt := pk_is_integer.1
def pk_is_ratio : {s : Stmt // topS 14 = s} := ⟨_, by conv => lhs; whnf⟩
def st_is_ratio : Stmt := pk_is_ratio.1
def pk_check_ratios : {s : Stmt // topS 15 = s} := ⟨_, by conv => lhs; whnf⟩
def st_check_ratios : Stmt := pk_check_ratios.1
def pk_sum_of : {s : Stmt // topS 16 = s} := ⟨_, by conv => lhs; whnf⟩
def st_sum_of : Stmt := pk_sum_of.1
def pk_product_of : {s : Stmt // topS 17 = s} := ⟨_, by conv => lhs; whnf⟩
def st_product_of : Stmt := pk_product_of.1
def pk_less_of : {s : Stmt // topS 18 = s} := ⟨_, by conv => lhs; whnf⟩
def st_less_of : Stmt := pk_less_of.1
def pk_power : {s : Stmt // topS 8 = s} := ⟨_, by conv => lhs; whnf⟩
def st_power : Stmt := pk_power.1
def pk_all_codes : {s : Stmt // topS 19 = s} := ⟨_, by conv => lhs; whnf⟩
def st_all_codes : Stmt := pk_all_codes.1
def pk_is_within : {s : Stmt // topS 4 = s} := ⟨_, by conv => lhs; whnf⟩
def st_is_within : Stmt := pk_is_within.1
def pk_check_guessing : {s : Stmt // topS 20 = s} := ⟨_, by conv => lhs; whnf⟩
def st_check_guessing : Stmt := pk_check_guessing.1
def pk_fresh_by : {s : Stmt // topS 21 = s} := ⟨_, by conv => lhs; whnf⟩
def st_fresh_by : Stmt := pk_fresh_by.1
def pk_fresh_hit : {s : Stmt // topS 22 = s} := ⟨_, by conv => lhs; whnf⟩
def st_fresh_hit : Stmt := pk_fresh_hit.1
def pk_fixed_hit : {s : Stmt // topS 23 = s} := ⟨_, by conv => lhs; whnf⟩
def st_fixed_hit : Stmt := pk_fixed_hit.1
def pk_bound_hit : {s : Stmt // topS 24 = s} := ⟨_, by conv => lhs; whnf⟩
def st_bound_hit : Stmt := pk_bound_hit.1
def pk_is_at_most : {s : Stmt // topS 25 = s} := ⟨_, by conv => lhs; whnf⟩
def st_is_at_most : Stmt := pk_is_at_most.1
def pk_is_limit : {s : Stmt // topS 26 = s} := ⟨_, by conv => lhs; whnf⟩
def st_is_limit : Stmt := pk_is_limit.1
def pk_least_digits : {s : Stmt // topS 27 = s} := ⟨_, by conv => lhs; whnf⟩
def st_least_digits : Stmt := pk_least_digits.1
def pk_same_code : {s : Stmt // topS 28 = s} := ⟨_, by conv => lhs; whnf⟩
def st_same_code : Stmt := pk_same_code.1
def pk_least_same : {s : Stmt // topS 29 = s} := ⟨_, by conv => lhs; whnf⟩
def st_least_same : Stmt := pk_least_same.1
def pk_mean_tries : {s : Stmt // topS 30 = s} := ⟨_, by conv => lhs; whnf⟩
def st_mean_tries : Stmt := pk_mean_tries.1
def pk__law_draws : {s : Stmt // topS 32 = s} := ⟨_, by conv => lhs; whnf⟩
def st__law_draws : Stmt := pk__law_draws.1
def pk__law_take : {s : Stmt // topS 33 = s} := ⟨_, by conv => lhs; whnf⟩
def st__law_take : Stmt := pk__law_take.1
def pk__law_pick : {s : Stmt // topS 34 = s} := ⟨_, by conv => lhs; whnf⟩
def st__law_pick : Stmt := pk__law_pick.1
def pk__law_same : {s : Stmt // topS 35 = s} := ⟨_, by conv => lhs; whnf⟩
def st__law_same : Stmt := pk__law_same.1
def pk__law_share : {s : Stmt // topS 36 = s} := ⟨_, by conv => lhs; whnf⟩
def st__law_share : Stmt := pk__law_share.1
def pk__law_ratio : {s : Stmt // topS 37 = s} := ⟨_, by conv => lhs; whnf⟩
def st__law_ratio : Stmt := pk__law_ratio.1
def pk__law_power : {s : Stmt // topS 38 = s} := ⟨_, by conv => lhs; whnf⟩
def st__law_power : Stmt := pk__law_power.1
def pk__law_at_most : {s : Stmt // topS 39 = s} := ⟨_, by conv => lhs; whnf⟩
def st__law_at_most : Stmt := pk__law_at_most.1
def pk_law : {s : Stmt // topS 40 = s} := ⟨_, by conv => lhs; whnf⟩
def st_law : Stmt := pk_law.1
/-- what the top has written -/
structure Tx (K : PySem.W.Frag) (mg : Str → Option Value) : Prop where
  d_shared : DefA K mg "shared" st_shared ["one", "other"]
  d_ratio : DefA K mg "ratio" st_ratio ["number", "divisor"]
  d_check : DefA K mg "check" st_check ["is_right"]
  d_is_integer : DefA K mg "is_integer" st_is_integer ["value"]
  d_is_ratio : DefA K mg "is_ratio" st_is_ratio ["value"]
  d_check_ratios : DefA K mg "check_ratios" st_check_ratios ["one", "other"]
  d_sum_of : DefA K mg "sum_of" st_sum_of ["one", "other"]
  d_product_of : DefA K mg "product_of" st_product_of ["one", "other"]
  d_less_of : DefA K mg "less_of" st_less_of ["one", "other"]
  d_power : DefA K mg "power" st_power ["number", "times"]
  d_all_codes : DefA K mg "all_codes" st_all_codes ["digits"]
  d_is_within : DefA K mg "is_within" st_is_within ["value", "low", "high"]
  d_check_guessing : DefA K mg "check_guessing" st_check_guessing ["digits", "accepted", "tries"]
  d_fresh_by : DefA K mg "fresh_by" st_fresh_by ["codes", "accepted", "tries"]
  d_fresh_hit : DefA K mg "fresh_hit" st_fresh_hit ["digits", "accepted", "tries"]
  d_fixed_hit : DefA K mg "fixed_hit" st_fixed_hit ["digits", "accepted", "tries"]
  d_bound_hit : DefA K mg "bound_hit" st_bound_hit ["digits", "accepted", "tries"]
  d_is_at_most : DefA K mg "is_at_most" st_is_at_most ["one", "other"]
  d_is_limit : DefA K mg "is_limit" st_is_limit ["value"]
  d_least_digits : DefA K mg "least_digits" st_least_digits ["accepted", "tries", "limit"]
  d_same_code : DefA K mg "same_code" st_same_code ["digits", "k"]
  d_least_same : DefA K mg "least_same" st_least_same ["digits", "limit"]
  d_mean_tries : DefA K mg "mean_tries" st_mean_tries ["digits", "accepted"]
  d__law_draws : DefA K mg "_law_draws" st__law_draws ["script"]
  d__law_take : DefA K mg "_law_take" st__law_take ["draws", "bound"]
  d__law_pick : DefA K mg "_law_pick" st__law_pick ["draws", "items"]
  d__law_same : DefA K mg "_law_same" st__law_same ["told", "due"]
  d__law_share : DefA K mg "_law_share" st__law_share ["a", "b"]
  d__law_ratio : DefA K mg "_law_ratio" st__law_ratio ["n", "d"]
  d__law_power : DefA K mg "_law_power" st__law_power ["number", "times"]
  d__law_at_most : DefA K mg "_law_at_most" st__law_at_most ["a", "b"]
  d_law : DefA K mg "law" st_law ["script"]
  b_abs : mg "abs" = none
  b_all : mg "all" = none
  b_bool : mg "bool" = none
  b_dict : mg "dict" = none
  b_int : mg "int" = none
  b_isinstance : mg "isinstance" = none
  b_len : mg "len" = none
  b_list : mg "list" = none
  b_max : mg "max" = none
  b_min : mg "min" = none
  b_range : mg "range" = none
  b_reversed : mg "reversed" = none
  b_str : mg "str" = none
  b_tuple : mg "tuple" = none
  i_FEW_DIGITS : IntA mg "FEW_DIGITS" 4
  i_MOST_ACCEPTED : IntA mg "MOST_ACCEPTED" 10
  i_MOST_DIGITS : IntA mg "MOST_DIGITS" 12
  i_MOST_TRIES : IntA mg "MOST_TRIES" 2000
  e_NotRight : ExcA K mg "NotRight"
section
variable {P : Program} {w : World} {K : PySem.W.Frag} {mg : Str → Option Value} {base : Heap}
/-! ### shared -/
theorem S_shared : FnScope ["one", "other"] ["one", "other"] (defScope st_shared) := ⟨rfl, rfl, rfl, by decide +kernel, rfl, by decide +kernel, by decide +kernel⟩
def b_shared_0 : FS := sPar [0, 1] (bV (eV 1) (bV (eB gMod (eV 0) (eV 1)) (bN)))
def m_shared : FS := sSeq (sPar [0, 1] (bV (eF fAbs (aC (eV 0) (aN))) (bV (eF fAbs (aC (eV 1) (aN))) (bN))))
    (sSeq (whF (tC1 (eB gGtI (eV 1) (eC (.int 0)))) b_shared_0 fuelN)
    (sRet (eV 0)))
@[irreducible] def F_shared : List D → R D := runA 2 false m_shared
theorem c_shared (T : Tx K mg) : CallA P w K mg base 1 "shared" 2 false F_shared := by
  unfold F_shared
  obtain ⟨f, fd, F, g, kp, b⟩ := T.d_shared
  have h1 : FnOk P w K mg base (L2.CX P w) (0 + 1) f fd ["one", "other"] (spA K mg 2 false (runA 2 false m_shared)) := ok_A (n := 2) (N := ["one", "other"]) (k := 0) (g := m_shared) false F S_shared rfl (by decide) (fun cdv A outer s H E hr => vss_cons (vs_par 0 1 rfl S_shared.nd (vb_v (v_blt rc_abs call_abs rfl T.b_abs (va_cons (v_var 0) (va_nil))) (vb_v (v_blt rc_abs call_abs rfl T.b_abs (va_cons (v_var 1) (va_nil))) (vb_nil))))
    (vss_cons (vs_while (b := b_shared_0) fuelN (passes_of rfl) (vt_cmp rb_gtI op_gt (nomark _) (v_var 1) (v_int)) (vss_one (vs_par 0 1 rfl S_shared.nd (vb_v (v_var 1) (vb_v (v_op rb_mod op_mod (v_var 0) (v_var 1)) (vb_nil))))))
    (vss_one (vs_ret (v_var 0)))))
  exact ⟨f, fd, _, h1, kp, b, g⟩
/-! ### ratio -/
theorem S_ratio : FnScope ["number", "divisor", "least"] ["number", "divisor"] (defScope st_ratio) := ⟨rfl, rfl, rfl, by decide +kernel, rfl, by decide +kernel, by decide +kernel⟩
def m_ratio : FS := sSeq (sSet 2 (eCall 2 F_shared (aC (eV 0) (aC (eV 1) (aN)))))
    (sRet (eTup (aC (eB gDivX (eV 0) (eV 2)) (aC (eB gDivX (eV 1) (eV 2)) (aN)))))
@[irreducible] def F_ratio : List D → R D := runA 3 false m_ratio
theorem c_ratio (T : Tx K mg) : CallA P w K mg base 2 "ratio" 2 false F_ratio := by
  unfold F_ratio
  obtain ⟨f, fd, F, g, kp, b⟩ := T.d_ratio
  have h1 : FnOk P w K mg base (L2.CX P w) (1 + 1) f fd ["number", "divisor"] (spA K mg 2 false (runA 3 false m_ratio)) := ok_A (n := 2) (N := ["number", "divisor", "least"]) (k := 1) (g := m_ratio) false F S_ratio rfl (by decide) (fun cdv A outer s H E hr => vss_cons (vs_set 2 S_ratio.nd (v_callU (c_shared T) (hr.mono (by decide)) (takes_of rfl rfl rfl rfl) rfl (va_cons (v_var 0) (va_cons (v_var 1) (va_nil)))))
    (vss_one (vs_ret (v_tup (va_cons (v_op rb_divX op_fdivX (v_var 0) (v_var 2)) (va_cons (v_op rb_divX op_fdivX (v_var 1) (v_var 2)) (va_nil)))))))
  exact ⟨f, fd, _, h1, kp, b, g⟩
/-! ### check -/
theorem S_check : FnScope ["is_right"] ["is_right"] (defScope st_check) := ⟨rfl, rfl, rfl, by decide +kernel, rfl, by decide +kernel, by decide +kernel⟩
def m_check : FS := sIf (tNot1 (tE (eV 0))) (sRaise "NotRight") (sNx)
@[irreducible] def F_check : List D → R D := runA 1 false m_check
theorem c_check (T : Tx K mg) : CallA P w K mg base 1 "check" 1 false F_check := by
  unfold F_check
  obtain ⟨f, fd, F, g, kp, b⟩ := T.d_check
  have h1 : FnOk P w K mg base (L2.CX P w) (0 + 1) f fd ["is_right"] (spA K mg 1 false (runA 1 false m_check)) := ok_A (n := 1) (N := ["is_right"]) (k := 0) (g := m_check) false F S_check rfl (by decide) (fun cdv A outer s H E hr => vss_one (vs_if (vt_not (vt_val (v_var 0))) (vss_one (vs_raiseU T.e_NotRight rfl (takes_of rfl rfl rfl rfl) rfl)) (vss_nil)))
  exact ⟨f, fd, _, h1, kp, b, g⟩
/-! ### is_integer -/
theorem S_is_integer : FnScope ["value"] ["value"] (defScope st_is_integer) := ⟨rfl, rfl, rfl, by decide +kernel, rfl, by decide +kernel, by decide +kernel⟩
def m_is_integer : FS := sRet (eAnd (eF fIs (aC (eV 0) (aC (eC (.ty "int")) (aN)))) (eNot (eF fIs (aC (eV 0) (aC (eC (.ty "bool")) (aN))))))
@[irreducible] def F_is_integer : List D → R D := runA 1 false m_is_integer
theorem c_is_integer (T : Tx K mg) : CallA P w K mg base 1 "is_integer" 1 false F_is_integer := by
  unfold F_is_integer
  obtain ⟨f, fd, F, g, kp, b⟩ := T.d_is_integer
  have h1 : FnOk P w K mg base (L2.CX P w) (0 + 1) f fd ["value"] (spA K mg 1 false (runA 1 false m_is_integer)) := ok_A (n := 1) (N := ["value"]) (k := 0) (g := m_is_integer) false F S_is_integer rfl (by decide) (fun cdv A outer s H E hr => vss_one (vs_ret (v_and (v_blt rc_is call_isi rfl T.b_isinstance (va_cons (v_var 0) (va_cons (v_ty rfl T.b_int) (va_nil)))) (v_one (v_not (v_blt rc_is call_isi rfl T.b_isinstance (va_cons (v_var 0) (va_cons (v_ty rfl T.b_bool) (va_nil)))))))))
  exact ⟨f, fd, _, h1, kp, b, g⟩
/-! ### is_ratio -/
theorem S_is_ratio : FnScope ["value"] ["value"] (defScope st_is_ratio) := ⟨rfl, rfl, rfl, by decide +kernel, rfl, by decide +kernel, by decide +kernel⟩
def m_is_ratio : FS := sSeq (sIf (tOr1 (tNot1 (tE (eF fIs (aC (eV 0) (aC (eC (.ty "tuple")) (aN)))))) (tOr1 (tC1 (eB gNe (eF fLen (aC (eV 0) (aN))) (eC (.int 2)))) (tOr1 (tNot1 (tE (eCall 1 F_is_integer (aC (eB gIx (eV 0) (eC (.int 0))) (aN))))) (tNot1 (tE (eCall 1 F_is_integer (aC (eB gIx (eV 0) (eC (.int 1))) (aN)))))))) (sRet (eC (.bl false))) (sNx))
    (sRet (eAnd (eB gGtI (eB gIx (eV 0) (eC (.int 1))) (eC (.int 0))) (eB gEq (eCall 2 F_shared (aC (eB gIx (eV 0) (eC (.int 0))) (aC (eB gIx (eV 0) (eC (.int 1))) (aN)))) (eC (.int 1)))))
@[irreducible] def F_is_ratio : List D → R D := runA 1 false m_is_ratio
theorem c_is_ratio (T : Tx K mg) : CallA P w K mg base 2 "is_ratio" 1 false F_is_ratio := by
  unfold F_is_ratio
  obtain ⟨f, fd, F, g, kp, b⟩ := T.d_is_ratio
  have h1 : FnOk P w K mg base (L2.CX P w) (1 + 1) f fd ["value"] (spA K mg 1 false (runA 1 false m_is_ratio)) := ok_A (n := 1) (N := ["value"]) (k := 1) (g := m_is_ratio) false F S_is_ratio rfl (by decide) (fun cdv A outer s H E hr => vss_cons (vs_if (PW.pt (vw_or (vt_not (vt_val (v_blt rc_is call_isi rfl T.b_isinstance (va_cons (v_var 0) (va_cons (v_ty rfl T.b_tuple) (va_nil)))))) (vw_or (vt_cmp rb_ne (op_neA hr.hu) (nomark _) (v_blt rc_len call_lenA rfl T.b_len (va_cons (v_var 0) (va_nil))) (v_int)) (vw_or (vt_not (vt_val (v_callU (c_is_integer T) (hr.mono (by decide)) (takes_of rfl rfl rfl rfl) rfl (va_cons (v_ix rb_ix ix_seq (v_var 0) (v_int)) (va_nil))))) (vw_or1 (vt_not (vt_val (v_callU (c_is_integer T) (hr.mono (by decide)) (takes_of rfl rfl rfl rfl) rfl (va_cons (v_ix rb_ix ix_seq (v_var 0) (v_int)) (va_nil)))))))))) (vss_one (vs_ret (v_bl))) (vss_nil))
    (vss_one (vs_ret (v_and (v_cmp rb_gtI op_gt (nomark _) (v_ix rb_ix ix_seq (v_var 0) (v_int)) (v_int)) (v_one (v_cmp rb_eq (op_eqA hr.hu) (nomark _) (v_callU (c_shared T) (hr.mono (by decide)) (takes_of rfl rfl rfl rfl) rfl (va_cons (v_ix rb_ix ix_seq (v_var 0) (v_int)) (va_cons (v_ix rb_ix ix_seq (v_var 0) (v_int)) (va_nil)))) (v_int)))))))
  exact ⟨f, fd, _, h1, kp, b, g⟩
/-! ### check_ratios -/
theorem S_check_ratios : FnScope ["one", "other"] ["one", "other"] (defScope st_check_ratios) := ⟨rfl, rfl, rfl, by decide +kernel, rfl, by decide +kernel, by decide +kernel⟩
def m_check_ratios : FS := sExp (eCall 1 F_check (aC (eAnd (eCall 1 F_is_ratio (aC (eV 0) (aN))) (eCall 1 F_is_ratio (aC (eV 1) (aN)))) (aN)))
@[irreducible] def F_check_ratios : List D → R D := runA 2 false m_check_ratios
theorem c_check_ratios (T : Tx K mg) : CallA P w K mg base 3 "check_ratios" 2 false F_check_ratios := by
  unfold F_check_ratios
  obtain ⟨f, fd, F, g, kp, b⟩ := T.d_check_ratios
  have h1 : FnOk P w K mg base (L2.CX P w) (2 + 1) f fd ["one", "other"] (spA K mg 2 false (runA 2 false m_check_ratios)) := ok_A (n := 2) (N := ["one", "other"]) (k := 2) (g := m_check_ratios) false F S_check_ratios rfl (by decide) (fun cdv A outer s H E hr => vss_one (vs_expr (v_callU (c_check T) (hr.mono (by decide)) (takes_of rfl rfl rfl rfl) rfl (va_cons (v_and (v_callU (c_is_ratio T) (hr.mono (by decide)) (takes_of rfl rfl rfl rfl) rfl (va_cons (v_var 0) (va_nil))) (v_one (v_callU (c_is_ratio T) (hr.mono (by decide)) (takes_of rfl rfl rfl rfl) rfl (va_cons (v_var 1) (va_nil))))) (va_nil)))))
  exact ⟨f, fd, _, h1, kp, b, g⟩
/-! ### sum_of -/
theorem S_sum_of : FnScope ["one", "other"] ["one", "other"] (defScope st_sum_of) := ⟨rfl, rfl, rfl, by decide +kernel, rfl, by decide +kernel, by decide +kernel⟩
def m_sum_of : FS := sSeq (sExp (eCall 2 F_check_ratios (aC (eV 0) (aC (eV 1) (aN)))))
    (sRet (eCall 2 F_ratio (aC (eB gAdd (eB gMul (eB gIx (eV 0) (eC (.int 0))) (eB gIx (eV 1) (eC (.int 1)))) (eB gMul (eB gIx (eV 1) (eC (.int 0))) (eB gIx (eV 0) (eC (.int 1))))) (aC (eB gMul (eB gIx (eV 0) (eC (.int 1))) (eB gIx (eV 1) (eC (.int 1)))) (aN)))))
@[irreducible] def F_sum_of : List D → R D := runA 2 false m_sum_of
theorem c_sum_of (T : Tx K mg) : CallA P w K mg base 4 "sum_of" 2 false F_sum_of := by
  unfold F_sum_of
  obtain ⟨f, fd, F, g, kp, b⟩ := T.d_sum_of
  have h1 : FnOk P w K mg base (L2.CX P w) (3 + 1) f fd ["one", "other"] (spA K mg 2 false (runA 2 false m_sum_of)) := ok_A (n := 2) (N := ["one", "other"]) (k := 3) (g := m_sum_of) false F S_sum_of rfl (by decide) (fun cdv A outer s H E hr => vss_cons (vs_expr (v_callU (c_check_ratios T) (hr.mono (by decide)) (takes_of rfl rfl rfl rfl) rfl (va_cons (v_var 0) (va_cons (v_var 1) (va_nil)))))
    (vss_one (vs_ret (v_callU (c_ratio T) (hr.mono (by decide)) (takes_of rfl rfl rfl rfl) rfl (va_cons (v_op rb_add op_addA (v_op rb_mul op_mulA (v_ix rb_ix ix_seq (v_var 0) (v_int)) (v_ix rb_ix ix_seq (v_var 1) (v_int))) (v_op rb_mul op_mulA (v_ix rb_ix ix_seq (v_var 1) (v_int)) (v_ix rb_ix ix_seq (v_var 0) (v_int)))) (va_cons (v_op rb_mul op_mulA (v_ix rb_ix ix_seq (v_var 0) (v_int)) (v_ix rb_ix ix_seq (v_var 1) (v_int))) (va_nil)))))))
  exact ⟨f, fd, _, h1, kp, b, g⟩
/-! ### product_of -/
theorem S_product_of : FnScope ["one", "other"] ["one", "other"] (defScope st_product_of) := ⟨rfl, rfl, rfl, by decide +kernel, rfl, by decide +kernel, by decide +kernel⟩
def m_product_of : FS := sSeq (sExp (eCall 2 F_check_ratios (aC (eV 0) (aC (eV 1) (aN)))))
    (sRet (eCall 2 F_ratio (aC (eB gMul (eB gIx (eV 0) (eC (.int 0))) (eB gIx (eV 1) (eC (.int 0)))) (aC (eB gMul (eB gIx (eV 0) (eC (.int 1))) (eB gIx (eV 1) (eC (.int 1)))) (aN)))))
@[irreducible] def F_product_of : List D → R D := runA 2 false m_product_of
theorem c_product_of (T : Tx K mg) : CallA P w K mg base 4 "product_of" 2 false F_product_of := by
  unfold F_product_of
  obtain ⟨f, fd, F, g, kp, b⟩ := T.d_product_of
  have h1 : FnOk P w K mg base (L2.CX P w) (3 + 1) f fd ["one", "other"] (spA K mg 2 false (runA 2 false m_product_of)) := ok_A (n := 2) (N := ["one", "other"]) (k := 3) (g := m_product_of) false F S_product_of rfl (by decide) (fun cdv A outer s H E hr => vss_cons (vs_expr (v_callU (c_check_ratios T) (hr.mono (by decide)) (takes_of rfl rfl rfl rfl) rfl (va_cons (v_var 0) (va_cons (v_var 1) (va_nil)))))
    (vss_one (vs_ret (v_callU (c_ratio T) (hr.mono (by decide)) (takes_of rfl rfl rfl rfl) rfl (va_cons (v_op rb_mul op_mulA (v_ix rb_ix ix_seq (v_var 0) (v_int)) (v_ix rb_ix ix_seq (v_var 1) (v_int))) (va_cons (v_op rb_mul op_mulA (v_ix rb_ix ix_seq (v_var 0) (v_int)) (v_ix rb_ix ix_seq (v_var 1) (v_int))) (va_nil)))))))
  exact ⟨f, fd, _, h1, kp, b, g⟩
/-! ### less_of -/
theorem S_less_of : FnScope ["one", "other"] ["one", "other"] (defScope st_less_of) := ⟨rfl, rfl, rfl, by decide +kernel, rfl, by decide +kernel, by decide +kernel⟩
def m_less_of : FS := sSeq (sExp (eCall 2 F_check_ratios (aC (eV 0) (aC (eV 1) (aN)))))
    (sRet (eCall 2 F_ratio (aC (eB gSub (eB gMul (eB gIx (eV 0) (eC (.int 0))) (eB gIx (eV 1) (eC (.int 1)))) (eB gMul (eB gIx (eV 1) (eC (.int 0))) (eB gIx (eV 0) (eC (.int 1))))) (aC (eB gMul (eB gIx (eV 0) (eC (.int 1))) (eB gIx (eV 1) (eC (.int 1)))) (aN)))))
@[irreducible] def F_less_of : List D → R D := runA 2 false m_less_of
theorem c_less_of (T : Tx K mg) : CallA P w K mg base 4 "less_of" 2 false F_less_of := by
  unfold F_less_of
  obtain ⟨f, fd, F, g, kp, b⟩ := T.d_less_of
  have h1 : FnOk P w K mg base (L2.CX P w) (3 + 1) f fd ["one", "other"] (spA K mg 2 false (runA 2 false m_less_of)) := ok_A (n := 2) (N := ["one", "other"]) (k := 3) (g := m_less_of) false F S_less_of rfl (by decide) (fun cdv A outer s H E hr => vss_cons (vs_expr (v_callU (c_check_ratios T) (hr.mono (by decide)) (takes_of rfl rfl rfl rfl) rfl (va_cons (v_var 0) (va_cons (v_var 1) (va_nil)))))
    (vss_one (vs_ret (v_callU (c_ratio T) (hr.mono (by decide)) (takes_of rfl rfl rfl rfl) rfl (va_cons (v_op rb_sub op_sub (v_op rb_mul op_mulA (v_ix rb_ix ix_seq (v_var 0) (v_int)) (v_ix rb_ix ix_seq (v_var 1) (v_int))) (v_op rb_mul op_mulA (v_ix rb_ix ix_seq (v_var 1) (v_int)) (v_ix rb_ix ix_seq (v_var 0) (v_int)))) (va_cons (v_op rb_mul op_mulA (v_ix rb_ix ix_seq (v_var 0) (v_int)) (v_ix rb_ix ix_seq (v_var 1) (v_int))) (va_nil)))))))
  exact ⟨f, fd, _, h1, kp, b, g⟩
/-! ### power -/
theorem S_power : FnScope ["number", "times", "found", "_"] ["number", "times"] (defScope st_power) := ⟨rfl, rfl, rfl, by decide +kernel, rfl, by decide +kernel, by decide +kernel⟩
def b_power_0 : FS := sAug 2 gMulI (eV 0)
def m_power : FS := sSeq (sSet 2 (eC (.int 1)))
    (sSeq (sFor (iR1 (aC (eV 1) (aN))) (gN 3) b_power_0)
    (sRet (eV 2)))
@[irreducible] def F_power : List D → R D := runA 4 false m_power
theorem c_power (T : Tx K mg) : CallA P w K mg base 1 "power" 2 false F_power := by
  unfold F_power
  obtain ⟨f, fd, F, g, kp, b⟩ := T.d_power
  have h1 : FnOk P w K mg base (L2.CX P w) (0 + 1) f fd ["number", "times"] (spA K mg 2 false (runA 4 false m_power)) := ok_A (n := 2) (N := ["number", "times", "found", "_"]) (k := 0) (g := m_power) false F S_power rfl (by decide) (fun cdv A outer s H E hr => vss_cons (vs_set 2 S_power.nd (v_int))
    (vss_cons (vs_for (b := b_power_0) (passes_of rfl) rfl (vi_range1 rfl T.b_range (va_cons (v_var 1) (va_nil))) (vg_name 3 S_power.nd) (vss_one (vs_aug 2 rb_mulI ip_mulW S_power.nd (v_var 0))))
    (vss_one (vs_ret (v_var 2)))))
  exact ⟨f, fd, _, h1, kp, b, g⟩
/-! ### all_codes -/
theorem S_all_codes : FnScope ["digits"] ["digits"] (defScope st_all_codes) := ⟨rfl, rfl, rfl, by decide +kernel, rfl, by decide +kernel, by decide +kernel⟩
def m_all_codes : FS := sRet (eCall 2 F_power (aC (eC (.int 10)) (aC (eV 0) (aN))))
@[irreducible] def F_all_codes : List D → R D := runA 1 false m_all_codes
theorem c_all_codes (T : Tx K mg) : CallA P w K mg base 2 "all_codes" 1 false F_all_codes := by
  unfold F_all_codes
  obtain ⟨f, fd, F, g, kp, b⟩ := T.d_all_codes
  have h1 : FnOk P w K mg base (L2.CX P w) (1 + 1) f fd ["digits"] (spA K mg 1 false (runA 1 false m_all_codes)) := ok_A (n := 1) (N := ["digits"]) (k := 1) (g := m_all_codes) false F S_all_codes rfl (by decide) (fun cdv A outer s H E hr => vss_one (vs_ret (v_callU (c_power T) (hr.mono (by decide)) (takes_of rfl rfl rfl rfl) rfl (va_cons (v_int) (va_cons (v_var 0) (va_nil))))))
  exact ⟨f, fd, _, h1, kp, b, g⟩
/-! ### is_within -/
theorem S_is_within : FnScope ["value", "low", "high"] ["value", "low", "high"] (defScope st_is_within) := ⟨rfl, rfl, rfl, by decide +kernel, rfl, by decide +kernel, by decide +kernel⟩
def m_is_within : FS := sRet (eAnd (eCall 1 F_is_integer (aC (eV 0) (aN))) (eCh gLe gLe (eV 1) (eV 0) (eV 2)))
@[irreducible] def F_is_within : List D → R D := runA 3 false m_is_within
theorem c_is_within (T : Tx K mg) : CallA P w K mg base 2 "is_within" 3 false F_is_within := by
  unfold F_is_within
  obtain ⟨f, fd, F, g, kp, b⟩ := T.d_is_within
  have h1 : FnOk P w K mg base (L2.CX P w) (1 + 1) f fd ["value", "low", "high"] (spA K mg 3 false (runA 3 false m_is_within)) := ok_A (n := 3) (N := ["value", "low", "high"]) (k := 1) (g := m_is_within) false F S_is_within rfl (by decide) (fun cdv A outer s H E hr => vss_one (vs_ret (v_and (v_callU (c_is_integer T) (hr.mono (by decide)) (takes_of rfl rfl rfl rfl) rfl (va_cons (v_var 0) (va_nil))) (v_one (v_chain rb_le rb_le op_leA op_leA (v_var 1) (v_var 0) (v_var 2))))))
  exact ⟨f, fd, _, h1, kp, b, g⟩
/-! ### check_guessing -/
theorem S_check_guessing : FnScope ["digits", "accepted", "tries"] ["digits", "accepted", "tries"] (defScope st_check_guessing) := ⟨rfl, rfl, rfl, by decide +kernel, rfl, by decide +kernel, by decide +kernel⟩
def m_check_guessing : FS := sSeq (sExp (eCall 1 F_check (aC (eAnd (eCall 3 F_is_within (aC (eV 0) (aC (eC (.int 1)) (aC (eC (.int 12)) (aN))))) (eCall 3 F_is_within (aC (eV 2) (aC (eC (.int 0)) (aC (eC (.int 2000)) (aN)))))) (aN))))
    (sExp (eCall 1 F_check (aC (eCall 3 F_is_within (aC (eV 1) (aC (eC (.int 0)) (aC (eCall 1 F_all_codes (aC (eV 0) (aN))) (aN))))) (aN))))
@[irreducible] def F_check_guessing : List D → R D := runA 3 false m_check_guessing
theorem c_check_guessing (T : Tx K mg) : CallA P w K mg base 3 "check_guessing" 3 false F_check_guessing := by
  unfold F_check_guessing
  obtain ⟨f, fd, F, g, kp, b⟩ := T.d_check_guessing
  have h1 : FnOk P w K mg base (L2.CX P w) (2 + 1) f fd ["digits", "accepted", "tries"] (spA K mg 3 false (runA 3 false m_check_guessing)) := ok_A (n := 3) (N := ["digits", "accepted", "tries"]) (k := 2) (g := m_check_guessing) false F S_check_guessing rfl (by decide) (fun cdv A outer s H E hr => vss_cons (vs_expr (v_callU (c_check T) (hr.mono (by decide)) (takes_of rfl rfl rfl rfl) rfl (va_cons (v_and (v_callU (c_is_within T) (hr.mono (by decide)) (takes_of rfl rfl rfl rfl) rfl (va_cons (v_var 0) (va_cons (v_int) (va_cons (v_globIU T.i_MOST_DIGITS rfl) (va_nil))))) (v_one (v_callU (c_is_within T) (hr.mono (by decide)) (takes_of rfl rfl rfl rfl) rfl (va_cons (v_var 2) (va_cons (v_int) (va_cons (v_globIU T.i_MOST_TRIES rfl) (va_nil))))))) (va_nil))))
    (vss_one (vs_expr (v_callU (c_check T) (hr.mono (by decide)) (takes_of rfl rfl rfl rfl) rfl (va_cons (v_callU (c_is_within T) (hr.mono (by decide)) (takes_of rfl rfl rfl rfl) rfl (va_cons (v_var 1) (va_cons (v_int) (va_cons (v_callU (c_all_codes T) (hr.mono (by decide)) (takes_of rfl rfl rfl rfl) rfl (va_cons (v_var 0) (va_nil))) (va_nil))))) (va_nil))))))
  exact ⟨f, fd, _, h1, kp, b, g⟩
/-! ### fresh_by -/
theorem S_fresh_by : FnScope ["codes", "accepted", "tries", "whole"] ["codes", "accepted", "tries"] (defScope st_fresh_by) := ⟨rfl, rfl, rfl, by decide +kernel, rfl, by decide +kernel, by decide +kernel⟩
def m_fresh_by : FS := sSeq (sSet 3 (eCall 2 F_power (aC (eV 0) (aC (eV 2) (aN)))))
    (sRet (eCall 2 F_ratio (aC (eB gSub (eV 3) (eCall 2 F_power (aC (eB gSub (eV 0) (eV 1)) (aC (eV 2) (aN))))) (aC (eV 3) (aN)))))
@[irreducible] def F_fresh_by : List D → R D := runA 4 false m_fresh_by
theorem c_fresh_by (T : Tx K mg) : CallA P w K mg base 3 "fresh_by" 3 false F_fresh_by := by
  unfold F_fresh_by
  obtain ⟨f, fd, F, g, kp, b⟩ := T.d_fresh_by
  have h1 : FnOk P w K mg base (L2.CX P w) (2 + 1) f fd ["codes", "accepted", "tries"] (spA K mg 3 false (runA 4 false m_fresh_by)) := ok_A (n := 3) (N := ["codes", "accepted", "tries", "whole"]) (k := 2) (g := m_fresh_by) false F S_fresh_by rfl (by decide) (fun cdv A outer s H E hr => vss_cons (vs_set 3 S_fresh_by.nd (v_callU (c_power T) (hr.mono (by decide)) (takes_of rfl rfl rfl rfl) rfl (va_cons (v_var 0) (va_cons (v_var 2) (va_nil)))))
    (vss_one (vs_ret (v_callU (c_ratio T) (hr.mono (by decide)) (takes_of rfl rfl rfl rfl) rfl (va_cons (v_op rb_sub op_sub (v_var 3) (v_callU (c_power T) (hr.mono (by decide)) (takes_of rfl rfl rfl rfl) rfl (va_cons (v_op rb_sub op_sub (v_var 0) (v_var 1)) (va_cons (v_var 2) (va_nil))))) (va_cons (v_var 3) (va_nil)))))))
  exact ⟨f, fd, _, h1, kp, b, g⟩
/-! ### fresh_hit -/
theorem S_fresh_hit : FnScope ["digits", "accepted", "tries"] ["digits", "accepted", "tries"] (defScope st_fresh_hit) := ⟨rfl, rfl, rfl, by decide +kernel, rfl, by decide +kernel, by decide +kernel⟩
def m_fresh_hit : FS := sSeq (sExp (eCall 3 F_check_guessing (aC (eV 0) (aC (eV 1) (aC (eV 2) (aN))))))
    (sRet (eCall 3 F_fresh_by (aC (eCall 1 F_all_codes (aC (eV 0) (aN))) (aC (eV 1) (aC (eV 2) (aN))))))
@[irreducible] def F_fresh_hit : List D → R D := runA 3 false m_fresh_hit
theorem c_fresh_hit (T : Tx K mg) : CallA P w K mg base 4 "fresh_hit" 3 false F_fresh_hit := by
  unfold F_fresh_hit
  obtain ⟨f, fd, F, g, kp, b⟩ := T.d_fresh_hit
  have h1 : FnOk P w K mg base (L2.CX P w) (3 + 1) f fd ["digits", "accepted", "tries"] (spA K mg 3 false (runA 3 false m_fresh_hit)) := ok_A (n := 3) (N := ["digits", "accepted", "tries"]) (k := 3) (g := m_fresh_hit) false F S_fresh_hit rfl (by decide) (fun cdv A outer s H E hr => vss_cons (vs_expr (v_callU (c_check_guessing T) (hr.mono (by decide)) (takes_of rfl rfl rfl rfl) rfl (va_cons (v_var 0) (va_cons (v_var 1) (va_cons (v_var 2) (va_nil))))))
    (vss_one (vs_ret (v_callU (c_fresh_by T) (hr.mono (by decide)) (takes_of rfl rfl rfl rfl) rfl (va_cons (v_callU (c_all_codes T) (hr.mono (by decide)) (takes_of rfl rfl rfl rfl) rfl (va_cons (v_var 0) (va_nil))) (va_cons (v_var 1) (va_cons (v_var 2) (va_nil))))))))
  exact ⟨f, fd, _, h1, kp, b, g⟩
/-! ### fixed_hit -/
theorem S_fixed_hit : FnScope ["digits", "accepted", "tries", "codes", "at", "missed", "whole"] ["digits", "accepted", "tries"] (defScope st_fixed_hit) := ⟨rfl, rfl, rfl, by decide +kernel, rfl, by decide +kernel, by decide +kernel⟩
def b_fixed_hit_0 : FS := sSeq (sAug 5 gMulI (eF fMax2 (aC (eC (.int 0)) (aC (eB gSub (eB gSub (eV 3) (eV 1)) (eV 4)) (aN)))))
    (sAug 6 gMulI (eB gSub (eV 3) (eV 4)))
def m_fixed_hit : FS := sSeq (sExp (eCall 3 F_check_guessing (aC (eV 0) (aC (eV 1) (aC (eV 2) (aN))))))
    (sSeq (sSet 3 (eCall 1 F_all_codes (aC (eV 0) (aN))))
    (sSeq (sExp (eCall 1 F_check (aC (eB gLe (eV 2) (eV 3)) (aN))))
    (sSeq (sAsg (gT 2 (gsC (gN 5) (gsC (gN 6) (gsN)))) (eTup (aC (eC (.int 1)) (aC (eC (.int 1)) (aN)))))
    (sSeq (sFor (iR1 (aC (eV 2) (aN))) (gN 4) b_fixed_hit_0)
    (sRet (eCall 2 F_ratio (aC (eB gSub (eV 6) (eV 5)) (aC (eV 6) (aN)))))))))
@[irreducible] def F_fixed_hit : List D → R D := runA 7 false m_fixed_hit
theorem c_fixed_hit (T : Tx K mg) : CallA P w K mg base 4 "fixed_hit" 3 false F_fixed_hit := by
  unfold F_fixed_hit
  obtain ⟨f, fd, F, g, kp, b⟩ := T.d_fixed_hit
  have h1 : FnOk P w K mg base (L2.CX P w) (3 + 1) f fd ["digits", "accepted", "tries"] (spA K mg 3 false (runA 7 false m_fixed_hit)) := ok_A (n := 3) (N := ["digits", "accepted", "tries", "codes", "at", "missed", "whole"]) (k := 3) (g := m_fixed_hit) false F S_fixed_hit rfl (by decide) (fun cdv A outer s H E hr => vss_cons (vs_expr (v_callU (c_check_guessing T) (hr.mono (by decide)) (takes_of rfl rfl rfl rfl) rfl (va_cons (v_var 0) (va_cons (v_var 1) (va_cons (v_var 2) (va_nil))))))
    (vss_cons (vs_set 3 S_fixed_hit.nd (v_callU (c_all_codes T) (hr.mono (by decide)) (takes_of rfl rfl rfl rfl) rfl (va_cons (v_var 0) (va_nil))))
    (vss_cons (vs_expr (v_callU (c_check T) (hr.mono (by decide)) (takes_of rfl rfl rfl rfl) rfl (va_cons (v_cmp rb_le op_leA (nomark _) (v_var 2) (v_var 3)) (va_nil))))
    (vss_cons (vs_asg (v_tup (va_cons (v_int) (va_cons (v_int) (va_nil)))) (vg_tup rfl (vgs_cons (vg_name 5 S_fixed_hit.nd) (vgs_cons (vg_name 6 S_fixed_hit.nd) (vgs_nil)))))
    (vss_cons (vs_for (b := b_fixed_hit_0) (passes_of rfl) rfl (vi_range1 rfl T.b_range (va_cons (v_var 2) (va_nil))) (vg_name 4 S_fixed_hit.nd) (vss_cons (vs_aug 5 rb_mulI ip_mulW S_fixed_hit.nd (v_blt rc_max2 (call_max2 rfl) rfl T.b_max (va_cons (v_int) (va_cons (v_op rb_sub op_sub (v_op rb_sub op_sub (v_var 3) (v_var 1)) (v_var 4)) (va_nil)))))
    (vss_one (vs_aug 6 rb_mulI ip_mulW S_fixed_hit.nd (v_op rb_sub op_sub (v_var 3) (v_var 4))))))
    (vss_one (vs_ret (v_callU (c_ratio T) (hr.mono (by decide)) (takes_of rfl rfl rfl rfl) rfl (va_cons (v_op rb_sub op_sub (v_var 6) (v_var 5)) (va_cons (v_var 6) (va_nil)))))))))))
  exact ⟨f, fd, _, h1, kp, b, g⟩
/-! ### bound_hit -/
theorem S_bound_hit : FnScope ["digits", "accepted", "tries", "codes"] ["digits", "accepted", "tries"] (defScope st_bound_hit) := ⟨rfl, rfl, rfl, by decide +kernel, rfl, by decide +kernel, by decide +kernel⟩
def m_bound_hit : FS := sSeq (sExp (eCall 3 F_check_guessing (aC (eV 0) (aC (eV 1) (aC (eV 2) (aN))))))
    (sSeq (sSet 3 (eCall 1 F_all_codes (aC (eV 0) (aN))))
    (sRet (eCall 2 F_ratio (aC (eF fMin2 (aC (eV 3) (aC (eB gMul (eV 2) (eV 1)) (aN)))) (aC (eV 3) (aN))))))
@[irreducible] def F_bound_hit : List D → R D := runA 4 false m_bound_hit
theorem c_bound_hit (T : Tx K mg) : CallA P w K mg base 4 "bound_hit" 3 false F_bound_hit := by
  unfold F_bound_hit
  obtain ⟨f, fd, F, g, kp, b⟩ := T.d_bound_hit
  have h1 : FnOk P w K mg base (L2.CX P w) (3 + 1) f fd ["digits", "accepted", "tries"] (spA K mg 3 false (runA 4 false m_bound_hit)) := ok_A (n := 3) (N := ["digits", "accepted", "tries", "codes"]) (k := 3) (g := m_bound_hit) false F S_bound_hit rfl (by decide) (fun cdv A outer s H E hr => vss_cons (vs_expr (v_callU (c_check_guessing T) (hr.mono (by decide)) (takes_of rfl rfl rfl rfl) rfl (va_cons (v_var 0) (va_cons (v_var 1) (va_cons (v_var 2) (va_nil))))))
    (vss_cons (vs_set 3 S_bound_hit.nd (v_callU (c_all_codes T) (hr.mono (by decide)) (takes_of rfl rfl rfl rfl) rfl (va_cons (v_var 0) (va_nil))))
    (vss_one (vs_ret (v_callU (c_ratio T) (hr.mono (by decide)) (takes_of rfl rfl rfl rfl) rfl (va_cons (v_blt rc_min2 (call_min2 rfl) rfl T.b_min (va_cons (v_var 3) (va_cons (v_op rb_mul op_mulA (v_var 2) (v_var 1)) (va_nil)))) (va_cons (v_var 3) (va_nil))))))))
  exact ⟨f, fd, _, h1, kp, b, g⟩
/-! ### is_at_most -/
theorem S_is_at_most : FnScope ["one", "other"] ["one", "other"] (defScope st_is_at_most) := ⟨rfl, rfl, rfl, by decide +kernel, rfl, by decide +kernel, by decide +kernel⟩
def m_is_at_most : FS := sRet (eB gLe (eB gMul (eB gIx (eV 0) (eC (.int 0))) (eB gIx (eV 1) (eC (.int 1)))) (eB gMul (eB gIx (eV 1) (eC (.int 0))) (eB gIx (eV 0) (eC (.int 1)))))
@[irreducible] def F_is_at_most : List D → R D := runA 2 false m_is_at_most
theorem c_is_at_most (T : Tx K mg) : CallA P w K mg base 1 "is_at_most" 2 false F_is_at_most := by
  unfold F_is_at_most
  obtain ⟨f, fd, F, g, kp, b⟩ := T.d_is_at_most
  have h1 : FnOk P w K mg base (L2.CX P w) (0 + 1) f fd ["one", "other"] (spA K mg 2 false (runA 2 false m_is_at_most)) := ok_A (n := 2) (N := ["one", "other"]) (k := 0) (g := m_is_at_most) false F S_is_at_most rfl (by decide) (fun cdv A outer s H E hr => vss_one (vs_ret (v_cmp rb_le op_leA (nomark _) (v_op rb_mul op_mulA (v_ix rb_ix ix_seq (v_var 0) (v_int)) (v_ix rb_ix ix_seq (v_var 1) (v_int))) (v_op rb_mul op_mulA (v_ix rb_ix ix_seq (v_var 1) (v_int)) (v_ix rb_ix ix_seq (v_var 0) (v_int))))))
  exact ⟨f, fd, _, h1, kp, b, g⟩
/-! ### is_limit -/
theorem S_is_limit : FnScope ["value"] ["value"] (defScope st_is_limit) := ⟨rfl, rfl, rfl, by decide +kernel, rfl, by decide +kernel, by decide +kernel⟩
def m_is_limit : FS := sRet (eAnd (eCall 1 F_is_ratio (aC (eV 0) (aN))) (eCh gLe gLe (eC (.int 0)) (eB gIx (eV 0) (eC (.int 0))) (eB gIx (eV 0) (eC (.int 1)))))
@[irreducible] def F_is_limit : List D → R D := runA 1 false m_is_limit
theorem c_is_limit (T : Tx K mg) : CallA P w K mg base 3 "is_limit" 1 false F_is_limit := by
  unfold F_is_limit
  obtain ⟨f, fd, F, g, kp, b⟩ := T.d_is_limit
  have h1 : FnOk P w K mg base (L2.CX P w) (2 + 1) f fd ["value"] (spA K mg 1 false (runA 1 false m_is_limit)) := ok_A (n := 1) (N := ["value"]) (k := 2) (g := m_is_limit) false F S_is_limit rfl (by decide) (fun cdv A outer s H E hr => vss_one (vs_ret (v_and (v_callU (c_is_ratio T) (hr.mono (by decide)) (takes_of rfl rfl rfl rfl) rfl (va_cons (v_var 0) (va_nil))) (v_one (v_chain rb_le rb_le op_leA op_leA (v_int) (v_ix rb_ix ix_seq (v_var 0) (v_int)) (v_ix rb_ix ix_seq (v_var 0) (v_int)))))))
  exact ⟨f, fd, _, h1, kp, b, g⟩
/-! ### least_digits -/
theorem S_least_digits : FnScope ["accepted", "tries", "limit", "digits"] ["accepted", "tries", "limit"] (defScope st_least_digits) := ⟨rfl, rfl, rfl, by decide +kernel, rfl, by decide +kernel, by decide +kernel⟩
def b_least_digits_0 : FS := sIf (tE (eCall 2 F_is_at_most (aC (eCall 3 F_fresh_by (aC (eCall 1 F_all_codes (aC (eV 3) (aN))) (aC (eV 0) (aC (eV 1) (aN))))) (aC (eV 2) (aN))))) (sRet (eV 3)) (sNx)
def m_least_digits : FS := sSeq (sExp (eCall 1 F_check (aC (eAnd (eCall 3 F_is_within (aC (eV 0) (aC (eC (.int 0)) (aC (eC (.int 10)) (aN))))) (eAnd (eCall 3 F_is_within (aC (eV 1) (aC (eC (.int 0)) (aC (eC (.int 2000)) (aN))))) (eCall 1 F_is_limit (aC (eV 2) (aN))))) (aN))))
    (sSeq (sFor (iR2 (aC (eC (.int 1)) (aC (eB gAdd (eC (.int 12)) (eC (.int 1))) (aN)))) (gN 3) b_least_digits_0)
    (sRet (eC .non)))
@[irreducible] def F_least_digits : List D → R D := runA 4 false m_least_digits
theorem c_least_digits (T : Tx K mg) : CallA P w K mg base 4 "least_digits" 3 false F_least_digits := by
  unfold F_least_digits
  obtain ⟨f, fd, F, g, kp, b⟩ := T.d_least_digits
  have h1 : FnOk P w K mg base (L2.CX P w) (3 + 1) f fd ["accepted", "tries", "limit"] (spA K mg 3 false (runA 4 false m_least_digits)) := ok_A (n := 3) (N := ["accepted", "tries", "limit", "digits"]) (k := 3) (g := m_least_digits) false F S_least_digits rfl (by decide) (fun cdv A outer s H E hr => vss_cons (vs_expr (v_callU (c_check T) (hr.mono (by decide)) (takes_of rfl rfl rfl rfl) rfl (va_cons (v_and (v_callU (c_is_within T) (hr.mono (by decide)) (takes_of rfl rfl rfl rfl) rfl (va_cons (v_var 0) (va_cons (v_int) (va_cons (v_globIU T.i_MOST_ACCEPTED rfl) (va_nil))))) (v_and (v_callU (c_is_within T) (hr.mono (by decide)) (takes_of rfl rfl rfl rfl) rfl (va_cons (v_var 1) (va_cons (v_int) (va_cons (v_globIU T.i_MOST_TRIES rfl) (va_nil))))) (v_one (v_callU (c_is_limit T) (hr.mono (by decide)) (takes_of rfl rfl rfl rfl) rfl (va_cons (v_var 2) (va_nil)))))) (va_nil))))
    (vss_cons (vs_for (b := b_least_digits_0) (passes_of rfl) rfl (vi_range2 rfl T.b_range (va_cons (v_int) (va_cons (v_op rb_add op_addA (v_globIU T.i_MOST_DIGITS rfl) (v_int)) (va_nil)))) (vg_name 3 S_least_digits.nd) (vss_one (vs_if (vt_val (v_callU (c_is_at_most T) (hr.mono (by decide)) (takes_of rfl rfl rfl rfl) rfl (va_cons (v_callU (c_fresh_by T) (hr.mono (by decide)) (takes_of rfl rfl rfl rfl) rfl (va_cons (v_callU (c_all_codes T) (hr.mono (by decide)) (takes_of rfl rfl rfl rfl) rfl (va_cons (v_var 3) (va_nil))) (va_cons (v_var 0) (va_cons (v_var 1) (va_nil))))) (va_cons (v_var 2) (va_nil))))) (vss_one (vs_ret (v_var 3))) (vss_nil))))
    (vss_one (vs_ret (v_non)))))
  exact ⟨f, fd, _, h1, kp, b, g⟩
/-! ### same_code -/
theorem S_same_code : FnScope ["digits", "k", "codes", "at", "apart", "whole"] ["digits", "k"] (defScope st_same_code) := ⟨rfl, rfl, rfl, by decide +kernel, rfl, by decide +kernel, by decide +kernel⟩
def b_same_code_0 : FS := sSeq (sAug 4 gMulI (eF fMax2 (aC (eC (.int 0)) (aC (eB gSub (eV 2) (eV 3)) (aN)))))
    (sAug 5 gMulI (eV 2))
def m_same_code : FS := sSeq (sExp (eCall 1 F_check (aC (eAnd (eCall 3 F_is_within (aC (eV 0) (aC (eC (.int 1)) (aC (eC (.int 12)) (aN))))) (eCall 3 F_is_within (aC (eV 1) (aC (eC (.int 0)) (aC (eC (.int 2000)) (aN)))))) (aN))))
    (sSeq (sSet 2 (eCall 1 F_all_codes (aC (eV 0) (aN))))
    (sSeq (sAsg (gT 2 (gsC (gN 4) (gsC (gN 5) (gsN)))) (eTup (aC (eC (.int 1)) (aC (eC (.int 1)) (aN)))))
    (sSeq (sFor (iR1 (aC (eV 1) (aN))) (gN 3) b_same_code_0)
    (sRet (eCall 2 F_ratio (aC (eB gSub (eV 5) (eV 4)) (aC (eV 5) (aN))))))))
@[irreducible] def F_same_code : List D → R D := runA 6 false m_same_code
theorem c_same_code (T : Tx K mg) : CallA P w K mg base 3 "same_code" 2 false F_same_code := by
  unfold F_same_code
  obtain ⟨f, fd, F, g, kp, b⟩ := T.d_same_code
  have h1 : FnOk P w K mg base (L2.CX P w) (2 + 1) f fd ["digits", "k"] (spA K mg 2 false (runA 6 false m_same_code)) := ok_A (n := 2) (N := ["digits", "k", "codes", "at", "apart", "whole"]) (k := 2) (g := m_same_code) false F S_same_code rfl (by decide) (fun cdv A outer s H E hr => vss_cons (vs_expr (v_callU (c_check T) (hr.mono (by decide)) (takes_of rfl rfl rfl rfl) rfl (va_cons (v_and (v_callU (c_is_within T) (hr.mono (by decide)) (takes_of rfl rfl rfl rfl) rfl (va_cons (v_var 0) (va_cons (v_int) (va_cons (v_globIU T.i_MOST_DIGITS rfl) (va_nil))))) (v_one (v_callU (c_is_within T) (hr.mono (by decide)) (takes_of rfl rfl rfl rfl) rfl (va_cons (v_var 1) (va_cons (v_int) (va_cons (v_globIU T.i_MOST_TRIES rfl) (va_nil))))))) (va_nil))))
    (vss_cons (vs_set 2 S_same_code.nd (v_callU (c_all_codes T) (hr.mono (by decide)) (takes_of rfl rfl rfl rfl) rfl (va_cons (v_var 0) (va_nil))))
    (vss_cons (vs_asg (v_tup (va_cons (v_int) (va_cons (v_int) (va_nil)))) (vg_tup rfl (vgs_cons (vg_name 4 S_same_code.nd) (vgs_cons (vg_name 5 S_same_code.nd) (vgs_nil)))))
    (vss_cons (vs_for (b := b_same_code_0) (passes_of rfl) rfl (vi_range1 rfl T.b_range (va_cons (v_var 1) (va_nil))) (vg_name 3 S_same_code.nd) (vss_cons (vs_aug 4 rb_mulI ip_mulW S_same_code.nd (v_blt rc_max2 (call_max2 rfl) rfl T.b_max (va_cons (v_int) (va_cons (v_op rb_sub op_sub (v_var 2) (v_var 3)) (va_nil)))))
    (vss_one (vs_aug 5 rb_mulI ip_mulW S_same_code.nd (v_var 2)))))
    (vss_one (vs_ret (v_callU (c_ratio T) (hr.mono (by decide)) (takes_of rfl rfl rfl rfl) rfl (va_cons (v_op rb_sub op_sub (v_var 5) (v_var 4)) (va_cons (v_var 5) (va_nil))))))))))
  exact ⟨f, fd, _, h1, kp, b, g⟩
/-! ### least_same -/
theorem S_least_same : FnScope ["digits", "limit", "codes", "apart", "whole", "k"] ["digits", "limit"] (defScope st_least_same) := ⟨rfl, rfl, rfl, by decide +kernel, rfl, by decide +kernel, by decide +kernel⟩
def b_least_same_0 : FS := sSeq (sAug 3 gMulI (eB gSub (eV 2) (eV 5)))
    (sSeq (sAug 4 gMulI (eV 2))
    (sAug 5 gAddI (eC (.int 1))))
def m_least_same : FS := sSeq (sExp (eCall 1 F_check (aC (eAnd (eCall 3 F_is_within (aC (eV 0) (aC (eC (.int 1)) (aC (eC (.int 4)) (aN))))) (eAnd (eCall 1 F_is_limit (aC (eV 1) (aN))) (eB gGtI (eB gIx (eV 1) (eC (.int 0))) (eC (.int 0))))) (aN))))
    (sSeq (sSet 2 (eCall 1 F_all_codes (aC (eV 0) (aN))))
    (sSeq (sAsg (gT 3 (gsC (gN 3) (gsC (gN 4) (gsC (gN 5) (gsN))))) (eTup (aC (eC (.int 1)) (aC (eC (.int 1)) (aC (eC (.int 0)) (aN))))))
    (sSeq (whF (tC1 (eB gLt (eB gMul (eB gSub (eV 4) (eV 3)) (eB gIx (eV 1) (eC (.int 1)))) (eB gMul (eB gIx (eV 1) (eC (.int 0))) (eV 4)))) b_least_same_0 fuelN)
    (sRet (eV 5)))))
@[irreducible] def F_least_same : List D → R D := runA 6 false m_least_same
theorem c_least_same (T : Tx K mg) : CallA P w K mg base 4 "least_same" 2 false F_least_same := by
  unfold F_least_same
  obtain ⟨f, fd, F, g, kp, b⟩ := T.d_least_same
  have h1 : FnOk P w K mg base (L2.CX P w) (3 + 1) f fd ["digits", "limit"] (spA K mg 2 false (runA 6 false m_least_same)) := ok_A (n := 2) (N := ["digits", "limit", "codes", "apart", "whole", "k"]) (k := 3) (g := m_least_same) false F S_least_same rfl (by decide) (fun cdv A outer s H E hr => vss_cons (vs_expr (v_callU (c_check T) (hr.mono (by decide)) (takes_of rfl rfl rfl rfl) rfl (va_cons (v_and (v_callU (c_is_within T) (hr.mono (by decide)) (takes_of rfl rfl rfl rfl) rfl (va_cons (v_var 0) (va_cons (v_int) (va_cons (v_globIU T.i_FEW_DIGITS rfl) (va_nil))))) (v_and (v_callU (c_is_limit T) (hr.mono (by decide)) (takes_of rfl rfl rfl rfl) rfl (va_cons (v_var 1) (va_nil))) (v_one (v_cmp rb_gtI op_gt (nomark _) (v_ix rb_ix ix_seq (v_var 1) (v_int)) (v_int))))) (va_nil))))
    (vss_cons (vs_set 2 S_least_same.nd (v_callU (c_all_codes T) (hr.mono (by decide)) (takes_of rfl rfl rfl rfl) rfl (va_cons (v_var 0) (va_nil))))
    (vss_cons (vs_asg (v_tup (va_cons (v_int) (va_cons (v_int) (va_cons (v_int) (va_nil))))) (vg_tup rfl (vgs_cons (vg_name 3 S_least_same.nd) (vgs_cons (vg_name 4 S_least_same.nd) (vgs_cons (vg_name 5 S_least_same.nd) (vgs_nil))))))
    (vss_cons (vs_while (b := b_least_same_0) fuelN (passes_of rfl) (vt_cmp rb_lt op_ltA (nomark _) (v_op rb_mul op_mulA (v_op rb_sub op_sub (v_var 4) (v_var 3)) (v_ix rb_ix ix_seq (v_var 1) (v_int))) (v_op rb_mul op_mulA (v_ix rb_ix ix_seq (v_var 1) (v_int)) (v_var 4))) (vss_cons (vs_aug 3 rb_mulI ip_mulW S_least_same.nd (v_op rb_sub op_sub (v_var 2) (v_var 5)))
    (vss_cons (vs_aug 4 rb_mulI ip_mulW S_least_same.nd (v_var 2))
    (vss_one (vs_aug 5 rb_ipadd ip_add S_least_same.nd (v_int))))))
    (vss_one (vs_ret (v_var 5)))))))
  exact ⟨f, fd, _, h1, kp, b, g⟩
/-! ### mean_tries -/
theorem S_mean_tries : FnScope ["digits", "accepted"] ["digits", "accepted"] (defScope st_mean_tries) := ⟨rfl, rfl, rfl, by decide +kernel, rfl, by decide +kernel, by decide +kernel⟩
def m_mean_tries : FS := sSeq (sExp (eCall 3 F_check_guessing (aC (eV 0) (aC (eV 1) (aC (eC (.int 0)) (aN))))))
    (sSeq (sExp (eCall 1 F_check (aC (eB gGtI (eV 1) (eC (.int 0))) (aN))))
    (sRet (eCall 2 F_ratio (aC (eB gAdd (eCall 1 F_all_codes (aC (eV 0) (aN))) (eC (.int 1))) (aC (eB gAdd (eV 1) (eC (.int 1))) (aN))))))
@[irreducible] def F_mean_tries : List D → R D := runA 2 false m_mean_tries
theorem c_mean_tries (T : Tx K mg) : CallA P w K mg base 4 "mean_tries" 2 false F_mean_tries := by
  unfold F_mean_tries
  obtain ⟨f, fd, F, g, kp, b⟩ := T.d_mean_tries
  have h1 : FnOk P w K mg base (L2.CX P w) (3 + 1) f fd ["digits", "accepted"] (spA K mg 2 false (runA 2 false m_mean_tries)) := ok_A (n := 2) (N := ["digits", "accepted"]) (k := 3) (g := m_mean_tries) false F S_mean_tries rfl (by decide) (fun cdv A outer s H E hr => vss_cons (vs_expr (v_callU (c_check_guessing T) (hr.mono (by decide)) (takes_of rfl rfl rfl rfl) rfl (va_cons (v_var 0) (va_cons (v_var 1) (va_cons (v_int) (va_nil))))))
    (vss_cons (vs_expr (v_callU (c_check T) (hr.mono (by decide)) (takes_of rfl rfl rfl rfl) rfl (va_cons (v_cmp rb_gtI op_gt (nomark _) (v_var 1) (v_int)) (va_nil))))
    (vss_one (vs_ret (v_callU (c_ratio T) (hr.mono (by decide)) (takes_of rfl rfl rfl rfl) rfl (va_cons (v_op rb_add op_addA (v_callU (c_all_codes T) (hr.mono (by decide)) (takes_of rfl rfl rfl rfl) rfl (va_cons (v_var 0) (va_nil))) (v_int)) (va_cons (v_op rb_add op_addA (v_var 1) (v_int)) (va_nil))))))))
  exact ⟨f, fd, _, h1, kp, b, g⟩
/-! ### _law_draws -/
theorem S__law_draws : FnScope ["script", "draws", "cell", "seed", "k", "number", "first"] ["script"] (defScope st__law_draws) := ⟨rfl, rfl, rfl, by decide +kernel, rfl, by decide +kernel, by decide +kernel⟩
def b__law_draws_0 : FS := sIf (tC1 (eB gGtI (eV 5) (eC (.int 0)))) (sSeq (sApp 1 (eB gMod (eF fInt (aC (eV 5) (aN))) (eC (.int 997))))
    (sSet 5 (eB gDivX (eV 5) (eC (.int 997))))) (sNx)
def b__law_draws_1 : FS := sSeq (sSet 5 (eF fAbs (aC (eV 2) (aN))))
    (sSeq (sIf (tC1 (eB gLt (eV 5) (eB gPow (eC (.int 10)) (eC (.int 18))))) (sSeq (sSet 6 (eB gMod (eF fInt (aC (eB gAdd (eB gMul (eV 5) (eC (.int 48271))) (eC (.int 11))) (aN))) (eC (.int 2147483647))))
    (sSeq (sApp 1 (eB gMod (eF fInt (aC (eB gAdd (eB gMul (eV 6) (eC (.int 69621))) (eV 5)) (aN))) (eC (.int 2147483629))))
    (sSeq (sApp 1 (eB gMod (eF fInt (aC (eB gAdd (eV 6) (eB gDivX (eV 5) (eC (.int 7)))) (aN))) (eC (.int 1000003))))
    (sSet 5 (eC (.int 0)))))) (sNx))
    (sFor (iR1 (aC (eC (.int 60)) (aN))) (gN 4) b__law_draws_0))
def b__law_draws_2 : FS := sSeq (sSet 3 (eB gMod (eF fInt (aC (eB gAdd (eB gMul (eV 3) (eC (.int 48271))) (eC (.int 69621))) (aN))) (eC (.int 2147483647))))
    (sApp 1 (eB gDivX (eV 3) (eC (.int 5))))
def m__law_draws : FS := sSeq (sNew 1 (nLst (aN)))
    (sSeq (sFor (iL (eV 0)) (gN 2) b__law_draws_1)
    (sSeq (sSet 3 (eC (.int 1)))
    (sSeq (sIf (tC1 (eB gGtI (eF fLen (aC (eV 0) (aN))) (eC (.int 0)))) (sSet 3 (eB gAdd (eC (.int 1)) (eF fAbs (aC (eB gIx (eV 0) (eC (.int 0))) (aN))))) (sNx))
    (sSeq (sFor (iR1 (aC (eC (.int 9000)) (aN))) (gN 4) b__law_draws_2)
    (sRetN (nU gRevL (eV 1)))))))
@[irreducible] def F__law_draws : List D → R D := runA 7 true m__law_draws
theorem c__law_draws (T : Tx K mg) : CallA P w K mg base 1 "_law_draws" 1 true F__law_draws := by
  unfold F__law_draws
  obtain ⟨f, fd, F, g, kp, b⟩ := T.d__law_draws
  have h1 : FnOk P w K mg base (L2.CX P w) (0 + 1) f fd ["script"] (spA K mg 1 true (runA 7 true m__law_draws)) := ok_A (n := 1) (N := ["script", "draws", "cell", "seed", "k", "number", "first"]) (k := 0) (g := m__law_draws) true F S__law_draws rfl (by decide) (fun cdv A outer s H E hr => vss_cons (vs_new 1 S__law_draws.nd (n_lst (va_nil)))
    (vss_cons (vs_for (b := b__law_draws_1) (passes_of rfl) rfl (vi_list (v_var 0)) (vg_name 2 S__law_draws.nd) (vss_cons (vs_set 5 S__law_draws.nd (v_blt rc_abs call_abs rfl T.b_abs (va_cons (v_var 2) (va_nil))))
    (vss_cons (vs_if (vt_cmp rb_lt op_ltA (nomark _) (v_var 5) (v_op rb_pow op_pow (v_int) (v_int))) (vss_cons (vs_set 6 S__law_draws.nd (v_op rb_mod op_mod (v_bty rc_int call_int1 rfl T.b_int (va_cons (v_op rb_add op_addA (v_op rb_mul op_mulA (v_var 5) (v_int)) (v_int)) (va_nil))) (v_int)))
    (vss_cons (vs_append 1 (v_op rb_mod op_mod (v_bty rc_int call_int1 rfl T.b_int (va_cons (v_op rb_add op_addA (v_op rb_mul op_mulA (v_var 6) (v_int)) (v_var 5)) (va_nil))) (v_int)))
    (vss_cons (vs_append 1 (v_op rb_mod op_mod (v_bty rc_int call_int1 rfl T.b_int (va_cons (v_op rb_add op_addA (v_var 6) (v_op rb_divX op_fdivX (v_var 5) (v_int))) (va_nil))) (v_int)))
    (vss_one (vs_set 5 S__law_draws.nd (v_int)))))) (vss_nil))
    (vss_one (vs_for (b := b__law_draws_0) (passes_of rfl) rfl (vi_range1 rfl T.b_range (va_cons (v_int) (va_nil))) (vg_name 4 S__law_draws.nd) (vss_one (vs_if (vt_cmp rb_gtI op_gt (nomark _) (v_var 5) (v_int)) (vss_cons (vs_append 1 (v_op rb_mod op_mod (v_bty rc_int call_int1 rfl T.b_int (va_cons (v_var 5) (va_nil))) (v_int)))
    (vss_one (vs_set 5 S__law_draws.nd (v_op rb_divX op_fdivX (v_var 5) (v_int))))) (vss_nil))))))))
    (vss_cons (vs_set 3 S__law_draws.nd (v_int))
    (vss_cons (vs_if (vt_cmp rb_gtI op_gt (nomark _) (v_blt rc_len call_lenA rfl T.b_len (va_cons (v_var 0) (va_nil))) (v_int)) (vss_one (vs_set 3 S__law_draws.nd (v_op rb_add op_addA (v_int) (v_blt rc_abs call_abs rfl T.b_abs (va_cons (v_ix rb_ix ix_seq (v_var 0) (v_int)) (va_nil)))))) (vss_nil))
    (vss_cons (vs_for (b := b__law_draws_2) (passes_of rfl) rfl (vi_range1 rfl T.b_range (va_cons (v_int) (va_nil))) (vg_name 4 S__law_draws.nd) (vss_cons (vs_set 3 S__law_draws.nd (v_op rb_mod op_mod (v_bty rc_int call_int1 rfl T.b_int (va_cons (v_op rb_add op_addA (v_op rb_mul op_mulA (v_var 3) (v_int)) (v_int)) (va_nil))) (v_int)))
    (vss_one (vs_append 1 (v_op rb_divX op_fdivX (v_var 3) (v_int))))))
    (vss_one (vs_retN (n_lstRev rfl rfl T.b_list rfl T.b_reversed (v_var 1)))))))))
  exact ⟨f, fd, _, h1, kp, b, g⟩
/-! ### _law_take -/
theorem S__law_take : FnScope ["draws", "bound"] ["draws", "bound"] (defScope st__law_take) := ⟨rfl, rfl, rfl, by decide +kernel, rfl, by decide +kernel, by decide +kernel⟩
def m__law_take : FS := sSeq (sIf (tC1 (eB gEq (ePeek 0 lenOf) (eC (.int 0)))) (sRet (eC (.int 0))) (sNx))
    (sRet (eB gMod (eF fInt (aC (ePop 0) (aN))) (eV 1)))
@[irreducible] def F__law_take : List Int → List D → R (D × List Int) := runB 2 m__law_take
theorem c__law_take (T : Tx K mg) : CallB P w K mg base 1 "_law_take" 2 F__law_take := by
  unfold F__law_take
  obtain ⟨f, fd, F, g, kp, b⟩ := T.d__law_take
  have h1 : FnOk P w K mg base (L2.CX P w) (0 + 1) f fd ["draws", "bound"] (spB K 2 (runB 2 m__law_take)) := ok_B (n := 2) (N := ["draws", "bound"]) (k := 0) (g := m__law_take) F S__law_take rfl (by decide) (fun cdv A outer s H E hr => vss_cons (vs_if (vt_cmp rb_eq (op_eqA hr.hu) (nomark _) (v_lenHeld 0 rfl T.b_len) (v_int)) (vss_one (vs_ret (v_int))) (vss_nil))
    (vss_one (vs_ret (v_op rb_mod op_mod (v_bty rc_int call_int1 rfl T.b_int (va_cons (v_pop 0) (va_nil))) (v_var 1)))))
  exact ⟨f, fd, _, h1, kp, b, g⟩
/-! ### _law_pick -/
theorem S__law_pick : FnScope ["draws", "items"] ["draws", "items"] (defScope st__law_pick) := ⟨rfl, rfl, rfl, by decide +kernel, rfl, by decide +kernel, by decide +kernel⟩
def m__law_pick : FS := sRet (eB gIx (eV 1) (eCallB 2 0 F__law_take (aC (eF fLen (aC (eV 1) (aN))) (aN))))
@[irreducible] def F__law_pick : List Int → List D → R (D × List Int) := runB 2 m__law_pick
theorem c__law_pick (T : Tx K mg) : CallB P w K mg base 2 "_law_pick" 2 F__law_pick := by
  unfold F__law_pick
  obtain ⟨f, fd, F, g, kp, b⟩ := T.d__law_pick
  have h1 : FnOk P w K mg base (L2.CX P w) (1 + 1) f fd ["draws", "items"] (spB K 2 (runB 2 m__law_pick)) := ok_B (n := 2) (N := ["draws", "items"]) (k := 1) (g := m__law_pick) F S__law_pick rfl (by decide) (fun cdv A outer s H E hr => vss_one (vs_ret (v_ix rb_ix ix_seq (v_var 1) (v_callBU 0 (c__law_take T) (hr.mono (by decide)) (takes_of rfl rfl rfl rfl) rfl (va_cons (v_blt rc_len call_lenA rfl T.b_len (va_cons (v_var 1) (va_nil))) (va_nil))))))
  exact ⟨f, fd, _, h1, kp, b, g⟩
/-! ### _law_same -/
theorem S__law_same : FnScope ["told", "due", "key", "k"] ["told", "due"] (defScope st__law_same) := ⟨rfl, rfl, rfl, by decide +kernel, rfl, by decide +kernel, by decide +kernel⟩
def m__law_same (r : List D → R D) : FS := sSeq (sIf (tE (eF fIs (aC (eV 1) (aC (eC (.ty "dict")) (aN))))) (sErr) (sNx))
    (sSeq (sIf (tOr1 (tE (eF fIs (aC (eV 1) (aC (eC (.ty "tuple")) (aN))))) (tE (eF fIs (aC (eV 1) (aC (eC (.ty "list")) (aN)))))) (sSeq (sIf (tOr1 (tC1 (eB gNe (eF fIs (aC (eV 1) (aC (eC (.ty "tuple")) (aN)))) (eF fIs (aC (eV 0) (aC (eC (.ty "tuple")) (aN)))))) (tC1 (eB gNe (eF fIs (aC (eV 1) (aC (eC (.ty "list")) (aN)))) (eF fIs (aC (eV 0) (aC (eC (.ty "list")) (aN))))))) (sRet (eC (.bl false))) (sNx))
    (sRet (eAnd (eB gEq (eF fLen (aC (eV 0) (aN))) (eF fLen (aC (eV 1) (aN)))) (eF fAll (aC (eL (nLc (iR1 (aC (eF fLen (aC (eV 1) (aN))) (aN))) [3] (gN 3) (tYes1) (eCall 2 r (aC (eB gIx (eV 0) (eV 3)) (aC (eB gIx (eV 1) (eV 3)) (aN)))))) (aN)))))) (sNx))
    (sSeq (sIf (tC1 (eB gIsN (eV 1) (eC .non))) (sRet (eB gIsN (eV 0) (eC .non))) (sNx))
    (sSeq (sIf (tC1 (eB gNe (eF fIs (aC (eV 1) (aC (eC (.ty "bool")) (aN)))) (eF fIs (aC (eV 0) (aC (eC (.ty "bool")) (aN)))))) (sRet (eC (.bl false))) (sNx))
    (sSeq (sIf (tOr1 (tC1 (eB gNe (eF fIs (aC (eV 1) (aC (eC (.ty "int")) (aN)))) (eF fIs (aC (eV 0) (aC (eC (.ty "int")) (aN)))))) (tC1 (eB gNe (eF fIs (aC (eV 1) (aC (eC (.ty "str")) (aN)))) (eF fIs (aC (eV 0) (aC (eC (.ty "str")) (aN))))))) (sRet (eC (.bl false))) (sNx))
    (sRet (eB gEq (eV 0) (eV 1)))))))
def R__law_same : Nat → List D → R D
  | 0 => runA 4 false sErr
  | d + 1 => runA 4 false (m__law_same (R__law_same d))
@[irreducible] def F__law_same (d : Nat) : List D → R D := R__law_same d
theorem F__law_same_0 : F__law_same 0 = runA 4 false sErr := by
  unfold F__law_same
  rfl
theorem F__law_same_s (d : Nat) : F__law_same (d + 1) = runA 4 false (m__law_same (F__law_same d)) := by
  unfold F__law_same
  rfl
theorem c__law_same (T : Tx K mg) : ∀ d : Nat, CallA P w K mg base (1 + d) "_law_same" 2 false (F__law_same d)
  | 0 => by
    rw [F__law_same_0]
    obtain ⟨f, fd, F, g, kp, b⟩ := T.d__law_same
    have h1 : FnOk P w K mg base (L2.CX P w) (0 + 1) f fd ["told", "due"] (spA K mg 2 false (runA 4 false sErr)) := ok_A (n := 2) (N := ["told", "due", "key", "k"]) (k := 0) (g := sErr) false F S__law_same rfl (by decide) (fun cdv A outer s H E hr => vss_never)
    exact ⟨f, fd, _, h1, kp, b, g⟩
  | d + 1 => by
    have ih := c__law_same T d
    rw [F__law_same_s]
    obtain ⟨f, fd, F, g, kp, b⟩ := T.d__law_same
    have h1 : FnOk P w K mg base (L2.CX P w) (1 + d + 1) f fd ["told", "due"] (spA K mg 2 false (runA 4 false (m__law_same (F__law_same d)))) := ok_A (n := 2) (N := ["told", "due", "key", "k"]) (k := 1 + d) (g := m__law_same (F__law_same d)) false F S__law_same rfl (by decide) (fun cdv A outer s H E hr => vss_cons (vs_if (vt_val (v_blt rc_is call_isi rfl T.b_isinstance (va_cons (v_var 1) (va_cons (v_ty rfl T.b_dict) (va_nil))))) (vss_never) (vss_nil))
    (vss_cons (vs_if (PW.pt (vw_or (vt_val (v_blt rc_is call_isi rfl T.b_isinstance (va_cons (v_var 1) (va_cons (v_ty rfl T.b_tuple) (va_nil))))) (vw_or1 (vt_val (v_blt rc_is call_isi rfl T.b_isinstance (va_cons (v_var 1) (va_cons (v_ty rfl T.b_list) (va_nil)))))))) (vss_cons (vs_if (PW.pt (vw_or (vt_cmp rb_ne (op_neA hr.hu) (nomark _) (v_blt rc_is call_isi rfl T.b_isinstance (va_cons (v_var 1) (va_cons (v_ty rfl T.b_tuple) (va_nil)))) (v_blt rc_is call_isi rfl T.b_isinstance (va_cons (v_var 0) (va_cons (v_ty rfl T.b_tuple) (va_nil))))) (vw_or1 (vt_cmp rb_ne (op_neA hr.hu) (nomark _) (v_blt rc_is call_isi rfl T.b_isinstance (va_cons (v_var 1) (va_cons (v_ty rfl T.b_list) (va_nil)))) (v_blt rc_is call_isi rfl T.b_isinstance (va_cons (v_var 0) (va_cons (v_ty rfl T.b_list) (va_nil)))))))) (vss_one (vs_ret (v_bl))) (vss_nil))
    (vss_one (vs_ret (v_and (v_cmp rb_eq (op_eqA hr.hu) (nomark _) (v_blt rc_len call_lenA rfl T.b_len (va_cons (v_var 0) (va_nil))) (v_blt rc_len call_lenA rfl T.b_len (va_cons (v_var 1) (va_nil)))) (v_one (v_blt rc_all (cr_all rfl) rfl T.b_all (va_cons (v_ofN (n_lc (own := [("k", 3)]) rfl S__law_same.nd (vi_range1 rfl T.b_range (va_cons (v_blt rc_len call_lenA rfl T.b_len (va_cons (v_var 1) (va_nil))) (va_nil))) rfl (fun _ _ _ _ _ => vg_name 3 S__law_same.nd) (fun _ _ _ _ _ => vts_nil) (fun _ _ _ _ _ => v_callU ih hr takes0 rfl (va_cons (v_ix rb_ix ix_seq (v_var 0) (v_var 3)) (va_cons (v_ix rb_ix ix_seq (v_var 1) (v_var 3)) (va_nil)))))) (va_nil)))))))) (vss_nil))
    (vss_cons (vs_if (vt_cmp rb_isN op_isN (nomark _) (v_var 1) (v_non)) (vss_one (vs_ret (v_cmp rb_isN op_isN (nomark _) (v_var 0) (v_non)))) (vss_nil))
    (vss_cons (vs_if (vt_cmp rb_ne (op_neA hr.hu) (nomark _) (v_blt rc_is call_isi rfl T.b_isinstance (va_cons (v_var 1) (va_cons (v_ty rfl T.b_bool) (va_nil)))) (v_blt rc_is call_isi rfl T.b_isinstance (va_cons (v_var 0) (va_cons (v_ty rfl T.b_bool) (va_nil))))) (vss_one (vs_ret (v_bl))) (vss_nil))
    (vss_cons (vs_if (PW.pt (vw_or (vt_cmp rb_ne (op_neA hr.hu) (nomark _) (v_blt rc_is call_isi rfl T.b_isinstance (va_cons (v_var 1) (va_cons (v_ty rfl T.b_int) (va_nil)))) (v_blt rc_is call_isi rfl T.b_isinstance (va_cons (v_var 0) (va_cons (v_ty rfl T.b_int) (va_nil))))) (vw_or1 (vt_cmp rb_ne (op_neA hr.hu) (nomark _) (v_blt rc_is call_isi rfl T.b_isinstance (va_cons (v_var 1) (va_cons (v_ty rfl T.b_str) (va_nil)))) (v_blt rc_is call_isi rfl T.b_isinstance (va_cons (v_var 0) (va_cons (v_ty rfl T.b_str) (va_nil)))))))) (vss_one (vs_ret (v_bl))) (vss_nil))
    (vss_one (vs_ret (v_cmp rb_eq (op_eqA hr.hu) (nomark _) (v_var 0) (v_var 1)))))))))
    exact ⟨f, fd, _, h1, kp, b, g⟩
/-! ### _law_share -/
theorem S__law_share : FnScope ["a", "b", "one", "other"] ["a", "b"] (defScope st__law_share) := ⟨rfl, rfl, rfl, by decide +kernel, rfl, by decide +kernel, by decide +kernel⟩
def b__law_share_0 : FS := sPar [2, 3] (bV (eV 3) (bV (eB gMod (eF fInt (aC (eV 2) (aN))) (eV 3)) (bN)))
def m__law_share : FS := sSeq (sPar [2, 3] (bV (eF fAbs (aC (eV 0) (aN))) (bV (eF fAbs (aC (eV 1) (aN))) (bN))))
    (sSeq (whF (tC1 (eB gGtI (eV 3) (eC (.int 0)))) b__law_share_0 fuelN)
    (sRet (eV 2)))
@[irreducible] def F__law_share : List D → R D := runA 4 false m__law_share
theorem c__law_share (T : Tx K mg) : CallA P w K mg base 1 "_law_share" 2 false F__law_share := by
  unfold F__law_share
  obtain ⟨f, fd, F, g, kp, b⟩ := T.d__law_share
  have h1 : FnOk P w K mg base (L2.CX P w) (0 + 1) f fd ["a", "b"] (spA K mg 2 false (runA 4 false m__law_share)) := ok_A (n := 2) (N := ["a", "b", "one", "other"]) (k := 0) (g := m__law_share) false F S__law_share rfl (by decide) (fun cdv A outer s H E hr => vss_cons (vs_par 2 3 rfl S__law_share.nd (vb_v (v_blt rc_abs call_abs rfl T.b_abs (va_cons (v_var 0) (va_nil))) (vb_v (v_blt rc_abs call_abs rfl T.b_abs (va_cons (v_var 1) (va_nil))) (vb_nil))))
    (vss_cons (vs_while (b := b__law_share_0) fuelN (passes_of rfl) (vt_cmp rb_gtI op_gt (nomark _) (v_var 3) (v_int)) (vss_one (vs_par 2 3 rfl S__law_share.nd (vb_v (v_var 3) (vb_v (v_op rb_mod op_mod (v_bty rc_int call_int1 rfl T.b_int (va_cons (v_var 2) (va_nil))) (v_var 3)) (vb_nil))))))
    (vss_one (vs_ret (v_var 2)))))
  exact ⟨f, fd, _, h1, kp, b, g⟩
/-! ### _law_ratio -/
theorem S__law_ratio : FnScope ["n", "d"] ["n", "d"] (defScope st__law_ratio) := ⟨rfl, rfl, rfl, by decide +kernel, rfl, by decide +kernel, by decide +kernel⟩
def m__law_ratio : FS := sRet (eTup (aC (eB gDivX (eV 0) (eCall 2 F__law_share (aC (eV 0) (aC (eV 1) (aN))))) (aC (eB gDivX (eV 1) (eCall 2 F__law_share (aC (eV 0) (aC (eV 1) (aN))))) (aN))))
@[irreducible] def F__law_ratio : List D → R D := runA 2 false m__law_ratio
theorem c__law_ratio (T : Tx K mg) : CallA P w K mg base 2 "_law_ratio" 2 false F__law_ratio := by
  unfold F__law_ratio
  obtain ⟨f, fd, F, g, kp, b⟩ := T.d__law_ratio
  have h1 : FnOk P w K mg base (L2.CX P w) (1 + 1) f fd ["n", "d"] (spA K mg 2 false (runA 2 false m__law_ratio)) := ok_A (n := 2) (N := ["n", "d"]) (k := 1) (g := m__law_ratio) false F S__law_ratio rfl (by decide) (fun cdv A outer s H E hr => vss_one (vs_ret (v_tup (va_cons (v_op rb_divX op_fdivX (v_var 0) (v_callU (c__law_share T) (hr.mono (by decide)) (takes_of rfl rfl rfl rfl) rfl (va_cons (v_var 0) (va_cons (v_var 1) (va_nil))))) (va_cons (v_op rb_divX op_fdivX (v_var 1) (v_callU (c__law_share T) (hr.mono (by decide)) (takes_of rfl rfl rfl rfl) rfl (va_cons (v_var 0) (va_cons (v_var 1) (va_nil))))) (va_nil))))))
  exact ⟨f, fd, _, h1, kp, b, g⟩
/-! ### _law_power -/
theorem S__law_power : FnScope ["number", "times", "found", "k"] ["number", "times"] (defScope st__law_power) := ⟨rfl, rfl, rfl, by decide +kernel, rfl, by decide +kernel, by decide +kernel⟩
def b__law_power_0 : FS := sSet 2 (eB gMul (eV 2) (eV 0))
def m__law_power : FS := sSeq (sSet 2 (eC (.int 1)))
    (sSeq (sFor (iR1 (aC (eV 1) (aN))) (gN 3) b__law_power_0)
    (sRet (eV 2)))
@[irreducible] def F__law_power : List D → R D := runA 4 false m__law_power
theorem c__law_power (T : Tx K mg) : CallA P w K mg base 1 "_law_power" 2 false F__law_power := by
  unfold F__law_power
  obtain ⟨f, fd, F, g, kp, b⟩ := T.d__law_power
  have h1 : FnOk P w K mg base (L2.CX P w) (0 + 1) f fd ["number", "times"] (spA K mg 2 false (runA 4 false m__law_power)) := ok_A (n := 2) (N := ["number", "times", "found", "k"]) (k := 0) (g := m__law_power) false F S__law_power rfl (by decide) (fun cdv A outer s H E hr => vss_cons (vs_set 2 S__law_power.nd (v_int))
    (vss_cons (vs_for (b := b__law_power_0) (passes_of rfl) rfl (vi_range1 rfl T.b_range (va_cons (v_var 1) (va_nil))) (vg_name 3 S__law_power.nd) (vss_one (vs_set 2 S__law_power.nd (v_op rb_mul op_mulA (v_var 2) (v_var 0)))))
    (vss_one (vs_ret (v_var 2)))))
  exact ⟨f, fd, _, h1, kp, b, g⟩
/-! ### _law_at_most -/
theorem S__law_at_most : FnScope ["a", "b"] ["a", "b"] (defScope st__law_at_most) := ⟨rfl, rfl, rfl, by decide +kernel, rfl, by decide +kernel, by decide +kernel⟩
def m__law_at_most : FS := sRet (eB gLe (eB gMul (eB gIx (eV 0) (eC (.int 0))) (eB gIx (eV 1) (eC (.int 1)))) (eB gMul (eB gIx (eV 1) (eC (.int 0))) (eB gIx (eV 0) (eC (.int 1)))))
@[irreducible] def F__law_at_most : List D → R D := runA 2 false m__law_at_most
theorem c__law_at_most (T : Tx K mg) : CallA P w K mg base 1 "_law_at_most" 2 false F__law_at_most := by
  unfold F__law_at_most
  obtain ⟨f, fd, F, g, kp, b⟩ := T.d__law_at_most
  have h1 : FnOk P w K mg base (L2.CX P w) (0 + 1) f fd ["a", "b"] (spA K mg 2 false (runA 2 false m__law_at_most)) := ok_A (n := 2) (N := ["a", "b"]) (k := 0) (g := m__law_at_most) false F S__law_at_most rfl (by decide) (fun cdv A outer s H E hr => vss_one (vs_ret (v_cmp rb_le op_leA (nomark _) (v_op rb_mul op_mulA (v_ix rb_ix ix_seq (v_var 0) (v_int)) (v_ix rb_ix ix_seq (v_var 1) (v_int))) (v_op rb_mul op_mulA (v_ix rb_ix ix_seq (v_var 1) (v_int)) (v_ix rb_ix ix_seq (v_var 0) (v_int))))))
  exact ⟨f, fd, _, h1, kp, b, g⟩
/-! ### law -/
theorem S_law : FnScope ["script", "draws", "turn", "limit", "digits", "least", "fits", "codes", "tries", "fresh", "bound", "k", "same", "at", "few", "accepted", "apart", "whole", "fixed", "missed"] ["script"] (defScope st_law) := ⟨rfl, rfl, rfl, by decide +kernel, rfl, by decide +kernel, by decide +kernel⟩
def b_law_0 : FS := sPar [19, 17] (bV (eB gMul (eV 19) (eF fMax2 (aC (eC (.int 0)) (aC (eB gSub (eB gSub (eV 7) (eV 15)) (eV 11)) (aN))))) (bV (eB gMul (eV 17) (eB gSub (eV 7) (eV 11))) (bN)))
def b_law_1 : FS := sPar [16, 17] (bV (eB gMul (eV 16) (eF fMax2 (aC (eC (.int 0)) (aC (eB gSub (eV 7) (eV 13)) (aN))))) (bV (eB gMul (eV 17) (eV 7)) (bN)))
def b_law_2 : FS := sSeq (sSet 4 (eB gAdd (eC (.int 1)) (eCallB 2 1 F__law_take (aC (eC (.int 12)) (aN)))))
    (sSeq (sSet 7 (eCall 2 F__law_power (aC (eC (.int 10)) (aC (eV 4) (aN)))))
    (sSeq (sPar [15, 8] (bV (eCallB 2 1 F__law_pick (aC (eLst (aC (eC (.int 1)) (aC (eC (.int 3)) (aC (eF fMin2 (aC (eV 7) (aC (eC (.int 21)) (aN)))) (aC (eF fMin2 (aC (eV 7) (aC (eCallB 2 1 F__law_take (aC (eC (.int 100000)) (aN))) (aN)))) (aN)))))) (aN))) (bV (eCallB 2 1 F__law_take (aC (eCallB 2 1 F__law_pick (aC (eLst (aC (eC (.int 30)) (aC (eC (.int 200)) (aC (eC (.int 700)) (aN))))) (aN))) (aN))) (bN))))
    (sSeq (sSet 8 (eF fMin2 (aC (eV 8) (aC (eB gDivX (eC (.int 1500)) (eV 4)) (aN)))))
    (sSeq (sSet 9 (eCall 3 F_fresh_hit (aC (eV 4) (aC (eV 15) (aC (eV 8) (aN))))))
    (sSeq (sIf (tNot1 (tE (eCall 2 (F__law_same 4) (aC (eV 9) (aC (eCall 2 F__law_ratio (aC (eB gSub (eCall 2 F__law_power (aC (eV 7) (aC (eV 8) (aN)))) (eCall 2 F__law_power (aC (eB gSub (eV 7) (eV 15)) (aC (eV 8) (aN))))) (aC (eCall 2 F__law_power (aC (eV 7) (aC (eV 8) (aN)))) (aN)))) (aN)))))) (sRet (eC (.bl false))) (sNx))
    (sSeq (sSet 10 (eCall 3 F_bound_hit (aC (eV 4) (aC (eV 15) (aC (eV 8) (aN))))))
    (sSeq (sIf (tOr1 (tNot1 (tE (eCall 2 F__law_at_most (aC (eV 9) (aC (eV 10) (aN)))))) (tOr1 (tNot1 (tE (eCall 2 F__law_at_most (aC (eV 9) (aC (eCall 3 F_fresh_hit (aC (eV 4) (aC (eV 15) (aC (eB gAdd (eV 8) (eC (.int 1))) (aN))))) (aN)))))) (tAnd1 (tC1 (eB gLt (eV 4) (eC (.int 12)))) (tNot1 (tE (eCall 2 F__law_at_most (aC (eCall 3 F_fresh_hit (aC (eB gAdd (eV 4) (eC (.int 1))) (aC (eV 15) (aC (eV 8) (aN))))) (aC (eV 9) (aN))))))))) (sRet (eC (.bl false))) (sNx))
    (sSeq (sIf (tC1 (eB gLe (eV 8) (eV 7))) (sSeq (sPar [18, 19, 17] (bV (eCall 3 F_fixed_hit (aC (eV 4) (aC (eV 15) (aC (eV 8) (aN))))) (bV (eC (.int 1)) (bV (eC (.int 1)) (bN)))))
    (sSeq (sFor (iR1 (aC (eV 8) (aN))) (gN 11) b_law_0)
    (sSeq (sIf (tOr1 (tNot1 (tE (eCall 2 (F__law_same 4) (aC (eV 18) (aC (eCall 2 F__law_ratio (aC (eB gSub (eV 17) (eV 19)) (aC (eV 17) (aN)))) (aN)))))) (tOr1 (tNot1 (tE (eCall 2 F__law_at_most (aC (eV 9) (aC (eV 18) (aN)))))) (tNot1 (tE (eCall 2 F__law_at_most (aC (eV 18) (aC (eV 10) (aN)))))))) (sRet (eC (.bl false))) (sNx))
    (sIf (tAnd1 (tC1 (eB gGtI (eV 8) (eB gSub (eV 7) (eV 15)))) (tC1 (eB gNe (eV 18) (eTup (aC (eC (.int 1)) (aC (eC (.int 1)) (aN))))))) (sRet (eC (.bl false))) (sNx))))) (sNx))
    (sSeq (sIf (tOr1 (tNot1 (tE (eCall 2 (F__law_same 4) (aC (eCall 2 F_sum_of (aC (eV 9) (aC (eCall 2 F_less_of (aC (eTup (aC (eC (.int 1)) (aC (eC (.int 1)) (aN)))) (aC (eV 9) (aN)))) (aN)))) (aC (eTup (aC (eC (.int 1)) (aC (eC (.int 1)) (aN)))) (aN)))))) (tC1 (eB gNe (eCall 2 F_product_of (aC (eV 10) (aC (eTup (aC (eC (.int 0)) (aC (eC (.int 1)) (aN)))) (aN)))) (eTup (aC (eC (.int 0)) (aC (eC (.int 1)) (aN))))))) (sRet (eC (.bl false))) (sNx))
    (sSeq (sSet 11 (eCallB 2 1 F__law_take (aC (eC (.int 300)) (aN))))
    (sSeq (sSet 12 (eCall 2 F_same_code (aC (eV 4) (aC (eV 11) (aN)))))
    (sSeq (sAsg (gT 2 (gsC (gN 16) (gsC (gN 17) (gsN)))) (eTup (aC (eC (.int 1)) (aC (eC (.int 1)) (aN)))))
    (sSeq (sFor (iR1 (aC (eV 11) (aN))) (gN 13) b_law_1)
    (sSeq (sIf (tOr1 (tNot1 (tE (eCall 2 (F__law_same 4) (aC (eV 12) (aC (eCall 2 F__law_ratio (aC (eB gSub (eV 17) (eV 16)) (aC (eV 17) (aN)))) (aN)))))) (tAnd1 (tC1 (eB gGtI (eV 11) (eV 7))) (tC1 (eB gNe (eV 12) (eTup (aC (eC (.int 1)) (aC (eC (.int 1)) (aN)))))))) (sRet (eC (.bl false))) (sNx))
    (sIf (tAnd1 (tC1 (eB gGtI (eV 15) (eC (.int 0)))) (tC1 (eB gNe (eCall 2 F_mean_tries (aC (eV 4) (aC (eV 15) (aN)))) (eCall 2 F__law_ratio (aC (eB gAdd (eV 7) (eC (.int 1))) (aC (eB gAdd (eV 15) (eC (.int 1))) (aN))))))) (sRet (eC (.bl false))) (sNx))))))))))))))))
def m_law : FS := sSeq (sNew 1 (nCall 1 F__law_draws (aC (eV 0) (aN))))
    (sSeq (sFor (iR1 (aC (eC (.int 3)) (aN))) (gN 2) b_law_2)
    (sSeq (sSet 3 (eCallB 2 1 F__law_pick (aC (eLst (aC (eTup (aC (eC (.int 1)) (aC (eC (.int 2)) (aN)))) (aC (eTup (aC (eC (.int 1)) (aC (eC (.int 1000)) (aN)))) (aC (eTup (aC (eC (.int 999)) (aC (eC (.int 1000)) (aN)))) (aC (eCall 2 F__law_ratio (aC (eB gAdd (eC (.int 1)) (eCallB 2 1 F__law_take (aC (eC (.int 99)) (aN)))) (aC (eC (.int 100)) (aN)))) (aN)))))) (aN))))
    (sSeq (sSet 4 (eB gAdd (eC (.int 1)) (eCallB 2 1 F__law_take (aC (eC (.int 4)) (aN)))))
    (sSeq (sSet 5 (eCall 2 F_least_same (aC (eV 4) (aC (eV 3) (aN)))))
    (sSeq (sIf (tOr1 (tC1 (eB gGtI (eV 5) (eC (.int 2000)))) (tOr1 (tAnd1 (tC1 (eB gGtI (eV 5) (eC (.int 0)))) (tE (eCall 2 F__law_at_most (aC (eV 3) (aC (eCall 2 F_same_code (aC (eV 4) (aC (eB gSub (eV 5) (eC (.int 1))) (aN)))) (aN)))))) (tNot1 (tE (eCall 2 F__law_at_most (aC (eV 3) (aC (eCall 2 F_same_code (aC (eV 4) (aC (eV 5) (aN)))) (aN)))))))) (sRet (eC (.bl false))) (sNx))
    (sSeq (sPar [8, 14] (bV (eB gAdd (eC (.int 1)) (eCallB 2 1 F__law_take (aC (eC (.int 900)) (aN)))) (bV (eB gAdd (eC (.int 1)) (eCallB 2 1 F__law_take (aC (eC (.int 10)) (aN)))) (bN))))
    (sSeq (sSet 6 (eCall 3 F_least_digits (aC (eV 14) (aC (eV 8) (aC (eV 3) (aN))))))
    (sSeq (sIf (tOr1 (tC1 (eB gIsN (eV 6) (eC .non))) (tOr1 (tNot1 (tE (eCall 2 F__law_at_most (aC (eCall 3 F_fresh_hit (aC (eV 6) (aC (eV 14) (aC (eV 8) (aN))))) (aC (eV 3) (aN)))))) (tAnd1 (tC1 (eB gGtI (eV 6) (eC (.int 1)))) (tE (eCall 2 F__law_at_most (aC (eCall 3 F_fresh_hit (aC (eB gSub (eV 6) (eC (.int 1))) (aC (eV 14) (aC (eV 8) (aN))))) (aC (eV 3) (aN)))))))) (sRet (eC (.bl false))) (sNx))
    (sRet (eAnd (eB gEq (eCall 2 F_least_same (aC (eC (.int 1)) (aC (eTup (aC (eC (.int 1)) (aC (eC (.int 1)) (aN)))) (aN)))) (eC (.int 11))) (eAnd (eB gEq (eCall 3 F_least_digits (aC (eC (.int 0)) (aC (eC (.int 2000)) (aC (eTup (aC (eC (.int 0)) (aC (eC (.int 1)) (aN)))) (aN))))) (eC (.int 1))) (eB gIsN (eCall 3 F_least_digits (aC (eC (.int 1)) (aC (eC (.int 1)) (aC (eTup (aC (eC (.int 0)) (aC (eC (.int 1)) (aN)))) (aN))))) (eC .non)))))))))))))
@[irreducible] def F_law : List D → R D := runA 20 false m_law
theorem law_at (T : Tx K mg) {f : Addr} {fd : FuncData} (F : Fun K "law" "law" st_law f fd) : FnOk P w K mg base (L2.CX P w) 6 f fd ["script"] (spA K mg 1 false F_law) := by
  unfold F_law
  exact ok_A (n := 1) (N := ["script", "draws", "turn", "limit", "digits", "least", "fits", "codes", "tries", "fresh", "bound", "k", "same", "at", "few", "accepted", "apart", "whole", "fixed", "missed"]) (k := 5) (g := m_law) false F S_law rfl (by decide) (fun cdv A outer s H E hr => vss_cons (vs_new 1 S_law.nd (n_callU (c__law_draws T) (hr.mono (by decide)) (takes_of rfl rfl rfl rfl) rfl (va_cons (v_var 0) (va_nil))))
    (vss_cons (vs_for (b := b_law_2) (passes_of rfl) rfl (vi_range1 rfl T.b_range (va_cons (v_int) (va_nil))) (vg_name 2 S_law.nd) (vss_cons (vs_set 4 S_law.nd (v_op rb_add op_addA (v_int) (v_callBU 1 (c__law_take T) (hr.mono (by decide)) (takes_of rfl rfl rfl rfl) rfl (va_cons (v_int) (va_nil)))))
    (vss_cons (vs_set 7 S_law.nd (v_callU (c__law_power T) (hr.mono (by decide)) (takes_of rfl rfl rfl rfl) rfl (va_cons (v_int) (va_cons (v_var 4) (va_nil)))))
    (vss_cons (vs_par 15 8 rfl S_law.nd (vb_v (v_callBU 1 (c__law_pick T) (hr.mono (by decide)) (takes_of rfl rfl rfl rfl) rfl (va_cons (v_lst (va_cons (v_int) (va_cons (v_int) (va_cons (v_blt rc_min2 (call_min2 rfl) rfl T.b_min (va_cons (v_var 7) (va_cons (v_int) (va_nil)))) (va_cons (v_blt rc_min2 (call_min2 rfl) rfl T.b_min (va_cons (v_var 7) (va_cons (v_callBU 1 (c__law_take T) (hr.mono (by decide)) (takes_of rfl rfl rfl rfl) rfl (va_cons (v_int) (va_nil))) (va_nil)))) (va_nil)))))) (va_nil))) (vb_v (v_callBU 1 (c__law_take T) (hr.mono (by decide)) (takes_of rfl rfl rfl rfl) rfl (va_cons (v_callBU 1 (c__law_pick T) (hr.mono (by decide)) (takes_of rfl rfl rfl rfl) rfl (va_cons (v_lst (va_cons (v_int) (va_cons (v_int) (va_cons (v_int) (va_nil))))) (va_nil))) (va_nil))) (vb_nil))))
    (vss_cons (vs_set 8 S_law.nd (v_blt rc_min2 (call_min2 rfl) rfl T.b_min (va_cons (v_var 8) (va_cons (v_op rb_divX op_fdivX (v_int) (v_var 4)) (va_nil)))))
    (vss_cons (vs_set 9 S_law.nd (v_callU (c_fresh_hit T) (hr.mono (by decide)) (takes_of rfl rfl rfl rfl) rfl (va_cons (v_var 4) (va_cons (v_var 15) (va_cons (v_var 8) (va_nil))))))
    (vss_cons (vs_if (vt_not (vt_val (v_callU (c__law_same T 4) (hr.mono (by decide)) (takes_of rfl rfl rfl rfl) rfl (va_cons (v_var 9) (va_cons (v_callU (c__law_ratio T) (hr.mono (by decide)) (takes_of rfl rfl rfl rfl) rfl (va_cons (v_op rb_sub op_sub (v_callU (c__law_power T) (hr.mono (by decide)) (takes_of rfl rfl rfl rfl) rfl (va_cons (v_var 7) (va_cons (v_var 8) (va_nil)))) (v_callU (c__law_power T) (hr.mono (by decide)) (takes_of rfl rfl rfl rfl) rfl (va_cons (v_op rb_sub op_sub (v_var 7) (v_var 15)) (va_cons (v_var 8) (va_nil))))) (va_cons (v_callU (c__law_power T) (hr.mono (by decide)) (takes_of rfl rfl rfl rfl) rfl (va_cons (v_var 7) (va_cons (v_var 8) (va_nil)))) (va_nil)))) (va_nil)))))) (vss_one (vs_ret (v_bl))) (vss_nil))
    (vss_cons (vs_set 10 S_law.nd (v_callU (c_bound_hit T) (hr.mono (by decide)) (takes_of rfl rfl rfl rfl) rfl (va_cons (v_var 4) (va_cons (v_var 15) (va_cons (v_var 8) (va_nil))))))
    (vss_cons (vs_if (PW.pt (vw_or (vt_not (vt_val (v_callU (c__law_at_most T) (hr.mono (by decide)) (takes_of rfl rfl rfl rfl) rfl (va_cons (v_var 9) (va_cons (v_var 10) (va_nil)))))) (vw_or (vt_not (vt_val (v_callU (c__law_at_most T) (hr.mono (by decide)) (takes_of rfl rfl rfl rfl) rfl (va_cons (v_var 9) (va_cons (v_callU (c_fresh_hit T) (hr.mono (by decide)) (takes_of rfl rfl rfl rfl) rfl (va_cons (v_var 4) (va_cons (v_var 15) (va_cons (v_op rb_add op_addA (v_var 8) (v_int)) (va_nil))))) (va_nil)))))) (vw_or1 (PW.pt (vw_and (vt_cmp rb_lt op_ltA (nomark _) (v_var 4) (v_int)) (vw_and1 (vt_not (vt_val (v_callU (c__law_at_most T) (hr.mono (by decide)) (takes_of rfl rfl rfl rfl) rfl (va_cons (v_callU (c_fresh_hit T) (hr.mono (by decide)) (takes_of rfl rfl rfl rfl) rfl (va_cons (v_op rb_add op_addA (v_var 4) (v_int)) (va_cons (v_var 15) (va_cons (v_var 8) (va_nil))))) (va_cons (v_var 9) (va_nil))))))))))))) (vss_one (vs_ret (v_bl))) (vss_nil))
    (vss_cons (vs_if (vt_cmp rb_le op_leA (nomark _) (v_var 8) (v_var 7)) (vss_cons (vs_par3 18 19 17 rfl S_law.nd (vb_v (v_callU (c_fixed_hit T) (hr.mono (by decide)) (takes_of rfl rfl rfl rfl) rfl (va_cons (v_var 4) (va_cons (v_var 15) (va_cons (v_var 8) (va_nil))))) (vb_v (v_int) (vb_v (v_int) (vb_nil)))))
    (vss_cons (vs_for (b := b_law_0) (passes_of rfl) rfl (vi_range1 rfl T.b_range (va_cons (v_var 8) (va_nil))) (vg_name 11 S_law.nd) (vss_one (vs_par 19 17 rfl S_law.nd (vb_v (v_op rb_mul op_mulA (v_var 19) (v_blt rc_max2 (call_max2 rfl) rfl T.b_max (va_cons (v_int) (va_cons (v_op rb_sub op_sub (v_op rb_sub op_sub (v_var 7) (v_var 15)) (v_var 11)) (va_nil))))) (vb_v (v_op rb_mul op_mulA (v_var 17) (v_op rb_sub op_sub (v_var 7) (v_var 11))) (vb_nil))))))
    (vss_cons (vs_if (PW.pt (vw_or (vt_not (vt_val (v_callU (c__law_same T 4) (hr.mono (by decide)) (takes_of rfl rfl rfl rfl) rfl (va_cons (v_var 18) (va_cons (v_callU (c__law_ratio T) (hr.mono (by decide)) (takes_of rfl rfl rfl rfl) rfl (va_cons (v_op rb_sub op_sub (v_var 17) (v_var 19)) (va_cons (v_var 17) (va_nil)))) (va_nil)))))) (vw_or (vt_not (vt_val (v_callU (c__law_at_most T) (hr.mono (by decide)) (takes_of rfl rfl rfl rfl) rfl (va_cons (v_var 9) (va_cons (v_var 18) (va_nil)))))) (vw_or1 (vt_not (vt_val (v_callU (c__law_at_most T) (hr.mono (by decide)) (takes_of rfl rfl rfl rfl) rfl (va_cons (v_var 18) (va_cons (v_var 10) (va_nil)))))))))) (vss_one (vs_ret (v_bl))) (vss_nil))
    (vss_one (vs_if (PW.pt (vw_and (vt_cmp rb_gtI op_gt (nomark _) (v_var 8) (v_op rb_sub op_sub (v_var 7) (v_var 15))) (vw_and1 (vt_cmp rb_ne (op_neA hr.hu) (nomark _) (v_var 18) (v_tup (va_cons (v_int) (va_cons (v_int) (va_nil)))))))) (vss_one (vs_ret (v_bl))) (vss_nil)))))) (vss_nil))
    (vss_cons (vs_if (PW.pt (vw_or (vt_not (vt_val (v_callU (c__law_same T 4) (hr.mono (by decide)) (takes_of rfl rfl rfl rfl) rfl (va_cons (v_callU (c_sum_of T) (hr.mono (by decide)) (takes_of rfl rfl rfl rfl) rfl (va_cons (v_var 9) (va_cons (v_callU (c_less_of T) (hr.mono (by decide)) (takes_of rfl rfl rfl rfl) rfl (va_cons (v_tup (va_cons (v_int) (va_cons (v_int) (va_nil)))) (va_cons (v_var 9) (va_nil)))) (va_nil)))) (va_cons (v_tup (va_cons (v_int) (va_cons (v_int) (va_nil)))) (va_nil)))))) (vw_or1 (vt_cmp rb_ne (op_neA hr.hu) (nomark _) (v_callU (c_product_of T) (hr.mono (by decide)) (takes_of rfl rfl rfl rfl) rfl (va_cons (v_var 10) (va_cons (v_tup (va_cons (v_int) (va_cons (v_int) (va_nil)))) (va_nil)))) (v_tup (va_cons (v_int) (va_cons (v_int) (va_nil)))))))) (vss_one (vs_ret (v_bl))) (vss_nil))
    (vss_cons (vs_set 11 S_law.nd (v_callBU 1 (c__law_take T) (hr.mono (by decide)) (takes_of rfl rfl rfl rfl) rfl (va_cons (v_int) (va_nil))))
    (vss_cons (vs_set 12 S_law.nd (v_callU (c_same_code T) (hr.mono (by decide)) (takes_of rfl rfl rfl rfl) rfl (va_cons (v_var 4) (va_cons (v_var 11) (va_nil)))))
    (vss_cons (vs_asg (v_tup (va_cons (v_int) (va_cons (v_int) (va_nil)))) (vg_tup rfl (vgs_cons (vg_name 16 S_law.nd) (vgs_cons (vg_name 17 S_law.nd) (vgs_nil)))))
    (vss_cons (vs_for (b := b_law_1) (passes_of rfl) rfl (vi_range1 rfl T.b_range (va_cons (v_var 11) (va_nil))) (vg_name 13 S_law.nd) (vss_one (vs_par 16 17 rfl S_law.nd (vb_v (v_op rb_mul op_mulA (v_var 16) (v_blt rc_max2 (call_max2 rfl) rfl T.b_max (va_cons (v_int) (va_cons (v_op rb_sub op_sub (v_var 7) (v_var 13)) (va_nil))))) (vb_v (v_op rb_mul op_mulA (v_var 17) (v_var 7)) (vb_nil))))))
    (vss_cons (vs_if (PW.pt (vw_or (vt_not (vt_val (v_callU (c__law_same T 4) (hr.mono (by decide)) (takes_of rfl rfl rfl rfl) rfl (va_cons (v_var 12) (va_cons (v_callU (c__law_ratio T) (hr.mono (by decide)) (takes_of rfl rfl rfl rfl) rfl (va_cons (v_op rb_sub op_sub (v_var 17) (v_var 16)) (va_cons (v_var 17) (va_nil)))) (va_nil)))))) (vw_or1 (PW.pt (vw_and (vt_cmp rb_gtI op_gt (nomark _) (v_var 11) (v_var 7)) (vw_and1 (vt_cmp rb_ne (op_neA hr.hu) (nomark _) (v_var 12) (v_tup (va_cons (v_int) (va_cons (v_int) (va_nil))))))))))) (vss_one (vs_ret (v_bl))) (vss_nil))
    (vss_one (vs_if (PW.pt (vw_and (vt_cmp rb_gtI op_gt (nomark _) (v_var 15) (v_int)) (vw_and1 (vt_cmp rb_ne (op_neA hr.hu) (nomark _) (v_callU (c_mean_tries T) (hr.mono (by decide)) (takes_of rfl rfl rfl rfl) rfl (va_cons (v_var 4) (va_cons (v_var 15) (va_nil)))) (v_callU (c__law_ratio T) (hr.mono (by decide)) (takes_of rfl rfl rfl rfl) rfl (va_cons (v_op rb_add op_addA (v_var 7) (v_int)) (va_cons (v_op rb_add op_addA (v_var 15) (v_int)) (va_nil)))))))) (vss_one (vs_ret (v_bl))) (vss_nil)))))))))))))))))))
    (vss_cons (vs_set 3 S_law.nd (v_callBU 1 (c__law_pick T) (hr.mono (by decide)) (takes_of rfl rfl rfl rfl) rfl (va_cons (v_lst (va_cons (v_tup (va_cons (v_int) (va_cons (v_int) (va_nil)))) (va_cons (v_tup (va_cons (v_int) (va_cons (v_int) (va_nil)))) (va_cons (v_tup (va_cons (v_int) (va_cons (v_int) (va_nil)))) (va_cons (v_callU (c__law_ratio T) (hr.mono (by decide)) (takes_of rfl rfl rfl rfl) rfl (va_cons (v_op rb_add op_addA (v_int) (v_callBU 1 (c__law_take T) (hr.mono (by decide)) (takes_of rfl rfl rfl rfl) rfl (va_cons (v_int) (va_nil)))) (va_cons (v_int) (va_nil)))) (va_nil)))))) (va_nil))))
    (vss_cons (vs_set 4 S_law.nd (v_op rb_add op_addA (v_int) (v_callBU 1 (c__law_take T) (hr.mono (by decide)) (takes_of rfl rfl rfl rfl) rfl (va_cons (v_int) (va_nil)))))
    (vss_cons (vs_set 5 S_law.nd (v_callU (c_least_same T) (hr.mono (by decide)) (takes_of rfl rfl rfl rfl) rfl (va_cons (v_var 4) (va_cons (v_var 3) (va_nil)))))
    (vss_cons (vs_if (PW.pt (vw_or (vt_cmp rb_gtI op_gt (nomark _) (v_var 5) (v_int)) (vw_or (PW.pt (vw_and (vt_cmp rb_gtI op_gt (nomark _) (v_var 5) (v_int)) (vw_and1 (vt_val (v_callU (c__law_at_most T) (hr.mono (by decide)) (takes_of rfl rfl rfl rfl) rfl (va_cons (v_var 3) (va_cons (v_callU (c_same_code T) (hr.mono (by decide)) (takes_of rfl rfl rfl rfl) rfl (va_cons (v_var 4) (va_cons (v_op rb_sub op_sub (v_var 5) (v_int)) (va_nil)))) (va_nil)))))))) (vw_or1 (vt_not (vt_val (v_callU (c__law_at_most T) (hr.mono (by decide)) (takes_of rfl rfl rfl rfl) rfl (va_cons (v_var 3) (va_cons (v_callU (c_same_code T) (hr.mono (by decide)) (takes_of rfl rfl rfl rfl) rfl (va_cons (v_var 4) (va_cons (v_var 5) (va_nil)))) (va_nil)))))))))) (vss_one (vs_ret (v_bl))) (vss_nil))
    (vss_cons (vs_par 8 14 rfl S_law.nd (vb_v (v_op rb_add op_addA (v_int) (v_callBU 1 (c__law_take T) (hr.mono (by decide)) (takes_of rfl rfl rfl rfl) rfl (va_cons (v_int) (va_nil)))) (vb_v (v_op rb_add op_addA (v_int) (v_callBU 1 (c__law_take T) (hr.mono (by decide)) (takes_of rfl rfl rfl rfl) rfl (va_cons (v_int) (va_nil)))) (vb_nil))))
    (vss_cons (vs_set 6 S_law.nd (v_callU (c_least_digits T) (hr.mono (by decide)) (takes_of rfl rfl rfl rfl) rfl (va_cons (v_var 14) (va_cons (v_var 8) (va_cons (v_var 3) (va_nil))))))
    (vss_cons (vs_if (PW.pt (vw_or (vt_cmp rb_isN op_isN (nomark _) (v_var 6) (v_non)) (vw_or (vt_not (vt_val (v_callU (c__law_at_most T) (hr.mono (by decide)) (takes_of rfl rfl rfl rfl) rfl (va_cons (v_callU (c_fresh_hit T) (hr.mono (by decide)) (takes_of rfl rfl rfl rfl) rfl (va_cons (v_var 6) (va_cons (v_var 14) (va_cons (v_var 8) (va_nil))))) (va_cons (v_var 3) (va_nil)))))) (vw_or1 (PW.pt (vw_and (vt_cmp rb_gtI op_gt (nomark _) (v_var 6) (v_int)) (vw_and1 (vt_val (v_callU (c__law_at_most T) (hr.mono (by decide)) (takes_of rfl rfl rfl rfl) rfl (va_cons (v_callU (c_fresh_hit T) (hr.mono (by decide)) (takes_of rfl rfl rfl rfl) rfl (va_cons (v_op rb_sub op_sub (v_var 6) (v_int)) (va_cons (v_var 14) (va_cons (v_var 8) (va_nil))))) (va_cons (v_var 3) (va_nil)))))))))))) (vss_one (vs_ret (v_bl))) (vss_nil))
    (vss_one (vs_ret (v_and (v_cmp rb_eq (op_eqA hr.hu) (nomark _) (v_callU (c_least_same T) (hr.mono (by decide)) (takes_of rfl rfl rfl rfl) rfl (va_cons (v_int) (va_cons (v_tup (va_cons (v_int) (va_cons (v_int) (va_nil)))) (va_nil)))) (v_int)) (v_and (v_cmp rb_eq (op_eqA hr.hu) (nomark _) (v_callU (c_least_digits T) (hr.mono (by decide)) (takes_of rfl rfl rfl rfl) rfl (va_cons (v_int) (va_cons (v_int) (va_cons (v_tup (va_cons (v_int) (va_cons (v_int) (va_nil)))) (va_nil))))) (v_int)) (v_one (v_cmp rb_isN op_isN (nomark _) (v_callU (c_least_digits T) (hr.mono (by decide)) (takes_of rfl rfl rfl rfl) rfl (va_cons (v_int) (va_cons (v_int) (va_cons (v_tup (va_cons (v_int) (va_cons (v_int) (va_nil)))) (va_nil))))) (v_non))))))))))))))))
end
/-! ### the head -/
def dd_shared : He.DefD := ⟨("shared", none), "shared", "shared", defArgs st_shared, defBody st_shared, defScope st_shared, [], []⟩
def dd_ratio : He.DefD := ⟨("ratio", none), "ratio", "ratio", defArgs st_ratio, defBody st_ratio, defScope st_ratio, [], []⟩
def dd_check : He.DefD := ⟨("check", none), "check", "check", defArgs st_check, defBody st_check, defScope st_check, [], []⟩
def dd_is_integer : He.DefD := ⟨("is_integer", none), "is_integer", "is_integer", defArgs st_is_integer, defBody st_is_integer, defScope st_is_integer, [], []⟩
def dd_is_ratio : He.DefD := ⟨("is_ratio", none), "is_ratio", "is_ratio", defArgs st_is_ratio, defBody st_is_ratio, defScope st_is_ratio, [], []⟩
def dd_check_ratios : He.DefD := ⟨("check_ratios", none), "check_ratios", "check_ratios", defArgs st_check_ratios, defBody st_check_ratios, defScope st_check_ratios, [], []⟩
def dd_sum_of : He.DefD := ⟨("sum_of", none), "sum_of", "sum_of", defArgs st_sum_of, defBody st_sum_of, defScope st_sum_of, [], []⟩
def dd_product_of : He.DefD := ⟨("product_of", none), "product_of", "product_of", defArgs st_product_of, defBody st_product_of, defScope st_product_of, [], []⟩
def dd_less_of : He.DefD := ⟨("less_of", none), "less_of", "less_of", defArgs st_less_of, defBody st_less_of, defScope st_less_of, [], []⟩
def dd_power : He.DefD := ⟨("power", none), "power", "power", defArgs st_power, defBody st_power, defScope st_power, [], []⟩
def dd_all_codes : He.DefD := ⟨("all_codes", none), "all_codes", "all_codes", defArgs st_all_codes, defBody st_all_codes, defScope st_all_codes, [], []⟩
def dd_is_within : He.DefD := ⟨("is_within", none), "is_within", "is_within", defArgs st_is_within, defBody st_is_within, defScope st_is_within, [], []⟩
def dd_check_guessing : He.DefD := ⟨("check_guessing", none), "check_guessing", "check_guessing", defArgs st_check_guessing, defBody st_check_guessing, defScope st_check_guessing, [], []⟩
def dd_fresh_by : He.DefD := ⟨("fresh_by", none), "fresh_by", "fresh_by", defArgs st_fresh_by, defBody st_fresh_by, defScope st_fresh_by, [], []⟩
def dd_fresh_hit : He.DefD := ⟨("fresh_hit", none), "fresh_hit", "fresh_hit", defArgs st_fresh_hit, defBody st_fresh_hit, defScope st_fresh_hit, [], []⟩
def dd_fixed_hit : He.DefD := ⟨("fixed_hit", none), "fixed_hit", "fixed_hit", defArgs st_fixed_hit, defBody st_fixed_hit, defScope st_fixed_hit, [], []⟩
def dd_bound_hit : He.DefD := ⟨("bound_hit", none), "bound_hit", "bound_hit", defArgs st_bound_hit, defBody st_bound_hit, defScope st_bound_hit, [], []⟩
def dd_is_at_most : He.DefD := ⟨("is_at_most", none), "is_at_most", "is_at_most", defArgs st_is_at_most, defBody st_is_at_most, defScope st_is_at_most, [], []⟩
def dd_is_limit : He.DefD := ⟨("is_limit", none), "is_limit", "is_limit", defArgs st_is_limit, defBody st_is_limit, defScope st_is_limit, [], []⟩
def dd_least_digits : He.DefD := ⟨("least_digits", none), "least_digits", "least_digits", defArgs st_least_digits, defBody st_least_digits, defScope st_least_digits, [], []⟩
def dd_same_code : He.DefD := ⟨("same_code", none), "same_code", "same_code", defArgs st_same_code, defBody st_same_code, defScope st_same_code, [], []⟩
def dd_least_same : He.DefD := ⟨("least_same", none), "least_same", "least_same", defArgs st_least_same, defBody st_least_same, defScope st_least_same, [], []⟩
def dd_mean_tries : He.DefD := ⟨("mean_tries", none), "mean_tries", "mean_tries", defArgs st_mean_tries, defBody st_mean_tries, defScope st_mean_tries, [], []⟩
def dd__law_draws : He.DefD := ⟨("_law_draws", none), "_law_draws", "_law_draws", defArgs st__law_draws, defBody st__law_draws, defScope st__law_draws, [], []⟩
def dd__law_take : He.DefD := ⟨("_law_take", none), "_law_take", "_law_take", defArgs st__law_take, defBody st__law_take, defScope st__law_take, [], []⟩
def dd__law_pick : He.DefD := ⟨("_law_pick", none), "_law_pick", "_law_pick", defArgs st__law_pick, defBody st__law_pick, defScope st__law_pick, [], []⟩
def dd__law_same : He.DefD := ⟨("_law_same", none), "_law_same", "_law_same", defArgs st__law_same, defBody st__law_same, defScope st__law_same, [], []⟩
def dd__law_share : He.DefD := ⟨("_law_share", none), "_law_share", "_law_share", defArgs st__law_share, defBody st__law_share, defScope st__law_share, [], []⟩
def dd__law_ratio : He.DefD := ⟨("_law_ratio", none), "_law_ratio", "_law_ratio", defArgs st__law_ratio, defBody st__law_ratio, defScope st__law_ratio, [], []⟩
def dd__law_power : He.DefD := ⟨("_law_power", none), "_law_power", "_law_power", defArgs st__law_power, defBody st__law_power, defScope st__law_power, [], []⟩
def dd__law_at_most : He.DefD := ⟨("_law_at_most", none), "_law_at_most", "_law_at_most", defArgs st__law_at_most, defBody st__law_at_most, defScope st__law_at_most, [], []⟩
def dd_law : He.DefD := ⟨("law", none), "law", "law", defArgs st_law, defBody st_law, defScope st_law, [], []⟩
def fnL : List He.DefD := [dd_shared, dd_ratio, dd_check, dd_is_integer, dd_is_ratio, dd_check_ratios, dd_sum_of, dd_product_of, dd_less_of, dd_power, dd_all_codes, dd_is_within, dd_check_guessing, dd_fresh_by, dd_fresh_hit, dd_fixed_hit, dd_bound_hit, dd_is_at_most, dd_is_limit, dd_least_digits, dd_same_code, dd_least_same, dd_mean_tries, dd__law_draws, dd__law_take, dd__law_pick, dd__law_same, dd__law_share, dd__law_ratio, dd__law_power, dd__law_at_most, dd_law]
def faL : List He.Fa := [.glo "shared", .glo "ratio", .glo "check", .glo "is_integer", .glo "is_ratio", .glo "check_ratios", .glo "sum_of", .glo "product_of", .glo "less_of", .glo "power", .glo "all_codes", .glo "is_within", .glo "check_guessing", .glo "fresh_by", .glo "fresh_hit", .glo "fixed_hit", .glo "bound_hit", .glo "is_at_most", .glo "is_limit", .glo "least_digits", .glo "same_code", .glo "least_same", .glo "mean_tries", .glo "_law_draws", .glo "_law_take", .glo "_law_pick", .glo "_law_same", .glo "_law_share", .glo "_law_ratio", .glo "_law_power", .glo "_law_at_most", .glo "law", .free "abs", .free "all", .free "bool", .free "dict", .free "int", .free "isinstance", .free "len", .free "list", .free "max", .free "min", .free "range", .free "reversed", .free "str", .free "tuple", .int "FEW_DIGITS" 4, .int "MOST_ACCEPTED" 10, .int "MOST_DIGITS" 12, .int "MOST_TRIES" 2000, .exc "NotRight", .glo "NotRight"]
theorem tx_of {K : PySem.W.Frag} {h : Heap} {mg : Str → Option Value} (X : K.In h) (G : h.Ns mainGlobals mg) (c : He.SaysD faL fnL K) : Tx K mg :=
  {
    d_shared := by
      obtain ⟨fd, F⟩ := c.def_ 0 (d := dd_shared) rfl
      exact ⟨_, fd, He5.fun_of (st := st_shared) F, He.glo_ok X G (c.fact 0 (f := .glo "shared") rfl), F.kp, FunD.bindsN F fun _ _ _ _ _ _ us hl => match us, hl with | [_, _], _ => rfl⟩
    d_ratio := by
      obtain ⟨fd, F⟩ := c.def_ 1 (d := dd_ratio) rfl
      exact ⟨_, fd, He5.fun_of (st := st_ratio) F, He.glo_ok X G (c.fact 1 (f := .glo "ratio") rfl), F.kp, FunD.bindsN F fun _ _ _ _ _ _ us hl => match us, hl with | [_, _], _ => rfl⟩
    d_check := by
      obtain ⟨fd, F⟩ := c.def_ 2 (d := dd_check) rfl
      exact ⟨_, fd, He5.fun_of (st := st_check) F, He.glo_ok X G (c.fact 2 (f := .glo "check") rfl), F.kp, FunD.bindsN F fun _ _ _ _ _ _ us hl => match us, hl with | [_], _ => rfl⟩
    d_is_integer := by
      obtain ⟨fd, F⟩ := c.def_ 3 (d := dd_is_integer) rfl
      exact ⟨_, fd, He5.fun_of (st := st_is_integer) F, He.glo_ok X G (c.fact 3 (f := .glo "is_integer") rfl), F.kp, FunD.bindsN F fun _ _ _ _ _ _ us hl => match us, hl with | [_], _ => rfl⟩
    d_is_ratio := by
      obtain ⟨fd, F⟩ := c.def_ 4 (d := dd_is_ratio) rfl
      exact ⟨_, fd, He5.fun_of (st := st_is_ratio) F, He.glo_ok X G (c.fact 4 (f := .glo "is_ratio") rfl), F.kp, FunD.bindsN F fun _ _ _ _ _ _ us hl => match us, hl with | [_], _ => rfl⟩
    d_check_ratios := by
      obtain ⟨fd, F⟩ := c.def_ 5 (d := dd_check_ratios) rfl
      exact ⟨_, fd, He5.fun_of (st := st_check_ratios) F, He.glo_ok X G (c.fact 5 (f := .glo "check_ratios") rfl), F.kp, FunD.bindsN F fun _ _ _ _ _ _ us hl => match us, hl with | [_, _], _ => rfl⟩
    d_sum_of := by
      obtain ⟨fd, F⟩ := c.def_ 6 (d := dd_sum_of) rfl
      exact ⟨_, fd, He5.fun_of (st := st_sum_of) F, He.glo_ok X G (c.fact 6 (f := .glo "sum_of") rfl), F.kp, FunD.bindsN F fun _ _ _ _ _ _ us hl => match us, hl with | [_, _], _ => rfl⟩
    d_product_of := by
      obtain ⟨fd, F⟩ := c.def_ 7 (d := dd_product_of) rfl
      exact ⟨_, fd, He5.fun_of (st := st_product_of) F, He.glo_ok X G (c.fact 7 (f := .glo "product_of") rfl), F.kp, FunD.bindsN F fun _ _ _ _ _ _ us hl => match us, hl with | [_, _], _ => rfl⟩
    d_less_of := by
      obtain ⟨fd, F⟩ := c.def_ 8 (d := dd_less_of) rfl
      exact ⟨_, fd, He5.fun_of (st := st_less_of) F, He.glo_ok X G (c.fact 8 (f := .glo "less_of") rfl), F.kp, FunD.bindsN F fun _ _ _ _ _ _ us hl => match us, hl with | [_, _], _ => rfl⟩
    d_power := by
      obtain ⟨fd, F⟩ := c.def_ 9 (d := dd_power) rfl
      exact ⟨_, fd, He5.fun_of (st := st_power) F, He.glo_ok X G (c.fact 9 (f := .glo "power") rfl), F.kp, FunD.bindsN F fun _ _ _ _ _ _ us hl => match us, hl with | [_, _], _ => rfl⟩
    d_all_codes := by
      obtain ⟨fd, F⟩ := c.def_ 10 (d := dd_all_codes) rfl
      exact ⟨_, fd, He5.fun_of (st := st_all_codes) F, He.glo_ok X G (c.fact 10 (f := .glo "all_codes") rfl), F.kp, FunD.bindsN F fun _ _ _ _ _ _ us hl => match us, hl with | [_], _ => rfl⟩
    d_is_within := by
      obtain ⟨fd, F⟩ := c.def_ 11 (d := dd_is_within) rfl
      exact ⟨_, fd, He5.fun_of (st := st_is_within) F, He.glo_ok X G (c.fact 11 (f := .glo "is_within") rfl), F.kp, FunD.bindsN F fun _ _ _ _ _ _ us hl => match us, hl with | [_, _, _], _ => rfl⟩
    d_check_guessing := by
      obtain ⟨fd, F⟩ := c.def_ 12 (d := dd_check_guessing) rfl
      exact ⟨_, fd, He5.fun_of (st := st_check_guessing) F, He.glo_ok X G (c.fact 12 (f := .glo "check_guessing") rfl), F.kp, FunD.bindsN F fun _ _ _ _ _ _ us hl => match us, hl with | [_, _, _], _ => rfl⟩
    d_fresh_by := by
      obtain ⟨fd, F⟩ := c.def_ 13 (d := dd_fresh_by) rfl
      exact ⟨_, fd, He5.fun_of (st := st_fresh_by) F, He.glo_ok X G (c.fact 13 (f := .glo "fresh_by") rfl), F.kp, FunD.bindsN F fun _ _ _ _ _ _ us hl => match us, hl with | [_, _, _], _ => rfl⟩
    d_fresh_hit := by
      obtain ⟨fd, F⟩ := c.def_ 14 (d := dd_fresh_hit) rfl
      exact ⟨_, fd, He5.fun_of (st := st_fresh_hit) F, He.glo_ok X G (c.fact 14 (f := .glo "fresh_hit") rfl), F.kp, FunD.bindsN F fun _ _ _ _ _ _ us hl => match us, hl with | [_, _, _], _ => rfl⟩
    d_fixed_hit := by
      obtain ⟨fd, F⟩ := c.def_ 15 (d := dd_fixed_hit) rfl
      exact ⟨_, fd, He5.fun_of (st := st_fixed_hit) F, He.glo_ok X G (c.fact 15 (f := .glo "fixed_hit") rfl), F.kp, FunD.bindsN F fun _ _ _ _ _ _ us hl => match us, hl with | [_, _, _], _ => rfl⟩
    d_bound_hit := by
      obtain ⟨fd, F⟩ := c.def_ 16 (d := dd_bound_hit) rfl
      exact ⟨_, fd, He5.fun_of (st := st_bound_hit) F, He.glo_ok X G (c.fact 16 (f := .glo "bound_hit") rfl), F.kp, FunD.bindsN F fun _ _ _ _ _ _ us hl => match us, hl with | [_, _, _], _ => rfl⟩
    d_is_at_most := by
      obtain ⟨fd, F⟩ := c.def_ 17 (d := dd_is_at_most) rfl
      exact ⟨_, fd, He5.fun_of (st := st_is_at_most) F, He.glo_ok X G (c.fact 17 (f := .glo "is_at_most") rfl), F.kp, FunD.bindsN F fun _ _ _ _ _ _ us hl => match us, hl with | [_, _], _ => rfl⟩
    d_is_limit := by
      obtain ⟨fd, F⟩ := c.def_ 18 (d := dd_is_limit) rfl
      exact ⟨_, fd, He5.fun_of (st := st_is_limit) F, He.glo_ok X G (c.fact 18 (f := .glo "is_limit") rfl), F.kp, FunD.bindsN F fun _ _ _ _ _ _ us hl => match us, hl with | [_], _ => rfl⟩
    d_least_digits := by
      obtain ⟨fd, F⟩ := c.def_ 19 (d := dd_least_digits) rfl
      exact ⟨_, fd, He5.fun_of (st := st_least_digits) F, He.glo_ok X G (c.fact 19 (f := .glo "least_digits") rfl), F.kp, FunD.bindsN F fun _ _ _ _ _ _ us hl => match us, hl with | [_, _, _], _ => rfl⟩
    d_same_code := by
      obtain ⟨fd, F⟩ := c.def_ 20 (d := dd_same_code) rfl
      exact ⟨_, fd, He5.fun_of (st := st_same_code) F, He.glo_ok X G (c.fact 20 (f := .glo "same_code") rfl), F.kp, FunD.bindsN F fun _ _ _ _ _ _ us hl => match us, hl with | [_, _], _ => rfl⟩
    d_least_same := by
      obtain ⟨fd, F⟩ := c.def_ 21 (d := dd_least_same) rfl
      exact ⟨_, fd, He5.fun_of (st := st_least_same) F, He.glo_ok X G (c.fact 21 (f := .glo "least_same") rfl), F.kp, FunD.bindsN F fun _ _ _ _ _ _ us hl => match us, hl with | [_, _], _ => rfl⟩
    d_mean_tries := by
      obtain ⟨fd, F⟩ := c.def_ 22 (d := dd_mean_tries) rfl
      exact ⟨_, fd, He5.fun_of (st := st_mean_tries) F, He.glo_ok X G (c.fact 22 (f := .glo "mean_tries") rfl), F.kp, FunD.bindsN F fun _ _ _ _ _ _ us hl => match us, hl with | [_, _], _ => rfl⟩
    d__law_draws := by
      obtain ⟨fd, F⟩ := c.def_ 23 (d := dd__law_draws) rfl
      exact ⟨_, fd, He5.fun_of (st := st__law_draws) F, He.glo_ok X G (c.fact 23 (f := .glo "_law_draws") rfl), F.kp, FunD.bindsN F fun _ _ _ _ _ _ us hl => match us, hl with | [_], _ => rfl⟩
    d__law_take := by
      obtain ⟨fd, F⟩ := c.def_ 24 (d := dd__law_take) rfl
      exact ⟨_, fd, He5.fun_of (st := st__law_take) F, He.glo_ok X G (c.fact 24 (f := .glo "_law_take") rfl), F.kp, FunD.bindsN F fun _ _ _ _ _ _ us hl => match us, hl with | [_, _], _ => rfl⟩
    d__law_pick := by
      obtain ⟨fd, F⟩ := c.def_ 25 (d := dd__law_pick) rfl
      exact ⟨_, fd, He5.fun_of (st := st__law_pick) F, He.glo_ok X G (c.fact 25 (f := .glo "_law_pick") rfl), F.kp, FunD.bindsN F fun _ _ _ _ _ _ us hl => match us, hl with | [_, _], _ => rfl⟩
    d__law_same := by
      obtain ⟨fd, F⟩ := c.def_ 26 (d := dd__law_same) rfl
      exact ⟨_, fd, He5.fun_of (st := st__law_same) F, He.glo_ok X G (c.fact 26 (f := .glo "_law_same") rfl), F.kp, FunD.bindsN F fun _ _ _ _ _ _ us hl => match us, hl with | [_, _], _ => rfl⟩
    d__law_share := by
      obtain ⟨fd, F⟩ := c.def_ 27 (d := dd__law_share) rfl
      exact ⟨_, fd, He5.fun_of (st := st__law_share) F, He.glo_ok X G (c.fact 27 (f := .glo "_law_share") rfl), F.kp, FunD.bindsN F fun _ _ _ _ _ _ us hl => match us, hl with | [_, _], _ => rfl⟩
    d__law_ratio := by
      obtain ⟨fd, F⟩ := c.def_ 28 (d := dd__law_ratio) rfl
      exact ⟨_, fd, He5.fun_of (st := st__law_ratio) F, He.glo_ok X G (c.fact 28 (f := .glo "_law_ratio") rfl), F.kp, FunD.bindsN F fun _ _ _ _ _ _ us hl => match us, hl with | [_, _], _ => rfl⟩
    d__law_power := by
      obtain ⟨fd, F⟩ := c.def_ 29 (d := dd__law_power) rfl
      exact ⟨_, fd, He5.fun_of (st := st__law_power) F, He.glo_ok X G (c.fact 29 (f := .glo "_law_power") rfl), F.kp, FunD.bindsN F fun _ _ _ _ _ _ us hl => match us, hl with | [_, _], _ => rfl⟩
    d__law_at_most := by
      obtain ⟨fd, F⟩ := c.def_ 30 (d := dd__law_at_most) rfl
      exact ⟨_, fd, He5.fun_of (st := st__law_at_most) F, He.glo_ok X G (c.fact 30 (f := .glo "_law_at_most") rfl), F.kp, FunD.bindsN F fun _ _ _ _ _ _ us hl => match us, hl with | [_, _], _ => rfl⟩
    d_law := by
      obtain ⟨fd, F⟩ := c.def_ 31 (d := dd_law) rfl
      exact ⟨_, fd, He5.fun_of (st := st_law) F, He.glo_ok X G (c.fact 31 (f := .glo "law") rfl), F.kp, FunD.bindsN F fun _ _ _ _ _ _ us hl => match us, hl with | [_], _ => rfl⟩
    b_abs := He.free_ok X G (c.fact 32 (f := .free "abs") rfl)
    b_all := He.free_ok X G (c.fact 33 (f := .free "all") rfl)
    b_bool := He.free_ok X G (c.fact 34 (f := .free "bool") rfl)
    b_dict := He.free_ok X G (c.fact 35 (f := .free "dict") rfl)
    b_int := He.free_ok X G (c.fact 36 (f := .free "int") rfl)
    b_isinstance := He.free_ok X G (c.fact 37 (f := .free "isinstance") rfl)
    b_len := He.free_ok X G (c.fact 38 (f := .free "len") rfl)
    b_list := He.free_ok X G (c.fact 39 (f := .free "list") rfl)
    b_max := He.free_ok X G (c.fact 40 (f := .free "max") rfl)
    b_min := He.free_ok X G (c.fact 41 (f := .free "min") rfl)
    b_range := He.free_ok X G (c.fact 42 (f := .free "range") rfl)
    b_reversed := He.free_ok X G (c.fact 43 (f := .free "reversed") rfl)
    b_str := He.free_ok X G (c.fact 44 (f := .free "str") rfl)
    b_tuple := He.free_ok X G (c.fact 45 (f := .free "tuple") rfl)
    i_FEW_DIGITS := He.int_ok X G (c.fact 46 (f := .int "FEW_DIGITS" 4) rfl)
    i_MOST_ACCEPTED := He.int_ok X G (c.fact 47 (f := .int "MOST_ACCEPTED" 10) rfl)
    i_MOST_DIGITS := He.int_ok X G (c.fact 48 (f := .int "MOST_DIGITS" 12) rfl)
    i_MOST_TRIES := He.int_ok X G (c.fact 49 (f := .int "MOST_TRIES" 2000) rfl)
    e_NotRight := by
      obtain ⟨h1, h2, h3, h4⟩ := He.exc_ok (c.fact 50 (f := .exc "NotRight") rfl)
      exact ⟨_, He.glo_ok X G (c.fact 51 (f := .glo "NotRight") rfl), h1, h2, h3, h4⟩
  }
end Lw
namespace Lw
open Mi
/-! ### sizes -/
def Bd (x : Int) (n : Nat) : Prop := x.natAbs ≤ 2 ^ n
theorem Bd.log {x : Int} {n : Nat} (h : Bd x n) : x.natAbs.log2 ≤ n := by
  by_cases c : x.natAbs = 0
  · rw [c]; exact Nat.zero_le _
  · have h1 : x.natAbs < 2 ^ (n + 1) := Nat.lt_of_le_of_lt h (Nat.pow_lt_pow_right (by omega) (by omega))
    have := (Nat.log2_lt c).2 h1
    omega
theorem Bd.mul {x y : Int} {a b : Nat} (h : Bd x a) (k : Bd y b) : Bd (x * y) (a + b) := by
  unfold Bd
  rw [Int.natAbs_mul, Nat.pow_add]
  exact Nat.mul_le_mul h k
theorem Bd.mono {x : Int} {a b : Nat} (h : Bd x a) (k : a ≤ b) : Bd x b := Nat.le_trans h (Nat.pow_le_pow_right (by omega) k)
theorem Bd.pow {x : Int} {a : Nat} (h : Bd x a) : ∀ n : Nat, Bd (x ^ n) (a * n)
  | 0 => by unfold Bd; simp
  | n + 1 => by
    rw [Int.pow_succ, Nat.mul_succ]
    exact (Bd.pow h n).mul h
theorem Bd.le {x y : Int} {a : Nat} (h : Bd y a) (h0 : 0 ≤ x) (h1 : x ≤ y) : Bd x a := by
  unfold Bd at *
  omega
theorem Bd.sub {x y : Int} {a : Nat} (h : Bd x a) (k : Bd y a) : Bd (x - y) (a + 1) := by
  unfold Bd at *
  rw [Nat.pow_succ]
  omega
theorem Bd.add {x y : Int} {a : Nat} (h : Bd x a) (k : Bd y a) : Bd (x + y) (a + 1) := by
  unfold Bd at *
  rw [Nat.pow_succ]
  omega
theorem mul_ok {x y : Int} {a b : Nat} (h : Bd x a) (k : Bd y b) (l : a + b < 100000000) : mulOk x y = true := by
  have := h.log
  have := k.log
  unfold mulOk
  exact decide_eq_true (by omega)
theorem div_ok {x y : Int} (h0 : 0 < y) (h : Bd y 8999 ∨ Bd x 13499) : divXOk x y = true := by
  rw [divXOk_iff]
  refine ⟨h0, h.imp (fun h => ?_) fun h => ?_⟩
  · have := h.log; omega
  · have := h.log; omega
theorem mod_ok {x y : Int} (h0 : 0 < y) : modOk x y = true := decide_eq_true h0
theorem r62_of {x : Int} (h0 : 0 ≤ x) (h : x ≤ 1000000) : r62 x = true := by
  exact r62_iff.2 ⟨by omega, by omega⟩
theorem Bd.small {x : Int} (h0 : 0 ≤ x) (h : x ≤ 1000000000000) : Bd x 40 := by
  unfold Bd
  have : (2 : Nat) ^ 40 = 1099511627776 := by decide
  omega
/-! ### small functions -/
theorem is_integer_int (i : Int) : F_is_integer [.int i] = .ok (.bl true) := by
  unfold F_is_integer
  rfl
theorem check_true : F_check [.bl true] = .ok .non := by
  unfold F_check
  rfl
theorem within_ok {v lo hi : Int} (h1 : lo ≤ v) (h2 : v ≤ hi) : F_is_within [.int v, .int lo, .int hi] = .ok (.bl true) := by
  simp only [F_is_within, runA, m_is_within, seq_ap, Mi.mi0, Mi.mi1, Mi.mi2, Mi.mi3, Mi.mi4, Mi.mi5, Mi.mo0, Mi.mo1, Mi.mo2, Mi.mo3, Mi.mo8, Bool.false_eq_true, Mi.mo9, Nat.reduceAdd, Nat.reduceSub, Nat.reduceLeDiff, Nat.reduceLT, Nat.reduceEqDiff, Mi.mt0, List.getElem?_cons_zero, List.getElem?_cons_succ, List.set_cons_zero, List.set_cons_succ, List.map_cons, List.map_nil, List.length_cons, List.length_nil, List.nil_append, List.cons_append, List.append_nil, List.replicate_succ, List.replicate_zero, lim_v, reduceIte, decide_true, decide_false, Bool.not_true, Bool.not_false, Option.bind_some, lstOf, is_integer_int, h1, h2]
/-! ### powers -/
theorem pow_loop {x n : Int} {a N : Nat} (hx : Bd x a) (h : a * N < 90000000) (ha : a < 1000000) (s : Sl) : ∃ s', forF (gN 3) b_power_0 (rangeD 0 N) [.val (.int x), .val (.int n), .val (.int 1), s] = .ok (.nx [.val (.int x), .val (.int n), .val (.int (x ^ N)), s']) := by
  obtain ⟨e', h1, s', rfl⟩ := for_rng (G := gN 3) (b := b_power_0) (lo := 0) (n := N) (fun k e => ∃ s, e = [.val (.int x), .val (.int n), .val (.int (x ^ k)), s]) ⟨s, rfl⟩ fun j e hj ⟨s, he⟩ => by
    subst he
    have hb : Bd (x ^ j) (a * N) := (hx.pow j).mono (Nat.mul_le_mul_left _ (by omega))
    refine ⟨_, _, rfl, ?_, .val (.int (0 + j)), rfl⟩
    have hm := mul_ok hb hx (by omega)
    simp only [b_power_0, Mi.mi0, Mi.mi1, Mi.mi2, Mi.mi3, Mi.mi4, Mi.mi5, Mi.mo0, Mi.mo1, Mi.mo2, Mi.mo3, Mi.mo8, Bool.false_eq_true, Mi.mo9, Nat.reduceAdd, Nat.reduceSub, Nat.reduceLeDiff, Nat.reduceLT, Nat.reduceEqDiff, Mi.mt0, List.getElem?_cons_zero, List.getElem?_cons_succ, List.set_cons_zero, List.set_cons_succ, List.map_cons, List.map_nil, List.length_cons, List.length_nil, List.nil_append, List.cons_append, List.append_nil, List.replicate_succ, List.replicate_zero, lim_v, reduceIte, decide_true, decide_false, Bool.not_true, Bool.not_false, Option.bind_some, lstOf, hm]
    rw [Int.pow_succ]
  rw [show x ^ 0 = (1 : Int) from Int.pow_zero x] at h1
  exact ⟨s', h1⟩
theorem power_eq {x n : Int} {a : Nat} (hx : Bd x a) (h0 : 0 ≤ n) (hn : n ≤ 1000000) (h : a * n.toNat < 90000000) (ha : a < 1000000) : F_power [.int x, .int n] = .ok (.int (x ^ n.toNat)) := by
  obtain ⟨s, hl⟩ := pow_loop (n := n) (N := n.toNat) hx h ha .un
  simp only [F_power, runA, m_power, seq_ap, Mi.mi0, Mi.mi1, Mi.mi2, Mi.mi3, Mi.mi4, Mi.mi5, Mi.mo0, Mi.mo1, Mi.mo2, Mi.mo3, Mi.mo8, Bool.false_eq_true, Mi.mo9, Nat.reduceAdd, Nat.reduceSub, Nat.reduceLeDiff, Nat.reduceLT, Nat.reduceEqDiff, Mi.mt0, List.getElem?_cons_zero, List.getElem?_cons_succ, List.set_cons_zero, List.set_cons_succ, List.map_cons, List.map_nil, List.length_cons, List.length_nil, List.nil_append, List.cons_append, List.append_nil, List.replicate_succ, List.replicate_zero, lim_v, reduceIte, decide_true, decide_false, Bool.not_true, Bool.not_false, Option.bind_some, lstOf, r62_of h0 hn, hl]
theorem law_pow_loop {x n : Int} {a N : Nat} (hx : Bd x a) (h : a * N < 90000000) (ha : a < 1000000) (s : Sl) : ∃ s', forF (gN 3) b__law_power_0 (rangeD 0 N) [.val (.int x), .val (.int n), .val (.int 1), s] = .ok (.nx [.val (.int x), .val (.int n), .val (.int (x ^ N)), s']) := by
  obtain ⟨e', h1, s', rfl⟩ := for_rng (G := gN 3) (b := b__law_power_0) (lo := 0) (n := N) (fun k e => ∃ s, e = [.val (.int x), .val (.int n), .val (.int (x ^ k)), s]) ⟨s, rfl⟩ fun j e hj ⟨s, he⟩ => by
    subst he
    have hb : Bd (x ^ j) (a * N) := (hx.pow j).mono (Nat.mul_le_mul_left _ (by omega))
    refine ⟨_, _, rfl, ?_, .val (.int (0 + j)), rfl⟩
    have hm := mul_ok hb hx (by omega)
    simp only [b__law_power_0, Mi.mi0, Mi.mi1, Mi.mi2, Mi.mi3, Mi.mi4, Mi.mi5, Mi.mo0, Mi.mo1, Mi.mo2, Mi.mo3, Mi.mo8, Bool.false_eq_true, Mi.mo9, Nat.reduceAdd, Nat.reduceSub, Nat.reduceLeDiff, Nat.reduceLT, Nat.reduceEqDiff, Mi.mt0, List.getElem?_cons_zero, List.getElem?_cons_succ, List.set_cons_zero, List.set_cons_succ, List.map_cons, List.map_nil, List.length_cons, List.length_nil, List.nil_append, List.cons_append, List.append_nil, List.replicate_succ, List.replicate_zero, lim_v, reduceIte, decide_true, decide_false, Bool.not_true, Bool.not_false, Option.bind_some, lstOf, hm]
    rw [Int.pow_succ]
  rw [show x ^ 0 = (1 : Int) from Int.pow_zero x] at h1
  exact ⟨s', h1⟩
theorem law_power_eq {x n : Int} {a : Nat} (hx : Bd x a) (h0 : 0 ≤ n) (hn : n ≤ 1000000) (h : a * n.toNat < 90000000) (ha : a < 1000000) : F__law_power [.int x, .int n] = .ok (.int (x ^ n.toNat)) := by
  obtain ⟨s, hl⟩ := law_pow_loop (n := n) (N := n.toNat) hx h ha .un
  simp only [F__law_power, runA, m__law_power, seq_ap, Mi.mi0, Mi.mi1, Mi.mi2, Mi.mi3, Mi.mi4, Mi.mi5, Mi.mo0, Mi.mo1, Mi.mo2, Mi.mo3, Mi.mo8, Bool.false_eq_true, Mi.mo9, Nat.reduceAdd, Nat.reduceSub, Nat.reduceLeDiff, Nat.reduceLT, Nat.reduceEqDiff, Mi.mt0, List.getElem?_cons_zero, List.getElem?_cons_succ, List.set_cons_zero, List.set_cons_succ, List.map_cons, List.map_nil, List.length_cons, List.length_nil, List.nil_append, List.cons_append, List.append_nil, List.replicate_succ, List.replicate_zero, lim_v, reduceIte, decide_true, decide_false, Bool.not_true, Bool.not_false, Option.bind_some, lstOf, r62_of h0 hn, hl]
theorem ten_small : Bd 10 4 := by unfold Bd; decide
theorem all_codes_eq {d : Int} (h0 : 0 ≤ d) (hn : d ≤ 1000) : F_all_codes [.int d] = .ok (.int (10 ^ d.toNat)) := by
  have := power_eq (x := 10) (n := d) ten_small h0 (by omega) (by omega) (by omega)
  simp only [F_all_codes, runA, m_all_codes, seq_ap, Mi.mi0, Mi.mi1, Mi.mi2, Mi.mi3, Mi.mi4, Mi.mi5, Mi.mo0, Mi.mo1, Mi.mo2, Mi.mo3, Mi.mo8, Bool.false_eq_true, Mi.mo9, Nat.reduceAdd, Nat.reduceSub, Nat.reduceLeDiff, Nat.reduceLT, Nat.reduceEqDiff, Mi.mt0, List.getElem?_cons_zero, List.getElem?_cons_succ, List.set_cons_zero, List.set_cons_succ, List.map_cons, List.map_nil, List.length_cons, List.length_nil, List.nil_append, List.cons_append, List.append_nil, List.replicate_succ, List.replicate_zero, lim_v, reduceIte, decide_true, decide_false, Bool.not_true, Bool.not_false, Option.bind_some, lstOf, this]
end Lw
namespace Lw
open Mi
/-! ### the greatest common divisor -/
theorem gcd_loop {c : FT} {b : FS} (mk : Int → Int → En) (hc : ∀ x y : Int, c (mk x y) = .ok (decide (0 < y), mk x y)) (hb : ∀ x y : Int, 0 < y → b (mk x y) = .ok (.nx (mk y (x % y)))) :
    ∀ (n x y fuel : Nat), y < 2 ^ n → 2 * n + 1 ≤ fuel → whF c b fuel (mk (x : Int) (y : Int)) = .ok (.nx (mk ((Nat.gcd x y : Nat) : Int) 0)) := by
  have stop : ∀ (x fuel : Nat), 1 ≤ fuel → whF c b fuel (mk (x : Int) 0) = .ok (.nx (mk ((Nat.gcd x 0 : Nat) : Int) 0)) := fun x fuel h => by
    obtain ⟨f, rfl⟩ : ∃ f, fuel = f + 1 := ⟨fuel - 1, by omega⟩
    unfold whF
    rw [hc]
    simp only [Nat.gcd_zero_right]
    rfl
  have go : ∀ (x y fuel : Nat), 0 < y → whF c b (fuel + 1) (mk (x : Int) (y : Int)) = whF c b fuel (mk (y : Int) ((x % y : Nat) : Int)) := fun x y fuel h => by
    rw [show whF c b (fuel + 1) (mk (x : Int) (y : Int)) = _ from rfl, whF, hc, decide_eq_true (by omega : (0 : Int) < (y : Int))]
    simp only [hb _ _ (by omega : (0 : Int) < (y : Int))]
    rfl
  intro n
  induction n with
  | zero =>
    intro x y fuel h1 h2
    obtain rfl : y = 0 := by omega
    exact stop x fuel (by omega)
  | succ n ih =>
    intro x y fuel h1 h2
    by_cases y0 : y = 0
    · subst y0
      exact stop x fuel (by omega)
    obtain ⟨f, rfl⟩ : ∃ f, fuel = f + 2 := ⟨fuel - 2, by omega⟩
    rw [go x y (f + 1) (by omega)]
    have e1 : Nat.gcd x y = Nat.gcd y (x % y) := by rw [Nat.gcd_comm x y, Nat.gcd_rec y x, Nat.gcd_comm]
    by_cases z0 : x % y = 0
    · rw [e1, z0]
      exact stop y (f + 1) (by omega)
    have lt : x % y < y := Nat.mod_lt _ (by omega)
    generalize x % y = z at *
    rw [go y z f (by omega), e1, show Nat.gcd y z = Nat.gcd z (y % z) by rw [Nat.gcd_comm y z, Nat.gcd_rec z y, Nat.gcd_comm]]
    refine ih z (y % z) f ?_ (by omega)
    have k1 := Nat.div_add_mod y z
    have k2 : 1 ≤ y / z := Nat.div_pos (by omega) (by omega)
    have k3 : z * 1 ≤ z * (y / z) := Nat.mul_le_mul_left z k2
    have k4 : y % z < z := Nat.mod_lt _ (by omega)
    rw [Nat.pow_succ] at h1
    omega
def Bn (x n : Nat) : Prop := x ≤ 2 ^ n
theorem Bn.bd {x n : Nat} (h : Bn x n) : Bd (x : Int) n := h
theorem Bn.lt {x n : Nat} (h : Bn x n) : x < 2 ^ (n + 1) := Nat.lt_of_le_of_lt h (Nat.pow_lt_pow_right (by omega) (by omega))
theorem Bn.le {x y n : Nat} (h : Bn y n) (k : x ≤ y) : Bn x n := Nat.le_trans k h
theorem Bn.mono {x a b : Nat} (h : Bn x a) (k : a ≤ b) : Bn x b := Nat.le_trans h (Nat.pow_le_pow_right (by omega) k)
theorem Bn.mul {x y a b : Nat} (h : Bn x a) (k : Bn y b) : Bn (x * y) (a + b) := by
  unfold Bn
  rw [Nat.pow_add]
  exact Nat.mul_le_mul h k
theorem Bn.pow {x a : Nat} (h : Bn x a) (n : Nat) : Bn (x ^ n) (a * n) := by
  unfold Bn
  rw [Nat.pow_mul]
  exact Nat.pow_le_pow_left h n
theorem Bn.add {x y a : Nat} (h : Bn x a) (k : Bn y a) : Bn (x + y) (a + 1) := by
  unfold Bn at *
  rw [Nat.pow_succ]
  omega
theorem abs_nat (x : Nat) : (if (x : Int) < 0 then -(x : Int) else (x : Int)) = (x : Int) := if_neg (by omega)
theorem shared_eq {x y n : Nat} (h : Bn y n) (hn : n ≤ 1000000000) : F_shared [.int x, .int y] = .ok (.int ((Nat.gcd x y : Nat) : Int)) := by
  have l := gcd_loop (c := tC1 (eB gGtI (eV 1) (eC (.int 0)))) (b := b_shared_0) (fun x y => [.val (.int x), .val (.int y)]) (fun x y => by simp only [Mi.mi0, Mi.mi1, Mi.mi2, Mi.mi3, Mi.mi4, Mi.mi5, Mi.mo0, Mi.mo1, Mi.mo2, Mi.mo3, Mi.mo8, Bool.false_eq_true, Mi.mo9, Nat.reduceAdd, Nat.reduceSub, Nat.reduceLeDiff, Nat.reduceLT, Nat.reduceEqDiff, Mi.mt0, List.getElem?_cons_zero, List.getElem?_cons_succ, List.set_cons_zero, List.set_cons_succ, List.map_cons, List.map_nil, List.length_cons, List.length_nil, List.nil_append, List.cons_append, List.append_nil, List.replicate_succ, List.replicate_zero, lim_v, reduceIte, decide_true, decide_false, Bool.not_true, Bool.not_false, Option.bind_some, lstOf]) (fun x y h => by
    simp only [b_shared_0, Mi.mi0, Mi.mi1, Mi.mi2, Mi.mi3, Mi.mi4, Mi.mi5, Mi.mo0, Mi.mo1, Mi.mo2, Mi.mo3, Mi.mo8, Bool.false_eq_true, Mi.mo9, Nat.reduceAdd, Nat.reduceSub, Nat.reduceLeDiff, Nat.reduceLT, Nat.reduceEqDiff, Mi.mt0, List.getElem?_cons_zero, List.getElem?_cons_succ, List.set_cons_zero, List.set_cons_succ, List.map_cons, List.map_nil, List.length_cons, List.length_nil, List.nil_append, List.cons_append, List.append_nil, List.replicate_succ, List.replicate_zero, lim_v, reduceIte, decide_true, decide_false, Bool.not_true, Bool.not_false, Option.bind_some, lstOf, mod_ok h]
    rfl) (n + 1) x y fuelN h.lt (by unfold fuelN; omega)
  simp only [F_shared, runA, m_shared, seq_ap, Mi.mi0, Mi.mi1, Mi.mi2, Mi.mi3, Mi.mi4, Mi.mi5, Mi.mo0, Mi.mo1, Mi.mo2, Mi.mo3, Mi.mo8, Bool.false_eq_true, Mi.mo9, Nat.reduceAdd, Nat.reduceSub, Nat.reduceLeDiff, Nat.reduceLT, Nat.reduceEqDiff, Mi.mt0, List.getElem?_cons_zero, List.getElem?_cons_succ, List.set_cons_zero, List.set_cons_succ, List.map_cons, List.map_nil, List.length_cons, List.length_nil, List.nil_append, List.cons_append, List.append_nil, List.replicate_succ, List.replicate_zero, lim_v, reduceIte, decide_true, decide_false, Bool.not_true, Bool.not_false, Option.bind_some, lstOf, abs_nat, show ([0, 1] : List Nat).length = 2 from rfl, true_and]
  rw [if_pos (by decide)]
  simp only [l, Mi.mi0, Mi.mi1, Mi.mi2, Mi.mi3, Mi.mi4, Mi.mi5, Mi.mo0, Mi.mo1, Mi.mo2, Mi.mo3, Mi.mo8, Bool.false_eq_true, Mi.mo9, Nat.reduceAdd, Nat.reduceSub, Nat.reduceLeDiff, Nat.reduceLT, Nat.reduceEqDiff, Mi.mt0, List.getElem?_cons_zero, List.getElem?_cons_succ, List.set_cons_zero, List.set_cons_succ, List.map_cons, List.map_nil, List.length_cons, List.length_nil, List.nil_append, List.cons_append, List.append_nil, List.replicate_succ, List.replicate_zero, lim_v, reduceIte, decide_true, decide_false, Bool.not_true, Bool.not_false, Option.bind_some, lstOf]
theorem share_eq {x y n : Nat} (h : Bn y n) (hn : n ≤ 1000000000) : F__law_share [.int x, .int y] = .ok (.int ((Nat.gcd x y : Nat) : Int)) := by
  have l := gcd_loop (c := tC1 (eB gGtI (eV 3) (eC (.int 0)))) (b := b__law_share_0) (fun a b => [.val (.int x), .val (.int y), .val (.int a), .val (.int b)]) (fun x y => by simp only [Mi.mi0, Mi.mi1, Mi.mi2, Mi.mi3, Mi.mi4, Mi.mi5, Mi.mo0, Mi.mo1, Mi.mo2, Mi.mo3, Mi.mo8, Bool.false_eq_true, Mi.mo9, Nat.reduceAdd, Nat.reduceSub, Nat.reduceLeDiff, Nat.reduceLT, Nat.reduceEqDiff, Mi.mt0, List.getElem?_cons_zero, List.getElem?_cons_succ, List.set_cons_zero, List.set_cons_succ, List.map_cons, List.map_nil, List.length_cons, List.length_nil, List.nil_append, List.cons_append, List.append_nil, List.replicate_succ, List.replicate_zero, lim_v, reduceIte, decide_true, decide_false, Bool.not_true, Bool.not_false, Option.bind_some, lstOf]) (fun x y h => by
    simp only [b__law_share_0, Mi.mi0, Mi.mi1, Mi.mi2, Mi.mi3, Mi.mi4, Mi.mi5, Mi.mo0, Mi.mo1, Mi.mo2, Mi.mo3, Mi.mo8, Bool.false_eq_true, Mi.mo9, Nat.reduceAdd, Nat.reduceSub, Nat.reduceLeDiff, Nat.reduceLT, Nat.reduceEqDiff, Mi.mt0, List.getElem?_cons_zero, List.getElem?_cons_succ, List.set_cons_zero, List.set_cons_succ, List.map_cons, List.map_nil, List.length_cons, List.length_nil, List.nil_append, List.cons_append, List.append_nil, List.replicate_succ, List.replicate_zero, lim_v, reduceIte, decide_true, decide_false, Bool.not_true, Bool.not_false, Option.bind_some, lstOf, mod_ok h]
    rfl) (n + 1) x y fuelN h.lt (by unfold fuelN; omega)
  simp only [F__law_share, runA, m__law_share, seq_ap, Mi.mi0, Mi.mi1, Mi.mi2, Mi.mi3, Mi.mi4, Mi.mi5, Mi.mo0, Mi.mo1, Mi.mo2, Mi.mo3, Mi.mo8, Bool.false_eq_true, Mi.mo9, Nat.reduceAdd, Nat.reduceSub, Nat.reduceLeDiff, Nat.reduceLT, Nat.reduceEqDiff, Mi.mt0, List.getElem?_cons_zero, List.getElem?_cons_succ, List.set_cons_zero, List.set_cons_succ, List.map_cons, List.map_nil, List.length_cons, List.length_nil, List.nil_append, List.cons_append, List.append_nil, List.replicate_succ, List.replicate_zero, lim_v, reduceIte, decide_true, decide_false, Bool.not_true, Bool.not_false, Option.bind_some, lstOf, abs_nat, show ([2, 3] : List Nat).length = 2 from rfl, true_and]
  rw [if_pos (by decide)]
  simp only [l, Mi.mi0, Mi.mi1, Mi.mi2, Mi.mi3, Mi.mi4, Mi.mi5, Mi.mo0, Mi.mo1, Mi.mo2, Mi.mo3, Mi.mo8, Bool.false_eq_true, Mi.mo9, Nat.reduceAdd, Nat.reduceSub, Nat.reduceLeDiff, Nat.reduceLT, Nat.reduceEqDiff, Mi.mt0, List.getElem?_cons_zero, List.getElem?_cons_succ, List.set_cons_zero, List.set_cons_succ, List.map_cons, List.map_nil, List.length_cons, List.length_nil, List.nil_append, List.cons_append, List.append_nil, List.replicate_succ, List.replicate_zero, lim_v, reduceIte, decide_true, decide_false, Bool.not_true, Bool.not_false, Option.bind_some, lstOf]
/-! ### ratios -/
def rat (a d : Nat) : D := .tup [.int ((a / Nat.gcd a d : Nat) : Int), .int ((d / Nat.gcd a d : Nat) : Int)]
structure Sz (a d : Nat) : Prop where
  pos : 0 < d
  ba : Bn a 80000
  bd : Bn d 80000
  g : Bn (Nat.gcd a d) 8999 ∨ (Bn a 13499 ∧ Bn d 13499)
theorem Sz.gp {a d : Nat} (h : Sz a d) : 0 < Nat.gcd a d := Nat.gcd_pos_of_pos_right _ h.pos
theorem Sz.d1 {a d : Nat} (h : Sz a d) : divXOk (a : Int) ((Nat.gcd a d : Nat) : Int) = true := div_ok (by have := h.gp; omega) (h.g.imp (fun h => h.bd) fun h => h.1.bd)
theorem Sz.d2 {a d : Nat} (h : Sz a d) : divXOk (d : Int) ((Nat.gcd a d : Nat) : Int) = true := div_ok (by have := h.gp; omega) (h.g.imp (fun h => h.bd) fun h => h.2.bd)
theorem Sz.of {a d : Nat} (p : 0 < d) (h1 : Bn a 13499) (h2 : Bn d 13499) : Sz a d := ⟨p, h1.mono (by omega), h2.mono (by omega), .inr ⟨h1, h2⟩⟩
theorem ratio_eq {a d : Nat} (h : Sz a d) : F_ratio [.int a, .int d] = .ok (rat a d) := by
  simp only [F_ratio, runA, m_ratio, seq_ap, Mi.mi0, Mi.mi1, Mi.mi2, Mi.mi3, Mi.mi4, Mi.mi5, Mi.mo0, Mi.mo1, Mi.mo2, Mi.mo3, Mi.mo8, Bool.false_eq_true, Mi.mo9, Nat.reduceAdd, Nat.reduceSub, Nat.reduceLeDiff, Nat.reduceLT, Nat.reduceEqDiff, Mi.mt0, List.getElem?_cons_zero, List.getElem?_cons_succ, List.set_cons_zero, List.set_cons_succ, List.map_cons, List.map_nil, List.length_cons, List.length_nil, List.nil_append, List.cons_append, List.append_nil, List.replicate_succ, List.replicate_zero, lim_v, reduceIte, decide_true, decide_false, Bool.not_true, Bool.not_false, Option.bind_some, lstOf, shared_eq h.bd (by omega), h.d1, h.d2]
  rfl
theorem law_ratio_eq {a d : Nat} (h : Sz a d) : F__law_ratio [.int a, .int d] = .ok (rat a d) := by
  simp only [F__law_ratio, runA, m__law_ratio, seq_ap, Mi.mi0, Mi.mi1, Mi.mi2, Mi.mi3, Mi.mi4, Mi.mi5, Mi.mo0, Mi.mo1, Mi.mo2, Mi.mo3, Mi.mo8, Bool.false_eq_true, Mi.mo9, Nat.reduceAdd, Nat.reduceSub, Nat.reduceLeDiff, Nat.reduceLT, Nat.reduceEqDiff, Mi.mt0, List.getElem?_cons_zero, List.getElem?_cons_succ, List.set_cons_zero, List.set_cons_succ, List.map_cons, List.map_nil, List.length_cons, List.length_nil, List.nil_append, List.cons_append, List.append_nil, List.replicate_succ, List.replicate_zero, lim_v, reduceIte, decide_true, decide_false, Bool.not_true, Bool.not_false, Option.bind_some, lstOf, share_eq h.bd (by omega), h.d1, h.d2]
  rfl
theorem cross {n d n' d' g g' : Nat} (hg : 0 < g) (hg' : 0 < g') : n * d' ≤ n' * d ↔ (g * n) * (g' * d') ≤ (g' * n') * (g * d) := by
  rw [show (g * n) * (g' * d') = (g * g') * (n * d') by rw [Nat.mul_mul_mul_comm], show (g' * n') * (g * d) = (g * g') * (n' * d) by rw [Nat.mul_mul_mul_comm, Nat.mul_comm g' g]]
  exact (Nat.mul_le_mul_left_iff (Nat.mul_pos hg hg')).symm
theorem at_most_iff {a d a' d' : Nat} (h : 0 < d) (h' : 0 < d') : (a / Nat.gcd a d) * (d' / Nat.gcd a' d') ≤ (a' / Nat.gcd a' d') * (d / Nat.gcd a d) ↔ a * d' ≤ a' * d := by
  rw [cross (Nat.gcd_pos_of_pos_right a h) (Nat.gcd_pos_of_pos_right a' h'), Nat.mul_div_cancel' (Nat.gcd_dvd_left a d), Nat.mul_div_cancel' (Nat.gcd_dvd_right a d), Nat.mul_div_cancel' (Nat.gcd_dvd_left a' d'), Nat.mul_div_cancel' (Nat.gcd_dvd_right a' d')]
theorem at_most_gen {f : FS} (hf : f = sRet (eB gLe (eB gMul (eB gIx (eV 0) (eC (.int 0))) (eB gIx (eV 1) (eC (.int 1)))) (eB gMul (eB gIx (eV 1) (eC (.int 0))) (eB gIx (eV 0) (eC (.int 1)))))) {a d a' d' : Nat} (h : Sz a d) (h' : Sz a' d') :
    runA 2 false f [rat a d, rat a' d'] = .ok (.bl (decide (a * d' ≤ a' * d))) := by
  subst hf
  have b1 : Bn (a / Nat.gcd a d) 80000 := h.ba.le (Nat.div_le_self _ _)
  have b2 : Bn (d / Nat.gcd a d) 80000 := h.bd.le (Nat.div_le_self _ _)
  have b3 : Bn (a' / Nat.gcd a' d') 80000 := h'.ba.le (Nat.div_le_self _ _)
  have b4 : Bn (d' / Nat.gcd a' d') 80000 := h'.bd.le (Nat.div_le_self _ _)
  have m1 := mul_ok b1.bd b4.bd (by omega)
  have m2 := mul_ok b3.bd b2.bd (by omega)
  simp only [rat, runA, seq_ap, Mi.mi0, Mi.mi1, Mi.mi2, Mi.mi3, Mi.mi4, Mi.mi5, Mi.mo0, Mi.mo1, Mi.mo2, Mi.mo3, Mi.mo8, Bool.false_eq_true, Mi.mo9, Nat.reduceAdd, Nat.reduceSub, Nat.reduceLeDiff, Nat.reduceLT, Nat.reduceEqDiff, Mi.mt0, List.getElem?_cons_zero, List.getElem?_cons_succ, List.set_cons_zero, List.set_cons_succ, List.map_cons, List.map_nil, List.length_cons, List.length_nil, List.nil_append, List.cons_append, List.append_nil, List.replicate_succ, List.replicate_zero, lim_v, reduceIte, decide_true, decide_false, Bool.not_true, Bool.not_false, Option.bind_some, lstOf, m1, m2]
  rw [← Int.natCast_mul, ← Int.natCast_mul, decide_eq_decide.2 (Int.ofNat_le.trans (at_most_iff h.pos h'.pos))]
theorem at_most_eq {a d a' d' : Nat} (h : Sz a d) (h' : Sz a' d') : F__law_at_most [rat a d, rat a' d'] = .ok (.bl (decide (a * d' ≤ a' * d))) := by
  unfold F__law_at_most
  exact at_most_gen rfl h h'
theorem is_at_most_eq {a d a' d' : Nat} (h : Sz a d) (h' : Sz a' d') : F_is_at_most [rat a d, rat a' d'] = .ok (.bl (decide (a * d' ≤ a' * d))) := by
  unfold F_is_at_most
  exact at_most_gen rfl h h'
theorem is_ratio_eq {a d : Nat} (h : Sz a d) : F_is_ratio [rat a d] = .ok (.bl true) := by
  have g1 : Nat.gcd (a / Nat.gcd a d) (d / Nat.gcd a d) = 1 := Nat.gcd_div_gcd_div_gcd_of_pos_right h.pos
  have b2 : Bn (d / Nat.gcd a d) 80000 := h.bd.le (Nat.div_le_self _ _)
  have s := shared_eq (x := a / Nat.gcd a d) b2 (by omega)
  rw [g1] at s
  have p : (0 : Int) < ((d / Nat.gcd a d : Nat) : Int) := by
    have := Nat.div_pos (Nat.le_of_dvd h.pos (Nat.gcd_dvd_right a d)) h.gp
    omega
  simp only [F_is_ratio, rat, runA, m_is_ratio, seq_ap, Mi.mi0, Mi.mi1, Mi.mi2, Mi.mi3, Mi.mi4, Mi.mi5, Mi.mo0, Mi.mo1, Mi.mo2, Mi.mo3, Mi.mo8, Bool.false_eq_true, Mi.mo9, Nat.reduceAdd, Nat.reduceSub, Nat.reduceLeDiff, Nat.reduceLT, Nat.reduceEqDiff, Mi.mt0, List.getElem?_cons_zero, List.getElem?_cons_succ, List.set_cons_zero, List.set_cons_succ, List.map_cons, List.map_nil, List.length_cons, List.length_nil, List.nil_append, List.cons_append, List.append_nil, List.replicate_succ, List.replicate_zero, lim_v, reduceIte, decide_true, decide_false, Bool.not_true, Bool.not_false, Option.bind_some, lstOf, is_integer_int, s, decide_eq_true p]
end Lw
namespace Lw
open Mi
theorem power_nat {x n a : Nat} (hx : Bn x a) (hn : n ≤ 1000000) (h : a * n < 90000000) (ha : a < 1000000) : F_power [.int x, .int n] = .ok (.int ((x ^ n : Nat) : Int)) := by
  have := power_eq (x := (x : Int)) (n := (n : Int)) hx.bd (by omega) (by omega) (by simpa using h) ha
  rw [this, Int.toNat_natCast, Int.natCast_pow]
theorem law_power_nat {x n a : Nat} (hx : Bn x a) (hn : n ≤ 1000000) (h : a * n < 90000000) (ha : a < 1000000) : F__law_power [.int x, .int n] = .ok (.int ((x ^ n : Nat) : Int)) := by
  have := law_power_eq (x := (x : Int)) (n := (n : Int)) hx.bd (by omega) (by omega) (by simpa using h) ha
  rw [this, Int.toNat_natCast, Int.natCast_pow]
theorem all_codes_nat {d : Nat} (hd : d ≤ 1000) : F_all_codes [.int d] = .ok (.int ((10 ^ d : Nat) : Int)) := by
  have := all_codes_eq (d := (d : Int)) (by omega) (by omega)
  rw [this, Int.toNat_natCast, Int.natCast_pow]
  rfl
theorem ten_bn (d : Nat) : Bn (10 ^ d) (4 * d) := Bn.pow (x := 10) (a := 4) (by unfold Bn; decide) d
theorem guess_eq {d a t : Nat} (h1 : 1 ≤ d) (h2 : d ≤ 12) (ht : t ≤ 2000) (ha : a ≤ 10 ^ d) : F_check_guessing [.int d, .int a, .int t] = .ok .non := by
  have w1 : F_is_within [.int d, .int 1, .int 12] = .ok (.bl true) := within_ok (by omega) (by omega)
  have w2 : F_is_within [.int t, .int 0, .int 2000] = .ok (.bl true) := within_ok (by omega) (by omega)
  have w3 : F_is_within [.int a, .int 0, .int ((10 ^ d : Nat) : Int)] = .ok (.bl true) := within_ok (by omega) (Int.ofNat_le.2 ha)
  have w4 := all_codes_nat (show d ≤ 1000 by omega)
  have w5 := check_true
  unfold F_check_guessing m_check_guessing
  generalize F_is_within = q0 at *
  generalize F_all_codes = q1 at *
  generalize F_check = q2 at *
  as_aux_lemma =>
    simp only [runA, seq_ap, Mi.mi0, Mi.mi1, Mi.mi2, Mi.mi3, Mi.mi4, Mi.mi5, Mi.mo0, Mi.mo1, Mi.mo2, Mi.mo3, Mi.mo8, Bool.false_eq_true, Mi.mo9, Nat.reduceAdd, Nat.reduceSub, Nat.reduceLeDiff, Nat.reduceLT, Nat.reduceEqDiff, Mi.mt0, List.getElem?_cons_zero, List.getElem?_cons_succ, List.set_cons_zero, List.set_cons_succ, List.map_cons, List.map_nil, List.length_cons, List.length_nil, List.nil_append, List.cons_append, List.append_nil, List.replicate_succ, List.replicate_zero, lim_v, reduceIte, decide_true, decide_false, Bool.not_true, Bool.not_false, Option.bind_some, lstOf, w1, w2, w3, w4, w5]
theorem sub_nat {x y : Nat} (h : y ≤ x) : (x : Int) - (y : Int) = ((x - y : Nat) : Int) := (Int.ofNat_sub h).symm
theorem fresh_by_eq {C a t : Nat} (hC : Bn C 48) (ha : a ≤ C) (ht : t ≤ 2000) (h : Sz (C ^ t - (C - a) ^ t) (C ^ t)) : F_fresh_by [.int C, .int a, .int t] = .ok (rat (C ^ t - (C - a) ^ t) (C ^ t)) := by
  have p1 := power_nat (n := t) hC (by omega) (by omega) (by omega)
  have p2 := power_nat (n := t) (hC.le (Nat.sub_le C a)) (by omega) (by omega) (by omega)
  have le := sub_nat (Nat.pow_le_pow_left (Nat.sub_le C a) t)
  have s := sub_nat ha
  have r := ratio_eq h
  unfold F_fresh_by m_fresh_by
  generalize F_power = q0 at *
  generalize F_ratio = q1 at *
  as_aux_lemma =>
    simp only [runA, seq_ap, Mi.mi0, Mi.mi1, Mi.mi2, Mi.mi3, Mi.mi4, Mi.mi5, Mi.mo0, Mi.mo1, Mi.mo2, Mi.mo3, Mi.mo8, Bool.false_eq_true, Mi.mo9, Nat.reduceAdd, Nat.reduceSub, Nat.reduceLeDiff, Nat.reduceLT, Nat.reduceEqDiff, Mi.mt0, List.getElem?_cons_zero, List.getElem?_cons_succ, List.set_cons_zero, List.set_cons_succ, List.map_cons, List.map_nil, List.length_cons, List.length_nil, List.nil_append, List.cons_append, List.append_nil, List.replicate_succ, List.replicate_zero, lim_v, reduceIte, decide_true, decide_false, Bool.not_true, Bool.not_false, Option.bind_some, lstOf, p1, s, p2, le, r, rat]
theorem fresh_hit_eq {d a t : Nat} (h1 : 1 ≤ d) (h2 : d ≤ 12) (ht : t ≤ 2000) (ha : a ≤ 10 ^ d) (h : Sz ((10 ^ d) ^ t - (10 ^ d - a) ^ t) ((10 ^ d) ^ t)) :
    F_fresh_hit [.int d, .int a, .int t] = .ok (rat ((10 ^ d) ^ t - (10 ^ d - a) ^ t) ((10 ^ d) ^ t)) := by
  have f := fresh_by_eq ((ten_bn d).mono (by omega)) ha ht h
  have g := guess_eq h1 h2 ht ha
  have c := all_codes_nat (show d ≤ 1000 by omega)
  unfold F_fresh_hit m_fresh_hit
  generalize F_fresh_by = q0 at *
  generalize F_check_guessing = q1 at *
  generalize F_all_codes = q2 at *
  as_aux_lemma =>
    simp only [runA, seq_ap, Mi.mi0, Mi.mi1, Mi.mi2, Mi.mi3, Mi.mi4, Mi.mi5, Mi.mo0, Mi.mo1, Mi.mo2, Mi.mo3, Mi.mo8, Bool.false_eq_true, Mi.mo9, Nat.reduceAdd, Nat.reduceSub, Nat.reduceLeDiff, Nat.reduceLT, Nat.reduceEqDiff, Mi.mt0, List.getElem?_cons_zero, List.getElem?_cons_succ, List.set_cons_zero, List.set_cons_succ, List.map_cons, List.map_nil, List.length_cons, List.length_nil, List.nil_append, List.cons_append, List.append_nil, List.replicate_succ, List.replicate_zero, lim_v, reduceIte, decide_true, decide_false, Bool.not_true, Bool.not_false, Option.bind_some, lstOf, g, c, f, rat]
/-! ### products that go down -/
def dn (x : Nat) : Nat → Nat
  | 0 => 1
  | k + 1 => dn x k * (x - k)
theorem dn_bn {x a : Nat} (h : Bn x a) : ∀ k, Bn (dn x k) (a * k)
  | 0 => by unfold Bn dn; simp
  | k + 1 => by
    unfold dn
    rw [Nat.mul_succ]
    exact (dn_bn h k).mul (h.le (Nat.sub_le _ _))
theorem dn_le (x : Nat) : ∀ k, dn x k ≤ x ^ k
  | 0 => by simp [dn]
  | k + 1 => by
    rw [dn, Nat.pow_succ]
    exact Nat.mul_le_mul (dn_le x k) (Nat.sub_le _ _)
theorem dn_pos {x : Nat} : ∀ {k}, k ≤ x → 0 < dn x k
  | 0, _ => by simp [dn]
  | k + 1, h => by
    rw [dn]
    exact Nat.mul_pos (dn_pos (by omega)) (by omega)
theorem dn_zero {x : Nat} : ∀ {k}, x < k → dn x k = 0
  | 0, h => by omega
  | k + 1, h => by
    rw [dn]
    by_cases c : x < k
    · rw [dn_zero c, Nat.zero_mul]
    · rw [show x - k = 0 by omega, Nat.mul_zero]
theorem dn_mono {x y : Nat} (h : x ≤ y) : ∀ k, dn x k ≤ dn y k
  | 0 => Nat.le_refl _
  | k + 1 => by
    rw [dn, dn]
    exact Nat.mul_le_mul (dn_mono h k) (by omega)
theorem max_nat2 (C a j : Nat) (ha : a ≤ C) : (if (C : Int) - (a : Int) - (j : Int) > 0 then (C : Int) - (a : Int) - (j : Int) else 0) = ((C - a - j : Nat) : Int) := by
  split <;> omega
theorem max_nat1 (C j : Nat) : (if (C : Int) - (j : Int) > 0 then (C : Int) - (j : Int) else 0) = ((C - j : Nat) : Int) := by
  split <;> omega
theorem fixed_loop {d C a t : Nat} (hC : Bn C 48) (ha : a ≤ C) (ht : t ≤ C) (ht2 : t ≤ 2000) (s : Sl) : ∃ s', forF (gN 4) b_fixed_hit_0 (rangeD 0 t) [.val (.int d), .val (.int a), .val (.int t), .val (.int C), s, .val (.int 1), .val (.int 1)] =
    .ok (.nx [.val (.int d), .val (.int a), .val (.int t), .val (.int C), s', .val (.int ((dn (C - a) t : Nat) : Int)), .val (.int ((dn C t : Nat) : Int))]) := by
  obtain ⟨e', h1, s', rfl⟩ := for_rng (G := gN 4) (b := b_fixed_hit_0) (lo := 0) (n := t) (fun k e => ∃ s, e = [.val (.int d), .val (.int a), .val (.int t), .val (.int C), s, .val (.int ((dn (C - a) k : Nat) : Int)), .val (.int ((dn C k : Nat) : Int))]) ⟨s, rfl⟩ fun j e hj ⟨s, he⟩ => by
    subst he
    refine ⟨_, _, rfl, ?_, .val (.int (0 + j)), rfl⟩
    have b1 := ((dn_bn (hC.le (Nat.sub_le C a)) j).mono (Nat.mul_le_mul_left 48 (show j ≤ 2000 by omega))).bd
    have b2 := ((dn_bn hC j).mono (Nat.mul_le_mul_left 48 (show j ≤ 2000 by omega))).bd
    have m1 := mul_ok b1 ((hC.le (Nat.le_trans (Nat.sub_le (C - a) j) (Nat.sub_le C a))).bd) (by omega)
    have m2 := mul_ok b2 ((hC.le (Nat.sub_le C j)).bd) (by omega)
    have x1 := max_nat2 C a j ha
    have x2 := sub_nat (show j ≤ C by omega)
    rw [dn, dn, Int.natCast_mul, Int.natCast_mul]
    as_aux_lemma =>
      simp only [b_fixed_hit_0, seq_ap, Mi.mi0, Mi.mi1, Mi.mi2, Mi.mi3, Mi.mi4, Mi.mi5, Mi.mo0, Mi.mo1, Mi.mo2, Mi.mo3, Mi.mo8, Bool.false_eq_true, Mi.mo9, Nat.reduceAdd, Nat.reduceSub, Nat.reduceLeDiff, Nat.reduceLT, Nat.reduceEqDiff, Mi.mt0, List.getElem?_cons_zero, List.getElem?_cons_succ, List.set_cons_zero, List.set_cons_succ, List.map_cons, List.map_nil, List.length_cons, List.length_nil, List.nil_append, List.cons_append, List.append_nil, List.replicate_succ, List.replicate_zero, lim_v, reduceIte, decide_true, decide_false, Bool.not_true, Bool.not_false, Option.bind_some, lstOf, Int.zero_add, x1, m1, x2, m2]
  exact ⟨s', h1⟩
theorem fixed_hit_eq {d a t : Nat} (h1 : 1 ≤ d) (h2 : d ≤ 12) (ht : t ≤ 2000) (ha : a ≤ 10 ^ d) (htc : t ≤ 10 ^ d) (h : Sz (dn (10 ^ d) t - dn (10 ^ d - a) t) (dn (10 ^ d) t)) :
    F_fixed_hit [.int d, .int a, .int t] = .ok (rat (dn (10 ^ d) t - dn (10 ^ d - a) t) (dn (10 ^ d) t)) := by
  obtain ⟨s, l⟩ := fixed_loop (d := d) ((ten_bn d).mono (show 4 * d ≤ 48 by omega)) ha htc ht .un
  have le := sub_nat (dn_mono (Nat.sub_le (10 ^ d) a) t)
  have c : decide ((t : Int) ≤ ((10 ^ d : Nat) : Int)) = true := decide_eq_true (Int.ofNat_le.2 htc)
  have g := guess_eq h1 h2 ht ha
  have c2 := all_codes_nat (show d ≤ 1000 by omega)
  have c3 := check_true
  have r6 := r62_of (show (0 : Int) ≤ (t : Int) by omega) (by omega)
  have r := ratio_eq h
  unfold F_fixed_hit m_fixed_hit
  generalize F_ratio = q0 at *
  generalize F_check_guessing = q1 at *
  generalize F_all_codes = q2 at *
  generalize F_check = q3 at *
  generalize b_fixed_hit_0 = q4 at *
  as_aux_lemma =>
    simp only [runA, seq_ap, Mi.mi0, Mi.mi1, Mi.mi2, Mi.mi3, Mi.mi4, Mi.mi5, Mi.mo0, Mi.mo1, Mi.mo2, Mi.mo3, Mi.mo8, Bool.false_eq_true, Mi.mo9, Nat.reduceAdd, Nat.reduceSub, Nat.reduceLeDiff, Nat.reduceLT, Nat.reduceEqDiff, Mi.mt0, List.getElem?_cons_zero, List.getElem?_cons_succ, List.set_cons_zero, List.set_cons_succ, List.map_cons, List.map_nil, List.length_cons, List.length_nil, List.nil_append, List.cons_append, List.append_nil, List.replicate_succ, List.replicate_zero, lim_v, reduceIte, decide_true, decide_false, Bool.not_true, Bool.not_false, Option.bind_some, lstOf, g, c2, c, c3, r6, Int.toNat_natCast, l, le, r, rat]
theorem bound_hit_eq {d a t : Nat} (h1 : 1 ≤ d) (h2 : d ≤ 12) (ht : t ≤ 2000) (ha : a ≤ 10 ^ d) : F_bound_hit [.int d, .int a, .int t] = .ok (rat (min (10 ^ d) (t * a)) (10 ^ d)) := by
  have hb : Bn (10 ^ d) 48 := (ten_bn d).mono (by omega)
  have m := mul_ok (Bd.small (x := (t : Int)) (by omega) (by omega)) (hb.le ha).bd (by omega)
  have r := ratio_eq (Sz.of (a := min (10 ^ d) (t * a)) (d := 10 ^ d) (Nat.pow_pos (by omega)) ((hb.le (Nat.min_le_left _ _)).mono (by omega)) (hb.mono (by omega)))
  have e : (if (t : Int) * (a : Int) < ((10 ^ d : Nat) : Int) then (t : Int) * (a : Int) else ((10 ^ d : Nat) : Int)) = ((min (10 ^ d) (t * a) : Nat) : Int) := by
    rw [← Int.natCast_mul]
    split <;> omega
  have g := guess_eq h1 h2 ht ha
  have c2 := all_codes_nat (show d ≤ 1000 by omega)
  unfold F_bound_hit m_bound_hit
  generalize F_ratio = q0 at *
  generalize F_check_guessing = q1 at *
  generalize F_all_codes = q2 at *
  as_aux_lemma =>
    simp only [runA, seq_ap, Mi.mi0, Mi.mi1, Mi.mi2, Mi.mi3, Mi.mi4, Mi.mi5, Mi.mo0, Mi.mo1, Mi.mo2, Mi.mo3, Mi.mo8, Bool.false_eq_true, Mi.mo9, Nat.reduceAdd, Nat.reduceSub, Nat.reduceLeDiff, Nat.reduceLT, Nat.reduceEqDiff, Mi.mt0, List.getElem?_cons_zero, List.getElem?_cons_succ, List.set_cons_zero, List.set_cons_succ, List.map_cons, List.map_nil, List.length_cons, List.length_nil, List.nil_append, List.cons_append, List.append_nil, List.replicate_succ, List.replicate_zero, lim_v, reduceIte, decide_true, decide_false, Bool.not_true, Bool.not_false, Option.bind_some, lstOf, g, c2, m, e, r, rat]
theorem same_loop {d k C : Nat} (hC : Bn C 48) (hk : k ≤ 2000) (s : Sl) : ∃ s', forF (gN 3) b_same_code_0 (rangeD 0 k) [.val (.int d), .val (.int k), .val (.int C), s, .val (.int 1), .val (.int 1)] =
    .ok (.nx [.val (.int d), .val (.int k), .val (.int C), s', .val (.int ((dn C k : Nat) : Int)), .val (.int ((C ^ k : Nat) : Int))]) := by
  obtain ⟨e', h1, s', rfl⟩ := for_rng (G := gN 3) (b := b_same_code_0) (lo := 0) (n := k) (fun i e => ∃ s, e = [.val (.int d), .val (.int k), .val (.int C), s, .val (.int ((dn C i : Nat) : Int)), .val (.int ((C ^ i : Nat) : Int))]) ⟨s, rfl⟩ fun j e hj ⟨s, he⟩ => by
    subst he
    refine ⟨_, _, rfl, ?_, .val (.int (0 + j)), rfl⟩
    have b1 := ((dn_bn hC j).mono (Nat.mul_le_mul_left 48 (show j ≤ 2000 by omega))).bd
    have b2 := ((hC.pow j).mono (Nat.mul_le_mul_left 48 (show j ≤ 2000 by omega))).bd
    have m1 := mul_ok b1 ((hC.le (Nat.sub_le C j)).bd) (by omega)
    have m2 := mul_ok b2 hC.bd (by omega)
    have x1 := max_nat1 C j
    rw [dn, Nat.pow_succ, Int.natCast_mul, Int.natCast_mul]
    as_aux_lemma =>
      simp only [b_same_code_0, seq_ap, Mi.mi0, Mi.mi1, Mi.mi2, Mi.mi3, Mi.mi4, Mi.mi5, Mi.mo0, Mi.mo1, Mi.mo2, Mi.mo3, Mi.mo8, Bool.false_eq_true, Mi.mo9, Nat.reduceAdd, Nat.reduceSub, Nat.reduceLeDiff, Nat.reduceLT, Nat.reduceEqDiff, Mi.mt0, List.getElem?_cons_zero, List.getElem?_cons_succ, List.set_cons_zero, List.set_cons_succ, List.map_cons, List.map_nil, List.length_cons, List.length_nil, List.nil_append, List.cons_append, List.append_nil, List.replicate_succ, List.replicate_zero, lim_v, reduceIte, decide_true, decide_false, Bool.not_true, Bool.not_false, Option.bind_some, lstOf, Int.zero_add, x1, m1, m2]
  exact ⟨s', h1⟩
theorem same_code_eq {d k : Nat} (h1 : 1 ≤ d) (h2 : d ≤ 12) (hk : k ≤ 2000) (h : Sz ((10 ^ d) ^ k - dn (10 ^ d) k) ((10 ^ d) ^ k)) :
    F_same_code [.int d, .int k] = .ok (rat ((10 ^ d) ^ k - dn (10 ^ d) k) ((10 ^ d) ^ k)) := by
  obtain ⟨s, l⟩ := same_loop (d := d) ((ten_bn d).mono (show 4 * d ≤ 48 by omega)) hk .un
  have w1 : F_is_within [.int d, .int 1, .int 12] = .ok (.bl true) := within_ok (by omega) (by omega)
  have w2 : F_is_within [.int k, .int 0, .int 2000] = .ok (.bl true) := within_ok (by omega) (by omega)
  have c2 := all_codes_nat (show d ≤ 1000 by omega)
  have c3 := check_true
  have r6 := r62_of (show (0 : Int) ≤ (k : Int) by omega) (by omega)
  have r := ratio_eq h
  have le := sub_nat (dn_le (10 ^ d) k)
  unfold F_same_code m_same_code
  generalize F_ratio = q0 at *
  generalize F_is_within = q1 at *
  generalize F_all_codes = q2 at *
  generalize F_check = q3 at *
  generalize b_same_code_0 = q4 at *
  as_aux_lemma =>
    simp only [runA, seq_ap, Mi.mi0, Mi.mi1, Mi.mi2, Mi.mi3, Mi.mi4, Mi.mi5, Mi.mo0, Mi.mo1, Mi.mo2, Mi.mo3, Mi.mo8, Bool.false_eq_true, Mi.mo9, Nat.reduceAdd, Nat.reduceSub, Nat.reduceLeDiff, Nat.reduceLT, Nat.reduceEqDiff, Mi.mt0, List.getElem?_cons_zero, List.getElem?_cons_succ, List.set_cons_zero, List.set_cons_succ, List.map_cons, List.map_nil, List.length_cons, List.length_nil, List.nil_append, List.cons_append, List.append_nil, List.replicate_succ, List.replicate_zero, lim_v, reduceIte, decide_true, decide_false, Bool.not_true, Bool.not_false, Option.bind_some, lstOf, w1, w2, c3, c2, r6, Int.toNat_natCast, l, le, r, rat]
theorem mean_eq {d a : Nat} (h1 : 1 ≤ d) (h2 : d ≤ 12) (ha : a ≤ 10 ^ d) (h0 : 0 < a) : F_mean_tries [.int d, .int a] = .ok (rat (10 ^ d + 1) (a + 1)) := by
  have hb : Bn (10 ^ d) 48 := (ten_bn d).mono (by omega)
  have one : Bn 1 48 := by unfold Bn; exact Nat.one_le_two_pow
  have r := ratio_eq (Sz.of (a := 10 ^ d + 1) (d := a + 1) (by omega) ((hb.add one).mono (by omega)) (((hb.le ha).add one).mono (by omega)))
  have g := guess_eq (t := 0) h1 h2 (by omega) ha
  have c : decide ((0 : Int) < (a : Int)) = true := decide_eq_true (by omega)
  rw [show (((0 : Nat) : Int)) = 0 from rfl] at g
  rw [show (((10 ^ d + 1 : Nat)) : Int) = ((10 ^ d : Nat) : Int) + 1 by omega, show (((a + 1 : Nat)) : Int) = (a : Int) + 1 by omega] at r
  have c2 := all_codes_nat (show d ≤ 1000 by omega)
  have c3 := check_true
  unfold F_mean_tries m_mean_tries
  generalize F_ratio = q0 at *
  generalize F_check_guessing = q1 at *
  generalize F_all_codes = q2 at *
  generalize F_check = q3 at *
  as_aux_lemma =>
    simp only [runA, seq_ap, Mi.mi0, Mi.mi1, Mi.mi2, Mi.mi3, Mi.mi4, Mi.mi5, Mi.mo0, Mi.mo1, Mi.mo2, Mi.mo3, Mi.mo8, Bool.false_eq_true, Mi.mo9, Nat.reduceAdd, Nat.reduceSub, Nat.reduceLeDiff, Nat.reduceLT, Nat.reduceEqDiff, Mi.mt0, List.getElem?_cons_zero, List.getElem?_cons_succ, List.set_cons_zero, List.set_cons_succ, List.map_cons, List.map_nil, List.length_cons, List.length_nil, List.nil_append, List.cons_append, List.append_nil, List.replicate_succ, List.replicate_zero, lim_v, reduceIte, decide_true, decide_false, Bool.not_true, Bool.not_false, Option.bind_some, lstOf, g, c, c3, c2, r, rat]
end Lw
set_option maxHeartbeats 400000
namespace Lw
open Mi
theorem Sz.sm {a d : Nat} (h : Sz a d) : Bn (a / Nat.gcd a d) 80000 ∧ Bn (d / Nat.gcd a d) 80000 := ⟨h.ba.le (Nat.div_le_self _ _), h.bd.le (Nat.div_le_self _ _)⟩
theorem Sz.p2 {a d : Nat} (h : Sz a d) : 0 < d / Nat.gcd a d := Nat.div_pos (Nat.le_of_dvd h.pos (Nat.gcd_dvd_right a d)) h.gp
theorem check_ratios_eq {a d a' d' : Nat} (h : Sz a d) (h' : Sz a' d') : F_check_ratios [rat a d, rat a' d'] = .ok .non := by
  have w1 := is_ratio_eq h
  have w2 := is_ratio_eq h'
  have w3 := check_true
  unfold F_check_ratios m_check_ratios
  generalize rat a d = x at *
  generalize rat a' d' = y at *
  generalize F_is_ratio = q0 at *
  generalize F_check = q1 at *
  as_aux_lemma =>
    simp only [runA, seq_ap, Mi.mi0, Mi.mi1, Mi.mi2, Mi.mi3, Mi.mi4, Mi.mi5, Mi.mo0, Mi.mo1, Mi.mo2, Mi.mo3, Mi.mo8, Bool.false_eq_true, Mi.mo9, Nat.reduceAdd, Nat.reduceSub, Nat.reduceLeDiff, Nat.reduceLT, Nat.reduceEqDiff, Mi.mt0, List.getElem?_cons_zero, List.getElem?_cons_succ, List.set_cons_zero, List.set_cons_succ, List.map_cons, List.map_nil, List.length_cons, List.length_nil, List.nil_append, List.cons_append, List.append_nil, List.replicate_succ, List.replicate_zero, lim_v, reduceIte, decide_true, decide_false, Bool.not_true, Bool.not_false, Option.bind_some, lstOf, w1, w2, w3]
/-- a times in the fields of ratios -/
theorem product_eq {x y x' y' : Nat} (c : F_check_ratios [.tup [.int x, .int y], .tup [.int x', .int y']] = .ok .non) (b1 : Bn x 80000) (b2 : Bn y 80000) (b3 : Bn x' 80000) (b4 : Bn y' 80000) (r : Sz (x * x') (y * y')) :
    F_product_of [.tup [.int x, .int y], .tup [.int x', .int y']] = .ok (rat (x * x') (y * y')) := by
  have m1 := mul_ok b1.bd b3.bd (by omega)
  have m2 := mul_ok b2.bd b4.bd (by omega)
  have q := ratio_eq r
  rw [Int.natCast_mul, Int.natCast_mul] at q
  unfold F_product_of m_product_of
  generalize F_check_ratios = q0 at *
  generalize F_ratio = q1 at *
  as_aux_lemma =>
    simp only [runA, seq_ap, Mi.mi0, Mi.mi1, Mi.mi2, Mi.mi3, Mi.mi4, Mi.mi5, Mi.mo0, Mi.mo1, Mi.mo2, Mi.mo3, Mi.mo8, Bool.false_eq_true, Mi.mo9, Nat.reduceAdd, Nat.reduceSub, Nat.reduceLeDiff, Nat.reduceLT, Nat.reduceEqDiff, Mi.mt0, List.getElem?_cons_zero, List.getElem?_cons_succ, List.set_cons_zero, List.set_cons_succ, List.map_cons, List.map_nil, List.length_cons, List.length_nil, List.nil_append, List.cons_append, List.append_nil, List.replicate_succ, List.replicate_zero, lim_v, reduceIte, decide_true, decide_false, Bool.not_true, Bool.not_false, Option.bind_some, lstOf, c, m1, m2, q, rat]
theorem sum_eq {x y x' y' : Nat} (c : F_check_ratios [.tup [.int x, .int y], .tup [.int x', .int y']] = .ok .non) (b1 : Bn x 80000) (b2 : Bn y 80000) (b3 : Bn x' 80000) (b4 : Bn y' 80000) (r : Sz (x * y' + x' * y) (y * y')) :
    F_sum_of [.tup [.int x, .int y], .tup [.int x', .int y']] = .ok (rat (x * y' + x' * y) (y * y')) := by
  have m1 := mul_ok b1.bd b4.bd (by omega)
  have m2 := mul_ok b3.bd b2.bd (by omega)
  have m3 := mul_ok b2.bd b4.bd (by omega)
  have q := ratio_eq r
  rw [Int.natCast_add, Int.natCast_mul, Int.natCast_mul, Int.natCast_mul] at q
  unfold F_sum_of m_sum_of
  generalize F_check_ratios = q0 at *
  generalize F_ratio = q1 at *
  as_aux_lemma =>
    simp only [runA, seq_ap, Mi.mi0, Mi.mi1, Mi.mi2, Mi.mi3, Mi.mi4, Mi.mi5, Mi.mo0, Mi.mo1, Mi.mo2, Mi.mo3, Mi.mo8, Bool.false_eq_true, Mi.mo9, Nat.reduceAdd, Nat.reduceSub, Nat.reduceLeDiff, Nat.reduceLT, Nat.reduceEqDiff, Mi.mt0, List.getElem?_cons_zero, List.getElem?_cons_succ, List.set_cons_zero, List.set_cons_succ, List.map_cons, List.map_nil, List.length_cons, List.length_nil, List.nil_append, List.cons_append, List.append_nil, List.replicate_succ, List.replicate_zero, lim_v, reduceIte, decide_true, decide_false, Bool.not_true, Bool.not_false, Option.bind_some, lstOf, c, m1, m2, m3, q, rat]
theorem less_eq {x y x' y' : Nat} (c : F_check_ratios [.tup [.int x, .int y], .tup [.int x', .int y']] = .ok .non) (b1 : Bn x 80000) (b2 : Bn y 80000) (b3 : Bn x' 80000) (b4 : Bn y' 80000) (le : x' * y ≤ x * y') (r : Sz (x * y' - x' * y) (y * y')) :
    F_less_of [.tup [.int x, .int y], .tup [.int x', .int y']] = .ok (rat (x * y' - x' * y) (y * y')) := by
  have m1 := mul_ok b1.bd b4.bd (by omega)
  have m2 := mul_ok b3.bd b2.bd (by omega)
  have m3 := mul_ok b2.bd b4.bd (by omega)
  have q := ratio_eq r
  rw [← sub_nat le, Int.natCast_mul, Int.natCast_mul, Int.natCast_mul] at q
  unfold F_less_of m_less_of
  generalize F_check_ratios = q0 at *
  generalize F_ratio = q1 at *
  as_aux_lemma =>
    simp only [runA, seq_ap, Mi.mi0, Mi.mi1, Mi.mi2, Mi.mi3, Mi.mi4, Mi.mi5, Mi.mo0, Mi.mo1, Mi.mo2, Mi.mo3, Mi.mo8, Bool.false_eq_true, Mi.mo9, Nat.reduceAdd, Nat.reduceSub, Nat.reduceLeDiff, Nat.reduceLT, Nat.reduceEqDiff, Mi.mt0, List.getElem?_cons_zero, List.getElem?_cons_succ, List.set_cons_zero, List.set_cons_succ, List.map_cons, List.map_nil, List.length_cons, List.length_nil, List.nil_append, List.cons_append, List.append_nil, List.replicate_succ, List.replicate_zero, lim_v, reduceIte, decide_true, decide_false, Bool.not_true, Bool.not_false, Option.bind_some, lstOf, c, m1, m2, m3, q, rat]
end Lw
namespace Lw
open Mi
theorem div_lt_iff {n m x y : Nat} (h : 0 < m) : x * (m / Nat.gcd n m) < (n / Nat.gcd n m) * y ↔ x * m < n * y := by
  have g := Nat.gcd_pos_of_pos_right n h
  have e1 : x * m = Nat.gcd n m * (x * (m / Nat.gcd n m)) := by
    rw [Nat.mul_left_comm, Nat.mul_div_cancel' (Nat.gcd_dvd_right n m)]
  have e2 : n * y = Nat.gcd n m * ((n / Nat.gcd n m) * y) := by
    rw [← Nat.mul_assoc, Nat.mul_div_cancel' (Nat.gcd_dvd_left n m)]
  rw [e1, e2]
  exact (Nat.mul_lt_mul_left g).symm
/-- below the limit at k -/
def Pb (C n m k : Nat) : Prop := (C ^ k - dn C k) * m < n * C ^ k
instance (C n m k : Nat) : Decidable (Pb C n m k) := inferInstanceAs (Decidable (_ < _))
abbrev lsE (C n m d k : Nat) : En := [.val (.int d), .val (.tup [.int ((n / Nat.gcd n m : Nat) : Int), .int ((m / Nat.gcd n m : Nat) : Int)]), .val (.int C), .val (.int ((dn C k : Nat) : Int)), .val (.int ((C ^ k : Nat) : Int)), .val (.int k)]
abbrev lsC : FT := tC1 (eB gLt (eB gMul (eB gSub (eV 4) (eV 3)) (eB gIx (eV 1) (eC (.int 1)))) (eB gMul (eB gIx (eV 1) (eC (.int 0))) (eV 4)))
theorem ls_small {n m : Nat} (hn : n ≤ m) (hm2 : m ≤ 1000) : Bn (m / Nat.gcd n m) 48 ∧ Bn (n / Nat.gcd n m) 48 := by
  have a1 := Nat.div_le_self m (Nat.gcd n m)
  have a2 := Nat.div_le_self n (Nat.gcd n m)
  have e : (2 : Nat) ^ 48 = 281474976710656 := by decide
  unfold Bn
  omega
theorem ls_cond {C n m d k : Nat} (hC : Bn C 48) (hn : n ≤ m) (hm : 0 < m) (hm2 : m ≤ 1000) (hk : k ≤ 1000) : lsC (lsE C n m d k) = .ok (decide (Pb C n m k), lsE C n m d k) := by
  obtain ⟨s1, s2⟩ := ls_small hn hm2
  have b2 : Bn (C ^ k) 48000 := (hC.pow k).mono (by omega)
  have b1 : Bn (C ^ k - dn C k) 48000 := b2.le (Nat.sub_le _ _)
  have m1 := mul_ok b1.bd s1.bd (by omega)
  have m2 := mul_ok s2.bd b2.bd (by omega)
  have le := sub_nat (dn_le C k)
  have e : decide (((C ^ k - dn C k : Nat) : Int) * ((m / Nat.gcd n m : Nat) : Int) < ((n / Nat.gcd n m : Nat) : Int) * ((C ^ k : Nat) : Int)) = decide (Pb C n m k) := by
    rw [← Int.natCast_mul, ← Int.natCast_mul]
    exact decide_eq_decide.2 (Int.ofNat_lt.trans (div_lt_iff hm))
  as_aux_lemma =>
    simp only [seq_ap, Mi.mi0, Mi.mi1, Mi.mi2, Mi.mi3, Mi.mi4, Mi.mi5, Mi.mo0, Mi.mo1, Mi.mo2, Mi.mo3, Mi.mo8, Bool.false_eq_true, Mi.mo9, Nat.reduceAdd, Nat.reduceSub, Nat.reduceLeDiff, Nat.reduceLT, Nat.reduceEqDiff, Mi.mt0, List.getElem?_cons_zero, List.getElem?_cons_succ, List.set_cons_zero, List.set_cons_succ, List.map_cons, List.map_nil, List.length_cons, List.length_nil, List.nil_append, List.cons_append, List.append_nil, List.replicate_succ, List.replicate_zero, lim_v, reduceIte, decide_true, decide_false, Bool.not_true, Bool.not_false, Option.bind_some, lstOf, le, m1, m2, e]
theorem ls_body {C n m d k : Nat} (hC : Bn C 48) (hk : k ≤ 1000) (hkc : k ≤ C) : b_least_same_0 (lsE C n m d k) = .ok (.nx (lsE C n m d (k + 1))) := by
  have b2 : Bn (C ^ k) 48000 := (hC.pow k).mono (by omega)
  have b1 : Bn (dn C k) 48000 := (dn_bn hC k).mono (by omega)
  have m1 := mul_ok b1.bd (hC.le (Nat.sub_le C k)).bd (by omega)
  have m2 := mul_ok b2.bd hC.bd (by omega)
  have le := sub_nat hkc
  rw [show lsE C n m d (k + 1) = [.val (.int d), .val (.tup [.int ((n / Nat.gcd n m : Nat) : Int), .int ((m / Nat.gcd n m : Nat) : Int)]), .val (.int C), .val (.int (((dn C k : Nat) : Int) * ((C - k : Nat) : Int))), .val (.int (((C ^ k : Nat) : Int) * (C : Int))), .val (.int ((k : Int) + 1))] by
    unfold lsE
    rw [dn, Nat.pow_succ, Int.natCast_mul, Int.natCast_mul, Int.natCast_add, Int.natCast_one]]
  as_aux_lemma =>
    simp only [b_least_same_0, seq_ap, Mi.mi0, Mi.mi1, Mi.mi2, Mi.mi3, Mi.mi4, Mi.mi5, Mi.mo0, Mi.mo1, Mi.mo2, Mi.mo3, Mi.mo8, Bool.false_eq_true, Mi.mo9, Nat.reduceAdd, Nat.reduceSub, Nat.reduceLeDiff, Nat.reduceLT, Nat.reduceEqDiff, Mi.mt0, List.getElem?_cons_zero, List.getElem?_cons_succ, List.set_cons_zero, List.set_cons_succ, List.map_cons, List.map_nil, List.length_cons, List.length_nil, List.nil_append, List.cons_append, List.append_nil, List.replicate_succ, List.replicate_zero, lim_v, reduceIte, decide_true, decide_false, Bool.not_true, Bool.not_false, Option.bind_some, lstOf, le, m1, m2]
theorem ls_top {C n m k : Nat} (hn : n ≤ m) (h : Pb C n m k) : k ≤ C := by
  by_cases c : k ≤ C
  · exact c
  · unfold Pb at h
    rw [dn_zero (by omega), Nat.sub_zero, Nat.mul_comm] at h
    exact absurd (Nat.mul_le_mul_right (C ^ k) hn) (by omega)
theorem ls_loop {C n m d : Nat} (hC : Bn C 48) (hn : n ≤ m) (hm : 0 < m) (hm2 : m ≤ 1000) {N : Nat} (hN : N ≤ 1000) (hP : ¬ Pb C n m N) :
    ∀ (r k fuel : Nat), k + r = N → (∀ j, j < k → Pb C n m j) → r + 1 ≤ fuel →
      ∃ k', k' ≤ N ∧ ¬ Pb C n m k' ∧ (∀ j, j < k' → Pb C n m j) ∧ whF lsC b_least_same_0 fuel (lsE C n m d k) = .ok (.nx (lsE C n m d k')) := by
  have stop : ∀ (k f : Nat), k ≤ 1000 → ¬ Pb C n m k → whF lsC b_least_same_0 (f + 1) (lsE C n m d k) = .ok (.nx (lsE C n m d k)) := fun k f hk hp => by
    rw [whF, ls_cond hC hn hm hm2 hk, decide_eq_false hp]
  intro r
  induction r with
  | zero =>
    intro k fuel h1 h2 h3
    obtain ⟨f, rfl⟩ : ∃ f, fuel = f + 1 := ⟨fuel - 1, by omega⟩
    obtain rfl : k = N := by omega
    exact ⟨k, Nat.le_refl _, hP, h2, stop k f hN hP⟩
  | succ r ih =>
    intro k fuel h1 h2 h3
    obtain ⟨f, rfl⟩ : ∃ f, fuel = f + 1 := ⟨fuel - 1, by omega⟩
    by_cases c : Pb C n m k
    · obtain ⟨k', q1, q2, q3, q4⟩ := ih (k + 1) f (by omega) (fun j hj => by
        by_cases e : j = k
        · subst e; exact c
        · exact h2 j (by omega)) (by omega)
      refine ⟨k', q1, q2, q3, ?_⟩
      rw [whF, ls_cond hC hn hm hm2 (by omega), decide_eq_true c]
      simp only [ls_body hC (show k ≤ 1000 by omega) (ls_top hn c)]
      exact q4
    · exact ⟨k, by omega, c, h2, stop k f (by omega) c⟩
end Lw
namespace Lw
open Mi
theorem Sz.lim {n m : Nat} (hn : n ≤ m) (hm : 0 < m) (hm2 : m ≤ 1000) : Sz n m := by
  have e : (2 : Nat) ^ 10 = 1024 := by decide
  have b : Bn m 10 := by
    unfold Bn
    omega
  exact Sz.of hm ((b.le hn).mono (by omega)) (b.mono (by omega))
theorem is_limit_eq {n m : Nat} (hn : n ≤ m) (hm : 0 < m) (hm2 : m ≤ 1000) : F_is_limit [rat n m] = .ok (.bl true) := by
  have w := is_ratio_eq (Sz.lim hn hm hm2)
  have c1 : decide ((0 : Int) ≤ ((n / Nat.gcd n m : Nat) : Int)) = true := decide_eq_true (Int.natCast_nonneg _)
  have c2 : decide (((n / Nat.gcd n m : Nat) : Int) ≤ ((m / Nat.gcd n m : Nat) : Int)) = true := decide_eq_true (Int.ofNat_le.2 (Nat.div_le_div_right hn))
  unfold rat at w ⊢
  unfold F_is_limit m_is_limit
  generalize F_is_ratio = q0 at *
  as_aux_lemma =>
    simp only [runA, seq_ap, Mi.mi0, Mi.mi1, Mi.mi2, Mi.mi3, Mi.mi4, Mi.mi5, Mi.mo0, Mi.mo1, Mi.mo2, Mi.mo3, Mi.mo8, Bool.false_eq_true, Mi.mo9, Nat.reduceAdd, Nat.reduceSub, Nat.reduceLeDiff, Nat.reduceLT, Nat.reduceEqDiff, Mi.mt0, List.getElem?_cons_zero, List.getElem?_cons_succ, List.set_cons_zero, List.set_cons_succ, List.map_cons, List.map_nil, List.length_cons, List.length_nil, List.nil_append, List.cons_append, List.append_nil, List.replicate_succ, List.replicate_zero, lim_v, reduceIte, decide_true, decide_false, Bool.not_true, Bool.not_false, Option.bind_some, lstOf, w, c1, c2]
/-- the least k at which the limit is reached -/
theorem least_same_eq {d n m N : Nat} (h1 : 1 ≤ d) (h4 : d ≤ 4) (h0 : 0 < n) (hn : n ≤ m) (hm2 : m ≤ 1000) (hN : N ≤ 1000) (hP : ¬ Pb (10 ^ d) n m N) :
    ∃ k, k ≤ N ∧ ¬ Pb (10 ^ d) n m k ∧ (∀ j, j < k → Pb (10 ^ d) n m j) ∧ F_least_same [.int d, rat n m] = .ok (.int k) := by
  have hm : 0 < m := by omega
  obtain ⟨k, q1, q2, q3, q4⟩ := ls_loop (d := d) ((ten_bn d).mono (show 4 * d ≤ 48 by omega)) hn hm hm2 hN hP N 0 fuelN (by omega) (fun j hj => by omega) (by unfold fuelN; omega)
  refine ⟨k, q1, q2, q3, ?_⟩
  have w1 : F_is_within [.int d, .int 1, .int 4] = .ok (.bl true) := within_ok (by omega) (by omega)
  have w2 := is_limit_eq hn hm hm2
  have w3 := check_true
  have w4 := all_codes_nat (show d ≤ 1000 by omega)
  have p : 0 < n / Nat.gcd n m := Nat.div_pos (Nat.le_of_dvd h0 (Nat.gcd_dvd_left n m)) (Nat.gcd_pos_of_pos_right n hm)
  have c1 : decide ((0 : Int) < ((n / Nat.gcd n m : Nat) : Int)) = true := decide_eq_true (by omega)
  have z1 : ((dn (10 ^ d) 0 : Nat) : Int) = 1 := rfl
  have z2 : (((10 ^ d) ^ 0 : Nat) : Int) = 1 := rfl
  unfold lsE lsC at q4
  rw [z1, z2, show ((0 : Nat) : Int) = 0 from rfl] at q4
  unfold rat at w2 ⊢
  unfold F_least_same m_least_same
  generalize ((n / Nat.gcd n m : Nat) : Int) = l0 at *
  generalize ((m / Nat.gcd n m : Nat) : Int) = l1 at *
  generalize F_is_within = q0 at *
  generalize F_is_limit = q1 at *
  generalize F_all_codes = q2 at *
  generalize F_check = q3 at *
  generalize b_least_same_0 = q4 at *
  generalize fuelN = q5 at *
  as_aux_lemma =>
    simp only [runA, seq_ap, Mi.mi0, Mi.mi1, Mi.mi2, Mi.mi3, Mi.mi4, Mi.mi5, Mi.mo0, Mi.mo1, Mi.mo2, Mi.mo3, Mi.mo8, Bool.false_eq_true, Mi.mo9, Nat.reduceAdd, Nat.reduceSub, Nat.reduceLeDiff, Nat.reduceLT, Nat.reduceEqDiff, Mi.mt0, List.getElem?_cons_zero, List.getElem?_cons_succ, List.set_cons_zero, List.set_cons_succ, List.map_cons, List.map_nil, List.length_cons, List.length_nil, List.nil_append, List.cons_append, List.append_nil, List.replicate_succ, List.replicate_zero, lim_v, reduceIte, decide_true, decide_false, Bool.not_true, Bool.not_false, Option.bind_some, lstOf, w1, w2, w3, w4, c1, q4]
theorem rangeD_succ (lo : Int) (n : Nat) : rangeD lo (n + 1) = .int lo :: rangeD (lo + 1) n := by
  unfold rangeD
  rw [List.range_succ_eq_map, List.map_cons, List.map_map]
  congr 1
  · rw [show lo + ((0 : Nat) : Int) = lo by omega]
  · refine List.map_congr_left fun a _ => ?_
    show D.int (lo + ((a + 1 : Nat) : Int)) = D.int (lo + 1 + (a : Int))
    rw [show lo + ((a + 1 : Nat) : Int) = lo + 1 + (a : Int) by omega]
/-- a for that returns the first that fits -/
theorem for_first {b : FS} {mk : Sl → En} {i : Nat} {T : Nat → Bool} {lo hi : Nat} (hG : ∀ s d, gN i d (mk s) = some (mk (.val d))) (hb : ∀ j : Nat, lo ≤ j → j < hi → b (mk (.val (.int j))) = if T j = true then .ok (.rt (.int j) (mk (.val (.int j)))) else .ok (.nx (mk (.val (.int j))))) :
    ∀ (n k : Nat) (s : Sl), lo ≤ k → k + n = hi →
      (∃ j, k ≤ j ∧ j < hi ∧ T j = true ∧ (∀ x, k ≤ x → x < j → T x = false) ∧ ∃ e, forF (gN i) b (rangeD k n) (mk s) = .ok (.rt (.int j) e)) ∨
      ((∀ x, k ≤ x → x < hi → T x = false) ∧ ∃ s', forF (gN i) b (rangeD k n) (mk s) = .ok (.nx (mk s')))
  | 0, k, s, hk, hn => .inr ⟨fun x h1 h2 => by omega, s, rfl⟩
  | n + 1, k, s, hk, hn => by
    have hbk := hb k hk (by omega)
    by_cases c : T k = true
    · refine .inl ⟨k, Nat.le_refl _, by omega, c, fun x h1 h2 => by omega, mk (.val (.int k)), ?_⟩
      rw [if_pos c] at hbk
      rw [rangeD_succ, forF]
      simp only [hG, hbk]
    · rw [if_neg c] at hbk
      have step : forF (gN i) b (rangeD k (n + 1)) (mk s) = forF (gN i) b (rangeD ((k + 1 : Nat) : Int) n) (mk (.val (.int k))) := by
        rw [rangeD_succ, forF]
        simp only [hG, hbk]
        rfl
      have c' : T k = false := by simpa using c
      rcases for_first hG hb n (k + 1) (.val (.int k)) (by omega) (by omega) with ⟨j, q1, q2, q3, q4, e, q5⟩ | ⟨q1, s', q2⟩
      · refine .inl ⟨j, by omega, q2, q3, fun x h1 h2 => ?_, e, by rw [step]; exact q5⟩
        by_cases x0 : x = k
        · subst x0; exact c'
        · exact q4 x (by omega) h2
      · refine .inr ⟨fun x h1 h2 => ?_, s', by rw [step]; exact q2⟩
        by_cases x0 : x = k
        · subst x0; exact c'
        · exact q1 x (by omega) h2
end Lw
namespace Lw
open Mi
theorem Sz.fresh {j a t : Nat} (hj : j ≤ 12) (ha : 1 ≤ a) (ha2 : a ≤ 10) (hc : a ≤ 10 ^ j) (ht : t ≤ 900) : Sz ((10 ^ j) ^ t - (10 ^ j - a) ^ t) ((10 ^ j) ^ t) := by
  have b : Bn ((10 ^ j) ^ t) 80000 := (((ten_bn j).mono (show 4 * j ≤ 48 by omega)).pow t).mono (by omega)
  have p : 0 < 10 ^ j := Nat.pow_pos (by omega)
  refine ⟨Nat.pow_pos p, b.le (Nat.sub_le _ _), b, .inl ?_⟩
  have le : (10 ^ j - a) ^ t ≤ (10 ^ j) ^ t := Nat.pow_le_pow_left (Nat.sub_le _ a) t
  rw [Nat.gcd_self_sub_left le, Nat.pow_gcd_pow, Nat.gcd_self_sub_left hc]
  have g : Nat.gcd a (10 ^ j) ≤ 2 ^ 4 := Nat.le_trans (Nat.gcd_le_left _ (by omega)) (by omega)
  exact (Bn.pow (show Bn _ 4 from g) t).mono (by omega)
def fits (a t n m j : Nat) : Bool := decide (((10 ^ j) ^ t - (10 ^ j - a) ^ t) * m ≤ n * (10 ^ j) ^ t)
theorem ld_body {a t n m j : Nat} (hj1 : 1 ≤ j) (hj : j < 13) (ha : 1 ≤ a) (ha2 : a ≤ 10) (ht : t ≤ 900) (hn : n ≤ m) (hm : 0 < m) (hm2 : m ≤ 1000) :
    b_least_digits_0 [.val (.int a), .val (.int t), .val (rat n m), .val (.int j)] = if fits a t n m j = true then .ok (.rt (.int j) [.val (.int a), .val (.int t), .val (rat n m), .val (.int j)]) else .ok (.nx [.val (.int a), .val (.int t), .val (rat n m), .val (.int j)]) := by
  have hc : a ≤ 10 ^ j := by
    have : 10 ^ 1 ≤ 10 ^ j := Nat.pow_le_pow_right (by omega) hj1
    omega
  have s := Sz.fresh (by omega) ha ha2 hc ht
  have f := fresh_by_eq ((ten_bn j).mono (by omega)) hc (by omega) s
  have m1 := is_at_most_eq s (Sz.lim hn hm hm2)
  have c := all_codes_nat (show j ≤ 1000 by omega)
  rw [show decide (((10 ^ j) ^ t - (10 ^ j - a) ^ t) * m ≤ n * (10 ^ j) ^ t) = fits a t n m j from rfl] at m1
  unfold b_least_digits_0
  generalize fits a t n m j = w at *
  generalize rat ((10 ^ j) ^ t - (10 ^ j - a) ^ t) ((10 ^ j) ^ t) = r1 at *
  generalize rat n m = r2 at *
  generalize F_fresh_by = q0 at *
  generalize F_all_codes = q1 at *
  generalize F_is_at_most = q2 at *
  as_aux_lemma =>
    simp only [runA, seq_ap, Mi.mi0, Mi.mi1, Mi.mi2, Mi.mi3, Mi.mi4, Mi.mi5, Mi.mo0, Mi.mo1, Mi.mo2, Mi.mo3, Mi.mo8, Bool.false_eq_true, Mi.mo9, Nat.reduceAdd, Nat.reduceSub, Nat.reduceLeDiff, Nat.reduceLT, Nat.reduceEqDiff, Mi.mt0, List.getElem?_cons_zero, List.getElem?_cons_succ, List.set_cons_zero, List.set_cons_succ, List.map_cons, List.map_nil, List.length_cons, List.length_nil, List.nil_append, List.cons_append, List.append_nil, List.replicate_succ, List.replicate_zero, lim_v, reduceIte, decide_true, decide_false, Bool.not_true, Bool.not_false, Option.bind_some, lstOf, f, m1, c]
end Lw
namespace Lw
open Mi
theorem least_digits_eq {a t n m : Nat} (ha : 1 ≤ a) (ha2 : a ≤ 10) (ht : t ≤ 900) (hn : n ≤ m) (hm : 0 < m) (hm2 : m ≤ 1000) :
    (∃ j, 1 ≤ j ∧ j < 13 ∧ fits a t n m j = true ∧ (∀ x, 1 ≤ x → x < j → fits a t n m x = false) ∧ F_least_digits [.int a, .int t, rat n m] = .ok (.int j)) ∨
    (∀ x, 1 ≤ x → x < 13 → fits a t n m x = false) := by
  have w1 : F_is_within [.int a, .int 0, .int 10] = .ok (.bl true) := within_ok (by omega) (by omega)
  have w2 : F_is_within [.int t, .int 0, .int 2000] = .ok (.bl true) := within_ok (by omega) (by omega)
  have w3 := is_limit_eq hn hm hm2
  have w4 := check_true
  rcases for_first (b := b_least_digits_0) (mk := fun s => [.val (.int a), .val (.int t), .val (rat n m), s]) (i := 3) (T := fits a t n m) (lo := 1) (hi := 13) (fun s d => rfl) (fun j h1 h2 => ld_body h1 h2 ha ha2 ht hn hm hm2) 12 1 .un (by omega) (by omega) with ⟨j, q1, q2, q3, q4, e, q5⟩ | ⟨q1, _⟩
  · refine .inl ⟨j, q1, q2, q3, q4, ?_⟩
    rw [show (((1 : Nat)) : Int) = 1 from rfl] at q5
    have r1 : r62 1 = true := by decide
    have r2 : r62 (12 + 1) = true := by decide
    have e1 : ((12 : Int) + 1 - 1).toNat = 12 := by decide
    unfold F_least_digits m_least_digits
    generalize rat n m = r at *
    generalize F_is_within = q0 at *
    generalize F_is_limit = q1 at *
    generalize F_check = q2 at *
    generalize b_least_digits_0 = q3 at *
    as_aux_lemma =>
      simp only [runA, seq_ap, Mi.mi0, Mi.mi1, Mi.mi2, Mi.mi3, Mi.mi4, Mi.mi5, Mi.mo0, Mi.mo1, Mi.mo2, Mi.mo3, Mi.mo8, Bool.false_eq_true, Mi.mo9, Nat.reduceAdd, Nat.reduceSub, Nat.reduceLeDiff, Nat.reduceLT, Nat.reduceEqDiff, Mi.mt0, List.getElem?_cons_zero, List.getElem?_cons_succ, List.set_cons_zero, List.set_cons_succ, List.map_cons, List.map_nil, List.length_cons, List.length_nil, List.nil_append, List.cons_append, List.append_nil, List.replicate_succ, List.replicate_zero, lim_v, reduceIte, decide_true, decide_false, Bool.not_true, Bool.not_false, Option.bind_some, lstOf, w1, w2, w3, w4, r1, r2, e1, q5, and_self]
  · exact .inr q1
theorem take_ok (ns : List Int) {b : Int} (hb : 0 < b) : ∃ r ms, F__law_take ns [.int b] = .ok (.int r, ms) ∧ 0 ≤ r ∧ r < b := by
  rcases List.eq_nil_or_concat ns with rfl | ⟨l, x, rfl⟩
  · refine ⟨0, [], ?_, by omega, hb⟩
    unfold F__law_take
    rfl
  · refine ⟨x % b, l, ?_, Int.emod_nonneg _ (by omega), Int.emod_lt_of_pos _ hb⟩
    have e1 : (l ++ [x]).map D.int = l.map D.int ++ [D.int x] := by simp
    have e2 : (l.map D.int ++ [D.int x]).getLast? = some (.int x) := by simp
    have e3 : (l.map D.int ++ [D.int x]).dropLast = l.map D.int := by simp
    have e4 : decide ((((l.map D.int ++ [D.int x]).length : Nat) : Int) = 0) = false := decide_eq_false (by simp; omega)
    have e5 := intsOf_map l
    have m := mod_ok (x := x) hb
    unfold F__law_take
    simp only [runB, m__law_take, List.concat_eq_append, e1]
    generalize l.map D.int ++ [D.int x] = ll at *
    generalize l.map D.int = l2 at *
    as_aux_lemma =>
      simp only [seq_ap, Mi.mi0, Mi.mi1, Mi.mi2, Mi.mi3, Mi.mi4, Mi.mi5, Mi.mo0, Mi.mo1, Mi.mo2, Mi.mo3, Mi.mo8, Bool.false_eq_true, Mi.mo9, Nat.reduceAdd, Nat.reduceSub, Nat.reduceLeDiff, Nat.reduceLT, Nat.reduceEqDiff, Mi.mt0, List.getElem?_cons_zero, List.getElem?_cons_succ, List.set_cons_zero, List.set_cons_succ, List.map_cons, List.map_nil, List.length_cons, List.length_nil, List.nil_append, List.cons_append, List.append_nil, List.replicate_succ, List.replicate_zero, lim_v, reduceIte, decide_true, decide_false, Bool.not_true, Bool.not_false, Option.bind_some, lstOf, ePop, e2, e3, e4, e5, m, Sl.turn]
end Lw
namespace Lw
open Mi
theorem pick_ok (ns : List Int) {ds : List D} (hd : ds ≠ []) : ∃ d ms, F__law_pick ns [.lst ds] = .ok (d, ms) ∧ d ∈ ds := by
  have hl : 0 < ds.length := List.length_pos_iff.2 hd
  obtain ⟨r, ms, h1, h2, h3⟩ := take_ok ns (b := (ds.length : Int)) (by omega)
  obtain ⟨k, rfl⟩ : ∃ k : Nat, r = (k : Int) := ⟨r.toNat, by omega⟩
  have hk : k < ds.length := by omega
  have g := L2.atI_nat (xs := ds) (j := k) (v := ds[k]) (List.getElem?_eq_getElem hk)
  refine ⟨ds[k], ms, ?_, List.getElem_mem hk⟩
  have e1 := intsOf_map ns
  have e2 := intsOf_map ms
  unfold F__law_pick
  simp only [runB, m__law_pick]

  generalize ds[k] = d at *
  generalize F__law_take = q0 at *
  as_aux_lemma =>
    simp only [seq_ap, Mi.mi0, Mi.mi1, Mi.mi2, Mi.mi3, Mi.mi4, Mi.mi5, Mi.mo0, Mi.mo1, Mi.mo2, Mi.mo3, Mi.mo8, Bool.false_eq_true, Mi.mo9, Nat.reduceAdd, Nat.reduceSub, Nat.reduceLeDiff, Nat.reduceLT, Nat.reduceEqDiff, Mi.mt0, List.getElem?_cons_zero, List.getElem?_cons_succ, List.set_cons_zero, List.set_cons_succ, List.map_cons, List.map_nil, List.length_cons, List.length_nil, List.nil_append, List.cons_append, List.append_nil, List.replicate_succ, List.replicate_zero, lim_v, reduceIte, decide_true, decide_false, Bool.not_true, Bool.not_false, Option.bind_some, lstOf, eCallB, e1, e2, h1, g, Sl.turn]
end Lw
namespace Lw
open Mi
theorem same_int (d : Nat) (i : Int) : F__law_same (d + 1) [.int i, .int i] = .ok (.bl true) := by
  rw [F__law_same_s]
  generalize F__law_same d = r
  unfold m__law_same
  as_aux_lemma =>
    simp only [runA, seq_ap, Mi.mi0, Mi.mi1, Mi.mi2, Mi.mi3, Mi.mi4, Mi.mi5, Mi.mo0, Mi.mo1, Mi.mo2, Mi.mo3, Mi.mo8, Bool.false_eq_true, Mi.mo9, Nat.reduceAdd, Nat.reduceSub, Nat.reduceLeDiff, Nat.reduceLT, Nat.reduceEqDiff, Mi.mt0, List.getElem?_cons_zero, List.getElem?_cons_succ, List.set_cons_zero, List.set_cons_succ, List.map_cons, List.map_nil, List.length_cons, List.length_nil, List.nil_append, List.cons_append, List.append_nil, List.replicate_succ, List.replicate_zero, lim_v, reduceIte, decide_true, decide_false, Bool.not_true, Bool.not_false, Option.bind_some, lstOf, Bool.not_true, Bool.not_false]
theorem same_pair (d : Nat) (i j : Int) : F__law_same (d + 2) [.tup [.int i, .int j], .tup [.int i, .int j]] = .ok (.bl true) := by
  rw [F__law_same_s]
  have h1 := same_int d i
  have h2 := same_int d j
  generalize F__law_same (d + 1) = r at *
  have e : rangeD 0 (2 : Int).toNat = [.int 0, .int 1] := rfl
  have r2 : r62 2 = true := by decide
  unfold m__law_same
  as_aux_lemma =>
    simp only [runA, seq_ap, Mi.mi0, Mi.mi1, Mi.mi2, Mi.mi3, Mi.mi4, Mi.mi5, Mi.mo0, Mi.mo1, Mi.mo2, Mi.mo3, Mi.mo8, Bool.false_eq_true, Mi.mo9, Nat.reduceAdd, Nat.reduceSub, Nat.reduceLeDiff, Nat.reduceLT, Nat.reduceEqDiff, Mi.mt0, List.getElem?_cons_zero, List.getElem?_cons_succ, List.set_cons_zero, List.set_cons_succ, List.map_cons, List.map_nil, List.length_cons, List.length_nil, List.nil_append, List.cons_append, List.append_nil, List.replicate_succ, List.replicate_zero, lim_v, reduceIte, decide_true, decide_false, Bool.not_true, Bool.not_false, Option.bind_some, lstOf, nLc, lcF, wipeE, okW, resE, e, r2, h1, h2, fAll, bls, Option.map_some, List.all_cons, List.all_nil, id, Option.getD_some, Bool.and_self, and_self]
end Lw
namespace Lw
open Mi
theorem app_map (ms : List Int) (x : Int) : ms.map D.int ++ [D.int x] = (ms ++ [x]).map D.int := by simp
theorem draws_b0 {s c sd k f : Sl} {ms : List Int} {x : Int} (hx : 0 ≤ x) (hl : ms.length < 16777216) :
    ∃ (ms' : List Int) (x' : Int), b__law_draws_0 [s, .own (ms.map D.int), c, sd, k, .val (.int x), f] = .ok (.nx [s, .own (ms'.map D.int), c, sd, k, .val (.int x'), f]) ∧ 0 ≤ x' ∧ ms'.length ≤ ms.length + 1 := by
  by_cases h : 0 < x
  · refine ⟨ms ++ [x % 997], x / 997, ?_, Int.ediv_nonneg hx (by omega), by simp⟩
    have c1 := decide_eq_true h
    have m := mod_ok (x := x) (show (0 : Int) < 997 by omega)
    have dv : divXOk x 997 = true := divXOk_iff.2 ⟨by omega, .inl (by decide)⟩
    have l2 : (ms.map D.int).length < 16777216 := by simpa using hl
    rw [← app_map]
    generalize ms.map D.int = l at *
    unfold b__law_draws_0
    as_aux_lemma =>
      simp only [seq_ap, Mi.mi0, Mi.mi1, Mi.mi2, Mi.mi3, Mi.mi4, Mi.mi5, Mi.mo0, Mi.mo1, Mi.mo2, Mi.mo3, Mi.mo8, Bool.false_eq_true, Mi.mo9, Nat.reduceAdd, Nat.reduceSub, Nat.reduceLeDiff, Nat.reduceLT, Nat.reduceEqDiff, Mi.mt0, List.getElem?_cons_zero, List.getElem?_cons_succ, List.set_cons_zero, List.set_cons_succ, List.map_cons, List.map_nil, List.length_cons, List.length_nil, List.nil_append, List.cons_append, List.append_nil, List.replicate_succ, List.replicate_zero, lim_v, reduceIte, decide_true, decide_false, Bool.not_true, Bool.not_false, Option.bind_some, lstOf, c1, m, dv, l2]
  · refine ⟨ms, x, ?_, hx, by omega⟩
    have c1 := decide_eq_false h
    unfold b__law_draws_0
    as_aux_lemma =>
      simp only [seq_ap, Mi.mi0, Mi.mi1, Mi.mi2, Mi.mi3, Mi.mi4, Mi.mi5, Mi.mo0, Mi.mo1, Mi.mo2, Mi.mo3, Mi.mo8, Bool.false_eq_true, Mi.mo9, Nat.reduceAdd, Nat.reduceSub, Nat.reduceLeDiff, Nat.reduceLT, Nat.reduceEqDiff, Mi.mt0, List.getElem?_cons_zero, List.getElem?_cons_succ, List.set_cons_zero, List.set_cons_succ, List.map_cons, List.map_nil, List.length_cons, List.length_nil, List.nil_append, List.cons_append, List.append_nil, List.replicate_succ, List.replicate_zero, lim_v, reduceIte, decide_true, decide_false, Bool.not_true, Bool.not_false, Option.bind_some, lstOf, c1]
end Lw
namespace Lw
open Mi
theorem draws_in {s c sd k f : Sl} {ms : List Int} {x : Int} (hx : 0 ≤ x) (hl : ms.length < 16000000) :
    ∃ (ms' : List Int) (x' : Int) (k' : Sl), forF (gN 4) b__law_draws_0 (rangeD 0 60) [s, .own (ms.map D.int), c, sd, k, .val (.int x), f] = .ok (.nx [s, .own (ms'.map D.int), c, sd, k', .val (.int x'), f]) ∧ ms'.length ≤ ms.length + 60 := by
  obtain ⟨e', h1, ms', x', k', rfl, _, h3⟩ := for_rng (G := gN 4) (b := b__law_draws_0) (lo := 0) (n := 60) (fun j e => ∃ (ms' : List Int) (x' : Int) (k' : Sl), e = [s, .own (ms'.map D.int), c, sd, k', .val (.int x'), f] ∧ 0 ≤ x' ∧ ms'.length ≤ ms.length + j)
    ⟨ms, x, k, rfl, hx, by omega⟩ fun j e hj ⟨m1, x1, k1, he, q1, q2⟩ => by
      subst he
      obtain ⟨m2, x2, w1, w2, w3⟩ := draws_b0 (s := s) (c := c) (sd := sd) (k := .val (.int (0 + j))) (f := f) (ms := m1) q1 (by omega)
      exact ⟨_, _, rfl, w1, m2, x2, _, rfl, w2, by omega⟩
  exact ⟨ms', x', k', h1, h3⟩
end Lw
namespace Lw
open Mi
theorem Bd.sm {x : Int} {n : Nat} (h0 : 0 ≤ x) (h : x < 2 ^ n) : Bd x n := by
  unfold Bd
  have e : ((2 ^ n : Nat) : Int) = 2 ^ n := by rw [Int.natCast_pow]; rfl
  omega
theorem draws_b1 {s sd k f nm : Sl} {ms : List Int} {n : Int} (hl : ms.length < 15000000) :
    ∃ (ms' : List Int) (k' f' nm' : Sl), b__law_draws_1 [s, .own (ms.map D.int), .val (.int n), sd, k, nm, f] = .ok (.nx [s, .own (ms'.map D.int), .val (.int n), sd, k', nm', f']) ∧ ms'.length ≤ ms.length + 62 := by
  have x0 : (if n < 0 then -n else n) = (n.natAbs : Int) := by split <;> omega
  generalize hx : (n.natAbs : Int) = x at *
  have px : 0 ≤ x := by omega
  by_cases c : x < 10 ^ 18
  · have c0 : decide (x < (10 : Int) ^ (18 : Int).toNat) = true := decide_eq_true c
    have hp : powOk 10 18 = true := by decide
    have bx : Bd x 60 := Bd.sm px (by
      have : (10 : Int) ^ 18 = 1000000000000000000 := by decide
      have : (2 : Int) ^ 60 = 1152921504606846976 := by decide
      omega)
    have m1 := mul_ok bx (Bd.small (x := 48271) (by omega) (by omega)) (by omega)
    have d1 := mod_ok (x := x * 48271 + 11) (show (0 : Int) < 2147483647 by omega)
    have f0 := Int.emod_nonneg (x * 48271 + 11) (show (2147483647 : Int) ≠ 0 by omega)
    have f1 := Int.emod_lt_of_pos (x * 48271 + 11) (show (0 : Int) < 2147483647 by omega)
    obtain ⟨y, hy⟩ : ∃ y, (x * 48271 + 11) % 2147483647 = y := ⟨_, rfl⟩
    rw [hy] at f0 f1
    have m2 := mul_ok (Bd.small (x := y) f0 (by omega)) (Bd.small (x := 69621) (by omega) (by omega)) (by omega)
    have d2 := mod_ok (x := y * 69621 + x) (show (0 : Int) < 2147483629 by omega)
    have d3 : divXOk x 7 = true := divXOk_iff.2 ⟨by omega, .inl (by decide)⟩
    have d4 := mod_ok (x := y + x / 7) (show (0 : Int) < 1000003 by omega)
    obtain ⟨m, x', k', l, q⟩ := draws_in (s := s) (c := .val (.int n)) (sd := sd) (k := k) (f := .val (.int y)) (ms := ms ++ [(y * 69621 + x) % 2147483629] ++ [(y + x / 7) % 1000003]) (x := 0) (by omega) (by simp; omega)
    refine ⟨m, k', .val (.int y), .val (.int x'), ?_, by simp at q; omega⟩
    have l2 : (ms.map D.int).length < 16777216 := by simp; omega
    have l3 : (ms.map D.int ++ [D.int ((y * 69621 + x) % 2147483629)]).length < 16777216 := by simp; omega
    have e60 : rangeD 0 (60 : Int).toNat = rangeD 0 60 := rfl
    have r60 : r62 60 = true := by decide
    rw [← app_map, ← app_map] at l
    unfold b__law_draws_1
    generalize ms.map D.int = ll at *
    generalize m.map D.int = l9 at *
    generalize b__law_draws_0 = bb at *
    as_aux_lemma =>
      simp only [seq_ap, Mi.mi0, Mi.mi1, Mi.mi2, Mi.mi3, Mi.mi4, Mi.mi5, Mi.mo0, Mi.mo1, Mi.mo2, Mi.mo3, Mi.mo8, Bool.false_eq_true, Mi.mo9, Nat.reduceAdd, Nat.reduceSub, Nat.reduceLeDiff, Nat.reduceLT, Nat.reduceEqDiff, Mi.mt0, List.getElem?_cons_zero, List.getElem?_cons_succ, List.set_cons_zero, List.set_cons_succ, List.map_cons, List.map_nil, List.length_cons, List.length_nil, List.nil_append, List.cons_append, List.append_nil, List.replicate_succ, List.replicate_zero, lim_v, reduceIte, decide_true, decide_false, Bool.not_true, Bool.not_false, Option.bind_some, lstOf, x0, c0, hp, m1, d1, hy, m2, d2, d3, d4, l2, l3, e60, r60, l]
  · have c0 : decide (x < (10 : Int) ^ (18 : Int).toNat) = false := decide_eq_false c
    have hp : powOk 10 18 = true := by decide
    obtain ⟨m, x', k', l, q⟩ := draws_in (s := s) (c := .val (.int n)) (sd := sd) (k := k) (f := f) (ms := ms) (x := x) px (by omega)
    refine ⟨m, k', f, .val (.int x'), ?_, by omega⟩
    have e60 : rangeD 0 (60 : Int).toNat = rangeD 0 60 := rfl
    have r60 : r62 60 = true := by decide
    unfold b__law_draws_1
    generalize ms.map D.int = ll at *
    generalize m.map D.int = l9 at *
    generalize b__law_draws_0 = bb at *
    as_aux_lemma =>
      simp only [seq_ap, Mi.mi0, Mi.mi1, Mi.mi2, Mi.mi3, Mi.mi4, Mi.mi5, Mi.mo0, Mi.mo1, Mi.mo2, Mi.mo3, Mi.mo8, Bool.false_eq_true, Mi.mo9, Nat.reduceAdd, Nat.reduceSub, Nat.reduceLeDiff, Nat.reduceLT, Nat.reduceEqDiff, Mi.mt0, List.getElem?_cons_zero, List.getElem?_cons_succ, List.set_cons_zero, List.set_cons_succ, List.map_cons, List.map_nil, List.length_cons, List.length_nil, List.nil_append, List.cons_append, List.append_nil, List.replicate_succ, List.replicate_zero, lim_v, reduceIte, decide_true, decide_false, Bool.not_true, Bool.not_false, Option.bind_some, lstOf, x0, c0, hp, e60, r60, l]
end Lw
namespace Lw
open Mi
theorem draws_out {s sd k f nm c : Sl} {ns : List Int} (hn : ns.length ≤ 63) :
    ∃ (ms' : List Int) (c' k' f' nm' : Sl), forF (gN 2) b__law_draws_1 (ns.map D.int) [s, .own [], c, sd, k, nm, f] = .ok (.nx [s, .own (ms'.map D.int), c', sd, k', nm', f']) ∧ ms'.length ≤ 62 * ns.length := by
  obtain ⟨e', h1, ms', c', k', f', nm', rfl, h3⟩ := for_inv (G := gN 2) (b := b__law_draws_1) (fun j e => ∃ (ms' : List Int) (c' k' f' nm' : Sl), e = [s, .own (ms'.map D.int), c', sd, k', nm', f'] ∧ ms'.length ≤ 62 * j) (ns.map D.int) 0 [s, .own [], c, sd, k, nm, f]
    ⟨[], c, k, f, nm, rfl, by simp⟩ fun j d e hd ⟨m1, c1, k1, f1, n1, he, q⟩ => by
      subst he
      rw [List.getElem?_map] at hd
      obtain ⟨z, hz, rfl⟩ := Option.map_eq_some_iff.1 hd
      have hj : j < ns.length := (List.getElem?_eq_some_iff.1 hz).1
      obtain ⟨m2, k2, f2, n2, w1, w2⟩ := draws_b1 (s := s) (sd := sd) (k := k1) (f := f1) (nm := n1) (ms := m1) (n := z) (by omega)
      exact ⟨_, _, rfl, w1, m2, .val (.int z), k2, f2, n2, rfl, by omega⟩
  rw [List.length_map, Nat.zero_add] at h3
  exact ⟨ms', c', k', f', nm', h1, h3⟩
end Lw
namespace Lw
open Mi
theorem draws_b2 {s c k f nm : Sl} {ms : List Int} {n : Int} (hl : ms.length < 15000000) (hn : Bd n 2000000) :
    ∃ (ms' : List Int) (n' : Int), b__law_draws_2 [s, .own (ms.map D.int), c, .val (.int n), k, nm, f] = .ok (.nx [s, .own (ms'.map D.int), c, .val (.int n'), k, nm, f]) ∧ ms'.length ≤ ms.length + 1 ∧ Bd n' 2000000 := by
  have m1 := mul_ok hn (Bd.small (x := 48271) (by omega) (by omega)) (by omega)
  have d1 := mod_ok (x := n * 48271 + 69621) (show (0 : Int) < 2147483647 by omega)
  have f0 := Int.emod_nonneg (n * 48271 + 69621) (show (2147483647 : Int) ≠ 0 by omega)
  have f1 := Int.emod_lt_of_pos (n * 48271 + 69621) (show (0 : Int) < 2147483647 by omega)
  obtain ⟨y, hy⟩ : ∃ y, (n * 48271 + 69621) % 2147483647 = y := ⟨_, rfl⟩
  rw [hy] at f0 f1
  refine ⟨ms ++ [y / 5], y, ?_, by simp, (Bd.small f0 (by omega)).mono (by omega)⟩
  have d3 : divXOk y 5 = true := divXOk_iff.2 ⟨by omega, .inl (by decide)⟩
  have l2 : (ms.map D.int).length < 16777216 := by simp; omega
  rw [← app_map]
  generalize ms.map D.int = l at *
  unfold b__law_draws_2
  as_aux_lemma =>
    simp only [seq_ap, Mi.mi0, Mi.mi1, Mi.mi2, Mi.mi3, Mi.mi4, Mi.mi5, Mi.mo0, Mi.mo1, Mi.mo2, Mi.mo3, Mi.mo8, Bool.false_eq_true, Mi.mo9, Nat.reduceAdd, Nat.reduceSub, Nat.reduceLeDiff, Nat.reduceLT, Nat.reduceEqDiff, Mi.mt0, List.getElem?_cons_zero, List.getElem?_cons_succ, List.set_cons_zero, List.set_cons_succ, List.map_cons, List.map_nil, List.length_cons, List.length_nil, List.nil_append, List.cons_append, List.append_nil, List.replicate_succ, List.replicate_zero, lim_v, reduceIte, decide_true, decide_false, Bool.not_true, Bool.not_false, Option.bind_some, lstOf, m1, d1, hy, d3, l2]
end Lw
namespace Lw
open Mi
theorem draws_nine {s c k f nm : Sl} {ms : List Int} {n : Int} (hl : ms.length < 10000) (hn : Bd n 2000000) :
    ∃ (ms' : List Int) (n' : Int) (k' : Sl), forF (gN 4) b__law_draws_2 (rangeD 0 9000) [s, .own (ms.map D.int), c, .val (.int n), k, nm, f] = .ok (.nx [s, .own (ms'.map D.int), c, .val (.int n'), k', nm, f]) := by
  obtain ⟨e', h1, ms', n', k', rfl, _, _⟩ := for_rng (G := gN 4) (b := b__law_draws_2) (lo := 0) (n := 9000) (fun j e => ∃ (ms' : List Int) (n' : Int) (k' : Sl), e = [s, .own (ms'.map D.int), c, .val (.int n'), k', nm, f] ∧ Bd n' 2000000 ∧ ms'.length ≤ 10000 + j)
    ⟨ms, n, k, rfl, hn, by omega⟩ fun j e hj ⟨m1, n1, k1, he, q1, q2⟩ => by
      subst he
      obtain ⟨m2, n2, w1, w2, w3⟩ := draws_b2 (s := s) (c := c) (k := .val (.int (0 + j))) (f := f) (nm := nm) (ms := m1) (by omega) q1
      exact ⟨_, _, rfl, w1, m2, n2, _, rfl, w3, by omega⟩
  exact ⟨ms', n', k', h1⟩
end Lw
namespace Lw
open Mi
theorem bits_bd {z : Int} (h : PySem.Builtin.Int.intBits z ≤ 1048576) : Bd (1 + (if z < 0 then -z else z)) 2000000 := by
  have h1 : Bd z 1048577 := by
    unfold Bd
    unfold PySem.Builtin.Int.intBits at h
    by_cases c : z = 0
    · subst c
      exact Nat.zero_le _
    · have c1 : (z == 0) = false := by simpa using c
      rw [c1] at h
      have h2 : z.natAbs.log2 + 1 ≤ 1048576 := h
      exact Nat.le_of_lt (Nat.lt_of_lt_of_le Nat.lt_log2_self (Nat.pow_le_pow_right (by omega) (by omega)))
  have h3 : Bd (if z < 0 then -z else z) 1048577 := by
    unfold Bd at *
    split <;> omega
  have one : Bd 1 1048577 := by
    unfold Bd
    exact Nat.one_le_two_pow
  exact (Bd.add one h3).mono (by omega)
theorem draws_eq {ns : List Int} (hn : ns.length ≤ 63) (hz : ∀ z ∈ ns, PySem.Builtin.Int.intBits z ≤ 1048576) : ∃ ms : List Int, F__law_draws [.rls (ns.map D.int)] = .ok (.lst (ms.map D.int)) := by
  obtain ⟨m1, c1, k1, f1, n1, l1, q1⟩ := draws_out (s := .val (.rls (ns.map D.int))) (sd := .un) (k := .un) (f := .un) (nm := .un) (c := .un) hn
  have q2 : m1.length < 10000 := by omega
  cases ns with
  | nil =>
    obtain ⟨m2, n2, k2, l2⟩ := draws_nine (s := .val (.rls [])) (c := c1) (k := k1) (f := f1) (nm := n1) (ms := m1) (n := 1) q2 (Bd.small (x := 1) (by omega) (by omega) |>.mono (by omega))
    refine ⟨m2.reverse, ?_⟩
    have r1 : r62 9000 = true := by decide
    have e1 : rangeD 0 (9000 : Int).toNat = rangeD 0 9000 := rfl
    have e2 : (m2.map D.int).reverse = m2.reverse.map D.int := by simp
    rw [List.map_nil] at *
    rw [← e2]
    unfold F__law_draws m__law_draws
    generalize b__law_draws_1 = b1 at *
    generalize b__law_draws_2 = b2 at *
    generalize m2.map D.int = l at *
    generalize m1.map D.int = l' at *
    have c0 : decide ((0 : Int) < 0) = false := by decide
    as_aux_lemma =>
      simp only [runA, seq_ap, Mi.mi0, Mi.mi1, Mi.mi2, Mi.mi3, Mi.mi4, Mi.mi5, Mi.mo0, Mi.mo1, Mi.mo2, Mi.mo3, Mi.mo8, Bool.false_eq_true, Mi.mo9, Nat.reduceAdd, Nat.reduceSub, Nat.reduceLeDiff, Nat.reduceLT, Nat.reduceEqDiff, Mi.mt0, List.getElem?_cons_zero, List.getElem?_cons_succ, List.set_cons_zero, List.set_cons_succ, List.map_cons, List.map_nil, List.length_cons, List.length_nil, List.nil_append, List.cons_append, List.append_nil, List.replicate_succ, List.replicate_zero, lim_v, reduceIte, decide_true, decide_false, Bool.not_true, Bool.not_false, Option.bind_some, lstOf, l1, l2, r1, e1, c0]
  | cons z r =>
    obtain ⟨m2, n2, k2, l2⟩ := draws_nine (s := .val (.rls ((z :: r).map D.int))) (c := c1) (k := k1) (f := f1) (nm := n1) (ms := m1) (n := 1 + (if z < 0 then -z else z)) q2 (bits_bd (hz z (by simp)))
    refine ⟨m2.reverse, ?_⟩
    have r1 : r62 9000 = true := by decide
    have e1 : rangeD 0 (9000 : Int).toNat = rangeD 0 9000 := rfl
    have e2 : (m2.map D.int).reverse = m2.reverse.map D.int := by simp
    rw [List.map_cons] at *
    rw [← e2]
    have c0 : decide ((0 : Int) < (((D.int z :: r.map D.int).length : Nat) : Int)) = true := decide_eq_true (by simp)
    have x0 : L2.atI (D.int z :: r.map D.int) 0 = some (D.int z) := Mi.mo9.1 _ _
    unfold F__law_draws m__law_draws
    generalize b__law_draws_1 = b1 at *
    generalize b__law_draws_2 = b2 at *
    generalize m2.map D.int = l at *
    generalize m1.map D.int = l' at *
    generalize D.int z :: r.map D.int = ll at *
    as_aux_lemma =>
      simp only [runA, seq_ap, Mi.mi0, Mi.mi1, Mi.mi2, Mi.mi3, Mi.mi4, Mi.mi5, Mi.mo0, Mi.mo1, Mi.mo2, Mi.mo3, Mi.mo8, Bool.false_eq_true, Mi.mo9, Nat.reduceAdd, Nat.reduceSub, Nat.reduceLeDiff, Nat.reduceLT, Nat.reduceEqDiff, Mi.mt0, List.getElem?_cons_zero, List.getElem?_cons_succ, List.set_cons_zero, List.set_cons_succ, List.map_cons, List.map_nil, List.length_cons, List.length_nil, List.nil_append, List.cons_append, List.append_nil, List.replicate_succ, List.replicate_zero, lim_v, reduceIte, decide_true, decide_false, Bool.not_true, Bool.not_false, Option.bind_some, lstOf, l1, l2, r1, e1, c0, x0]
end Lw
namespace Lw
/-! ### the mathematics; C = a + b -/
/-- the union bound -/
theorem union_bound (a b : Nat) : ∀ t : Nat, ((a + b) ^ t) * (a + b) ≤ t * a * (a + b) ^ t + b ^ t * (a + b)
  | 0 => by simp
  | t + 1 => by
    have ih := union_bound a b t
    have le : b ^ t ≤ (a + b) ^ t := Nat.pow_le_pow_left (by omega) t
    -- W = (a+b)^t, M = b^t : W (a+b) (a+b) <= (t+1) a W (a+b) + M b (a+b)
    rw [Nat.pow_succ, Nat.pow_succ]
    generalize (a + b) ^ t = W at *
    generalize b ^ t = M at *
    have h1 : W * (a + b) * (a + b) ≤ (t * a * W + M * (a + b)) * (a + b) := Nat.mul_le_mul_right _ ih
    have h2 : M * (a + b) * (a + b) = M * b * (a + b) + a * (M * (a + b)) := by
      rw [Nat.mul_assoc M b, Nat.mul_assoc M (a + b), Nat.mul_left_comm a M, ← Nat.mul_add, Nat.add_comm (b * (a + b)), ← Nat.add_mul]
    have h3 : a * (M * (a + b)) ≤ a * (W * (a + b)) := Nat.mul_le_mul_left _ (Nat.mul_le_mul_right _ le)
    have h4 : (t + 1) * a * (W * (a + b)) = t * a * W * (a + b) + a * (W * (a + b)) := by
      rw [Nat.add_mul, Nat.add_mul, Nat.one_mul, Nat.mul_assoc (t * a) W]
    rw [Nat.add_mul, h2] at h1
    rw [h4]
    omega
end Lw
namespace Lw
theorem sub_cross {W M W' M' : Nat} (h : M * W' ≤ M' * W) : (W' - M') * W ≤ (W - M) * W' := by
  rw [Nat.sub_mul, Nat.sub_mul, Nat.mul_comm W' W]
  omega
theorem fresh_more {C b : Nat} (h : b ≤ C) (t : Nat) : (C ^ t - b ^ t) * C ^ (t + 1) ≤ (C ^ (t + 1) - b ^ (t + 1)) * C ^ t := by
  refine sub_cross ?_
  rw [Nat.pow_succ, Nat.pow_succ, Nat.mul_assoc, Nat.mul_comm b, ← Nat.mul_assoc, ← Nat.mul_assoc]
  exact Nat.mul_le_mul_left _ h
theorem fresh_longer (a b t : Nat) : ((10 * (a + b)) ^ t - (10 * (a + b) - a) ^ t) * (a + b) ^ t ≤ ((a + b) ^ t - b ^ t) * (10 * (a + b)) ^ t := by
  refine sub_cross ?_
  rw [← Nat.mul_pow, ← Nat.mul_pow]
  refine Nat.pow_le_pow_left ?_ t
  rw [← Nat.mul_assoc]
  refine Nat.mul_le_mul_right _ ?_
  omega
theorem dn_pow {b C : Nat} (h : b ≤ C) : ∀ t, dn b t * C ^ t ≤ b ^ t * dn C t
  | 0 => by simp [dn]
  | t + 1 => by
    have ih := dn_pow h t
    rw [dn, dn, Nat.pow_succ, Nat.pow_succ, Nat.mul_mul_mul_comm, Nat.mul_mul_mul_comm (b ^ t)]
    refine Nat.mul_le_mul ih ?_
    rw [Nat.sub_mul, Nat.mul_sub]
    have : b * t ≤ t * C := by
      rw [Nat.mul_comm]
      exact Nat.mul_le_mul_left _ h
    omega
theorem fresh_fixed {b C : Nat} (h : b ≤ C) (t : Nat) : (C ^ t - b ^ t) * dn C t ≤ (dn C t - dn b t) * C ^ t := by
  refine sub_cross ?_
  exact dn_pow h t
theorem fixed_bound (a b : Nat) : ∀ t : Nat, (a + b) * dn (a + b) t ≤ t * a * dn (a + b) t + (a + b) * dn b t
  | 0 => by simp [dn]
  | t + 1 => by
    have ih := fixed_bound a b t
    rw [dn, dn]
    by_cases c : a + b ≤ (t + 1) * a
    · exact Nat.le_trans (Nat.mul_le_mul_right _ c) (Nat.le_add_right _ _)
    by_cases a0 : a = 0
    · subst a0
      simp
    rw [Nat.add_mul, Nat.one_mul] at c
    have k1 : t * 1 ≤ t * a := Nat.mul_le_mul_left t (by omega)
    obtain ⟨u, hu⟩ : ∃ u, b = t * a + u := ⟨b - t * a, by omega⟩
    obtain ⟨v, hv⟩ : ∃ v, b = t + v := ⟨b - t, by omega⟩
    have e1 : b - t = v := by omega
    have e2 : a + b - t = v + a := by omega
    have uv : u ≤ v := by omega
    rw [e1, e2]
    generalize dn (a + b) t = W at *
    generalize dn b t = M at *
    have h1 : (a + b) * W * v ≤ (t * a * W + (a + b) * M) * v := Nat.mul_le_mul_right _ ih
    have eC : a + b = t * a + (u + a) := by omega
    -- (u + a) W v <= C M v
    have h2 : (u + a) * W * v ≤ (a + b) * M * v := by
      rw [eC, Nat.add_mul (t * a), Nat.add_mul, Nat.add_mul (t * a * W)] at h1
      rw [eC]
      omega
    have h3 : W * (u * a) ≤ W * (v * a) := Nat.mul_le_mul_left _ (Nat.mul_le_mul_right _ uv)
    have h4 : (u + a) * W * v = W * (u * v) + W * (v * a) := by
      rw [Nat.add_mul, Nat.add_mul, Nat.mul_comm u W, Nat.mul_assoc, Nat.mul_comm a W, Nat.mul_assoc, Nat.mul_comm a v]
    have h5 : (a + b) * (W * (v + a)) = (t + 1) * a * (W * (v + a)) + (W * (u * v) + W * (u * a)) := by
      rw [show a + b = (t + 1) * a + u by rw [Nat.add_mul]; omega, Nat.add_mul ((t + 1) * a), Nat.mul_left_comm u W, Nat.mul_add u v, Nat.mul_add W (u * v)]
    rw [h5, ← Nat.mul_assoc (a + b)]
    omega
end Lw
namespace Lw
theorem not_pb {C n m N : Nat} (hl : n * 1000 ≤ 999 * m) (h : dn C N * 1000 ≤ C ^ N) : ¬ Pb C n m N := by
  unfold Pb
  rw [Nat.sub_mul]
  generalize dn C N = A at *
  generalize C ^ N = W at *
  have h1 : A * 1000 * m ≤ W * m := Nat.mul_le_mul_right _ h
  have h2 : n * 1000 * W ≤ 999 * m * W := Nat.mul_le_mul_right _ hl
  have e1 : A * 1000 * m = 1000 * (A * m) := by rw [Nat.mul_comm A, Nat.mul_assoc]
  have e2 : n * 1000 * W = 1000 * (n * W) := by rw [Nat.mul_comm n, Nat.mul_assoc]
  have e3 : 999 * m * W = 999 * (W * m) := by rw [Nat.mul_assoc, Nat.mul_comm m]
  omega
theorem few1 : dn (10 ^ 1) 11 * 1000 ≤ (10 ^ 1) ^ 11 := by decide +kernel
theorem few2 : dn (10 ^ 2) 50 * 1000 ≤ (10 ^ 2) ^ 50 := by decide +kernel
theorem few3 : dn (10 ^ 3) 140 * 1000 ≤ (10 ^ 3) ^ 140 := by decide +kernel
theorem few4 : dn (10 ^ 4) 400 * 1000 ≤ (10 ^ 4) ^ 400 := by decide +kernel
theorem few {d n m : Nat} (h1 : 1 ≤ d) (h4 : d ≤ 4) (hl : n * 1000 ≤ 999 * m) : ¬ Pb (10 ^ d) n m 400 ∨ ∃ N, N ≤ 400 ∧ ¬ Pb (10 ^ d) n m N := by
  obtain rfl | rfl | rfl | rfl : d = 1 ∨ d = 2 ∨ d = 3 ∨ d = 4 := by omega
  · exact .inr ⟨11, by omega, not_pb hl few1⟩
  · exact .inr ⟨50, by omega, not_pb hl few2⟩
  · exact .inr ⟨140, by omega, not_pb hl few3⟩
  · exact .inl (not_pb hl few4)
theorem few_ex {d n m : Nat} (h1 : 1 ≤ d) (h4 : d ≤ 4) (hl : n * 1000 ≤ 999 * m) : ∃ N, N ≤ 400 ∧ ¬ Pb (10 ^ d) n m N :=
  (few h1 h4 hl).elim (fun h => ⟨400, by omega, h⟩) id
theorem fits12_aux {A W M n m : Nat} (u : W * 1000000000000 ≤ A * W + M * 1000000000000) (h0 : A ≤ 9000) (hl : m ≤ 1000 * n) : (W - M) * m ≤ n * W := by
  have h1 : A * W ≤ 9000 * W := Nat.mul_le_mul_right _ h0
  have h4 : (W - M) * m ≤ (W - M) * (1000 * n) := Nat.mul_le_mul_left _ hl
  have h5 : (W - M) * (1000 * n) = ((W - M) * 1000) * n := (Nat.mul_assoc _ _ _).symm
  have h6 : (W - M) * 1000 ≤ W := by omega
  have h7 : ((W - M) * 1000) * n ≤ W * n := Nat.mul_le_mul_right _ h6
  rw [Nat.mul_comm n W]
  omega
theorem fits12 {a t n m : Nat} (ha2 : a ≤ 10) (ht : t ≤ 900) (hl : m ≤ 1000 * n) : fits a t n m 12 = true := by
  refine decide_eq_true ?_
  have u := union_bound a (10 ^ 12 - a) t
  have e : a + (10 ^ 12 - a) = 10 ^ 12 := by omega
  rw [e] at u
  have h0 : t * a ≤ 900 * 10 := Nat.mul_le_mul ht ha2
  generalize (10 ^ 12) ^ t = W at *
  generalize (10 ^ 12 - a) ^ t = M at *
  have p12 : (10 : Nat) ^ 12 = 1000000000000 := by decide
  rw [p12] at u
  exact fits12_aux u h0 hl
end Lw
namespace Lw
open Mi
theorem c40 {d : Nat} (h : d ≤ 12) : Bn (10 ^ d) 40 := by
  have h1 : 10 ^ d ≤ 10 ^ 12 := Nat.pow_le_pow_right (by omega) h
  have h2 : (10 : Nat) ^ 12 ≤ 2 ^ 40 := by decide
  exact Nat.le_trans h1 h2
theorem same_rat (a d : Nat) : F__law_same 4 [rat a d, rat a d] = .ok (.bl true) := same_pair 2 _ _
theorem rat_self {n : Nat} (h : 0 < n) : rat n n = .tup [.int 1, .int 1] := by
  unfold rat
  rw [Nat.gcd_self, Nat.div_self h]
  rfl
theorem rat_zero {n : Nat} (h : 0 < n) : rat 0 n = .tup [.int 0, .int 1] := by
  unfold rat
  rw [Nat.gcd_zero_left, Nat.div_self h, Nat.zero_div]
  rfl
theorem ne_self11 : gNe (.tup [.int 1, .int 1]) (.tup [.int 1, .int 1]) = some (.bl false) := by rw [ne_pair]; rfl
theorem ne_self01 : gNe (.tup [.int 0, .int 1]) (.tup [.int 0, .int 1]) = some (.bl false) := by rw [ne_pair]; rfl
theorem ne_self_rat (a d : Nat) : gNe (rat a d) (rat a d) = some (.bl false) := by
  unfold rat
  rw [ne_pair]
  simp
/-- a ratio and what is left of it -/
theorem sum_less {a d : Nat} (h : Sz a d) (le : a ≤ d) (bd : Bn d 6700) :
    ∃ r, F_less_of [.tup [.int 1, .int 1], rat a d] = .ok r ∧ F_sum_of [rat a d, r] = .ok (.tup [.int 1, .int 1]) := by
  have s1 : Sz 1 1 := Sz.of (by omega) (Nat.one_le_two_pow) (Nat.one_le_two_pow)
  have c := check_ratios_eq s1 h
  rw [rat_self (show 0 < 1 by omega)] at c
  have g1 : Nat.gcd (a / Nat.gcd a d) (d / Nat.gcd a d) = 1 := Nat.gcd_div_gcd_div_gcd_of_pos_right h.pos
  have p2 := h.p2
  have e : rat a d = .tup [.int ((a / Nat.gcd a d : Nat) : Int), .int ((d / Nat.gcd a d : Nat) : Int)] := rfl
  have xy : a / Nat.gcd a d ≤ d / Nat.gcd a d := Nat.div_le_div_right le
  have by_ : Bn (d / Nat.gcd a d) 6700 := bd.le (Nat.div_le_self _ _)
  have rr : rat (d / Nat.gcd a d - a / Nat.gcd a d) (d / Nat.gcd a d) = .tup [.int ((d / Nat.gcd a d - a / Nat.gcd a d : Nat) : Int), .int ((d / Nat.gcd a d : Nat) : Int)] := by
    unfold rat
    rw [Nat.gcd_self_sub_left xy, g1, Nat.div_one, Nat.div_one]
  have s2 : Sz (d / Nat.gcd a d - a / Nat.gcd a d) (d / Nat.gcd a d) := Sz.of p2 ((by_.le (Nat.sub_le _ _)).mono (by omega)) (by_.mono (by omega))
  have c2 := check_ratios_eq h s2
  rw [rr] at c2
  rw [e] at c c2 ⊢
  generalize a / Nat.gcd a d = x at *
  generalize d / Nat.gcd a d = y at *
  have bx := by_.le xy
  have one : Bn 1 80000 := Nat.one_le_two_pow
  have l := less_eq (x := 1) (y := 1) (x' := x) (y' := y) c one one (bx.mono (by omega)) (by_.mono (by omega)) (by omega) (by rw [Nat.one_mul, Nat.mul_one]; exact s2)
  rw [Nat.one_mul, Nat.mul_one, rr] at l
  refine ⟨_, l, ?_⟩
  have e2 : x * y + (y - x) * y = y * y := by
    rw [← Nat.add_mul]
    congr 1
    omega
  have byy : Bn (y * y) 13400 := by_.mul by_
  have pyy : 0 < y * y := Nat.mul_pos p2 p2
  have t := sum_eq (x := x) (y := y) (x' := y - x) (y' := y) c2 (bx.mono (by omega)) (by_.mono (by omega)) ((by_.le (Nat.sub_le _ _)).mono (by omega)) (by_.mono (by omega)) (by
    rw [e2]
    exact Sz.of pyy (byy.mono (by omega)) (byy.mono (by omega)))
  rw [e2, rat_self pyy] at t
  exact t
theorem product_zero {a d : Nat} (h : Sz a d) (bd : Bn d 13499) : F_product_of [rat a d, .tup [.int 0, .int 1]] = .ok (.tup [.int 0, .int 1]) := by
  have s1 : Sz 0 1 := Sz.of (by omega) (Nat.zero_le _) (Nat.one_le_two_pow)
  have c := check_ratios_eq h s1
  rw [rat_zero (show 0 < 1 by omega)] at c
  have e : rat a d = .tup [.int ((a / Nat.gcd a d : Nat) : Int), .int ((d / Nat.gcd a d : Nat) : Int)] := rfl
  have p2 := h.p2
  obtain ⟨b1, b2⟩ := h.sm
  have b5 : Bn (d / Nat.gcd a d) 13499 := bd.le (Nat.div_le_self _ _)
  rw [e] at c ⊢
  generalize a / Nat.gcd a d = x at *
  generalize d / Nat.gcd a d = y at *
  have one : Bn 1 80000 := Nat.one_le_two_pow
  have t := product_eq (x := x) (y := y) (x' := 0) (y' := 1) c b1 b2 (Nat.zero_le _) one (by
    rw [Nat.mul_zero, Nat.mul_one]
    exact Sz.of p2 (Nat.zero_le _) b5)
  rw [Nat.mul_zero, Nat.mul_one, rat_zero p2] at t
  exact t
end Lw
namespace Lw
open Mi
/-! the facts of one turn -/
def fr (d a t : Nat) : D := rat ((10 ^ d) ^ t - (10 ^ d - a) ^ t) ((10 ^ d) ^ t)
def bo (d a t : Nat) : D := rat (min (10 ^ d) (t * a)) (10 ^ d)
def fx (d a t : Nat) : D := rat (dn (10 ^ d) t - dn (10 ^ d - a) t) (dn (10 ^ d) t)
def sm (d k : Nat) : D := rat ((10 ^ d) ^ k - dn (10 ^ d) k) ((10 ^ d) ^ k)
theorem szF {d a t : Nat} (hb : 4 * d * t ≤ 13000) : Sz ((10 ^ d) ^ t - (10 ^ d - a) ^ t) ((10 ^ d) ^ t) := by
  have b : Bn ((10 ^ d) ^ t) 13000 := ((ten_bn d).pow t).mono hb
  exact Sz.of (Nat.pow_pos (Nat.pow_pos (by omega))) ((b.le (Nat.sub_le _ _)).mono (by omega)) (b.mono (by omega))
theorem szB {d a t : Nat} (hd : d ≤ 12) : Sz (min (10 ^ d) (t * a)) (10 ^ d) := by
  have b := c40 hd
  exact Sz.of (Nat.pow_pos (by omega)) ((b.le (Nat.min_le_left _ _)).mono (by omega)) (b.mono (by omega))
theorem szX {d a t : Nat} (ht : t ≤ 10 ^ d) (hb : 4 * d * t ≤ 13000) : Sz (dn (10 ^ d) t - dn (10 ^ d - a) t) (dn (10 ^ d) t) := by
  have b : Bn (dn (10 ^ d) t) 13000 := (dn_bn (ten_bn d) t).mono hb
  exact Sz.of (dn_pos ht) ((b.le (Nat.sub_le _ _)).mono (by omega)) (b.mono (by omega))
theorem szS {d k : Nat} (hd : d ≤ 12) (hk : k ≤ 330) : Sz ((10 ^ d) ^ k - dn (10 ^ d) k) ((10 ^ d) ^ k) := by
  have b : Bn ((10 ^ d) ^ k) 13200 := ((c40 hd).pow k).mono (by omega)
  exact Sz.of (Nat.pow_pos (Nat.pow_pos (by omega))) ((b.le (Nat.sub_le _ _)).mono (by omega)) (b.mono (by omega))
theorem fr_hit {d a t : Nat} (h1 : 1 ≤ d) (h2 : d ≤ 12) (ht : t ≤ 2000) (ha : a ≤ 10 ^ d) (hb : 4 * d * t ≤ 13000) : F_fresh_hit [.int d, .int a, .int t] = .ok (fr d a t) := fresh_hit_eq h1 h2 ht ha (szF hb)
theorem bo_hit {d a t : Nat} (h1 : 1 ≤ d) (h2 : d ≤ 12) (ht : t ≤ 2000) (ha : a ≤ 10 ^ d) : F_bound_hit [.int d, .int a, .int t] = .ok (bo d a t) := bound_hit_eq h1 h2 ht ha
theorem fx_hit {d a t : Nat} (h1 : 1 ≤ d) (h2 : d ≤ 12) (ht : t ≤ 2000) (ha : a ≤ 10 ^ d) (htc : t ≤ 10 ^ d) (hb : 4 * d * t ≤ 13000) : F_fixed_hit [.int d, .int a, .int t] = .ok (fx d a t) := fixed_hit_eq h1 h2 ht ha htc (szX htc hb)
theorem sm_hit {d k : Nat} (h1 : 1 ≤ d) (h2 : d ≤ 12) (hk : k ≤ 330) : F_same_code [.int d, .int k] = .ok (sm d k) := same_code_eq h1 h2 (by omega) (szS h2 hk)
theorem le_fr_bo {d a t : Nat} (h2 : d ≤ 12) (ha : a ≤ 10 ^ d) (hb : 4 * d * t ≤ 13000) : F__law_at_most [fr d a t, bo d a t] = .ok (.bl true) := by
  unfold fr bo
  rw [at_most_eq (szF hb) (szB h2), decide_eq_true]
  have u := union_bound a (10 ^ d - a) t
  have e : a + (10 ^ d - a) = 10 ^ d := by omega
  rw [e] at u
  have le := Nat.sub_le ((10 ^ d) ^ t) ((10 ^ d - a) ^ t)
  generalize (10 ^ d) ^ t = W at *
  generalize (10 ^ d - a) ^ t = M at *
  generalize 10 ^ d = C at *
  have k1 : (W - M) * C ≤ W * C := Nat.mul_le_mul_right _ le
  have k2 : (W - M) * C ≤ t * a * W := by
    rw [Nat.sub_mul]
    omega
  by_cases c : C ≤ t * a
  · rw [Nat.min_eq_left c, Nat.mul_comm C]
    exact k1
  · rw [Nat.min_eq_right (by omega)]
    exact k2
theorem le_fr_more {d a t : Nat} (hb : 4 * d * (t + 1) ≤ 13000) : F__law_at_most [fr d a t, fr d a (t + 1)] = .ok (.bl true) := by
  unfold fr
  have hb' : 4 * d * t ≤ 13000 := Nat.le_trans (Nat.mul_le_mul_left _ (by omega)) hb
  rw [at_most_eq (szF hb') (szF hb), decide_eq_true]
  exact fresh_more (Nat.sub_le _ _) t
theorem le_fr_long {d a t : Nat} (ha : a ≤ 10 ^ d) (hb : 4 * (d + 1) * t ≤ 13000) : F__law_at_most [fr (d + 1) a t, fr d a t] = .ok (.bl true) := by
  unfold fr
  have hb' : 4 * d * t ≤ 13000 := Nat.le_trans (Nat.mul_le_mul_right _ (by omega)) hb
  rw [at_most_eq (szF hb) (szF hb'), decide_eq_true]
  have l := fresh_longer a (10 ^ d - a) t
  have e : a + (10 ^ d - a) = 10 ^ d := by omega
  rw [e] at l
  rw [Nat.pow_succ, Nat.mul_comm (10 ^ d) 10]
  exact l
theorem le_fr_fx {d a t : Nat} (htc : t ≤ 10 ^ d) (hb : 4 * d * t ≤ 13000) : F__law_at_most [fr d a t, fx d a t] = .ok (.bl true) := by
  unfold fr fx
  rw [at_most_eq (szF hb) (szX htc hb), decide_eq_true]
  exact fresh_fixed (Nat.sub_le _ _) t
theorem le_fx_bo {d a t : Nat} (h2 : d ≤ 12) (ha : a ≤ 10 ^ d) (htc : t ≤ 10 ^ d) (hb : 4 * d * t ≤ 13000) : F__law_at_most [fx d a t, bo d a t] = .ok (.bl true) := by
  unfold fx bo
  rw [at_most_eq (szX htc hb) (szB h2), decide_eq_true]
  have u := fixed_bound a (10 ^ d - a) t
  have e : a + (10 ^ d - a) = 10 ^ d := by omega
  rw [e] at u
  generalize dn (10 ^ d) t = W at *
  generalize dn (10 ^ d - a) t = M at *
  generalize 10 ^ d = C at *
  have k1 : (W - M) * C ≤ W * C := Nat.mul_le_mul_right _ (Nat.sub_le _ _)
  have k2 : (W - M) * C ≤ t * a * W := by
    rw [Nat.sub_mul, Nat.mul_comm W, Nat.mul_comm M]
    omega
  by_cases c : C ≤ t * a
  · rw [Nat.min_eq_left c, Nat.mul_comm C]
    exact k1
  · rw [Nat.min_eq_right (by omega)]
    exact k2
theorem fx_sure {d a t : Nat} (htc : t ≤ 10 ^ d) (h : 10 ^ d - a < t) : fx d a t = .tup [.int 1, .int 1] := by
  unfold fx
  rw [dn_zero h, Nat.sub_zero, rat_self (dn_pos htc)]
theorem sm_sure {d k : Nat} (h : 10 ^ d < k) : sm d k = .tup [.int 1, .int 1] := by
  unfold sm
  rw [dn_zero h, Nat.sub_zero, rat_self (Nat.pow_pos (Nat.pow_pos (by omega)))]
theorem fr_law {d a t : Nat} (ha : a ≤ 10 ^ d) (hb : 4 * d * t ≤ 13000) : F__law_ratio [.int (((10 ^ d) ^ t : Nat) - ((10 ^ d - a) ^ t : Nat)), .int (((10 ^ d) ^ t : Nat) : Int)] = .ok (fr d a t) := by
  have := law_ratio_eq (szF (a := a) hb)
  rw [← sub_nat (Nat.pow_le_pow_left (Nat.sub_le _ _) t)] at this
  exact this
theorem fx_law {d a t : Nat} (htc : t ≤ 10 ^ d) (hb : 4 * d * t ≤ 13000) : F__law_ratio [.int ((dn (10 ^ d) t : Nat) - (dn (10 ^ d - a) t : Nat)), .int ((dn (10 ^ d) t : Nat) : Int)] = .ok (fx d a t) := by
  have := law_ratio_eq (szX (a := a) htc hb)
  rw [← sub_nat (dn_mono (Nat.sub_le _ _) t)] at this
  exact this
theorem sm_law {d k : Nat} (h2 : d ≤ 12) (hk : k ≤ 330) : F__law_ratio [.int (((10 ^ d) ^ k : Nat) - (dn (10 ^ d) k : Nat)), .int (((10 ^ d) ^ k : Nat) : Int)] = .ok (sm d k) := by
  have := law_ratio_eq (szS h2 hk)
  rw [← sub_nat (dn_le _ k)] at this
  exact this
theorem mn_law {d a : Nat} (h1 : 1 ≤ d) (h2 : d ≤ 12) (ha : a ≤ 10 ^ d) (h0 : 0 < a) : F_mean_tries [.int d, .int a] = .ok (rat (10 ^ d + 1) (a + 1)) ∧ F__law_ratio [.int ((10 ^ d : Nat) + 1), .int ((a : Int) + 1)] = .ok (rat (10 ^ d + 1) (a + 1)) := by
  refine ⟨mean_eq h1 h2 ha h0, ?_⟩
  have hb : Bn (10 ^ d) 48 := (ten_bn d).mono (by omega)
  have one : Bn 1 48 := by unfold Bn; exact Nat.one_le_two_pow
  have r := law_ratio_eq (Sz.of (a := 10 ^ d + 1) (d := a + 1) (by omega) ((hb.add one).mono (by omega)) (((hb.le ha).add one).mono (by omega)))
  rw [show (((10 ^ d + 1 : Nat)) : Int) = ((10 ^ d : Nat) : Int) + 1 by omega, show (((a + 1 : Nat)) : Int) = (a : Int) + 1 by omega] at r
  exact r
end Lw
namespace Lw
open Mi
theorem law_fixed_loop {C a t : Nat} (hC : Bn C 48) (ha : a ≤ C) (ht : t ≤ C) (ht2 : t ≤ 2000) (s0 s1 s2 s3 s4 s5 s6 s8 s9 s10 s11 s12 s13 s14 s16 s18 : Sl) :
    ∃ x, forF (gN 11) b_law_0 (rangeD 0 t) [s0, s1, s2, s3, s4, s5, s6, .val (.int C), s8, s9, s10, s11, s12, s13, s14, .val (.int a), s16, .val (.int 1), s18, .val (.int 1)] =
      .ok (.nx [s0, s1, s2, s3, s4, s5, s6, .val (.int C), s8, s9, s10, x, s12, s13, s14, .val (.int a), s16, .val (.int ((dn C t : Nat) : Int)), s18, .val (.int ((dn (C - a) t : Nat) : Int))]) := by
  obtain ⟨e', h1, s', rfl⟩ := for_rng (G := gN 11) (b := b_law_0) (lo := 0) (n := t) (fun k e => ∃ s, e = [s0, s1, s2, s3, s4, s5, s6, .val (.int C), s8, s9, s10, s, s12, s13, s14, .val (.int a), s16, .val (.int ((dn C k : Nat) : Int)), s18, .val (.int ((dn (C - a) k : Nat) : Int))]) ⟨s11, rfl⟩ fun j e hj ⟨s, he⟩ => by
    subst he
    refine ⟨_, _, rfl, ?_, .val (.int (0 + j)), rfl⟩
    have b1 := ((dn_bn (hC.le (Nat.sub_le C a)) j).mono (Nat.mul_le_mul_left 48 (show j ≤ 2000 by omega))).bd
    have b2 := ((dn_bn hC j).mono (Nat.mul_le_mul_left 48 (show j ≤ 2000 by omega))).bd
    have m1 := mul_ok b1 ((hC.le (Nat.le_trans (Nat.sub_le (C - a) j) (Nat.sub_le C a))).bd) (by omega)
    have m2 := mul_ok b2 ((hC.le (Nat.sub_le C j)).bd) (by omega)
    have x1 := max_nat2 C a j ha
    have x2 := sub_nat (show j ≤ C by omega)
    rw [dn, dn, Int.natCast_mul, Int.natCast_mul]
    as_aux_lemma =>
      simp only [b_law_0, seq_ap, Mi.mi0, Mi.mi1, Mi.mi2, Mi.mi3, Mi.mi4, Mi.mi5, Mi.mo0, Mi.mo1, Mi.mo2, Mi.mo3, Mi.mo8, Bool.false_eq_true, Mi.mo9, Nat.reduceAdd, Nat.reduceSub, Nat.reduceLeDiff, Nat.reduceLT, Nat.reduceEqDiff, Mi.mt0, List.getElem?_cons_zero, List.getElem?_cons_succ, List.set_cons_zero, List.set_cons_succ, List.map_cons, List.map_nil, List.length_cons, List.length_nil, List.nil_append, List.cons_append, List.append_nil, List.replicate_succ, List.replicate_zero, lim_v, reduceIte, decide_true, decide_false, Bool.not_true, Bool.not_false, Option.bind_some, lstOf, Mi.par2, Mi.par3, eq_self, and_self, Int.zero_add, x1, m1, x2, m2]
  exact ⟨s', h1⟩
theorem law_same_loop {C k : Nat} (hC : Bn C 48) (hk : k ≤ 2000) (s0 s1 s2 s3 s4 s5 s6 s8 s9 s10 s11 s12 s13 s14 s15 s18 s19 : Sl) :
    ∃ x, forF (gN 13) b_law_1 (rangeD 0 k) [s0, s1, s2, s3, s4, s5, s6, .val (.int C), s8, s9, s10, s11, s12, s13, s14, s15, .val (.int 1), .val (.int 1), s18, s19] =
      .ok (.nx [s0, s1, s2, s3, s4, s5, s6, .val (.int C), s8, s9, s10, s11, s12, x, s14, s15, .val (.int ((dn C k : Nat) : Int)), .val (.int ((C ^ k : Nat) : Int)), s18, s19]) := by
  obtain ⟨e', h1, s', rfl⟩ := for_rng (G := gN 13) (b := b_law_1) (lo := 0) (n := k) (fun i e => ∃ s, e = [s0, s1, s2, s3, s4, s5, s6, .val (.int C), s8, s9, s10, s11, s12, s, s14, s15, .val (.int ((dn C i : Nat) : Int)), .val (.int ((C ^ i : Nat) : Int)), s18, s19]) ⟨s13, rfl⟩ fun j e hj ⟨s, he⟩ => by
    subst he
    refine ⟨_, _, rfl, ?_, .val (.int (0 + j)), rfl⟩
    have b1 := ((dn_bn hC j).mono (Nat.mul_le_mul_left 48 (show j ≤ 2000 by omega))).bd
    have b2 := ((hC.pow j).mono (Nat.mul_le_mul_left 48 (show j ≤ 2000 by omega))).bd
    have m1 := mul_ok b1 ((hC.le (Nat.sub_le C j)).bd) (by omega)
    have m2 := mul_ok b2 hC.bd (by omega)
    have x1 := max_nat1 C j
    rw [dn, Nat.pow_succ, Int.natCast_mul, Int.natCast_mul]
    as_aux_lemma =>
      simp only [b_law_1, seq_ap, Mi.mi0, Mi.mi1, Mi.mi2, Mi.mi3, Mi.mi4, Mi.mi5, Mi.mo0, Mi.mo1, Mi.mo2, Mi.mo3, Mi.mo8, Bool.false_eq_true, Mi.mo9, Nat.reduceAdd, Nat.reduceSub, Nat.reduceLeDiff, Nat.reduceLT, Nat.reduceEqDiff, Mi.mt0, List.getElem?_cons_zero, List.getElem?_cons_succ, List.set_cons_zero, List.set_cons_succ, List.map_cons, List.map_nil, List.length_cons, List.length_nil, List.nil_append, List.cons_append, List.append_nil, List.replicate_succ, List.replicate_zero, lim_v, reduceIte, decide_true, decide_false, Bool.not_true, Bool.not_false, Option.bind_some, lstOf, Mi.par2, Mi.par3, eq_self, and_self, Int.zero_add, x1, m1, m2]
  exact ⟨s', h1⟩
def Inv (s0 s3 : Sl) (e : En) : Prop := ∃ (ms : List Int) (s2 s4 s5 s6 s7 s8 s9 s10 s11 s12 s13 s14 s15 s16 s17 s18 s19 : Sl), e = [s0, .own (ms.map D.int), s2, s3, s4, s5, s6, s7, s8, s9, s10, s11, s12, s13, s14, s15, s16, s17, s18, s19]
theorem acc_of {C : Nat} {r2 : Int} {acc : D} (h10 : 10 ≤ C) (r0 : 0 ≤ r2) (h : acc ∈ [D.int 1, .int 3, .int (if 21 < (C : Int) then 21 else C), .int (if r2 < (C : Int) then r2 else C)]) : ∃ a : Nat, acc = .int (a : Int) ∧ a ≤ C := by
  simp only [List.mem_cons, List.mem_nil_iff, or_false] at h
  rcases h with rfl | rfl | rfl | rfl
  · exact ⟨1, rfl, by omega⟩
  · exact ⟨3, rfl, by omega⟩
  · refine ⟨min 21 C, ?_, by omega⟩
    congr 1
    split <;> omega
  · refine ⟨(if r2 < (C : Int) then r2 else C).toNat, ?_, ?_⟩
    · congr 1
      split <;> omega
    · split <;> omega
end Lw
set_option maxHeartbeats 1000000
namespace Lw
open Mi
theorem turn_ok {s0 s3 : Sl} {j : Int} {e : En} (h : Inv s0 s3 e) : Go b_law_2 (e.set 2 (.val (.int j))) (Inv s0 s3) := by
  obtain ⟨ms, s2, s4, s5, s6, s7, s8, s9, s10, s11, s12, s13, s14, s15, s16, s17, s18, s19, rfl⟩ := h
  obtain ⟨r1, m1, h1, r10, r11⟩ := take_ok ms (b := 12) (by omega)
  obtain ⟨d, hd⟩ : ∃ d : Nat, 1 + r1 = (d : Int) := ⟨(1 + r1).toNat, by omega⟩
  have d1 : 1 ≤ d := by omega
  have d2 : d ≤ 12 := by omega
  have p0 : F__law_power [.int 10, .int (d : Int)] = .ok (.int ((10 ^ d : Nat) : Int)) := law_power_nat (x := 10) (n := d) (a := 4) (by unfold Bn; decide) (by omega) (by omega) (by omega)
  have C10 : 10 ≤ 10 ^ d := Nat.le_trans (by omega) (Nat.pow_le_pow_right (n := 10) (by omega) d1)
  obtain ⟨r2, m2, h2, r20, r21⟩ := take_ok m1 (b := 100000) (by omega)
  obtain ⟨acc, m3, h3, i3⟩ := pick_ok m2 (ds := [D.int 1, .int 3, .int (if 21 < ((10 ^ d : Nat) : Int) then 21 else ((10 ^ d : Nat) : Int)), .int (if r2 < ((10 ^ d : Nat) : Int) then r2 else ((10 ^ d : Nat) : Int))]) (by simp)
  obtain ⟨a, rfl, ha⟩ := acc_of C10 r20 i3
  obtain ⟨bb, m4, h4, i4⟩ := pick_ok m3 (ds := [D.int 30, .int 200, .int 700]) (by simp)
  obtain ⟨b, rfl, b0, b1⟩ : ∃ b : Int, bb = .int b ∧ 0 < b ∧ b ≤ 700 := by
    simp only [List.mem_cons, List.mem_nil_iff, or_false] at i4
    rcases i4 with rfl | rfl | rfl <;> exact ⟨_, rfl, by omega, by omega⟩
  obtain ⟨r5, m5, h5, r50, r51⟩ := take_ok m4 (b := b) b0
  have dv : divXOk 1500 (d : Int) = true := div_ok (by omega) (.inr ((Bd.small (x := 1500) (by omega) (by omega)).mono (by omega)))
  obtain ⟨t, ht, t1, t2⟩ : ∃ t : Nat, (if 1500 / (d : Int) < r5 then 1500 / (d : Int) else r5) = (t : Int) ∧ t ≤ 700 ∧ d * t ≤ 1500 := by
    have e : (1500 : Int) / (d : Int) = ((1500 / d : Nat) : Int) := rfl
    rw [e]
    have le : ∀ x, x ≤ 1500 / d → d * x ≤ 1500 := fun x hx => by
      rw [Nat.mul_comm]
      exact (Nat.le_div_iff_mul_le (by omega)).1 hx
    generalize 1500 / d = g at *
    refine ⟨(if ((g : Nat) : Int) < r5 then ((g : Nat) : Int) else r5).toNat, ?_, ?_, le _ ?_⟩ <;> (split <;> omega)
  obtain ⟨k', m6, h6, k0, k1⟩ := take_ok m5 (b := 300) (by omega)
  obtain ⟨k, rfl⟩ : ∃ k : Nat, k' = (k : Int) := ⟨k'.toNat, by omega⟩
  have hk : k ≤ 330 := by omega
  have B0 : 4 * d * t ≤ 6000 := by rw [Nat.mul_assoc]; omega
  have B1 : 4 * d * (t + 1) ≤ 13000 := by rw [Nat.mul_add]; omega
  have B2 : 4 * (d + 1) * t ≤ 13000 := by rw [Nat.mul_add, Nat.add_mul]; omega
  have B : 4 * d * t ≤ 13000 := by omega
  have f1 := fr_hit (a := a) d1 d2 (show t ≤ 2000 by omega) ha B
  have C4 : Bn (10 ^ d) 48 := (c40 d2).mono (by omega)
  have p1 := law_power_nat (n := t) (ten_bn d) (by omega) (show 4 * d * t < 90000000 by omega) (by omega)
  have p2 := law_power_nat (n := t) ((ten_bn d).le (Nat.sub_le (10 ^ d) a)) (by omega) (show 4 * d * t < 90000000 by omega) (by omega)
  have sb := sub_nat ha
  have f2 := fr_law (a := a) (t := t) ha B
  have sr := same_rat
  have f3 := bo_hit (a := a) d1 d2 (show t ≤ 2000 by omega) ha
  have f4 := le_fr_bo d2 ha B
  have f5 : F_fresh_hit [.int (d : Int), .int (a : Int), .int ((t : Int) + 1)] = .ok (fr d a (t + 1)) := fr_hit (a := a) d1 d2 (show t + 1 ≤ 2000 by omega) ha B1
  have f6 := le_fr_more (a := a) B1
  have f7 : decide ((d : Int) < 12) = false ∨ decide ((d : Int) < 12) = true ∧ F_fresh_hit [.int ((d : Int) + 1), .int (a : Int), .int (t : Int)] = .ok (fr (d + 1) a t) := by
    by_cases c : (d : Int) < 12
    · exact .inr ⟨decide_eq_true c, fr_hit (a := a) (d := d + 1) (by omega) (by omega) (show t ≤ 2000 by omega) (Nat.le_trans ha (Nat.pow_le_pow_right (by omega) (by omega))) B2⟩
    · exact .inl (decide_eq_false c)
  have f8 := le_fr_long ha B2
  have s1 := same_rat ((10 ^ d) ^ t - (10 ^ d - a) ^ t) ((10 ^ d) ^ t)
  obtain ⟨rl, g1, g2⟩ := sum_less (szF (d := d) (a := a) (t := t) B) (Nat.sub_le _ _) ((((ten_bn d).pow t).mono B0).mono (by omega))
  have g3 := product_zero (szB (a := a) (t := t) d2) ((c40 d2).mono (by omega))
  have y1 : F__law_same 4 [.tup [.int 1, .int 1], .tup [.int 1, .int 1]] = .ok (.bl true) := same_pair 2 1 1
  have y2 := ne_self01
  have ks1 := sm_hit d1 d2 hk
  have ks2 := sm_law d2 hk
  have s2 := same_rat ((10 ^ d) ^ k - dn (10 ^ d) k) ((10 ^ d) ^ k)
  have hkk : k ≤ 2000 := by omega
  have l1 := fun a0 a1 a2 a3 a4 a5 a6 a8 a9 a10 a11 a12 a13 a14 a15 a18 a19 => law_same_loop (k := k) C4 hkk a0 a1 a2 a3 a4 a5 a6 a8 a9 a10 a11 a12 a13 a14 a15 a18 a19
  have n1 := ne_self11
  have fixed : t ≤ 10 ^ d → F_fixed_hit [.int d, .int a, .int t] = .ok (fx d a t) ∧ F__law_ratio [.int ((dn (10 ^ d) t : Nat) - (dn (10 ^ d - a) t : Nat)), .int ((dn (10 ^ d) t : Nat) : Int)] = .ok (fx d a t) ∧
      F__law_at_most [fr d a t, fx d a t] = .ok (.bl true) ∧ F__law_at_most [fx d a t, bo d a t] = .ok (.bl true) ∧ F__law_same 4 [fx d a t, fx d a t] = .ok (.bl true) ∧
      (decide ((((10 ^ d : Nat) : Int) - (a : Int)) < (t : Int)) = false ∨ fx d a t = .tup [.int 1, .int 1]) := fun c =>
    ⟨fx_hit d1 d2 (by omega) ha c B, fx_law c B, le_fr_fx c B, le_fx_bo d2 ha c B, same_rat _ _, by
      by_cases c2 : 10 ^ d - a < t
      · exact .inr (fx_sure c c2)
      · exact .inl (decide_eq_false (by omega))⟩
  have same2 : decide (((10 ^ d : Nat) : Int) < (k : Int)) = false ∨ sm d k = .tup [.int 1, .int 1] := by
    by_cases c2 : 10 ^ d < k
    · exact .inr (sm_sure c2)
    · exact .inl (decide_eq_false (by omega))
  have lx := fun c a0 a1 a2 a3 a4 a5 a6 a8 a9 a10 a11 a12 a13 a14 a16 a18 => law_fixed_loop (t := t) C4 ha c (by omega) a0 a1 a2 a3 a4 a5 a6 a8 a9 a10 a11 a12 a13 a14 a16 a18
  have mean : decide ((0 : Int) < (a : Int)) = false ∨ ∃ v, F_mean_tries [.int d, .int a] = .ok v ∧ F__law_ratio [.int ((10 ^ d : Nat) + 1), .int ((a : Int) + 1)] = .ok v ∧ gNe v v = some (.bl false) := by
    by_cases c2 : 0 < a
    · obtain ⟨u1, u2⟩ := mn_law d1 d2 ha c2
      exact .inr ⟨_, u1, u2, ne_self_rat _ _⟩
    · exact .inl (decide_eq_false (by omega))
  have tr6 := r62_of (show (0 : Int) ≤ (t : Int) by omega) (by omega)
  have kr6 := r62_of (show (0 : Int) ≤ (k : Int) by omega) (by omega)
  change Go b_law_2 [s0, .own (ms.map D.int), .val (.int j), s3, s4, s5, s6, s7, s8, s9, s10, s11, s12, s13, s14, s15, s16, s17, s18, s19] _
  unfold Inv
  unfold b_law_2
  have io := intsOf_map
  change F__law_same 4 [fr d a t, fr d a t] = _ at s1
  change F__law_same 4 [sm d k, sm d k] = _ at s2
  change F_less_of [_, fr d a t] = _ at g1
  change F_sum_of [fr d a t, _] = _ at g2
  change F_product_of [bo d a t, _] = _ at g3
  generalize F__law_take = q0 at *
  generalize F__law_pick = q1 at *
  generalize F__law_power = q2 at *
  generalize F__law_ratio = q3 at *
  generalize F__law_at_most = q4 at *
  generalize F_fresh_hit = q5 at *
  generalize F_bound_hit = q6 at *
  generalize F_fixed_hit = q7 at *
  generalize F_sum_of = q8 at *
  generalize F_less_of = q9 at *
  generalize F_product_of = q10 at *
  generalize F_same_code = q11 at *
  generalize F_mean_tries = q12 at *
  generalize b_law_0 = q13 at *
  generalize b_law_1 = q14 at *
  generalize F__law_same 4 = qs at *
  generalize fr d a t = v1 at *
  generalize fr d a (t + 1) = v2 at *
  generalize fr (d + 1) a t = v3 at *
  generalize bo d a t = v4 at *
  generalize sm d k = v5 at *
  refine Go.seq (Go.of (e' := [s0, .own (m1.map D.int), .val (.int j), s3, .val (.int (d : Int)), s5, s6, s7, s8, s9, s10, s11, s12, s13, s14, s15, s16, s17, s18, s19]) ?_ ?_)
  · as_aux_lemma =>
      simp only [seq_ap, Mi.mi0, Mi.mi1, Mi.mi2, Mi.mi3, Mi.mi4, Mi.mi5, Mi.mo0, Mi.mo1, Mi.mo2, Mi.mo3, Mi.mo8, Bool.false_eq_true, Mi.mo9, Nat.reduceAdd, Nat.reduceSub, Nat.reduceLeDiff, Nat.reduceLT, Nat.reduceEqDiff, Mi.mt0, List.getElem?_cons_zero, List.getElem?_cons_succ, List.set_cons_zero, List.set_cons_succ, List.map_cons, List.map_nil, List.length_cons, List.length_nil, List.nil_append, List.cons_append, List.append_nil, List.replicate_succ, List.replicate_zero, lim_v, reduceIte, decide_true, decide_false, Bool.not_true, Bool.not_false, Option.bind_some, lstOf, Mi.par2, Mi.par3, eq_self, and_self, eCallB, io, h1, hd, Sl.turn]
  refine Go.seq (Go.of (e' := [s0, .own (m1.map D.int), .val (.int j), s3, .val (.int (d : Int)), s5, s6, .val (.int ((10 ^ d : Nat) : Int)), s8, s9, s10, s11, s12, s13, s14, s15, s16, s17, s18, s19]) ?_ ?_)
  · as_aux_lemma =>
      simp only [seq_ap, Mi.mi0, Mi.mi1, Mi.mi2, Mi.mi3, Mi.mi4, Mi.mi5, Mi.mo0, Mi.mo1, Mi.mo2, Mi.mo3, Mi.mo8, Bool.false_eq_true, Mi.mo9, Nat.reduceAdd, Nat.reduceSub, Nat.reduceLeDiff, Nat.reduceLT, Nat.reduceEqDiff, Mi.mt0, List.getElem?_cons_zero, List.getElem?_cons_succ, List.set_cons_zero, List.set_cons_succ, List.map_cons, List.map_nil, List.length_cons, List.length_nil, List.nil_append, List.cons_append, List.append_nil, List.replicate_succ, List.replicate_zero, lim_v, reduceIte, decide_true, decide_false, Bool.not_true, Bool.not_false, Option.bind_some, lstOf, Mi.par2, Mi.par3, eq_self, and_self, p0]
  refine Go.seq (Go.of (e' := [s0, .own (m5.map D.int), .val (.int j), s3, .val (.int (d : Int)), s5, s6, .val (.int ((10 ^ d : Nat) : Int)), .val (.int r5), s9, s10, s11, s12, s13, s14, .val (.int (a : Int)), s16, s17, s18, s19]) ?_ ?_)
  · as_aux_lemma =>
      simp only [seq_ap, Mi.mi0, Mi.mi1, Mi.mi2, Mi.mi3, Mi.mi4, Mi.mi5, Mi.mo0, Mi.mo1, Mi.mo2, Mi.mo3, Mi.mo8, Bool.false_eq_true, Mi.mo9, Nat.reduceAdd, Nat.reduceSub, Nat.reduceLeDiff, Nat.reduceLT, Nat.reduceEqDiff, Mi.mt0, List.getElem?_cons_zero, List.getElem?_cons_succ, List.set_cons_zero, List.set_cons_succ, List.map_cons, List.map_nil, List.length_cons, List.length_nil, List.nil_append, List.cons_append, List.append_nil, List.replicate_succ, List.replicate_zero, lim_v, reduceIte, decide_true, decide_false, Bool.not_true, Bool.not_false, Option.bind_some, lstOf, Mi.par2, Mi.par3, eq_self, and_self, eCallB, io, h2, h3, h4, h5, Sl.turn]
  refine Go.seq (Go.of (e' := [s0, .own (m5.map D.int), .val (.int j), s3, .val (.int (d : Int)), s5, s6, .val (.int ((10 ^ d : Nat) : Int)), .val (.int (t : Int)), s9, s10, s11, s12, s13, s14, .val (.int (a : Int)), s16, s17, s18, s19]) ?_ ?_)
  · as_aux_lemma =>
      simp only [seq_ap, Mi.mi0, Mi.mi1, Mi.mi2, Mi.mi3, Mi.mi4, Mi.mi5, Mi.mo0, Mi.mo1, Mi.mo2, Mi.mo3, Mi.mo8, Bool.false_eq_true, Mi.mo9, Nat.reduceAdd, Nat.reduceSub, Nat.reduceLeDiff, Nat.reduceLT, Nat.reduceEqDiff, Mi.mt0, List.getElem?_cons_zero, List.getElem?_cons_succ, List.set_cons_zero, List.set_cons_succ, List.map_cons, List.map_nil, List.length_cons, List.length_nil, List.nil_append, List.cons_append, List.append_nil, List.replicate_succ, List.replicate_zero, lim_v, reduceIte, decide_true, decide_false, Bool.not_true, Bool.not_false, Option.bind_some, lstOf, Mi.par2, Mi.par3, eq_self, and_self, dv, ht]
  refine Go.seq (Go.of (e' := [s0, .own (m5.map D.int), .val (.int j), s3, .val (.int (d : Int)), s5, s6, .val (.int ((10 ^ d : Nat) : Int)), .val (.int (t : Int)), .val v1, s10, s11, s12, s13, s14, .val (.int (a : Int)), s16, s17, s18, s19]) ?_ ?_)
  · as_aux_lemma =>
      simp only [seq_ap, Mi.mi0, Mi.mi1, Mi.mi2, Mi.mi3, Mi.mi4, Mi.mi5, Mi.mo0, Mi.mo1, Mi.mo2, Mi.mo3, Mi.mo8, Bool.false_eq_true, Mi.mo9, Nat.reduceAdd, Nat.reduceSub, Nat.reduceLeDiff, Nat.reduceLT, Nat.reduceEqDiff, Mi.mt0, List.getElem?_cons_zero, List.getElem?_cons_succ, List.set_cons_zero, List.set_cons_succ, List.map_cons, List.map_nil, List.length_cons, List.length_nil, List.nil_append, List.cons_append, List.append_nil, List.replicate_succ, List.replicate_zero, lim_v, reduceIte, decide_true, decide_false, Bool.not_true, Bool.not_false, Option.bind_some, lstOf, Mi.par2, Mi.par3, eq_self, and_self, f1]
  refine Go.seq (Go.ifF (e1 := [s0, .own (m5.map D.int), .val (.int j), s3, .val (.int (d : Int)), s5, s6, .val (.int ((10 ^ d : Nat) : Int)), .val (.int (t : Int)), .val v1, s10, s11, s12, s13, s14, .val (.int (a : Int)), s16, s17, s18, s19]) ?_ (Go.nx ?_))
  · as_aux_lemma =>
      simp only [seq_ap, Mi.mi0, Mi.mi1, Mi.mi2, Mi.mi3, Mi.mi4, Mi.mi5, Mi.mo0, Mi.mo1, Mi.mo2, Mi.mo3, Mi.mo8, Bool.false_eq_true, Mi.mo9, Nat.reduceAdd, Nat.reduceSub, Nat.reduceLeDiff, Nat.reduceLT, Nat.reduceEqDiff, Mi.mt0, List.getElem?_cons_zero, List.getElem?_cons_succ, List.set_cons_zero, List.set_cons_succ, List.map_cons, List.map_nil, List.length_cons, List.length_nil, List.nil_append, List.cons_append, List.append_nil, List.replicate_succ, List.replicate_zero, lim_v, reduceIte, decide_true, decide_false, Bool.not_true, Bool.not_false, Option.bind_some, lstOf, Mi.par2, Mi.par3, eq_self, and_self, p1, p2, sb, f2, s1]
  refine Go.seq (Go.of (e' := [s0, .own (m5.map D.int), .val (.int j), s3, .val (.int (d : Int)), s5, s6, .val (.int ((10 ^ d : Nat) : Int)), .val (.int (t : Int)), .val v1, .val v4, s11, s12, s13, s14, .val (.int (a : Int)), s16, s17, s18, s19]) ?_ ?_)
  · as_aux_lemma =>
      simp only [seq_ap, Mi.mi0, Mi.mi1, Mi.mi2, Mi.mi3, Mi.mi4, Mi.mi5, Mi.mo0, Mi.mo1, Mi.mo2, Mi.mo3, Mi.mo8, Bool.false_eq_true, Mi.mo9, Nat.reduceAdd, Nat.reduceSub, Nat.reduceLeDiff, Nat.reduceLT, Nat.reduceEqDiff, Mi.mt0, List.getElem?_cons_zero, List.getElem?_cons_succ, List.set_cons_zero, List.set_cons_succ, List.map_cons, List.map_nil, List.length_cons, List.length_nil, List.nil_append, List.cons_append, List.append_nil, List.replicate_succ, List.replicate_zero, lim_v, reduceIte, decide_true, decide_false, Bool.not_true, Bool.not_false, Option.bind_some, lstOf, Mi.par2, Mi.par3, eq_self, and_self, f3]
  refine Go.seq (Go.ifF (e1 := [s0, .own (m5.map D.int), .val (.int j), s3, .val (.int (d : Int)), s5, s6, .val (.int ((10 ^ d : Nat) : Int)), .val (.int (t : Int)), .val v1, .val v4, s11, s12, s13, s14, .val (.int (a : Int)), s16, s17, s18, s19]) ?_ (Go.nx ?_))
  · rcases f7 with c7 | ⟨c7, f7⟩
    · as_aux_lemma =>
        simp only [seq_ap, Mi.mi0, Mi.mi1, Mi.mi2, Mi.mi3, Mi.mi4, Mi.mi5, Mi.mo0, Mi.mo1, Mi.mo2, Mi.mo3, Mi.mo8, Bool.false_eq_true, Mi.mo9, Nat.reduceAdd, Nat.reduceSub, Nat.reduceLeDiff, Nat.reduceLT, Nat.reduceEqDiff, Mi.mt0, List.getElem?_cons_zero, List.getElem?_cons_succ, List.set_cons_zero, List.set_cons_succ, List.map_cons, List.map_nil, List.length_cons, List.length_nil, List.nil_append, List.cons_append, List.append_nil, List.replicate_succ, List.replicate_zero, lim_v, reduceIte, decide_true, decide_false, Bool.not_true, Bool.not_false, Option.bind_some, lstOf, Mi.par2, Mi.par3, eq_self, and_self, f4, f5, f6, c7]
    · as_aux_lemma =>
        simp only [seq_ap, Mi.mi0, Mi.mi1, Mi.mi2, Mi.mi3, Mi.mi4, Mi.mi5, Mi.mo0, Mi.mo1, Mi.mo2, Mi.mo3, Mi.mo8, Bool.false_eq_true, Mi.mo9, Nat.reduceAdd, Nat.reduceSub, Nat.reduceLeDiff, Nat.reduceLT, Nat.reduceEqDiff, Mi.mt0, List.getElem?_cons_zero, List.getElem?_cons_succ, List.set_cons_zero, List.set_cons_succ, List.map_cons, List.map_nil, List.length_cons, List.length_nil, List.nil_append, List.cons_append, List.append_nil, List.replicate_succ, List.replicate_zero, lim_v, reduceIte, decide_true, decide_false, Bool.not_true, Bool.not_false, Option.bind_some, lstOf, Mi.par2, Mi.par3, eq_self, and_self, f4, f5, f6, c7, f7, f8]
  refine Go.seq (Go.mono (Q := fun e => ∃ x11 x17 x18 x19 : Sl, e = [s0, .own (m5.map D.int), .val (.int j), s3, .val (.int (d : Int)), s5, s6, .val (.int ((10 ^ d : Nat) : Int)), .val (.int (t : Int)), .val v1, .val v4, x11, s12, s13, s14, .val (.int (a : Int)), s16, x17, x18, x19]) ?_ ?_)
  · by_cases c : t ≤ 10 ^ d
    · have cd : decide ((t : Int) ≤ ((10 ^ d : Nat) : Int)) = true := decide_eq_true (Int.ofNat_le.2 c)
      obtain ⟨x1, x2, x3, x4, x5, x6⟩ := fixed c
      refine Go.ifT (e1 := [s0, .own (m5.map D.int), .val (.int j), s3, .val (.int (d : Int)), s5, s6, .val (.int ((10 ^ d : Nat) : Int)), .val (.int (t : Int)), .val v1, .val v4, s11, s12, s13, s14, .val (.int (a : Int)), s16, s17, s18, s19]) ?_ ?_
      · as_aux_lemma =>
          simp only [seq_ap, Mi.mi0, Mi.mi1, Mi.mi2, Mi.mi3, Mi.mi4, Mi.mi5, Mi.mo0, Mi.mo1, Mi.mo2, Mi.mo3, Mi.mo8, Bool.false_eq_true, Mi.mo9, Nat.reduceAdd, Nat.reduceSub, Nat.reduceLeDiff, Nat.reduceLT, Nat.reduceEqDiff, Mi.mt0, List.getElem?_cons_zero, List.getElem?_cons_succ, List.set_cons_zero, List.set_cons_succ, List.map_cons, List.map_nil, List.length_cons, List.length_nil, List.nil_append, List.cons_append, List.append_nil, List.replicate_succ, List.replicate_zero, lim_v, reduceIte, decide_true, decide_false, Bool.not_true, Bool.not_false, Option.bind_some, lstOf, Mi.par2, Mi.par3, eq_self, and_self, cd]
      refine Go.seq (Go.of (e' := [s0, .own (m5.map D.int), .val (.int j), s3, .val (.int (d : Int)), s5, s6, .val (.int ((10 ^ d : Nat) : Int)), .val (.int (t : Int)), .val v1, .val v4, s11, s12, s13, s14, .val (.int (a : Int)), s16, .val (.int 1), .val (fx d a t), .val (.int 1)]) ?_ ?_)
      · as_aux_lemma =>
          simp only [seq_ap, Mi.mi0, Mi.mi1, Mi.mi2, Mi.mi3, Mi.mi4, Mi.mi5, Mi.mo0, Mi.mo1, Mi.mo2, Mi.mo3, Mi.mo8, Bool.false_eq_true, Mi.mo9, Nat.reduceAdd, Nat.reduceSub, Nat.reduceLeDiff, Nat.reduceLT, Nat.reduceEqDiff, Mi.mt0, List.getElem?_cons_zero, List.getElem?_cons_succ, List.set_cons_zero, List.set_cons_succ, List.map_cons, List.map_nil, List.length_cons, List.length_nil, List.nil_append, List.cons_append, List.append_nil, List.replicate_succ, List.replicate_zero, lim_v, reduceIte, decide_true, decide_false, Bool.not_true, Bool.not_false, Option.bind_some, lstOf, Mi.par2, Mi.par3, eq_self, and_self, x1]
      obtain ⟨z11, lx⟩ := lx c s0 (.own (m5.map D.int)) (.val (.int j)) s3 (.val (.int (d : Int))) s5 s6 (.val (.int (t : Int))) (.val v1) (.val v4) s11 s12 s13 s14 s16 (.val (fx d a t))
      generalize fx d a t = v6 at *
      refine Go.seq (Go.of (e' := [s0, .own (m5.map D.int), .val (.int j), s3, .val (.int (d : Int)), s5, s6, .val (.int ((10 ^ d : Nat) : Int)), .val (.int (t : Int)), .val v1, .val v4, z11, s12, s13, s14, .val (.int (a : Int)), s16, .val (.int ((dn (10 ^ d) t : Nat) : Int)), .val v6, .val (.int ((dn (10 ^ d - a) t : Nat) : Int))]) ?_ ?_)
      · as_aux_lemma =>
          simp only [seq_ap, Mi.mi0, Mi.mi1, Mi.mi2, Mi.mi3, Mi.mi4, Mi.mi5, Mi.mo0, Mi.mo1, Mi.mo2, Mi.mo3, Mi.mo8, Bool.false_eq_true, Mi.mo9, Nat.reduceAdd, Nat.reduceSub, Nat.reduceLeDiff, Nat.reduceLT, Nat.reduceEqDiff, Mi.mt0, List.getElem?_cons_zero, List.getElem?_cons_succ, List.set_cons_zero, List.set_cons_succ, List.map_cons, List.map_nil, List.length_cons, List.length_nil, List.nil_append, List.cons_append, List.append_nil, List.replicate_succ, List.replicate_zero, lim_v, reduceIte, decide_true, decide_false, Bool.not_true, Bool.not_false, Option.bind_some, lstOf, Mi.par2, Mi.par3, eq_self, and_self, tr6, Int.toNat_natCast, lx]
      refine Go.seq (Go.ifF (e1 := [s0, .own (m5.map D.int), .val (.int j), s3, .val (.int (d : Int)), s5, s6, .val (.int ((10 ^ d : Nat) : Int)), .val (.int (t : Int)), .val v1, .val v4, z11, s12, s13, s14, .val (.int (a : Int)), s16, .val (.int ((dn (10 ^ d) t : Nat) : Int)), .val v6, .val (.int ((dn (10 ^ d - a) t : Nat) : Int))]) ?_ (Go.nx ?_))
      · as_aux_lemma =>
          simp only [seq_ap, Mi.mi0, Mi.mi1, Mi.mi2, Mi.mi3, Mi.mi4, Mi.mi5, Mi.mo0, Mi.mo1, Mi.mo2, Mi.mo3, Mi.mo8, Bool.false_eq_true, Mi.mo9, Nat.reduceAdd, Nat.reduceSub, Nat.reduceLeDiff, Nat.reduceLT, Nat.reduceEqDiff, Mi.mt0, List.getElem?_cons_zero, List.getElem?_cons_succ, List.set_cons_zero, List.set_cons_succ, List.map_cons, List.map_nil, List.length_cons, List.length_nil, List.nil_append, List.cons_append, List.append_nil, List.replicate_succ, List.replicate_zero, lim_v, reduceIte, decide_true, decide_false, Bool.not_true, Bool.not_false, Option.bind_some, lstOf, Mi.par2, Mi.par3, eq_self, and_self, x2, x5, x3, x4]
      refine (Go.ifF (e1 := [s0, .own (m5.map D.int), .val (.int j), s3, .val (.int (d : Int)), s5, s6, .val (.int ((10 ^ d : Nat) : Int)), .val (.int (t : Int)), .val v1, .val v4, z11, s12, s13, s14, .val (.int (a : Int)), s16, .val (.int ((dn (10 ^ d) t : Nat) : Int)), .val v6, .val (.int ((dn (10 ^ d - a) t : Nat) : Int))]) ?_ (Go.nx ?_))
      · rcases x6 with x6 | x6
        · as_aux_lemma =>
            simp only [seq_ap, Mi.mi0, Mi.mi1, Mi.mi2, Mi.mi3, Mi.mi4, Mi.mi5, Mi.mo0, Mi.mo1, Mi.mo2, Mi.mo3, Mi.mo8, Bool.false_eq_true, Mi.mo9, Nat.reduceAdd, Nat.reduceSub, Nat.reduceLeDiff, Nat.reduceLT, Nat.reduceEqDiff, Mi.mt0, List.getElem?_cons_zero, List.getElem?_cons_succ, List.set_cons_zero, List.set_cons_succ, List.map_cons, List.map_nil, List.length_cons, List.length_nil, List.nil_append, List.cons_append, List.append_nil, List.replicate_succ, List.replicate_zero, lim_v, reduceIte, decide_true, decide_false, Bool.not_true, Bool.not_false, Option.bind_some, lstOf, Mi.par2, Mi.par3, eq_self, and_self, x6]
        · subst x6
          by_cases c2 : (((10 ^ d : Nat) : Int) - (a : Int)) < (t : Int)
          · have c2 := decide_eq_true c2
            as_aux_lemma =>
              simp only [seq_ap, Mi.mi0, Mi.mi1, Mi.mi2, Mi.mi3, Mi.mi4, Mi.mi5, Mi.mo0, Mi.mo1, Mi.mo2, Mi.mo3, Mi.mo8, Bool.false_eq_true, Mi.mo9, Nat.reduceAdd, Nat.reduceSub, Nat.reduceLeDiff, Nat.reduceLT, Nat.reduceEqDiff, Mi.mt0, List.getElem?_cons_zero, List.getElem?_cons_succ, List.set_cons_zero, List.set_cons_succ, List.map_cons, List.map_nil, List.length_cons, List.length_nil, List.nil_append, List.cons_append, List.append_nil, List.replicate_succ, List.replicate_zero, lim_v, reduceIte, decide_true, decide_false, Bool.not_true, Bool.not_false, Option.bind_some, lstOf, Mi.par2, Mi.par3, eq_self, and_self, c2, n1]
          · have c2 := decide_eq_false c2
            as_aux_lemma =>
              simp only [seq_ap, Mi.mi0, Mi.mi1, Mi.mi2, Mi.mi3, Mi.mi4, Mi.mi5, Mi.mo0, Mi.mo1, Mi.mo2, Mi.mo3, Mi.mo8, Bool.false_eq_true, Mi.mo9, Nat.reduceAdd, Nat.reduceSub, Nat.reduceLeDiff, Nat.reduceLT, Nat.reduceEqDiff, Mi.mt0, List.getElem?_cons_zero, List.getElem?_cons_succ, List.set_cons_zero, List.set_cons_succ, List.map_cons, List.map_nil, List.length_cons, List.length_nil, List.nil_append, List.cons_append, List.append_nil, List.replicate_succ, List.replicate_zero, lim_v, reduceIte, decide_true, decide_false, Bool.not_true, Bool.not_false, Option.bind_some, lstOf, Mi.par2, Mi.par3, eq_self, and_self, c2]
      exact ⟨_, _, _, _, rfl⟩
    · have cd : decide ((t : Int) ≤ ((10 ^ d : Nat) : Int)) = false := decide_eq_false (fun h => c (Int.ofNat_le.1 h))
      refine (Go.ifF (e1 := [s0, .own (m5.map D.int), .val (.int j), s3, .val (.int (d : Int)), s5, s6, .val (.int ((10 ^ d : Nat) : Int)), .val (.int (t : Int)), .val v1, .val v4, s11, s12, s13, s14, .val (.int (a : Int)), s16, s17, s18, s19]) ?_ (Go.nx ?_))
      · as_aux_lemma =>
          simp only [seq_ap, Mi.mi0, Mi.mi1, Mi.mi2, Mi.mi3, Mi.mi4, Mi.mi5, Mi.mo0, Mi.mo1, Mi.mo2, Mi.mo3, Mi.mo8, Bool.false_eq_true, Mi.mo9, Nat.reduceAdd, Nat.reduceSub, Nat.reduceLeDiff, Nat.reduceLT, Nat.reduceEqDiff, Mi.mt0, List.getElem?_cons_zero, List.getElem?_cons_succ, List.set_cons_zero, List.set_cons_succ, List.map_cons, List.map_nil, List.length_cons, List.length_nil, List.nil_append, List.cons_append, List.append_nil, List.replicate_succ, List.replicate_zero, lim_v, reduceIte, decide_true, decide_false, Bool.not_true, Bool.not_false, Option.bind_some, lstOf, Mi.par2, Mi.par3, eq_self, and_self, cd]
      exact ⟨_, _, _, _, rfl⟩
  rintro e ⟨x11, x17, x18, x19, rfl⟩
  refine Go.seq (Go.ifF (e1 := [s0, .own (m5.map D.int), .val (.int j), s3, .val (.int (d : Int)), s5, s6, .val (.int ((10 ^ d : Nat) : Int)), .val (.int (t : Int)), .val v1, .val v4, x11, s12, s13, s14, .val (.int (a : Int)), s16, x17, x18, x19]) ?_ (Go.nx ?_))
  · as_aux_lemma =>
      simp only [seq_ap, Mi.mi0, Mi.mi1, Mi.mi2, Mi.mi3, Mi.mi4, Mi.mi5, Mi.mo0, Mi.mo1, Mi.mo2, Mi.mo3, Mi.mo8, Bool.false_eq_true, Mi.mo9, Nat.reduceAdd, Nat.reduceSub, Nat.reduceLeDiff, Nat.reduceLT, Nat.reduceEqDiff, Mi.mt0, List.getElem?_cons_zero, List.getElem?_cons_succ, List.set_cons_zero, List.set_cons_succ, List.map_cons, List.map_nil, List.length_cons, List.length_nil, List.nil_append, List.cons_append, List.append_nil, List.replicate_succ, List.replicate_zero, lim_v, reduceIte, decide_true, decide_false, Bool.not_true, Bool.not_false, Option.bind_some, lstOf, Mi.par2, Mi.par3, eq_self, and_self, g1, g2, y1, g3, y2]
  refine Go.seq (Go.of (e' := [s0, .own (m6.map D.int), .val (.int j), s3, .val (.int (d : Int)), s5, s6, .val (.int ((10 ^ d : Nat) : Int)), .val (.int (t : Int)), .val v1, .val v4, .val (.int (k : Int)), s12, s13, s14, .val (.int (a : Int)), s16, x17, x18, x19]) ?_ ?_)
  · as_aux_lemma =>
      simp only [seq_ap, Mi.mi0, Mi.mi1, Mi.mi2, Mi.mi3, Mi.mi4, Mi.mi5, Mi.mo0, Mi.mo1, Mi.mo2, Mi.mo3, Mi.mo8, Bool.false_eq_true, Mi.mo9, Nat.reduceAdd, Nat.reduceSub, Nat.reduceLeDiff, Nat.reduceLT, Nat.reduceEqDiff, Mi.mt0, List.getElem?_cons_zero, List.getElem?_cons_succ, List.set_cons_zero, List.set_cons_succ, List.map_cons, List.map_nil, List.length_cons, List.length_nil, List.nil_append, List.cons_append, List.append_nil, List.replicate_succ, List.replicate_zero, lim_v, reduceIte, decide_true, decide_false, Bool.not_true, Bool.not_false, Option.bind_some, lstOf, Mi.par2, Mi.par3, eq_self, and_self, eCallB, io, h6, Sl.turn]
  refine Go.seq (Go.of (e' := [s0, .own (m6.map D.int), .val (.int j), s3, .val (.int (d : Int)), s5, s6, .val (.int ((10 ^ d : Nat) : Int)), .val (.int (t : Int)), .val v1, .val v4, .val (.int (k : Int)), .val v5, s13, s14, .val (.int (a : Int)), s16, x17, x18, x19]) ?_ ?_)
  · as_aux_lemma =>
      simp only [seq_ap, Mi.mi0, Mi.mi1, Mi.mi2, Mi.mi3, Mi.mi4, Mi.mi5, Mi.mo0, Mi.mo1, Mi.mo2, Mi.mo3, Mi.mo8, Bool.false_eq_true, Mi.mo9, Nat.reduceAdd, Nat.reduceSub, Nat.reduceLeDiff, Nat.reduceLT, Nat.reduceEqDiff, Mi.mt0, List.getElem?_cons_zero, List.getElem?_cons_succ, List.set_cons_zero, List.set_cons_succ, List.map_cons, List.map_nil, List.length_cons, List.length_nil, List.nil_append, List.cons_append, List.append_nil, List.replicate_succ, List.replicate_zero, lim_v, reduceIte, decide_true, decide_false, Bool.not_true, Bool.not_false, Option.bind_some, lstOf, Mi.par2, Mi.par3, eq_self, and_self, ks1]
  refine Go.seq (Go.of (e' := [s0, .own (m6.map D.int), .val (.int j), s3, .val (.int (d : Int)), s5, s6, .val (.int ((10 ^ d : Nat) : Int)), .val (.int (t : Int)), .val v1, .val v4, .val (.int (k : Int)), .val v5, s13, s14, .val (.int (a : Int)), .val (.int 1), .val (.int 1), x18, x19]) ?_ ?_)
  · as_aux_lemma =>
      simp only [seq_ap, Mi.mi0, Mi.mi1, Mi.mi2, Mi.mi3, Mi.mi4, Mi.mi5, Mi.mo0, Mi.mo1, Mi.mo2, Mi.mo3, Mi.mo8, Bool.false_eq_true, Mi.mo9, Nat.reduceAdd, Nat.reduceSub, Nat.reduceLeDiff, Nat.reduceLT, Nat.reduceEqDiff, Mi.mt0, List.getElem?_cons_zero, List.getElem?_cons_succ, List.set_cons_zero, List.set_cons_succ, List.map_cons, List.map_nil, List.length_cons, List.length_nil, List.nil_append, List.cons_append, List.append_nil, List.replicate_succ, List.replicate_zero, lim_v, reduceIte, decide_true, decide_false, Bool.not_true, Bool.not_false, Option.bind_some, lstOf, Mi.par2, Mi.par3, eq_self, and_self]
  obtain ⟨z13, l1⟩ := l1 s0 (.own (m6.map D.int)) (.val (.int j)) s3 (.val (.int (d : Int))) s5 s6 (.val (.int (t : Int))) (.val v1) (.val v4) (.val (.int (k : Int))) (.val v5) s13 s14 (.val (.int (a : Int))) x18 x19
  refine Go.seq (Go.of (e' := [s0, .own (m6.map D.int), .val (.int j), s3, .val (.int (d : Int)), s5, s6, .val (.int ((10 ^ d : Nat) : Int)), .val (.int (t : Int)), .val v1, .val v4, .val (.int (k : Int)), .val v5, z13, s14, .val (.int (a : Int)), .val (.int ((dn (10 ^ d) k : Nat) : Int)), .val (.int (((10 ^ d) ^ k : Nat) : Int)), x18, x19]) ?_ ?_)
  · as_aux_lemma =>
      simp only [seq_ap, Mi.mi0, Mi.mi1, Mi.mi2, Mi.mi3, Mi.mi4, Mi.mi5, Mi.mo0, Mi.mo1, Mi.mo2, Mi.mo3, Mi.mo8, Bool.false_eq_true, Mi.mo9, Nat.reduceAdd, Nat.reduceSub, Nat.reduceLeDiff, Nat.reduceLT, Nat.reduceEqDiff, Mi.mt0, List.getElem?_cons_zero, List.getElem?_cons_succ, List.set_cons_zero, List.set_cons_succ, List.map_cons, List.map_nil, List.length_cons, List.length_nil, List.nil_append, List.cons_append, List.append_nil, List.replicate_succ, List.replicate_zero, lim_v, reduceIte, decide_true, decide_false, Bool.not_true, Bool.not_false, Option.bind_some, lstOf, Mi.par2, Mi.par3, eq_self, and_self, kr6, Int.toNat_natCast, l1]
  refine Go.seq (Go.ifF (e1 := [s0, .own (m6.map D.int), .val (.int j), s3, .val (.int (d : Int)), s5, s6, .val (.int ((10 ^ d : Nat) : Int)), .val (.int (t : Int)), .val v1, .val v4, .val (.int (k : Int)), .val v5, z13, s14, .val (.int (a : Int)), .val (.int ((dn (10 ^ d) k : Nat) : Int)), .val (.int (((10 ^ d) ^ k : Nat) : Int)), x18, x19]) ?_ (Go.nx ?_))
  · rcases same2 with c2 | rfl
    · as_aux_lemma =>
        simp only [seq_ap, Mi.mi0, Mi.mi1, Mi.mi2, Mi.mi3, Mi.mi4, Mi.mi5, Mi.mo0, Mi.mo1, Mi.mo2, Mi.mo3, Mi.mo8, Bool.false_eq_true, Mi.mo9, Nat.reduceAdd, Nat.reduceSub, Nat.reduceLeDiff, Nat.reduceLT, Nat.reduceEqDiff, Mi.mt0, List.getElem?_cons_zero, List.getElem?_cons_succ, List.set_cons_zero, List.set_cons_succ, List.map_cons, List.map_nil, List.length_cons, List.length_nil, List.nil_append, List.cons_append, List.append_nil, List.replicate_succ, List.replicate_zero, lim_v, reduceIte, decide_true, decide_false, Bool.not_true, Bool.not_false, Option.bind_some, lstOf, Mi.par2, Mi.par3, eq_self, and_self, ks2, s2, c2]
    · by_cases c2 : ((10 ^ d : Nat) : Int) < (k : Int)
      · have c2 := decide_eq_true c2
        as_aux_lemma =>
          simp only [seq_ap, Mi.mi0, Mi.mi1, Mi.mi2, Mi.mi3, Mi.mi4, Mi.mi5, Mi.mo0, Mi.mo1, Mi.mo2, Mi.mo3, Mi.mo8, Bool.false_eq_true, Mi.mo9, Nat.reduceAdd, Nat.reduceSub, Nat.reduceLeDiff, Nat.reduceLT, Nat.reduceEqDiff, Mi.mt0, List.getElem?_cons_zero, List.getElem?_cons_succ, List.set_cons_zero, List.set_cons_succ, List.map_cons, List.map_nil, List.length_cons, List.length_nil, List.nil_append, List.cons_append, List.append_nil, List.replicate_succ, List.replicate_zero, lim_v, reduceIte, decide_true, decide_false, Bool.not_true, Bool.not_false, Option.bind_some, lstOf, Mi.par2, Mi.par3, eq_self, and_self, ks2, s2, c2, n1]
      · have c2 := decide_eq_false c2
        as_aux_lemma =>
          simp only [seq_ap, Mi.mi0, Mi.mi1, Mi.mi2, Mi.mi3, Mi.mi4, Mi.mi5, Mi.mo0, Mi.mo1, Mi.mo2, Mi.mo3, Mi.mo8, Bool.false_eq_true, Mi.mo9, Nat.reduceAdd, Nat.reduceSub, Nat.reduceLeDiff, Nat.reduceLT, Nat.reduceEqDiff, Mi.mt0, List.getElem?_cons_zero, List.getElem?_cons_succ, List.set_cons_zero, List.set_cons_succ, List.map_cons, List.map_nil, List.length_cons, List.length_nil, List.nil_append, List.cons_append, List.append_nil, List.replicate_succ, List.replicate_zero, lim_v, reduceIte, decide_true, decide_false, Bool.not_true, Bool.not_false, Option.bind_some, lstOf, Mi.par2, Mi.par3, eq_self, and_self, ks2, s2, c2]
  refine (Go.ifF (e1 := [s0, .own (m6.map D.int), .val (.int j), s3, .val (.int (d : Int)), s5, s6, .val (.int ((10 ^ d : Nat) : Int)), .val (.int (t : Int)), .val v1, .val v4, .val (.int (k : Int)), .val v5, z13, s14, .val (.int (a : Int)), .val (.int ((dn (10 ^ d) k : Nat) : Int)), .val (.int (((10 ^ d) ^ k : Nat) : Int)), x18, x19]) ?_ (Go.nx ?_))
  · rcases mean with c2 | ⟨v, u1, u2, u3⟩
    · as_aux_lemma =>
        simp only [seq_ap, Mi.mi0, Mi.mi1, Mi.mi2, Mi.mi3, Mi.mi4, Mi.mi5, Mi.mo0, Mi.mo1, Mi.mo2, Mi.mo3, Mi.mo8, Bool.false_eq_true, Mi.mo9, Nat.reduceAdd, Nat.reduceSub, Nat.reduceLeDiff, Nat.reduceLT, Nat.reduceEqDiff, Mi.mt0, List.getElem?_cons_zero, List.getElem?_cons_succ, List.set_cons_zero, List.set_cons_succ, List.map_cons, List.map_nil, List.length_cons, List.length_nil, List.nil_append, List.cons_append, List.append_nil, List.replicate_succ, List.replicate_zero, lim_v, reduceIte, decide_true, decide_false, Bool.not_true, Bool.not_false, Option.bind_some, lstOf, Mi.par2, Mi.par3, eq_self, and_self, c2]
    · by_cases c2 : (0 : Int) < (a : Int)
      · have c2 := decide_eq_true c2
        as_aux_lemma =>
          simp only [seq_ap, Mi.mi0, Mi.mi1, Mi.mi2, Mi.mi3, Mi.mi4, Mi.mi5, Mi.mo0, Mi.mo1, Mi.mo2, Mi.mo3, Mi.mo8, Bool.false_eq_true, Mi.mo9, Nat.reduceAdd, Nat.reduceSub, Nat.reduceLeDiff, Nat.reduceLT, Nat.reduceEqDiff, Mi.mt0, List.getElem?_cons_zero, List.getElem?_cons_succ, List.set_cons_zero, List.set_cons_succ, List.map_cons, List.map_nil, List.length_cons, List.length_nil, List.nil_append, List.cons_append, List.append_nil, List.replicate_succ, List.replicate_zero, lim_v, reduceIte, decide_true, decide_false, Bool.not_true, Bool.not_false, Option.bind_some, lstOf, Mi.par2, Mi.par3, eq_self, and_self, c2, u1, u2, u3]
      · have c2 := decide_eq_false c2
        as_aux_lemma =>
          simp only [seq_ap, Mi.mi0, Mi.mi1, Mi.mi2, Mi.mi3, Mi.mi4, Mi.mi5, Mi.mo0, Mi.mo1, Mi.mo2, Mi.mo3, Mi.mo8, Bool.false_eq_true, Mi.mo9, Nat.reduceAdd, Nat.reduceSub, Nat.reduceLeDiff, Nat.reduceLT, Nat.reduceEqDiff, Mi.mt0, List.getElem?_cons_zero, List.getElem?_cons_succ, List.set_cons_zero, List.set_cons_succ, List.map_cons, List.map_nil, List.length_cons, List.length_nil, List.nil_append, List.cons_append, List.append_nil, List.replicate_succ, List.replicate_zero, lim_v, reduceIte, decide_true, decide_false, Bool.not_true, Bool.not_false, Option.bind_some, lstOf, Mi.par2, Mi.par3, eq_self, and_self, c2]
  exact ⟨m6, _, _, _, _, _, _, _, _, _, _, _, _, _, _, _, _, _, rfl⟩
end Lw
namespace Lw
open Mi
theorem ld_body' {a t n m j : Nat} (hj1 : 1 ≤ j) (hj : j < 13) (hc : a ≤ 10 ^ j) (ht : t ≤ 2000) (hn : n ≤ m) (hm : 0 < m) (hm2 : m ≤ 1000) (s : Sz ((10 ^ j) ^ t - (10 ^ j - a) ^ t) ((10 ^ j) ^ t)) :
    b_least_digits_0 [.val (.int a), .val (.int t), .val (rat n m), .val (.int j)] = if fits a t n m j = true then .ok (.rt (.int j) [.val (.int a), .val (.int t), .val (rat n m), .val (.int j)]) else .ok (.nx [.val (.int a), .val (.int t), .val (rat n m), .val (.int j)]) := by
  have f := fresh_by_eq ((ten_bn j).mono (by omega)) hc ht s
  have m1 := is_at_most_eq s (Sz.lim hn hm hm2)
  have c := all_codes_nat (show j ≤ 1000 by omega)
  rw [show decide (((10 ^ j) ^ t - (10 ^ j - a) ^ t) * m ≤ n * (10 ^ j) ^ t) = fits a t n m j from rfl] at m1
  unfold b_least_digits_0
  generalize fits a t n m j = w at *
  generalize rat ((10 ^ j) ^ t - (10 ^ j - a) ^ t) ((10 ^ j) ^ t) = r1 at *
  generalize rat n m = r2 at *
  generalize F_fresh_by = q0 at *
  generalize F_all_codes = q1 at *
  generalize F_is_at_most = q2 at *
  as_aux_lemma =>
    simp only [runA, seq_ap, Mi.mi0, Mi.mi1, Mi.mi2, Mi.mi3, Mi.mi4, Mi.mi5, Mi.mo0, Mi.mo1, Mi.mo2, Mi.mo3, Mi.mo8, Bool.false_eq_true, Mi.mo9, Nat.reduceAdd, Nat.reduceSub, Nat.reduceLeDiff, Nat.reduceLT, Nat.reduceEqDiff, Mi.mt0, List.getElem?_cons_zero, List.getElem?_cons_succ, List.set_cons_zero, List.set_cons_succ, List.map_cons, List.map_nil, List.length_cons, List.length_nil, List.nil_append, List.cons_append, List.append_nil, List.replicate_succ, List.replicate_zero, lim_v, reduceIte, decide_true, decide_false, Bool.not_true, Bool.not_false, Option.bind_some, lstOf, Mi.par2, Mi.par3, eq_self, and_self, f, m1, c]
theorem ld_rt {a t n m j : Nat} {e : En} (ha2 : a ≤ 10) (ht : t ≤ 2000) (hn : n ≤ m) (hm : 0 < m) (hm2 : m ≤ 1000) (q5 : forF (gN 3) b_least_digits_0 (rangeD 1 12) [.val (.int a), .val (.int t), .val (rat n m), .un] = .ok (.rt (.int j) e)) :
    F_least_digits [.int a, .int t, rat n m] = .ok (.int j) := by
  have w1 : F_is_within [.int a, .int 0, .int 10] = .ok (.bl true) := within_ok (by omega) (by omega)
  have w2 : F_is_within [.int t, .int 0, .int 2000] = .ok (.bl true) := within_ok (by omega) (by omega)
  have w3 := is_limit_eq hn hm hm2
  have w4 := check_true
  have r1 : r62 1 = true := by decide
  have r2 : r62 (12 + 1) = true := by decide
  have e1 : ((12 : Int) + 1 - 1).toNat = 12 := by decide
  unfold F_least_digits m_least_digits
  generalize rat n m = r at *
  generalize F_is_within = q0 at *
  generalize F_is_limit = q1 at *
  generalize F_check = q2 at *
  generalize b_least_digits_0 = q3 at *
  as_aux_lemma =>
    simp only [runA, seq_ap, Mi.mi0, Mi.mi1, Mi.mi2, Mi.mi3, Mi.mi4, Mi.mi5, Mi.mo0, Mi.mo1, Mi.mo2, Mi.mo3, Mi.mo8, Bool.false_eq_true, Mi.mo9, Nat.reduceAdd, Nat.reduceSub, Nat.reduceLeDiff, Nat.reduceLT, Nat.reduceEqDiff, Mi.mt0, List.getElem?_cons_zero, List.getElem?_cons_succ, List.set_cons_zero, List.set_cons_succ, List.map_cons, List.map_nil, List.length_cons, List.length_nil, List.nil_append, List.cons_append, List.append_nil, List.replicate_succ, List.replicate_zero, lim_v, reduceIte, decide_true, decide_false, Bool.not_true, Bool.not_false, Option.bind_some, lstOf, Mi.par2, Mi.par3, eq_self, and_self, w1, w2, w3, w4, r1, r2, e1, q5, and_self]
theorem ld_nx {a t n m : Nat} {e : En} (ha2 : a ≤ 10) (ht : t ≤ 2000) (hn : n ≤ m) (hm : 0 < m) (hm2 : m ≤ 1000) (q5 : forF (gN 3) b_least_digits_0 (rangeD 1 12) [.val (.int a), .val (.int t), .val (rat n m), .un] = .ok (.nx e)) :
    F_least_digits [.int a, .int t, rat n m] = .ok .non := by
  have w1 : F_is_within [.int a, .int 0, .int 10] = .ok (.bl true) := within_ok (by omega) (by omega)
  have w2 : F_is_within [.int t, .int 0, .int 2000] = .ok (.bl true) := within_ok (by omega) (by omega)
  have w3 := is_limit_eq hn hm hm2
  have w4 := check_true
  have r1 : r62 1 = true := by decide
  have r2 : r62 (12 + 1) = true := by decide
  have e1 : ((12 : Int) + 1 - 1).toNat = 12 := by decide
  unfold F_least_digits m_least_digits
  generalize rat n m = r at *
  generalize F_is_within = q0 at *
  generalize F_is_limit = q1 at *
  generalize F_check = q2 at *
  generalize b_least_digits_0 = q3 at *
  as_aux_lemma =>
    simp only [runA, seq_ap, Mi.mi0, Mi.mi1, Mi.mi2, Mi.mi3, Mi.mi4, Mi.mi5, Mi.mo0, Mi.mo1, Mi.mo2, Mi.mo3, Mi.mo8, Bool.false_eq_true, Mi.mo9, Nat.reduceAdd, Nat.reduceSub, Nat.reduceLeDiff, Nat.reduceLT, Nat.reduceEqDiff, Mi.mt0, List.getElem?_cons_zero, List.getElem?_cons_succ, List.set_cons_zero, List.set_cons_succ, List.map_cons, List.map_nil, List.length_cons, List.length_nil, List.nil_append, List.cons_append, List.append_nil, List.replicate_succ, List.replicate_zero, lim_v, reduceIte, decide_true, decide_false, Bool.not_true, Bool.not_false, Option.bind_some, lstOf, Mi.par2, Mi.par3, eq_self, and_self, w1, w2, w3, w4, r1, r2, e1, q5, and_self]
theorem least_digits_gen {a t n m : Nat} (ha : 1 ≤ a) (ha2 : a ≤ 10) (ht : t ≤ 900) (hn : n ≤ m) (hm : 0 < m) (hm2 : m ≤ 1000) :
    (∃ j, 1 ≤ j ∧ j < 13 ∧ fits a t n m j = true ∧ (∀ x, 1 ≤ x → x < j → fits a t n m x = false) ∧ F_least_digits [.int a, .int t, rat n m] = .ok (.int j)) ∨
    ((∀ x, 1 ≤ x → x < 13 → fits a t n m x = false) ∧ F_least_digits [.int a, .int t, rat n m] = .ok .non) := by
  rcases for_first (b := b_least_digits_0) (mk := fun s => [.val (.int a), .val (.int t), .val (rat n m), s]) (i := 3) (T := fits a t n m) (lo := 1) (hi := 13) (fun s d => rfl) (fun j h1 h2 => ld_body h1 h2 ha ha2 ht hn hm hm2) 12 1 .un (by omega) (by omega) with ⟨j, q1, q2, q3, q4, e, q5⟩ | ⟨q1, s', q2⟩
  · exact .inl ⟨j, q1, q2, q3, q4, ld_rt ha2 (by omega) hn hm hm2 q5⟩
  · exact .inr ⟨q1, ld_nx ha2 (by omega) hn hm hm2 q2⟩
theorem ld_none : F_least_digits [.int 1, .int 1, .tup [.int 0, .int 1]] = .ok .non := by
  rcases least_digits_gen (a := 1) (t := 1) (n := 0) (m := 1) (by omega) (by omega) (by omega) (by omega) (by omega) (by omega) with ⟨j, h1, h2, h3, _⟩ | ⟨_, h⟩
  · exfalso
    unfold fits at h3
    have p : 0 < 10 ^ j := Nat.pow_pos (by omega)
    have := of_decide_eq_true h3
    rw [Nat.pow_one, Nat.pow_one] at this
    omega
  · rw [rat_zero (by omega)] at h
    exact h
theorem ld_one_gen {t : Nat} (ht : t ≤ 2000) : F_least_digits [.int ((0 : Nat) : Int), .int (t : Int), rat 0 1] = .ok (.int ((1 : Nat) : Int)) := by
  have b : Bn ((10 ^ 1) ^ t) 13000 := ((ten_bn 1).pow t).mono (by omega)
  have s : Sz ((10 ^ 1) ^ t - (10 ^ 1 - 0) ^ t) ((10 ^ 1) ^ t) := by
    rw [Nat.sub_zero, Nat.sub_self]
    exact Sz.of (Nat.pow_pos (Nat.pow_pos (by omega))) (Nat.zero_le _) (b.mono (by omega))
  have f := ld_body' (a := 0) (t := t) (n := 0) (m := 1) (j := 1) (by omega) (by omega) (Nat.zero_le _) ht (by omega) (by omega) (by omega) s
  have tt : fits 0 t 0 1 1 = true := by
    unfold fits
    rw [Nat.sub_zero, Nat.sub_self, Nat.zero_mul]
    exact decide_eq_true (Nat.zero_le _)
  rw [tt, if_pos rfl] at f
  have q : forF (gN 3) b_least_digits_0 (rangeD 1 12) [.val (.int ((0 : Nat) : Int)), .val (.int (t : Int)), .val (rat 0 1), .un] = .ok (.rt (.int ((1 : Nat) : Int)) [.val (.int ((0 : Nat) : Int)), .val (.int (t : Int)), .val (rat 0 1), .val (.int ((1 : Nat) : Int))]) := by
    generalize b_least_digits_0 = b0 at *
    rw [rangeD_succ, forF]
    have g : gN 3 (.int 1) [.val (.int ((0 : Nat) : Int)), .val (.int (t : Int)), .val (rat 0 1), .un] = some [.val (.int ((0 : Nat) : Int)), .val (.int (t : Int)), .val (rat 0 1), .val (.int ((1 : Nat) : Int))] := rfl
    rw [g]
    simp only [f]
  exact ld_rt (a := 0) (t := t) (n := 0) (m := 1) (by omega) ht (by omega) (by omega) (by omega) q
theorem ld_one : F_least_digits [.int 0, .int 2000, .tup [.int 0, .int 1]] = .ok (.int 1) := by
  have z := rat_zero (n := 1) (by omega)
  have e := ld_one_gen (t := 2000) (by omega)
  rw [z] at e
  exact e
theorem ls_one : F_least_same [.int 1, .tup [.int 1, .int 1]] = .ok (.int 11) := by
  have h1 : ¬ Pb (10 ^ 1) 1 1 11 := by decide +kernel
  obtain ⟨k, q1, q2, q3, q4⟩ := least_same_eq (d := 1) (n := 1) (m := 1) (N := 11) (by omega) (by omega) (by omega) (by omega) (by omega) (by omega) h1
  have q5 : ∀ j, j < 11 → Pb (10 ^ 1) 1 1 j := by decide +kernel
  have e : k = 11 := by
    by_cases c : k < 11
    · exact absurd (q5 k c) q2
    · omega
  subst e
  rw [rat_self (by omega)] at q4
  exact q4
/-- what a limit is -/
structure Lim (n m : Nat) : Prop where
  p : 0 < n
  le : n ≤ m
  m2 : m ≤ 1000
  lo : m ≤ 1000 * n
  hi : n * 1000 ≤ 999 * m
theorem lim_of {d : D} {r : Int} (h0 : 0 ≤ r) (h1 : r < 99) (h : d ∈ [.tup [.int 1, .int 2], .tup [.int 1, .int 1000], .tup [.int 999, .int 1000], rat (1 + r.toNat) 100]) : ∃ n m, d = rat n m ∧ Lim n m := by
  simp only [List.mem_cons, List.mem_nil_iff, or_false] at h
  rcases h with rfl | rfl | rfl | rfl
  · exact ⟨1, 2, rfl, by constructor <;> omega⟩
  · exact ⟨1, 1000, rfl, by constructor <;> omega⟩
  · exact ⟨999, 1000, rfl, by constructor <;> omega⟩
  · exact ⟨_, _, rfl, by constructor <;> omega⟩
theorem szS' {d k : Nat} (hb : 4 * d * k ≤ 13000) : Sz ((10 ^ d) ^ k - dn (10 ^ d) k) ((10 ^ d) ^ k) := by
  have b : Bn ((10 ^ d) ^ k) 13000 := ((ten_bn d).pow k).mono hb
  exact Sz.of (Nat.pow_pos (Nat.pow_pos (by omega))) ((b.le (Nat.sub_le _ _)).mono (by omega)) (b.mono (by omega))
theorem least_facts {d n m : Nat} (h1 : 1 ≤ d) (h4 : d ≤ 4) (L : Lim n m) : ∃ k : Nat, k ≤ 400 ∧ F_least_same [.int d, rat n m] = .ok (.int k) ∧
    (∃ v, F_same_code [.int d, .int k] = .ok v ∧ F__law_at_most [rat n m, v] = .ok (.bl true)) ∧
    (k = 0 ∨ ∃ v, F_same_code [.int d, .int ((k : Int) - 1)] = .ok v ∧ F__law_at_most [rat n m, v] = .ok (.bl false)) := by
  obtain ⟨N, hN, hP⟩ := few_ex h1 h4 L.hi
  obtain ⟨k, q1, q2, q3, q4⟩ := least_same_eq h1 h4 L.p L.le L.m2 (show N ≤ 1000 by omega) hP
  have sl := Sz.lim L.le (by have := L.p; have := L.le; omega) L.m2
  have B : ∀ j, j ≤ 400 → 4 * d * j ≤ 13000 := fun j hj => Nat.le_trans (Nat.mul_le_mul (show 4 * d ≤ 16 by omega) hj) (by omega)
  refine ⟨k, by omega, q4, ⟨_, same_code_eq h1 (by omega) (by omega) (szS' (B k (by omega))), ?_⟩, ?_⟩
  · rw [at_most_eq sl (szS' (B k (by omega))), decide_eq_true]
    unfold Pb at q2
    omega
  · by_cases c : k = 0
    · exact .inl c
    · refine .inr ⟨sm d (k - 1), ?_, ?_⟩
      · rw [show ((k : Int) - 1) = ((k - 1 : Nat) : Int) by omega]
        exact same_code_eq h1 (by omega) (by omega) (szS' (B (k - 1) (by omega)))
      · have := q3 (k - 1) (by omega)
        unfold Pb at this
        unfold sm
        rw [at_most_eq sl (szS' (B (k - 1) (by omega))), decide_eq_false]
        omega
theorem fits_facts {a t n m : Nat} (ha : 1 ≤ a) (ha2 : a ≤ 10) (ht : t ≤ 900) (L : Lim n m) : ∃ j : Nat, 1 ≤ j ∧ F_least_digits [.int a, .int t, rat n m] = .ok (.int j) ∧
    (∃ v, F_fresh_hit [.int j, .int a, .int t] = .ok v ∧ F__law_at_most [v, rat n m] = .ok (.bl true)) ∧
    (j = 1 ∨ ∃ v, F_fresh_hit [.int ((j : Int) - 1), .int a, .int t] = .ok v ∧ F__law_at_most [v, rat n m] = .ok (.bl false)) := by
  have hm : 0 < m := by have := L.p; have := L.le; omega
  have sl := Sz.lim L.le hm L.m2
  have ca : ∀ j, 1 ≤ j → a ≤ 10 ^ j := fun j hj => by
    have : 10 ^ 1 ≤ 10 ^ j := Nat.pow_le_pow_right (by omega) hj
    omega
  have sz : ∀ j, 1 ≤ j → j ≤ 12 → Sz ((10 ^ j) ^ t - (10 ^ j - a) ^ t) ((10 ^ j) ^ t) := fun j h1 h2 => Sz.fresh h2 ha ha2 (ca j h1) ht
  have fh : ∀ j : Nat, 1 ≤ j → j ≤ 12 → F_fresh_hit [.int j, .int a, .int t] = .ok (fr j a t) := fun j h1 h2 => fresh_hit_eq h1 h2 (by omega) (ca j h1) (sz j h1 h2)
  have am : ∀ j : Nat, 1 ≤ j → j ≤ 12 → F__law_at_most [fr j a t, rat n m] = .ok (.bl (fits a t n m j)) := fun j h1 h2 => at_most_eq (sz j h1 h2) sl
  rcases least_digits_gen ha ha2 ht L.le hm L.m2 with ⟨j, h1, h2, h3, h4, h5⟩ | ⟨h, _⟩
  · refine ⟨j, h1, h5, ⟨_, fh j h1 (by omega), by rw [am j h1 (by omega), h3]⟩, ?_⟩
    by_cases c : j = 1
    · exact .inl c
    · refine .inr ⟨fr (j - 1) a t, ?_, ?_⟩
      · rw [show ((j : Int) - 1) = ((j - 1 : Nat) : Int) by omega]
        exact fh (j - 1) (by omega) (by omega)
      · rw [am (j - 1) (by omega) (by omega), h4 (j - 1) (by omega) (by omega)]
  · have := h 12 (by omega) (by omega)
    rw [fits12 ha2 ht L.lo] at this
    cases this
end Lw
namespace Lw
open Mi
theorem three {s0 s3 : Sl} {e : En} (h : Inv s0 s3 e) : ∃ e', forF (gN 2) b_law_2 (rangeD 0 3) e = .ok (.nx e') ∧ Inv s0 s3 e' := by
  refine Go.forR (fun _ => Inv s0 s3) h (fun j e hj h => ?_) fun e' h => h
  refine ⟨e.set 2 (.val (.int (0 + j))), rfl, turn_ok h⟩
theorem law_ok {ns : List Int} (hn : ns.length ≤ 63) (hz : ∀ z ∈ ns, PySem.Builtin.Int.intBits z ≤ 1048576) : F_law [.rls (ns.map D.int)] = .ok (.bl true) := by
  obtain ⟨ms, h1⟩ := draws_eq hn hz
  obtain ⟨e', h2, m1, s2, s4, s5, s6, s7, s8, s9, s10, s11, s12, s13, s14, s15, s16, s17, s18, s19, rfl⟩ := three (s0 := .val (.rls (ns.map D.int))) (s3 := .un) (e := [.val (.rls (ns.map D.int)), .own (ms.map D.int), .un, .un, .un, .un, .un, .un, .un, .un, .un, .un, .un, .un, .un, .un, .un, .un, .un, .un]) ⟨ms, .un, .un, .un, .un, .un, .un, .un, .un, .un, .un, .un, .un, .un, .un, .un, .un, .un, rfl⟩
  obtain ⟨r1, m2, h3, r10, r11⟩ := take_ok m1 (b := 99) (by omega)
  have h4 : F__law_ratio [.int (1 + r1), .int 100] = .ok (rat (1 + r1.toNat) 100) := by
    have := law_ratio_eq (Sz.lim (n := 1 + r1.toNat) (m := 100) (by omega) (by omega) (by omega))
    rw [show (((1 + r1.toNat : Nat)) : Int) = 1 + r1 by omega] at this
    exact this
  obtain ⟨li, m3, h5, i5⟩ := pick_ok m2 (ds := [D.tup [.int 1, .int 2], .tup [.int 1, .int 1000], .tup [.int 999, .int 1000], rat (1 + r1.toNat) 100]) (by simp)
  obtain ⟨n, m, rfl, L⟩ := lim_of r10 r11 i5
  obtain ⟨r2, m4, h6, r20, r21⟩ := take_ok m3 (b := 4) (by omega)
  obtain ⟨d, hd⟩ : ∃ d : Nat, 1 + r2 = (d : Int) := ⟨(1 + r2).toNat, by omega⟩
  obtain ⟨k, k1, k2, ⟨v1, k3, k4⟩, k5⟩ := least_facts (d := d) (by omega) (by omega) L
  obtain ⟨r3, m5, h7, r30, r31⟩ := take_ok m4 (b := 900) (by omega)
  obtain ⟨t, ht⟩ : ∃ t : Nat, 1 + r3 = (t : Int) := ⟨(1 + r3).toNat, by omega⟩
  obtain ⟨r4, m6, h8, r40, r41⟩ := take_ok m5 (b := 10) (by omega)
  obtain ⟨a, ha⟩ : ∃ a : Nat, 1 + r4 = (a : Int) := ⟨(1 + r4).toNat, by omega⟩
  obtain ⟨j, j1, j2, ⟨v2, j3, j4⟩, j5⟩ := fits_facts (a := a) (t := t) (by omega) (by omega) (by omega) L
  have c2000 : decide ((2000 : Int) < (k : Int)) = false := decide_eq_false (by omega)
  have e1 := ld_none
  have e2 := ld_one
  have e3 := ls_one
  have z0 : decide ((0 : Int) < 0) = false := by decide
  have z1 : decide ((1 : Int) < 1) = false := by decide
  have r3 : r62 3 = true := by decide
  have t3 : (3 : Int).toNat = 3 := rfl
  have io := intsOf_map
  suffices R : Rt m_law ([.val (.rls (ns.map D.int))] ++ List.replicate 19 .un) (.bl true) by
    obtain ⟨e', R⟩ := R
    unfold F_law runA
    rw [show (List.map Sl.val [D.rls (ns.map D.int)] ++ List.replicate (20 - [D.rls (ns.map D.int)].length) Sl.un) = [.val (.rls (ns.map D.int))] ++ List.replicate 19 .un from rfl, R]
    rfl
  change Rt m_law [.val (.rls (ns.map D.int)), .un, .un, .un, .un, .un, .un, .un, .un, .un, .un, .un, .un, .un, .un, .un, .un, .un, .un, .un] _
  unfold m_law
  generalize F__law_draws = q0 at *
  generalize F__law_take = q1 at *
  generalize F__law_pick = q2 at *
  generalize F__law_ratio = q3 at *
  generalize F__law_at_most = q4 at *
  generalize F_fresh_hit = q5 at *
  generalize F_least_same = q6 at *
  generalize F_same_code = q7 at *
  generalize F_least_digits = q8 at *
  generalize b_law_2 = q9 at *
  generalize rat (1 + r1.toNat) 100 = v5 at *
  generalize rat n m = v6 at *
  generalize D.rls (ns.map D.int) = v7 at *
  refine Rt.seq (Go.of (e' := [.val v7, .own (ms.map D.int), .un, .un, .un, .un, .un, .un, .un, .un, .un, .un, .un, .un, .un, .un, .un, .un, .un, .un]) ?_ ?_)
  · as_aux_lemma =>
      simp only [seq_ap, Mi.mi0, Mi.mi1, Mi.mi2, Mi.mi3, Mi.mi4, Mi.mi5, Mi.mo0, Mi.mo1, Mi.mo2, Mi.mo3, Mi.mo8, Bool.false_eq_true, Mi.mo9, Nat.reduceAdd, Nat.reduceSub, Nat.reduceLeDiff, Nat.reduceLT, Nat.reduceEqDiff, Mi.mt0, List.getElem?_cons_zero, List.getElem?_cons_succ, List.set_cons_zero, List.set_cons_succ, List.map_cons, List.map_nil, List.length_cons, List.length_nil, List.nil_append, List.cons_append, List.append_nil, List.replicate_succ, List.replicate_zero, lim_v, reduceIte, decide_true, decide_false, Bool.not_true, Bool.not_false, Option.bind_some, lstOf, Mi.par2, Mi.par3, eq_self, and_self, h1]
  refine Rt.seq (Go.of (e' := [.val v7, .own (m1.map D.int), s2, .un, s4, s5, s6, s7, s8, s9, s10, s11, s12, s13, s14, s15, s16, s17, s18, s19]) ?_ ?_)
  · as_aux_lemma =>
      simp only [seq_ap, Mi.mi0, Mi.mi1, Mi.mi2, Mi.mi3, Mi.mi4, Mi.mi5, Mi.mo0, Mi.mo1, Mi.mo2, Mi.mo3, Mi.mo8, Bool.false_eq_true, Mi.mo9, Nat.reduceAdd, Nat.reduceSub, Nat.reduceLeDiff, Nat.reduceLT, Nat.reduceEqDiff, Mi.mt0, List.getElem?_cons_zero, List.getElem?_cons_succ, List.set_cons_zero, List.set_cons_succ, List.map_cons, List.map_nil, List.length_cons, List.length_nil, List.nil_append, List.cons_append, List.append_nil, List.replicate_succ, List.replicate_zero, lim_v, reduceIte, decide_true, decide_false, Bool.not_true, Bool.not_false, Option.bind_some, lstOf, Mi.par2, Mi.par3, eq_self, and_self, r3, t3, h2]
  refine Rt.seq (Go.of (e' := [.val v7, .own (m3.map D.int), s2, .val v6, s4, s5, s6, s7, s8, s9, s10, s11, s12, s13, s14, s15, s16, s17, s18, s19]) ?_ ?_)
  · as_aux_lemma =>
      simp only [seq_ap, Mi.mi0, Mi.mi1, Mi.mi2, Mi.mi3, Mi.mi4, Mi.mi5, Mi.mo0, Mi.mo1, Mi.mo2, Mi.mo3, Mi.mo8, Bool.false_eq_true, Mi.mo9, Nat.reduceAdd, Nat.reduceSub, Nat.reduceLeDiff, Nat.reduceLT, Nat.reduceEqDiff, Mi.mt0, List.getElem?_cons_zero, List.getElem?_cons_succ, List.set_cons_zero, List.set_cons_succ, List.map_cons, List.map_nil, List.length_cons, List.length_nil, List.nil_append, List.cons_append, List.append_nil, List.replicate_succ, List.replicate_zero, lim_v, reduceIte, decide_true, decide_false, Bool.not_true, Bool.not_false, Option.bind_some, lstOf, Mi.par2, Mi.par3, eq_self, and_self, eCallB, io, h3, h4, h5, Sl.turn]
  refine Rt.seq (Go.of (e' := [.val v7, .own (m4.map D.int), s2, .val v6, .val (.int (d : Int)), s5, s6, s7, s8, s9, s10, s11, s12, s13, s14, s15, s16, s17, s18, s19]) ?_ ?_)
  · as_aux_lemma =>
      simp only [seq_ap, Mi.mi0, Mi.mi1, Mi.mi2, Mi.mi3, Mi.mi4, Mi.mi5, Mi.mo0, Mi.mo1, Mi.mo2, Mi.mo3, Mi.mo8, Bool.false_eq_true, Mi.mo9, Nat.reduceAdd, Nat.reduceSub, Nat.reduceLeDiff, Nat.reduceLT, Nat.reduceEqDiff, Mi.mt0, List.getElem?_cons_zero, List.getElem?_cons_succ, List.set_cons_zero, List.set_cons_succ, List.map_cons, List.map_nil, List.length_cons, List.length_nil, List.nil_append, List.cons_append, List.append_nil, List.replicate_succ, List.replicate_zero, lim_v, reduceIte, decide_true, decide_false, Bool.not_true, Bool.not_false, Option.bind_some, lstOf, Mi.par2, Mi.par3, eq_self, and_self, eCallB, io, h6, hd, Sl.turn]
  refine Rt.seq (Go.of (e' := [.val v7, .own (m4.map D.int), s2, .val v6, .val (.int (d : Int)), .val (.int (k : Int)), s6, s7, s8, s9, s10, s11, s12, s13, s14, s15, s16, s17, s18, s19]) ?_ ?_)
  · as_aux_lemma =>
      simp only [seq_ap, Mi.mi0, Mi.mi1, Mi.mi2, Mi.mi3, Mi.mi4, Mi.mi5, Mi.mo0, Mi.mo1, Mi.mo2, Mi.mo3, Mi.mo8, Bool.false_eq_true, Mi.mo9, Nat.reduceAdd, Nat.reduceSub, Nat.reduceLeDiff, Nat.reduceLT, Nat.reduceEqDiff, Mi.mt0, List.getElem?_cons_zero, List.getElem?_cons_succ, List.set_cons_zero, List.set_cons_succ, List.map_cons, List.map_nil, List.length_cons, List.length_nil, List.nil_append, List.cons_append, List.append_nil, List.replicate_succ, List.replicate_zero, lim_v, reduceIte, decide_true, decide_false, Bool.not_true, Bool.not_false, Option.bind_some, lstOf, Mi.par2, Mi.par3, eq_self, and_self, k2]
  refine Rt.seq (Go.ifF (e1 := [.val v7, .own (m4.map D.int), s2, .val v6, .val (.int (d : Int)), .val (.int (k : Int)), s6, s7, s8, s9, s10, s11, s12, s13, s14, s15, s16, s17, s18, s19]) ?_ (Go.nx ?_))
  · rcases k5 with k5 | ⟨w1, k5, k6⟩
    · have z0 := decide_eq_false (show ¬ (0 : Int) < (k : Int) by omega)
      as_aux_lemma =>
        simp only [seq_ap, Mi.mi0, Mi.mi1, Mi.mi2, Mi.mi3, Mi.mi4, Mi.mi5, Mi.mo0, Mi.mo1, Mi.mo2, Mi.mo3, Mi.mo8, Bool.false_eq_true, Mi.mo9, Nat.reduceAdd, Nat.reduceSub, Nat.reduceLeDiff, Nat.reduceLT, Nat.reduceEqDiff, Mi.mt0, List.getElem?_cons_zero, List.getElem?_cons_succ, List.set_cons_zero, List.set_cons_succ, List.map_cons, List.map_nil, List.length_cons, List.length_nil, List.nil_append, List.cons_append, List.append_nil, List.replicate_succ, List.replicate_zero, lim_v, reduceIte, decide_true, decide_false, Bool.not_true, Bool.not_false, Option.bind_some, lstOf, Mi.par2, Mi.par3, eq_self, and_self, c2000, k3, k4, z0]
    · by_cases c : (0 : Int) < (k : Int)
      · have c := decide_eq_true c
        as_aux_lemma =>
          simp only [seq_ap, Mi.mi0, Mi.mi1, Mi.mi2, Mi.mi3, Mi.mi4, Mi.mi5, Mi.mo0, Mi.mo1, Mi.mo2, Mi.mo3, Mi.mo8, Bool.false_eq_true, Mi.mo9, Nat.reduceAdd, Nat.reduceSub, Nat.reduceLeDiff, Nat.reduceLT, Nat.reduceEqDiff, Mi.mt0, List.getElem?_cons_zero, List.getElem?_cons_succ, List.set_cons_zero, List.set_cons_succ, List.map_cons, List.map_nil, List.length_cons, List.length_nil, List.nil_append, List.cons_append, List.append_nil, List.replicate_succ, List.replicate_zero, lim_v, reduceIte, decide_true, decide_false, Bool.not_true, Bool.not_false, Option.bind_some, lstOf, Mi.par2, Mi.par3, eq_self, and_self, c2000, k3, k4, k5, k6, c]
      · have c := decide_eq_false c
        as_aux_lemma =>
          simp only [seq_ap, Mi.mi0, Mi.mi1, Mi.mi2, Mi.mi3, Mi.mi4, Mi.mi5, Mi.mo0, Mi.mo1, Mi.mo2, Mi.mo3, Mi.mo8, Bool.false_eq_true, Mi.mo9, Nat.reduceAdd, Nat.reduceSub, Nat.reduceLeDiff, Nat.reduceLT, Nat.reduceEqDiff, Mi.mt0, List.getElem?_cons_zero, List.getElem?_cons_succ, List.set_cons_zero, List.set_cons_succ, List.map_cons, List.map_nil, List.length_cons, List.length_nil, List.nil_append, List.cons_append, List.append_nil, List.replicate_succ, List.replicate_zero, lim_v, reduceIte, decide_true, decide_false, Bool.not_true, Bool.not_false, Option.bind_some, lstOf, Mi.par2, Mi.par3, eq_self, and_self, c2000, k3, k4, k5, k6, c]
  refine Rt.seq (Go.of (e' := [.val v7, .own (m6.map D.int), s2, .val v6, .val (.int (d : Int)), .val (.int (k : Int)), s6, s7, .val (.int (t : Int)), s9, s10, s11, s12, s13, .val (.int (a : Int)), s15, s16, s17, s18, s19]) ?_ ?_)
  · as_aux_lemma =>
      simp only [seq_ap, Mi.mi0, Mi.mi1, Mi.mi2, Mi.mi3, Mi.mi4, Mi.mi5, Mi.mo0, Mi.mo1, Mi.mo2, Mi.mo3, Mi.mo8, Bool.false_eq_true, Mi.mo9, Nat.reduceAdd, Nat.reduceSub, Nat.reduceLeDiff, Nat.reduceLT, Nat.reduceEqDiff, Mi.mt0, List.getElem?_cons_zero, List.getElem?_cons_succ, List.set_cons_zero, List.set_cons_succ, List.map_cons, List.map_nil, List.length_cons, List.length_nil, List.nil_append, List.cons_append, List.append_nil, List.replicate_succ, List.replicate_zero, lim_v, reduceIte, decide_true, decide_false, Bool.not_true, Bool.not_false, Option.bind_some, lstOf, Mi.par2, Mi.par3, eq_self, and_self, eCallB, io, h7, h8, ht, ha, Sl.turn]
  refine Rt.seq (Go.of (e' := [.val v7, .own (m6.map D.int), s2, .val v6, .val (.int (d : Int)), .val (.int (k : Int)), .val (.int (j : Int)), s7, .val (.int (t : Int)), s9, s10, s11, s12, s13, .val (.int (a : Int)), s15, s16, s17, s18, s19]) ?_ ?_)
  · as_aux_lemma =>
      simp only [seq_ap, Mi.mi0, Mi.mi1, Mi.mi2, Mi.mi3, Mi.mi4, Mi.mi5, Mi.mo0, Mi.mo1, Mi.mo2, Mi.mo3, Mi.mo8, Bool.false_eq_true, Mi.mo9, Nat.reduceAdd, Nat.reduceSub, Nat.reduceLeDiff, Nat.reduceLT, Nat.reduceEqDiff, Mi.mt0, List.getElem?_cons_zero, List.getElem?_cons_succ, List.set_cons_zero, List.set_cons_succ, List.map_cons, List.map_nil, List.length_cons, List.length_nil, List.nil_append, List.cons_append, List.append_nil, List.replicate_succ, List.replicate_zero, lim_v, reduceIte, decide_true, decide_false, Bool.not_true, Bool.not_false, Option.bind_some, lstOf, Mi.par2, Mi.par3, eq_self, and_self, j2]
  refine Rt.seq (Go.ifF (e1 := [.val v7, .own (m6.map D.int), s2, .val v6, .val (.int (d : Int)), .val (.int (k : Int)), .val (.int (j : Int)), s7, .val (.int (t : Int)), s9, s10, s11, s12, s13, .val (.int (a : Int)), s15, s16, s17, s18, s19]) ?_ (Go.nx ?_))
  · rcases j5 with j5 | ⟨w1, j5, j6⟩
    · have z1 := decide_eq_false (show ¬ (1 : Int) < (j : Int) by omega)
      as_aux_lemma =>
        simp only [seq_ap, Mi.mi0, Mi.mi1, Mi.mi2, Mi.mi3, Mi.mi4, Mi.mi5, Mi.mo0, Mi.mo1, Mi.mo2, Mi.mo3, Mi.mo8, Bool.false_eq_true, Mi.mo9, Nat.reduceAdd, Nat.reduceSub, Nat.reduceLeDiff, Nat.reduceLT, Nat.reduceEqDiff, Mi.mt0, List.getElem?_cons_zero, List.getElem?_cons_succ, List.set_cons_zero, List.set_cons_succ, List.map_cons, List.map_nil, List.length_cons, List.length_nil, List.nil_append, List.cons_append, List.append_nil, List.replicate_succ, List.replicate_zero, lim_v, reduceIte, decide_true, decide_false, Bool.not_true, Bool.not_false, Option.bind_some, lstOf, Mi.par2, Mi.par3, eq_self, and_self, j3, j4, z1]
    · by_cases c : (1 : Int) < (j : Int)
      · have c := decide_eq_true c
        as_aux_lemma =>
          simp only [seq_ap, Mi.mi0, Mi.mi1, Mi.mi2, Mi.mi3, Mi.mi4, Mi.mi5, Mi.mo0, Mi.mo1, Mi.mo2, Mi.mo3, Mi.mo8, Bool.false_eq_true, Mi.mo9, Nat.reduceAdd, Nat.reduceSub, Nat.reduceLeDiff, Nat.reduceLT, Nat.reduceEqDiff, Mi.mt0, List.getElem?_cons_zero, List.getElem?_cons_succ, List.set_cons_zero, List.set_cons_succ, List.map_cons, List.map_nil, List.length_cons, List.length_nil, List.nil_append, List.cons_append, List.append_nil, List.replicate_succ, List.replicate_zero, lim_v, reduceIte, decide_true, decide_false, Bool.not_true, Bool.not_false, Option.bind_some, lstOf, Mi.par2, Mi.par3, eq_self, and_self, j3, j4, j5, j6, c]
      · have c := decide_eq_false c
        as_aux_lemma =>
          simp only [seq_ap, Mi.mi0, Mi.mi1, Mi.mi2, Mi.mi3, Mi.mi4, Mi.mi5, Mi.mo0, Mi.mo1, Mi.mo2, Mi.mo3, Mi.mo8, Bool.false_eq_true, Mi.mo9, Nat.reduceAdd, Nat.reduceSub, Nat.reduceLeDiff, Nat.reduceLT, Nat.reduceEqDiff, Mi.mt0, List.getElem?_cons_zero, List.getElem?_cons_succ, List.set_cons_zero, List.set_cons_succ, List.map_cons, List.map_nil, List.length_cons, List.length_nil, List.nil_append, List.cons_append, List.append_nil, List.replicate_succ, List.replicate_zero, lim_v, reduceIte, decide_true, decide_false, Bool.not_true, Bool.not_false, Option.bind_some, lstOf, Mi.par2, Mi.par3, eq_self, and_self, j3, j4, j5, j6, c]
  refine Rt.of (e' := [.val v7, .own (m6.map D.int), s2, .val v6, .val (.int (d : Int)), .val (.int (k : Int)), .val (.int (j : Int)), s7, .val (.int (t : Int)), s9, s10, s11, s12, s13, .val (.int (a : Int)), s15, s16, s17, s18, s19]) ?_
  as_aux_lemma =>
    simp only [seq_ap, Mi.mi0, Mi.mi1, Mi.mi2, Mi.mi3, Mi.mi4, Mi.mi5, Mi.mo0, Mi.mo1, Mi.mo2, Mi.mo3, Mi.mo8, Bool.false_eq_true, Mi.mo9, Nat.reduceAdd, Nat.reduceSub, Nat.reduceLeDiff, Nat.reduceLT, Nat.reduceEqDiff, Mi.mt0, List.getElem?_cons_zero, List.getElem?_cons_succ, List.set_cons_zero, List.set_cons_succ, List.map_cons, List.map_nil, List.length_cons, List.length_nil, List.nil_append, List.cons_append, List.append_nil, List.replicate_succ, List.replicate_zero, lim_v, reduceIte, decide_true, decide_false, Bool.not_true, Bool.not_false, Option.bind_some, lstOf, Mi.par2, Mi.par3, eq_self, and_self, e1, e2, e3]
end Lw
set_option maxHeartbeats 0
namespace Lw
open PySem PySem.Spec PyProof.Rows L2 Mi
def lo0 : List Str := ["CodeError", "NotRight", "is_integer", "is_within", "check", "shared", "ratio", "power", "MOST_DIGITS", "MOST_TRIES", "MOST_ACCEPTED", "FEW_DIGITS", "is_ratio", "check_ratios", "sum_of", "product_of", "less_of", "all_codes", "check_guessing", "fresh_by", "fresh_hit", "fixed_hit", "bound_hit", "is_at_most", "is_limit", "least_digits", "same_code", "least_same", "mean_tries", "_law_draws"]
def lo1 : List Str := ["_law_take", "_law_pick", "_law_same", "_law_share", "_law_ratio", "_law_power", "_law_at_most"]
def looseL : List Str := lo0 ++ lo1
abbrev Rw : PySem.W.OpenRow := PySem.W.OpenLaw.row PySem.Challenge.rw_oncecodes_k21_whole_chances_of_many_trie
abbrev qv : Program := PySem.W.view Rw.prog [40]
abbrev hk : PySem.W.Hook := He.hookD 4 faL fnL
def ob (s : PySem.W.SharedT) : He.AlD := He.obsDG 4 faL fnL (HandSHeadRun.getT s)
theorem ob_eq (s : PySem.W.SharedT) : ob s = hk.obs s.abs := He.obsDG_eq (HandSHeadRun.getT_eq s)
theorem run (w : World) : HandSHeadRun.RunEq Rw qv hk ob 6000 looseL w := by
  intro os
  kernel_rfl
/-- the law of plain Lean that is left -/
def Plain : Prop := ∀ ns : List Int, ns.length ≤ 63 → (∀ z ∈ ns, Builtin.Int.intBits z ≤ 1048576) → F_law [.rls (ns.map D.int)] = .ok (.bl true)
end Lw
open PySem PySem.W PySem.Calls PyProof.Rows in
theorem Lw.holds_of (pl : Lw.Plain) : PySem.Challenge.rw_oncecodes_k21_whole_chances_of_many_trie.Holds := by
  w_on; o_law
  refine HandSHeadRun.head_any (r := OpenLaw.row PySem.Challenge.rw_oncecodes_k21_whole_chances_of_many_trie) (q := Lw.qv) (H := Lw.hk) (ob := Lw.ob) (M := 6000) (loose := Lw.looseL) (d := HandSHeadRun.topDef (OpenLaw.row PySem.Challenge.rw_oncecodes_k21_whole_chances_of_many_trie).prog 40) (kwd := []) Lw.ob_eq
    (by kernel_rfl) (fun s => by kernel_rfl) Lw.run (by kernel_rfl) (by kernel_rfl) (by kernel_rfl) (by rfl) (by first | assumption | decide +kernel) (by decide +kernel) ⟨rfl, rfl, rfl, rfl, rfl, by decide +kernel⟩ ?hw ?hc
  case hw => w_witness2
  case hc =>
    refine LamX.walk_ofTsE (l := PySem.Challenge.rw_oncecodes_k21_whole_chances_of_many_trie) (n := 63) (k := 6) (x := "script") (CX := fun w => L2.CX (PySem.Challenge.rw_oncecodes_k21_whole_chances_of_many_trie).prog w) rfl (by decide) (by kernel_rfl) ⟨rfl, by decide, by decide⟩ ?F (fun _ _ _ _ _ ⟨_, _, _, _, _, _, _, _, _, _, _, _, z⟩ => z)
    intro w mg fa h Y G hmg0
    obtain ⟨K, KX, c⟩ := Y
    have hmg : mg ("law" : PySem.Str) = some (.ref fa) := by
      have e : (HandSHeadRun.topDef (OpenLaw.row PySem.Challenge.rw_oncecodes_k21_whole_chances_of_many_trie).prog 40).name = ("law" : PySem.Str) := by kernel_rfl
      rw [← e]
      exact hmg0
    have T := Lw.tx_of KX G c
    obtain ⟨fd, F⟩ := c.def_ 31 (d := Lw.dd_law) rfl
    have b := L2.FunD.bindsA (ps := ["script"]) F fun _ _ _ _ _ _ us hl => match us, hl with | [_], _ => rfl
    have e := hmg.symm.trans (He.glo_ok KX G (c.fact 31 (f := .glo "law") rfl))
    cases e
    refine ⟨K, KX, fd, [], Mi.spA K mg 1 false Lw.F_law, fun _ h => (nomatch h), fun _ h => (nomatch h), fun _ h => (nomatch h), fun s v => b s [v] rfl, fun H a ns hl hz _ hS => ?_, fun base _ _ _ => Lw.law_at T (He5.fun_of (st := Lw.st_law) F)⟩
    refine ⟨[.rls (ns.map Mi.D.int)], H, fun _ _ e => e, ?_, rfl, ?_⟩
    · refine Mi.DenL.cons ?_ Mi.DenL.nil
      simp only [Mi.Den]
      exact ⟨a, _, rfl, hS, Mi.denL_ints.2 rfl⟩
    · rw [pl ns hl hz]
      exact fun v H' s f => Mi.den_bl (f H' s fun _ _ e _ => e)
theorem PySem.Challenge.cw_oncecodes_k21_whole_chances_of_many_trie_holds : PySem.Challenge.rw_oncecodes_k21_whole_chances_of_many_trie.Holds := by
  exact Lw.holds_of fun ns h z => Lw.law_ok h z
