import PyProof.Rows.All
import Wide.All
import OpenK.AllK
import Wide.FinOn
import HandS.ForMost
import HandS.ForExc
import HandS.IsInst
import HandS.Wide
import HandS.WideMore
import HandS.CallSlots
import HandS.Conv
import HandS.Rev
import HandS.Flow
import HandS.Style
import HandS.EndBits
import HandS.TupAny
import HandS.RevTup
import HandS.HeadNt
import HandS.HeadWalk
import HandS.HeadEnd
import HandS.Head0
import HandS.Head1
import HandS.Head2
import KE.KStateDown
import HandS.SortInts
import HandS.TupLe
import HandS.TryMany
import HandS.ExcIs
import HandS.List
import HandS.HotCalls
import HandS.EndTab
import HandS.Star
import HandS.Deep
import PyProof.Rows.NestShow
import KE.SortData
import HandS.Set
import HandS.SetKeys
import HandS.SetFor
import HandS.TupSets
import HandS.Zip
import KE.KDictSum
import PyProof.Rows.SetFrom
import HandS.DictComp
import HandS.Flt
import KE.IntTextLaws
import PyProof.StrOps2
import PyProof.LongRange
import PySem.Challenge.RW_oncecodes_k03_whole_judges_by_clocks
set_option Elab.async false
set_option linter.all false
set_option maxRecDepth 100000
set_option maxHeartbeats 4000000
set_option autoImplicit false
namespace Mi
open PySem PySem.Spec PyProof.Rows L2

/-- a value with all that it holds -/
inductive D where
  | non | bl (b : Bool) | int (i : Int) | str (x : Str)
  | tup (ds : List D) | lst (ds : List D) | rls (ds : List D)
  | dct (ks : List Key) (ds : List D)
  | ty (n : String)

mutual
def Den (K : PySem.W.Frag) (H : Hp) : D → V → Prop
  | .non, v => v = .non
  | .bl b, v => v = .bl b
  | .int i, v => v = .int i
  | .str x, v => v = .str x
  | .tup ds, v => ∃ a vs, v = .ref a ∧ SqT K H a vs ∧ DenL K H ds vs
  | .lst ds, v => ∃ a vs, v = .ref a ∧ H a = some (.lst vs) ∧ DenL K H ds vs
  | .rls ds, v => ∃ a vs, v = .ref a ∧ SqL K H a vs ∧ DenL K H ds vs
  | .dct ks ds, v => ∃ a vs, v = .ref a ∧ H a = some (.dK (ks.zip vs)) ∧ ks.length = vs.length ∧ DenL K H ds vs
  | .ty n, v => v = .ty n
def DenL (K : PySem.W.Frag) (H : Hp) : List D → List V → Prop
  | [], vs => vs = []
  | d :: ds, vs => ∃ v r, vs = v :: r ∧ Den K H d v ∧ DenL K H ds r
end

theorem Same.seqT {K : PySem.W.Frag} {H H' : Hp} {a : Addr} {xs : List V} (e : Same H H') (h : SqT K H a xs) : SqT K H' a xs := by
  rcases h with (h | ⟨o, h⟩) | h
  · exact .inl (.inl (e _ _ h))
  · exact .inl (.inr ⟨o, e _ _ h⟩)
  · exact .inr h

mutual
theorem Den.mono {K : PySem.W.Frag} {H H' : Hp} (s : Same H H') : ∀ (d : D) (v : V), Den K H d v → Den K H' d v
  | .non, _, h => h
  | .bl _, _, h => h
  | .int _, _, h => h
  | .str _, _, h => h
  | .tup ds, v, h => by
    simp only [Den] at h ⊢
    obtain ⟨a, vs, e, q, l⟩ := h
    exact ⟨a, vs, e, Same.seqT s q, DenL.mono s ds vs l⟩
  | .lst ds, v, h => by
    simp only [Den] at h ⊢
    obtain ⟨a, vs, e, q, l⟩ := h
    exact ⟨a, vs, e, s _ _ q, DenL.mono s ds vs l⟩
  | .rls ds, v, h => by
    simp only [Den] at h ⊢
    obtain ⟨a, vs, e, q, l⟩ := h
    exact ⟨a, vs, e, s.seq q, DenL.mono s ds vs l⟩
  | .dct ks ds, v, h => by
    simp only [Den] at h ⊢
    obtain ⟨a, vs, e, q, n, l⟩ := h
    exact ⟨a, vs, e, s _ _ q, n, DenL.mono s ds vs l⟩
  | .ty _, _, h => h
theorem DenL.mono {K : PySem.W.Frag} {H H' : Hp} (s : Same H H') : ∀ (ds : List D) (vs : List V), DenL K H ds vs → DenL K H' ds vs
  | [], _, h => h
  | d :: ds, vs, h => by
    simp only [DenL] at h ⊢
    obtain ⟨v, r, e, h1, h2⟩ := h
    exact ⟨v, r, e, Den.mono s d v h1, DenL.mono s ds r h2⟩
end

section
variable {K : PySem.W.Frag} {H H' : Hp}
theorem DenL.length : ∀ {ds : List D} {vs : List V}, DenL K H ds vs → ds.length = vs.length
  | [], _, h => by simp only [DenL] at h; subst h; rfl
  | d :: ds, vs, h => by
    simp only [DenL] at h
    obtain ⟨v, r, rfl, _, h2⟩ := h
    rw [List.length_cons, List.length_cons, DenL.length h2]
theorem DenL.nil : DenL K H [] [] := by simp only [DenL]
theorem DenL.cons {d : D} {v : V} {ds : List D} {vs : List V} (h : Den K H d v) (t : DenL K H ds vs) : DenL K H (d :: ds) (v :: vs) := by
  simp only [DenL]
  exact ⟨v, vs, rfl, h, t⟩
theorem DenL.get : ∀ {ds : List D} {vs : List V} {i : Nat} {d : D}, DenL K H ds vs → ds[i]? = some d → ∃ v, vs[i]? = some v ∧ Den K H d v
  | [], _, _, _, _, e => by simp at e
  | d :: ds, vs, i, d', h, e => by
    simp only [DenL] at h
    obtain ⟨v, r, rfl, h1, h2⟩ := h
    cases i with
    | zero =>
      simp only [List.getElem?_cons_zero, Option.some.injEq] at e
      subst e
      exact ⟨v, rfl, h1⟩
    | succ i =>
      simp only [List.getElem?_cons_succ] at e ⊢
      exact DenL.get h2 e
theorem DenL.getV : ∀ {ds : List D} {vs : List V} {i : Nat} {v : V}, DenL K H ds vs → vs[i]? = some v → ∃ d, ds[i]? = some d ∧ Den K H d v
  | [], _, _, _, h, e => by simp only [DenL] at h; subst h; simp at e
  | d :: ds, vs, i, d', h, e => by
    simp only [DenL] at h
    obtain ⟨v, r, rfl, h1, h2⟩ := h
    cases i with
    | zero =>
      simp only [List.getElem?_cons_zero, Option.some.injEq] at e
      subst e
      exact ⟨d, rfl, h1⟩
    | succ i =>
      simp only [List.getElem?_cons_succ] at e ⊢
      exact DenL.getV h2 e
theorem DenL.append : ∀ {ds es : List D} {vs us : List V}, DenL K H ds vs → DenL K H es us → DenL K H (ds ++ es) (vs ++ us)
  | [], _, _, _, h, t => by simp only [DenL] at h; subst h; exact t
  | d :: ds, _, _, _, h, t => by
    simp only [DenL] at h
    obtain ⟨v, r, rfl, h1, h2⟩ := h
    exact DenL.cons h1 (DenL.append h2 t)
theorem DenL.take : ∀ {ds : List D} {vs : List V} (n : Nat), DenL K H ds vs → DenL K H (ds.take n) (vs.take n)
  | [], _, n, h => by simp only [DenL] at h; subst h; simp [DenL]
  | d :: ds, _, 0, h => by simp [DenL]
  | d :: ds, _, n + 1, h => by
    simp only [DenL] at h
    obtain ⟨v, r, rfl, h1, h2⟩ := h
    exact DenL.cons h1 (DenL.take n h2)
theorem DenL.drop : ∀ {ds : List D} {vs : List V} (n : Nat), DenL K H ds vs → DenL K H (ds.drop n) (vs.drop n)
  | [], _, n, h => by simp only [DenL] at h; subst h; simp [DenL]
  | d :: ds, _, 0, h => h
  | d :: ds, _, n + 1, h => by
    simp only [DenL] at h
    obtain ⟨v, r, rfl, h1, h2⟩ := h
    exact DenL.drop n h2
theorem DenL.dropLast : ∀ {ds : List D} {vs : List V}, DenL K H ds vs → DenL K H ds.dropLast vs.dropLast := fun {ds vs} h => by
  rw [List.dropLast_eq_take, List.dropLast_eq_take, ← DenL.length h]
  exact DenL.take _ h
theorem DenL.reverse : ∀ {ds : List D} {vs : List V}, DenL K H ds vs → DenL K H ds.reverse vs.reverse
  | [], _, h => by simp only [DenL] at h; subst h; simp [DenL]
  | d :: ds, _, h => by
    simp only [DenL] at h
    obtain ⟨v, r, rfl, h1, h2⟩ := h
    rw [List.reverse_cons, List.reverse_cons]
    exact DenL.append (DenL.reverse h2) (DenL.cons h1 DenL.nil)
theorem DenL.set : ∀ {ds : List D} {vs : List V} {d : D} {v : V} (i : Nat), DenL K H ds vs → Den K H d v → DenL K H (ds.set i d) (vs.set i v)
  | [], _, _, _, _, h, _ => by simp only [DenL] at h; subst h; simp [DenL]
  | d :: ds, _, d', v', i, h, hd => by
    simp only [DenL] at h
    obtain ⟨v, r, rfl, h1, h2⟩ := h
    cases i with
    | zero => exact DenL.cons hd h2
    | succ i => exact DenL.cons h1 (DenL.set i h2 hd)
theorem DenL.replicate {d : D} {v : V} (h : Den K H d v) : ∀ n : Nat, DenL K H (List.replicate n d) (List.replicate n v)
  | 0 => DenL.nil
  | n + 1 => by
    rw [List.replicate_succ, List.replicate_succ]
    exact DenL.cons h (DenL.replicate h n)
theorem DenL.rep {ds : List D} {vs : List V} (h : DenL K H ds vs) : ∀ n : Nat, DenL K H (List.replicate n ds).flatten (List.replicate n vs).flatten
  | 0 => DenL.nil
  | n + 1 => by
    rw [List.replicate_succ, List.replicate_succ, List.flatten_cons, List.flatten_cons]
    exact DenL.append h (DenL.rep h n)
theorem DenL.eraseIdx : ∀ {ds : List D} {vs : List V} (i : Nat), DenL K H ds vs → DenL K H (ds.eraseIdx i) (vs.eraseIdx i)
  | [], _, _, h => by simp only [DenL] at h; subst h; simp [DenL]
  | d :: ds, _, i, h => by
    simp only [DenL] at h
    obtain ⟨v, r, rfl, h1, h2⟩ := h
    cases i with
    | zero => exact h2
    | succ i => exact DenL.cons h1 (DenL.eraseIdx i h2)
end

/-! ### slots -/
inductive Sl where
  | un | val (d : D) | own (ds : List D) | brw (ds : List D)
abbrev En := List Sl
inductive R (α : Type) where
  | ok (a : α) | exc (c : Str) (e : En) | err

/-- the entry of a def: the heap there, what of it is seen, what is lent -/
structure Act where
  Hr : Hp
  He : Hp
  bor : Addr → Prop
  bld : Addr → Option HO
def off (A : Act) (a : Addr) : Prop := A.Hr a ≠ none ∧ A.He a = none
def Held (e : En) (i : Nat) : Prop := ∃ ds, e[i]? = some (.own ds) ∨ e[i]? = some (.brw ds)
def OwnAt (σ : L2.St) (e : En) (a : Addr) : Prop := ∃ i, Held e i ∧ σ[i]? = some (some (.ref a))
open Classical in
noncomputable def hid (A : Act) (σ : L2.St) (e : En) (H : Hp) : Hp := fun a => if OwnAt σ e a ∨ off A a then none else H a

structure Rep (K : PySem.W.Frag) (A : Act) (H : Hp) (σ : L2.St) (e : En) : Prop where
  len : σ.length = e.length
  sub : Same A.He A.Hr
  bhr : ∀ a, A.bor a → A.Hr a ≠ none
  nbor : ∀ a, A.bor a ∨ A.bld a ≠ none → A.He a = none ∧ H a ≠ none
  nbld : ∀ a vs, A.bld a = some vs → A.Hr a ≠ none ∧ ¬ A.bor a ∧ H a = some vs
  keep : ∀ b x, A.Hr b = some x → ¬ (A.bor b ∨ A.bld b ≠ none) → H b = some x
  val : ∀ (i : Nat) (d : D), e[i]? = some (.val d) → ∃ v, σ[i]? = some (some v) ∧ Den K (hid A σ e H) d v
  own : ∀ (i : Nat) (ds : List D), e[i]? = some (.own ds) → ∃ a vs, σ[i]? = some (some (.ref a)) ∧ H a = some (.lst vs) ∧ DenL K (hid A σ e H) ds vs ∧ A.Hr a = none
  brw : ∀ (i : Nat) (ds : List D), e[i]? = some (.brw ds) → ∃ a vs, σ[i]? = some (some (.ref a)) ∧ H a = some (.lst vs) ∧ DenL K (hid A σ e H) ds vs ∧ A.bor a
  inj : ∀ (i j : Nat) (a : Addr), Held e i → Held e j → σ[i]? = some (some (.ref a)) → σ[j]? = some (some (.ref a)) → i = j

section
variable {K : PySem.W.Frag} {A : Act} {H H' : Hp} {σ : L2.St} {e : En}
theorem hid_sub : Same (hid A σ e H) H := fun b o h => by
  unfold hid at h
  split at h
  · cases h
  · exact h
theorem hid_in {b : Addr} (n : ¬ OwnAt σ e b) (m : ¬ off A b) : hid A σ e H b = H b := by
  unfold hid
  rw [if_neg (by rintro (h | h); exact n h; exact m h)]
theorem hid_not {b : Addr} {o : HO} (h : hid A σ e H b = some o) : ¬ OwnAt σ e b ∧ ¬ off A b ∧ H b = some o := by
  unfold hid at h
  split at h
  · cases h
  · rename_i n
    exact ⟨fun x => n (.inl x), fun x => n (.inr x), h⟩
theorem hid_same (s : Same H H') : Same (hid A σ e H) (hid A σ e H') := fun b o h => by
  obtain ⟨n, m, h⟩ := hid_not h
  rw [hid_in n m]
  exact s _ _ h
theorem Rep.held {i : Nat} (r : Rep K A H σ e) (h : Held e i) : ∃ a vs, σ[i]? = some (some (.ref a)) ∧ H a = some (.lst vs) ∧ (A.Hr a = none ∨ A.bor a) := by
  obtain ⟨ds, h | h⟩ := h
  · obtain ⟨a, vs, h1, h2, _, h4⟩ := r.own i ds h
    exact ⟨a, vs, h1, h2, .inl h4⟩
  · obtain ⟨a, vs, h1, h2, _, h4⟩ := r.brw i ds h
    exact ⟨a, vs, h1, h2, .inr h4⟩
theorem Rep.ownAt {a : Addr} (r : Rep K A H σ e) (h : OwnAt σ e a) : ∃ vs, H a = some (.lst vs) ∧ (A.Hr a = none ∨ A.bor a) := by
  obtain ⟨i, hi, ha⟩ := h
  obtain ⟨b, vs, h1, h2, h3⟩ := r.held hi
  rw [ha] at h1
  cases h1
  exact ⟨vs, h2, h3⟩
/-- a new address is neither held nor out of sight -/
theorem Rep.new {p : Addr} (r : Rep K A H σ e) (h : H p = none) : ¬ OwnAt σ e p ∧ ¬ off A p ∧ ¬ (A.bor p ∨ A.bld p ≠ none) ∧ A.Hr p = none := by
  have nb : ¬ (A.bor p ∨ A.bld p ≠ none) := fun b => (r.nbor p b).2 h
  have nr : A.Hr p = none := by
    cases q : A.Hr p with
    | none => rfl
    | some x =>
      have := r.keep p x q nb
      rw [h] at this
      cases this
  refine ⟨fun o => ?_, fun o => o.1 nr, nb, nr⟩
  obtain ⟨vs, h2, _⟩ := r.ownAt o
  rw [h] at h2
  cases h2
theorem Rep.grow (r : Rep K A H σ e) (s : Same H H') : Rep K A H' σ e where
  len := r.len
  sub := r.sub
  bhr := r.bhr
  nbor := fun a b => ⟨(r.nbor a b).1, fun h => by
    cases q : H a with
    | none => exact (r.nbor a b).2 q
    | some x => rw [s _ _ q] at h; cases h⟩
  nbld := fun a vs h => let ⟨h1, h2, h3⟩ := r.nbld a vs h; ⟨h1, h2, s _ _ h3⟩
  keep := fun b x h n => s _ _ (r.keep b x h n)
  val := fun i d h => by
    obtain ⟨v, h1, h2⟩ := r.val i d h
    exact ⟨v, h1, Den.mono (hid_same s) d v h2⟩
  own := fun i ds h => by
    obtain ⟨a, vs, h1, h2, h3, h4⟩ := r.own i ds h
    exact ⟨a, vs, h1, s _ _ h2, DenL.mono (hid_same s) ds vs h3, h4⟩
  brw := fun i ds h => by
    obtain ⟨a, vs, h1, h2, h3, h4⟩ := r.brw i ds h
    exact ⟨a, vs, h1, s _ _ h2, DenL.mono (hid_same s) ds vs h3, h4⟩
  inj := r.inj
/-- what is new stands in sight -/
theorem Rep.seen {b : Addr} {o : HO} (r : Rep K A H σ e) (h : H' b = some o) (n : H b = none) : hid A σ e H' b = some o := by
  obtain ⟨h1, h2, _⟩ := r.new n
  rw [hid_in h1 h2]
  exact h
/-- what was seen at the entry is seen -/
theorem Rep.entry (r : Rep K A H σ e) : Same A.He (hid A σ e H) := fun b o h => by
  have hr := r.sub _ _ h
  have nb : ¬ (A.bor b ∨ A.bld b ≠ none) := fun x => by rw [(r.nbor b x).1] at h; cases h
  have hb := r.keep b o hr nb
  rw [hid_in _ _]
  · exact hb
  · intro x
    obtain ⟨_, _, h3 | h3⟩ := r.ownAt x
    · rw [h3] at hr; cases hr
    · exact nb (.inl h3)
  · intro x
    rw [x.2] at h; cases h
theorem held_set {i j : Nat} {d : D} (h : Held (e.set i (.val d)) j) : Held e j ∧ j ≠ i := by
  obtain ⟨ds, h⟩ := h
  have ne : j ≠ i := by
    rintro rfl
    by_cases q : j < e.length
    · rw [List.getElem?_set_self q] at h
      rcases h with h | h <;> cases h
    · rw [List.getElem?_eq_none (by simpa using q)] at h
      rcases h with h | h <;> cases h
  rw [List.getElem?_set_ne (fun x => ne x.symm)] at h
  exact ⟨⟨ds, h⟩, ne⟩
theorem ownAt_set {i : Nat} {d : D} {v : Option V} {a : Addr} (h : OwnAt (σ.set i v) (e.set i (.val d)) a) : OwnAt σ e a := by
  obtain ⟨j, hj, ha⟩ := h
  obtain ⟨h1, h2⟩ := held_set hj
  rw [List.getElem?_set_ne (fun x => h2 x.symm)] at ha
  exact ⟨j, h1, ha⟩
theorem hid_set {i : Nat} {d : D} {v : Option V} : Same (hid A σ e H) (hid A (σ.set i v) (e.set i (.val d)) H) := fun b o h => by
  obtain ⟨n, m, h⟩ := hid_not h
  rw [hid_in (fun x => n (ownAt_set x)) m]
  exact h
/-- a slot takes a value -/
theorem Rep.set {i : Nat} {d : D} {v : V} (r : Rep K A H σ e) (h : Den K (hid A σ e H) d v) : Rep K A H (σ.set i (some v)) (e.set i (.val d)) where
  len := by rw [List.length_set, List.length_set]; exact r.len
  sub := r.sub
  bhr := r.bhr
  nbor := r.nbor
  nbld := r.nbld
  keep := r.keep
  val := fun j d' h' => by
    by_cases hj : j = i
    · subst hj
      have q : j < e.length := by
        by_cases q : j < e.length
        · exact q
        · rw [List.getElem?_eq_none (by simpa using q)] at h'; cases h'
      rw [List.getElem?_set_self q] at h'
      cases h'
      exact ⟨v, List.getElem?_set_self (by rw [r.len]; exact q), Den.mono hid_set _ _ h⟩
    · rw [List.getElem?_set_ne (fun x => hj x.symm)] at h'
      obtain ⟨v', h1, h2⟩ := r.val j d' h'
      exact ⟨v', by rw [List.getElem?_set_ne (fun x => hj x.symm)]; exact h1, Den.mono hid_set _ _ h2⟩
  own := fun j ds h' => by
    have hj := (held_set ⟨ds, .inl h'⟩).2
    rw [List.getElem?_set_ne (fun x => hj x.symm)] at h'
    obtain ⟨a, vs, h1, h2, h3, h4⟩ := r.own j ds h'
    exact ⟨a, vs, by rw [List.getElem?_set_ne (fun x => hj x.symm)]; exact h1, h2, DenL.mono hid_set _ _ h3, h4⟩
  brw := fun j ds h' => by
    have hj := (held_set ⟨ds, .inr h'⟩).2
    rw [List.getElem?_set_ne (fun x => hj x.symm)] at h'
    obtain ⟨a, vs, h1, h2, h3, h4⟩ := r.brw j ds h'
    exact ⟨a, vs, by rw [List.getElem?_set_ne (fun x => hj x.symm)]; exact h1, h2, DenL.mono hid_set _ _ h3, h4⟩
  inj := fun j k a hj hk h1 h2 => by
    obtain ⟨hj, nj⟩ := held_set hj
    obtain ⟨hk, nk⟩ := held_set hk
    rw [List.getElem?_set_ne (fun x => nj x.symm)] at h1
    rw [List.getElem?_set_ne (fun x => nk x.symm)] at h2
    exact r.inj j k a hj hk h1 h2
/-- a held list becomes a value -/
theorem Rep.freeze {i : Nat} {ds : List D} (r : Rep K A H σ e) (h : e[i]? = some (.own ds)) :
    ∃ a, σ[i]? = some (some (.ref a)) ∧ Rep K A H σ (e.set i (.val (.lst ds))) ∧ Same (hid A σ e H) (hid A σ (e.set i (.val (.lst ds))) H) ∧ Den K (hid A σ (e.set i (.val (.lst ds))) H) (.lst ds) (.ref a) := by
  obtain ⟨a, vs, h1, h2, h3, h4⟩ := r.own i ds h
  have q : i < e.length := by
    by_cases q : i < e.length
    · exact q
    · rw [List.getElem?_eq_none (by simpa using q)] at h; cases h
  have es : σ.set i (some (.ref a)) = σ := by
    apply List.ext_getElem?
    intro j
    by_cases hj : i = j
    · subst hj
      rw [List.getElem?_set_self (by rw [r.len]; exact q), h1]
    · rw [List.getElem?_set_ne hj]
  have sm : Same (hid A σ e H) (hid A σ (e.set i (.val (.lst ds))) H) := by
    have := @hid_set A H σ e i (.lst ds) (some (.ref a))
    rw [es] at this
    exact this
  have na : ¬ OwnAt σ (e.set i (.val (.lst ds))) a := by
    rintro ⟨j, hj, ha⟩
    obtain ⟨hj, nj⟩ := held_set hj
    exact nj (r.inj j i a hj ⟨ds, .inl h⟩ ha h1)
  have nf : ¬ off A a := fun x => x.1 h4
  have hd : Den K (hid A σ (e.set i (.val (.lst ds))) H) (.lst ds) (.ref a) := by
    simp only [Den]
    exact ⟨a, vs, rfl, by rw [hid_in na nf]; exact h2, DenL.mono sm _ _ h3⟩
  refine ⟨a, h1, ?_, sm, hd⟩
  exact {
    len := by rw [List.length_set]; exact r.len
    sub := r.sub
    bhr := r.bhr
    nbor := r.nbor
    nbld := r.nbld
    keep := r.keep
    val := fun j d' h' => by
      by_cases hj : j = i
      · subst hj
        rw [List.getElem?_set_self q] at h'
        cases h'
        exact ⟨_, h1, hd⟩
      · rw [List.getElem?_set_ne (fun x => hj x.symm)] at h'
        obtain ⟨v', h1, h2⟩ := r.val j d' h'
        exact ⟨v', h1, Den.mono sm _ _ h2⟩
    own := fun j ds' h' => by
      have hj := (held_set ⟨ds', .inl h'⟩).2
      rw [List.getElem?_set_ne (fun x => hj x.symm)] at h'
      obtain ⟨a, vs, h1, h2, h3, h4⟩ := r.own j ds' h'
      exact ⟨a, vs, h1, h2, DenL.mono sm _ _ h3, h4⟩
    brw := fun j ds' h' => by
      have hj := (held_set ⟨ds', .inr h'⟩).2
      rw [List.getElem?_set_ne (fun x => hj x.symm)] at h'
      obtain ⟨a, vs, h1, h2, h3, h4⟩ := r.brw j ds' h'
      exact ⟨a, vs, h1, h2, DenL.mono sm _ _ h3, h4⟩
    inj := fun j k b hj hk h1 h2 => r.inj j k b (held_set hj).1 (held_set hk).1 h1 h2 }
/-- the kind of a slot, told by what it holds -/
def Sl.turn : Sl → List D → Sl
  | .own _, ds => .own ds
  | .brw _, ds => .brw ds
  | s, _ => s
theorem held_turn {i j : Nat} {s : Sl} {ds : List D} (hs : e[i]? = some s) : Held (e.set i (s.turn ds)) j ↔ Held e j := by
  by_cases hj : j = i
  · subst hj
    have q : j < e.length := by
      by_cases q : j < e.length
      · exact q
      · rw [List.getElem?_eq_none (by simpa using q)] at hs; cases hs
    unfold Held
    rw [List.getElem?_set_self q, hs]
    cases s <;> simp [Sl.turn]
  · unfold Held
    rw [List.getElem?_set_ne (fun x => hj x.symm)]
theorem ownAt_turn {i : Nat} {s : Sl} {ds : List D} {a : Addr} (hs : e[i]? = some s) : OwnAt σ (e.set i (s.turn ds)) a ↔ OwnAt σ e a := by
  unfold OwnAt
  constructor
  · rintro ⟨j, h1, h2⟩
    exact ⟨j, (held_turn hs).1 h1, h2⟩
  · rintro ⟨j, h1, h2⟩
    exact ⟨j, (held_turn hs).2 h1, h2⟩
/-- a held list is rewritten -/
theorem Rep.put {i : Nat} {s : Sl} {a : Addr} {ds : List D} {vs : List V} (r : Rep K A H σ e) (hs : e[i]? = some s) (hh : Held e i) (ha : σ[i]? = some (some (.ref a))) (h : DenL K (hid A σ e H) ds vs) :
    Rep K A (upd H a (.lst vs)) σ (e.set i (s.turn ds)) ∧ hid A σ (e.set i (s.turn ds)) (upd H a (.lst vs)) = hid A σ e H := by
  have oa : OwnAt σ e a := ⟨i, hh, ha⟩
  obtain ⟨ws, ow, hra⟩ := r.ownAt oa
  have eh : hid A σ (e.set i (s.turn ds)) (upd H a (.lst vs)) = hid A σ e H := by
    funext b
    unfold hid
    by_cases hb : OwnAt σ e b ∨ off A b
    · rw [if_pos hb, if_pos (hb.imp (ownAt_turn hs).2 id)]
    · rw [if_neg hb, if_neg (fun x => hb (x.imp (ownAt_turn hs).1 id)), upd_ne]
      rintro rfl
      exact hb (.inl oa)
  refine ⟨?_, eh⟩
  have qi : i < e.length := by
    by_cases q : i < e.length
    · exact q
    · rw [List.getElem?_eq_none (by simpa using q)] at hs; cases hs
  exact {
    len := by rw [List.length_set]; exact r.len
    sub := r.sub
    bhr := r.bhr
    nbor := fun b hb => ⟨(r.nbor b hb).1, by
      by_cases q : b = a
      · subst q; rw [upd_same]; exact fun x => by cases x
      · rw [upd_ne q]; exact (r.nbor b hb).2⟩
    nbld := fun b us hb => by
      obtain ⟨h1, h2, h3⟩ := r.nbld b us hb
      refine ⟨h1, h2, ?_⟩
      rw [upd_ne]
      · exact h3
      · rintro rfl
        rcases hra with h | h
        · exact h1 h
        · exact h2 h
    keep := fun b x hx nb => by
      have q : b ≠ a := by
        rintro rfl
        rcases hra with h | h
        · rw [h] at hx; cases hx
        · exact nb (.inl h)
      rw [upd_ne q]
      exact r.keep b x hx nb
    val := fun j d' h' => by
      rw [eh]
      by_cases hj : j = i
      · subst hj
        rw [List.getElem?_set_self qi] at h'
        obtain ⟨ds0, hh | hh⟩ := hh
        · rw [hs] at hh; cases hh; cases h'
        · rw [hs] at hh; cases hh; cases h'
      · rw [List.getElem?_set_ne (fun x => hj x.symm)] at h'
        exact r.val j d' h'
    own := fun j ds' h' => by
      rw [eh]
      by_cases hj : j = i
      · subst hj
        rw [List.getElem?_set_self qi] at h'
        obtain ⟨ds0, hh | hh⟩ := hh
        · rw [hs] at hh
          cases hh
          obtain ⟨b, us, k1, k2, k3, k4⟩ := r.own j ds0 hs
          rw [ha] at k1
          cases k1
          cases h'
          exact ⟨a, vs, ha, upd_same, h, k4⟩
        · rw [hs] at hh; cases hh; cases h'
      · rw [List.getElem?_set_ne (fun x => hj x.symm)] at h'
        obtain ⟨b, us, k1, k2, k3, k4⟩ := r.own j ds' h'
        refine ⟨b, us, k1, ?_, k3, k4⟩
        rw [upd_ne]
        · exact k2
        · rintro rfl
          exact hj (r.inj j i b ⟨ds', .inl h'⟩ hh k1 ha)
    brw := fun j ds' h' => by
      rw [eh]
      by_cases hj : j = i
      · subst hj
        rw [List.getElem?_set_self qi] at h'
        obtain ⟨ds0, hh | hh⟩ := hh
        · rw [hs] at hh; cases hh; cases h'
        · rw [hs] at hh
          cases hh
          obtain ⟨b, us, k1, k2, k3, k4⟩ := r.brw j ds0 hs
          rw [ha] at k1
          cases k1
          cases h'
          exact ⟨a, vs, ha, upd_same, h, k4⟩
      · rw [List.getElem?_set_ne (fun x => hj x.symm)] at h'
        obtain ⟨b, us, k1, k2, k3, k4⟩ := r.brw j ds' h'
        refine ⟨b, us, k1, ?_, k3, k4⟩
        rw [upd_ne]
        · exact k2
        · rintro rfl
          exact hj (r.inj j i b ⟨ds', .inr h'⟩ hh k1 ha)
    inj := fun j k b hj hk h1 h2 => r.inj j k b ((held_turn hs).1 hj) ((held_turn hs).1 hk) h1 h2 }
/-- a slot takes a new list, held -/
theorem Rep.take {i : Nat} {s : Sl} {ds : List D} {vs : List V} {p : Addr} (r : Rep K A H σ e) (hp : H p = none) (h : DenL K (hid A σ e H) ds vs) (hs : s = .own ds) (hi : i < e.length) :
    Rep K A (upd H p (.lst vs)) (σ.set i (some (.ref p))) (e.set i s) := by
  obtain ⟨no, nf, nb, nr⟩ := r.new hp
  have hl : ∀ j, j ≠ i → ((e.set i s)[j]? = e[j]? ∧ (σ.set i (some (V.ref p)))[j]? = σ[j]?) := fun j hj =>
    ⟨List.getElem?_set_ne (fun x => hj x.symm), List.getElem?_set_ne (fun x => hj x.symm)⟩
  have hii : (e.set i s)[i]? = some s := List.getElem?_set_self hi
  have hsi : (σ.set i (some (V.ref p)))[i]? = some (some (.ref p)) := List.getElem?_set_self (by rw [r.len]; exact hi)
  have oa : ∀ b, OwnAt (σ.set i (some (V.ref p))) (e.set i s) b → b = p ∨ OwnAt σ e b := by
    rintro b ⟨j, ⟨ds', h1⟩, h2⟩
    by_cases hj : j = i
    · subst hj
      rw [hsi] at h2
      cases h2
      exact .inl rfl
    · rw [(hl j hj).1] at h1
      rw [(hl j hj).2] at h2
      exact .inr ⟨j, ⟨ds', h1⟩, h2⟩
  have sm : Same (hid A σ e H) (hid A (σ.set i (some (V.ref p))) (e.set i s) (upd H p (.lst vs))) := fun b o h => by
    obtain ⟨n, m, h⟩ := hid_not h
    have q : b ≠ p := by rintro rfl; rw [hp] at h; cases h
    rw [hid_in (fun x => (oa b x).elim q n) m, upd_ne q]
    exact h
  have ne : ∀ b x, H b = some x → b ≠ p := fun b x h q => by rw [q, hp] at h; cases h
  exact {
    len := by rw [List.length_set, List.length_set]; exact r.len
    sub := r.sub
    bhr := r.bhr
    nbor := fun b hb => ⟨(r.nbor b hb).1, by
      have q : b ≠ p := by rintro rfl; exact nb hb
      rw [upd_ne q]; exact (r.nbor b hb).2⟩
    nbld := fun b us hb => by
      obtain ⟨h1, h2, h3⟩ := r.nbld b us hb
      exact ⟨h1, h2, by rw [upd_ne (ne _ _ h3)]; exact h3⟩
    keep := fun b x hx nb' => by
      have k := r.keep b x hx nb'
      rw [upd_ne (ne _ _ k)]
      exact k
    val := fun j d' h' => by
      by_cases hj : j = i
      · subst hj
        rw [hii] at h'
        subst hs
        cases h'
      · rw [(hl j hj).1] at h'
        obtain ⟨v, k1, k2⟩ := r.val j d' h'
        exact ⟨v, by rw [(hl j hj).2]; exact k1, Den.mono sm _ _ k2⟩
    own := fun j ds' h' => by
      by_cases hj : j = i
      · subst hj
        rw [hii] at h'
        subst hs
        cases h'
        exact ⟨p, vs, hsi, upd_same, DenL.mono sm _ _ h, nr⟩
      · rw [(hl j hj).1] at h'
        obtain ⟨b, us, k1, k2, k3, k4⟩ := r.own j ds' h'
        exact ⟨b, us, by rw [(hl j hj).2]; exact k1, by rw [upd_ne (ne _ _ k2)]; exact k2, DenL.mono sm _ _ k3, k4⟩
    brw := fun j ds' h' => by
      by_cases hj : j = i
      · subst hj
        rw [hii] at h'
        subst hs
        cases h'
      · rw [(hl j hj).1] at h'
        obtain ⟨b, us, k1, k2, k3, k4⟩ := r.brw j ds' h'
        exact ⟨b, us, by rw [(hl j hj).2]; exact k1, by rw [upd_ne (ne _ _ k2)]; exact k2, DenL.mono sm _ _ k3, k4⟩
    inj := fun j k b hj hk h1 h2 => by
      by_cases qj : j = i
      · by_cases qk : k = i
        · rw [qj, qk]
        · subst qj
          rw [hsi] at h1
          cases h1
          rw [(hl k qk).2] at h2
          obtain ⟨ds', hk⟩ := hk
          rw [(hl k qk).1] at hk
          exact absurd ⟨k, ⟨ds', hk⟩, h2⟩ no
      · by_cases qk : k = i
        · subst qk
          rw [hsi] at h2
          cases h2
          rw [(hl j qj).2] at h1
          obtain ⟨ds', hj⟩ := hj
          rw [(hl j qj).1] at hj
          exact absurd ⟨j, ⟨ds', hj⟩, h1⟩ no
        · obtain ⟨d1, hj⟩ := hj
          obtain ⟨d2, hk⟩ := hk
          rw [(hl j qj).1] at hj
          rw [(hl k qk).1] at hk
          rw [(hl j qj).2] at h1
          rw [(hl k qk).2] at h2
          exact r.inj j k b ⟨d1, hj⟩ ⟨d2, hk⟩ h1 h2 }
/-- slots are forgotten -/
def wipeE (e : En) : List Nat → En
  | [] => e
  | v :: vs => (wipeE e vs).set v .un
theorem wipeE_length (e : En) : ∀ vs : List Nat, (wipeE e vs).length = e.length
  | [] => rfl
  | v :: vs => by unfold wipeE; rw [List.length_set, wipeE_length e vs]
theorem wipeE_get {e : En} {i : Nat} : ∀ {vs : List Nat}, i ∉ vs → (wipeE e vs)[i]? = e[i]?
  | [], _ => rfl
  | v :: vs, h => by
    simp only [List.mem_cons, not_or] at h
    unfold wipeE
    rw [List.getElem?_set_ne (fun x => h.1 x.symm), wipeE_get h.2]
theorem wipeE_un {e : En} {i : Nat} : ∀ {vs : List Nat}, i ∈ vs → ∀ s, (wipeE e vs)[i]? = some s → s = .un
  | [], h, _, _ => by simp at h
  | v :: vs, h, s, hs => by
    unfold wipeE at hs
    by_cases hi : v = i
    · subst hi
      by_cases hv : v < (wipeE e vs).length
      · rw [List.getElem?_set_self hv] at hs; cases hs; rfl
      · rw [List.getElem?_eq_none (by simpa using hv)] at hs; cases hs
    · rw [List.getElem?_set_ne hi] at hs
      have : i ∈ vs := by
        rcases List.mem_cons.mp h with x | x
        · exact absurd x.symm hi
        · exact x
      exact wipeE_un this s hs
theorem wipe_get {σ : L2.St} {i : Nat} : ∀ {vs : List Nat}, i ∉ vs → (wipe σ vs)[i]? = σ[i]?
  | [], _ => rfl
  | v :: vs, h => by
    simp only [List.mem_cons, not_or] at h
    unfold wipe
    rw [List.getElem?_set_ne (fun x => h.1 x.symm), wipe_get h.2]
/-- one state's slots are some of another's -/
structure Sub (σ : L2.St) (e : En) (σ' : L2.St) (e' : En) : Prop where
  len : σ'.length = e'.length
  slot : ∀ (i : Nat) (s : Sl), e'[i]? = some s → s = .un ∨ (e[i]? = some s ∧ σ'[i]? = σ[i]?)
theorem Sub.held {σ σ' : L2.St} {e e' : En} (x : Sub σ e σ' e') {i : Nat} (h : Held e' i) : Held e i ∧ σ'[i]? = σ[i]? := by
  obtain ⟨ds, h | h⟩ := h
  · rcases x.slot i _ h with q | ⟨q, z⟩
    · cases q
    · exact ⟨⟨ds, .inl q⟩, z⟩
  · rcases x.slot i _ h with q | ⟨q, z⟩
    · cases q
    · exact ⟨⟨ds, .inr q⟩, z⟩
theorem Sub.hid {A : Act} {H : Hp} {σ σ' : L2.St} {e e' : En} (x : Sub σ e σ' e') : Same (hid A σ e H) (hid A σ' e' H) := fun b o h => by
  obtain ⟨n, m, h⟩ := hid_not h
  rw [hid_in (fun ⟨i, hi, ha⟩ => n ⟨i, (x.held hi).1, (x.held hi).2 ▸ ha⟩) m]
  exact h
theorem Rep.part {σ' : L2.St} {e' : En} (r : Rep K A H σ e) (x : Sub σ e σ' e') : Rep K A H σ' e' where
  len := x.len
  sub := r.sub
  bhr := r.bhr
  nbor := r.nbor
  nbld := r.nbld
  keep := r.keep
  val := fun i d h => by
    rcases x.slot i _ h with q | ⟨q, z⟩
    · cases q
    · obtain ⟨v, h1, h2⟩ := r.val i d q
      exact ⟨v, z.trans h1, Den.mono x.hid _ _ h2⟩
  own := fun i ds h => by
    rcases x.slot i _ h with q | ⟨q, z⟩
    · cases q
    · obtain ⟨a, vs, h1, h2, h3, h4⟩ := r.own i ds q
      exact ⟨a, vs, z.trans h1, h2, DenL.mono x.hid _ _ h3, h4⟩
  brw := fun i ds h => by
    rcases x.slot i _ h with q | ⟨q, z⟩
    · cases q
    · obtain ⟨a, vs, h1, h2, h3, h4⟩ := r.brw i ds q
      exact ⟨a, vs, z.trans h1, h2, DenL.mono x.hid _ _ h3, h4⟩
  inj := fun i j a hi hj h1 h2 => r.inj i j a (x.held hi).1 (x.held hj).1 ((x.held hi).2 ▸ h1) ((x.held hj).2 ▸ h2)
/-- slots change, none new is held -/
theorem Rep.vals {σ' : L2.St} {e' : En} (r : Rep K A H σ e) (hl : σ'.length = e'.length) (hs : ∀ (i : Nat) (s : Sl), e'[i]? = some s → s = .un ∨ (e[i]? = some s ∧ σ'[i]? = σ[i]?) ∨ ∃ d v, s = .val d ∧ σ'[i]? = some (some v) ∧ Den K (hid A σ e H) d v) :
    Rep K A H σ' e' ∧ Same (hid A σ e H) (hid A σ' e' H) := by
  have hh : ∀ i, Held e' i → Held e i ∧ σ'[i]? = σ[i]? := fun i h => by
    obtain ⟨ds, h | h⟩ := h
    · rcases hs i _ h with q | ⟨q, z⟩ | ⟨_, _, q, _⟩
      · cases q
      · exact ⟨⟨ds, .inl q⟩, z⟩
      · cases q
    · rcases hs i _ h with q | ⟨q, z⟩ | ⟨_, _, q, _⟩
      · cases q
      · exact ⟨⟨ds, .inr q⟩, z⟩
      · cases q
  have sm : Same (hid A σ e H) (hid A σ' e' H) := fun b o h => by
    obtain ⟨n, m, h⟩ := hid_not h
    rw [hid_in (fun ⟨i, hi, ha⟩ => n ⟨i, (hh i hi).1, (hh i hi).2 ▸ ha⟩) m]
    exact h
  refine ⟨{
    len := hl
    sub := r.sub
    bhr := r.bhr
    nbor := r.nbor
    nbld := r.nbld
    keep := r.keep
    val := fun i d h => by
      rcases hs i _ h with q | ⟨q, z⟩ | ⟨d', v, q, z, dv⟩
      · cases q
      · obtain ⟨v, h1, h2⟩ := r.val i d q
        exact ⟨v, z.trans h1, Den.mono sm _ _ h2⟩
      · cases q
        exact ⟨v, z, Den.mono sm _ _ dv⟩
    own := fun i ds h => by
      rcases hs i _ h with q | ⟨q, z⟩ | ⟨_, _, q, _⟩
      · cases q
      · obtain ⟨a, vs, h1, h2, h3, h4⟩ := r.own i ds q
        exact ⟨a, vs, z.trans h1, h2, DenL.mono sm _ _ h3, h4⟩
      · cases q
    brw := fun i ds h => by
      rcases hs i _ h with q | ⟨q, z⟩ | ⟨_, _, q, _⟩
      · cases q
      · obtain ⟨a, vs, h1, h2, h3, h4⟩ := r.brw i ds q
        exact ⟨a, vs, z.trans h1, h2, DenL.mono sm _ _ h3, h4⟩
      · cases q
    inj := fun i j a hi hj h1 h2 => r.inj i j a (hh i hi).1 (hh j hj).1 ((hh i hi).2 ▸ h1) ((hh j hj).2 ▸ h2) }, sm⟩
theorem sub_wipe {vs : List Nat} (h : σ.length = e.length) : Sub σ e (wipe σ vs) (wipeE e vs) where
  len := by rw [wipe_length, wipeE_length]; exact h
  slot := fun i s hs => by
    by_cases hi : i ∈ vs
    · exact .inl (wipeE_un hi s hs)
    · rw [wipeE_get hi] at hs
      exact .inr ⟨hs, wipe_get hi⟩
/-- a list that is being built, out of sight -/
noncomputable def Act.buildO (A : Act) (D : Addr) (vs : HO) : Act := { Hr := upd A.Hr D (.lst []), He := A.He, bor := A.bor, bld := fun b => if b = D then some vs else A.bld b }
theorem bld_selfO {D : Addr} {vs : HO} : (A.buildO D vs).bld D = some vs := if_pos rfl
theorem bld_neO {D b : Addr} {vs : HO} (h : b ≠ D) : (A.buildO D vs).bld b = A.bld b := if_neg h
theorem off_buildO {D b : Addr} {vs : HO} (h : A.Hr D = none) : off (A.buildO D vs) b ↔ off A b ∨ (b = D ∧ A.He D = none) := by
  unfold off Act.buildO
  show upd A.Hr D (.lst []) b ≠ none ∧ A.He b = none ↔ _
  by_cases q : b = D
  · subst q
    rw [upd_same, h]
    simp
  · rw [upd_ne q]
    simp [q]
theorem Rep.heNone {p : Addr} (r : Rep K A H σ e) (h : A.Hr p = none) : A.He p = none := by
  cases q : A.He p with
  | none => rfl
  | some x => rw [r.sub _ _ q] at h; cases h
theorem hid_buildO {D : Addr} {o : HO} {vs : HO} (r : Rep K A H σ e) (h : H D = none) : hid (A.buildO D vs) σ e (upd H D o) = hid A σ e H := by
  obtain ⟨_, _, _, nr⟩ := r.new h
  funext b
  unfold hid
  by_cases q : b = D
  · subst q
    rw [if_pos (.inr ((off_buildO nr).2 (.inr ⟨rfl, r.heNone nr⟩))), h]
    split <;> rfl
  · by_cases z : OwnAt σ e b ∨ off A b
    · rw [if_pos z, if_pos (z.imp id fun y => (off_buildO nr).2 (.inl y))]
    · rw [if_neg z, if_neg (fun y => z (y.imp id fun w => ((off_buildO nr).1 w).resolve_right fun c => q c.1)), upd_ne q]
theorem Rep.buildO {D : Addr} (vs : HO) (r : Rep K A H σ e) (h : H D = none) : Rep K (A.buildO D vs) (upd H D vs) σ e := by
  obtain ⟨no, nf, nb, nr⟩ := r.new h
  have ne : ∀ b x, H b = some x → b ≠ D := fun b x h' q => by rw [q, h] at h'; cases h'
  exact {
    len := r.len
    sub := fun b x hx => by
      have hx' : A.He b = some x := hx
      have q : b ≠ D := fun q => by rw [q, r.heNone nr] at hx'; cases hx'
      show upd A.Hr D (.lst []) b = some x
      rw [upd_ne q]
      exact r.sub b x hx
    bhr := fun a ha => by
      show upd A.Hr D (.lst []) a ≠ none
      by_cases q : a = D
      · subst q; rw [upd_same]; exact fun z => by cases z
      · rw [upd_ne q]; exact r.bhr a ha
    nbor := fun a ha => by
      by_cases q : a = D
      · subst q
        refine ⟨r.heNone nr, ?_⟩
        rw [upd_same]
        exact fun z => by cases z
      · rw [bld_neO q] at ha
        refine ⟨(r.nbor a ha).1, ?_⟩
        rw [upd_ne q]
        exact (r.nbor a ha).2
    nbld := fun a us ha => by
      by_cases q : a = D
      · subst q
        rw [bld_selfO] at ha
        cases ha
        refine ⟨?_, fun z => nb (.inl z), upd_same⟩
        show upd A.Hr a (.lst []) a ≠ none
        rw [upd_same]
        exact fun z => by cases z
      · rw [bld_neO q] at ha
        obtain ⟨h1, h2, h3⟩ := r.nbld a us ha
        refine ⟨?_, h2, by rw [upd_ne q]; exact h3⟩
        show upd A.Hr D (.lst []) a ≠ none
        rw [upd_ne q]
        exact h1
    keep := fun b x hx nbb => by
      have q : b ≠ D := fun q => nbb (.inr (by rw [q, bld_selfO]; exact fun z => by cases z))
      have hx' : upd A.Hr D (.lst []) b = some x := hx
      rw [upd_ne q] at hx'
      rw [upd_ne q]
      refine r.keep b x hx' fun z => nbb (z.imp id fun y => ?_)
      rw [bld_neO q]
      exact y
    val := fun i d h' => by rw [hid_buildO r h]; exact r.val i d h'
    own := fun i ds h' => by
      rw [hid_buildO r h]
      obtain ⟨a, vs, h1, h2, h3, h4⟩ := r.own i ds h'
      refine ⟨a, vs, h1, by rw [upd_ne (ne _ _ h2)]; exact h2, h3, ?_⟩
      show upd A.Hr D (.lst []) a = none
      rw [upd_ne (ne _ _ h2)]
      exact h4
    brw := fun i ds h' => by
      rw [hid_buildO r h]
      obtain ⟨a, vs, h1, h2, h3, h4⟩ := r.brw i ds h'
      exact ⟨a, vs, h1, by rw [upd_ne (ne _ _ h2)]; exact h2, h3, h4⟩
    inj := r.inj }
theorem Rep.notOwnO {D : Addr} {us : HO} (r : Rep K (A.buildO D us) H σ e) : ¬ OwnAt σ e D ∧ off (A.buildO D us) D ∧ H D = some us := by
  obtain ⟨h1, h2, h3⟩ := r.nbld D us bld_selfO
  refine ⟨fun o => ?_, ⟨h1, (r.nbor D (.inr (by rw [bld_selfO]; exact fun z => by cases z))).1⟩, h3⟩
  obtain ⟨_, _, q | q⟩ := r.ownAt o
  · exact h1 q
  · exact h2 q
theorem hid_bputO {D : Addr} {us ws : HO} {o : HO} (r : Rep K (A.buildO D us) H σ e) : hid (A.buildO D ws) σ e (upd H D o) = hid (A.buildO D us) σ e H := by
  obtain ⟨h1, h2, _⟩ := r.notOwnO
  funext b
  unfold hid
  by_cases z : OwnAt σ e b ∨ off (A.buildO D us) b
  · rw [if_pos z, if_pos (show OwnAt σ e b ∨ off (A.buildO D ws) b from z)]
  · rw [if_neg z, if_neg (show ¬ (OwnAt σ e b ∨ off (A.buildO D ws) b) from z), upd_ne]
    rintro rfl
    exact z (.inr h2)
theorem Rep.bputO {D : Addr} {us : HO} (ws : HO) (r : Rep K (A.buildO D us) H σ e) : Rep K (A.buildO D ws) (upd H D ws) σ e := by
  obtain ⟨n1, n2, n3⟩ := r.notOwnO
  exact {
    len := r.len
    sub := r.sub
    bhr := r.bhr
    nbor := fun a ha => by
      by_cases q : a = D
      · subst q
        exact ⟨(r.nbor a (.inr (by rw [bld_selfO]; exact fun z => by cases z))).1, by rw [upd_same]; exact fun z => by cases z⟩
      · rw [bld_neO q] at ha
        rw [upd_ne q]
        exact r.nbor a (by rw [bld_neO q]; exact ha)
    nbld := fun a xs ha => by
      by_cases q : a = D
      · subst q
        rw [bld_selfO] at ha
        cases ha
        obtain ⟨h1, h2, _⟩ := r.nbld a us bld_selfO
        exact ⟨h1, h2, upd_same⟩
      · rw [bld_neO q] at ha
        rw [upd_ne q]
        exact r.nbld a xs (by rw [bld_neO q]; exact ha)
    keep := fun b x hx nb => by
      have q : b ≠ D := fun q => nb (.inr (by rw [q, bld_selfO]; exact fun z => by cases z))
      rw [upd_ne q]
      exact r.keep b x hx (by rw [bld_neO q] at nb ⊢; exact nb)
    val := fun i d h' => by rw [hid_bputO r]; exact r.val i d h'
    own := fun i ds h' => by
      rw [hid_bputO r]
      obtain ⟨a, vs, h1, h2, h3, h4⟩ := r.own i ds h'
      exact ⟨a, vs, h1, by rw [upd_ne (show a ≠ D from fun q => n1 ⟨i, ⟨ds, .inl h'⟩, by rw [← q]; exact h1⟩)]; exact h2, h3, h4⟩
    brw := fun i ds h' => by
      rw [hid_bputO r]
      obtain ⟨a, vs, h1, h2, h3, h4⟩ := r.brw i ds h'
      exact ⟨a, vs, h1, by rw [upd_ne (show a ≠ D from fun q => n1 ⟨i, ⟨ds, .inr h'⟩, by rw [← q]; exact h1⟩)]; exact h2, h3, h4⟩
    inj := r.inj }
/-- what was so ahead of the building -/
structure Old (A : Act) (D : Addr) : Prop where
  hr : A.Hr D = none
  sub : Same A.He A.Hr
  bld : ∀ a vs, A.bld a = some vs → A.Hr a ≠ none
  nb : ¬ (A.bor D ∨ A.bld D ≠ none)
theorem Rep.old {D : Addr} (r : Rep K A H σ e) (h : H D = none) : Old A D :=
  ⟨(r.new h).2.2.2, r.sub, fun a vs q => (r.nbld a vs q).1, (r.new h).2.2.1⟩
/-- the built list comes into sight -/
theorem Rep.builtO {D : Addr} {us : HO} (r : Rep K (A.buildO D us) H σ e) (o : Old A D) : Rep K A H σ e ∧ Same (hid (A.buildO D us) σ e H) (hid A σ e H) ∧ hid A σ e H D = some us := by
  obtain ⟨n1, n2, n3⟩ := r.notOwnO
  have h := o.hr
  have sm : Same (hid (A.buildO D us) σ e H) (hid A σ e H) := fun b o q => by
    obtain ⟨n, m, q⟩ := hid_not q
    rw [hid_in n fun z => m ((off_buildO h).2 (.inl z))]
    exact q
  have nD : ∀ a, A.bor a ∨ A.bld a ≠ none → a ≠ D := fun a ha q => o.nb (q ▸ ha)
  refine ⟨{
    len := r.len
    sub := o.sub
    bhr := fun a ha => by
      have h1 : upd A.Hr D (.lst []) a ≠ none := r.bhr a ha
      rw [upd_ne (nD a (.inl ha))] at h1
      exact h1
    nbor := fun a ha => r.nbor a (by rw [bld_neO (nD a ha)]; exact ha)
    nbld := fun a vs ha => by
      have q : a ≠ D := nD a (.inr (by rw [ha]; exact fun z => by cases z))
      obtain ⟨_, h2, h3⟩ := r.nbld a vs (by rw [bld_neO q]; exact ha)
      exact ⟨o.bld a vs ha, h2, h3⟩
    keep := fun b x hx nbb => by
      have q : b ≠ D := fun q => by rw [q, h] at hx; cases hx
      refine r.keep b x ?_ (by rw [bld_neO q]; exact nbb)
      show upd A.Hr D (.lst []) b = some x
      rw [upd_ne q]
      exact hx
    val := fun i d h' => by
      obtain ⟨v, h1, h2⟩ := r.val i d h'
      exact ⟨v, h1, Den.mono sm _ _ h2⟩
    own := fun i ds h' => by
      obtain ⟨a, vs, h1, h2, h3, h4⟩ := r.own i ds h'
      refine ⟨a, vs, h1, h2, DenL.mono sm _ _ h3, ?_⟩
      have h4' : upd A.Hr D (.lst []) a = none := h4
      by_cases q : a = D
      · rw [q, upd_same] at h4'; cases h4'
      · rw [upd_ne q] at h4'; exact h4'
    brw := fun i ds h' => by
      obtain ⟨a, vs, h1, h2, h3, h4⟩ := r.brw i ds h'
      exact ⟨a, vs, h1, h2, DenL.mono sm _ _ h3, h4⟩
    inj := r.inj }, sm, ?_⟩
  rw [hid_in n1 fun z => z.1 h]
  exact n3
noncomputable abbrev Act.build (A : Act) (D : Addr) (vs : List V) : Act := A.buildO D (.lst vs)
theorem bld_self {D : Addr} {vs : List V} : (A.build D vs).bld D = some (.lst vs) := if_pos rfl
theorem off_build {D b : Addr} {vs : List V} (h : A.Hr D = none) : off (A.build D vs) b ↔ off A b ∨ (b = D ∧ A.He D = none) := off_buildO h
theorem hid_build {D : Addr} {o : HO} {vs : List V} (r : Rep K A H σ e) (h : H D = none) : hid (A.build D vs) σ e (upd H D o) = hid A σ e H := hid_buildO r h
theorem Rep.build {D : Addr} (vs : List V) (r : Rep K A H σ e) (h : H D = none) : Rep K (A.build D vs) (upd H D (.lst vs)) σ e := r.buildO (.lst vs) h
theorem Rep.notOwn {D : Addr} {us : List V} (r : Rep K (A.build D us) H σ e) : ¬ OwnAt σ e D ∧ off (A.build D us) D ∧ H D = some (.lst us) := r.notOwnO
theorem hid_bput {D : Addr} {us ws : List V} {o : HO} (r : Rep K (A.build D us) H σ e) : hid (A.build D ws) σ e (upd H D o) = hid (A.build D us) σ e H := hid_bputO r
theorem Rep.bput {D : Addr} {us : List V} (ws : List V) (r : Rep K (A.build D us) H σ e) : Rep K (A.build D ws) (upd H D (.lst ws)) σ e := r.bputO (.lst ws)
theorem Rep.built {D : Addr} {us : List V} (r : Rep K (A.build D us) H σ e) (o : Old A D) : Rep K A H σ e ∧ Same (hid (A.build D us) σ e H) (hid A σ e H) ∧ hid A σ e H D = some (.lst us) := r.builtO o
/-- the built list becomes a slot's own -/
theorem Rep.claim {ds : List D} {D : Addr} {us : List V} {i : Nat} {s : Sl} (r : Rep K (A.build D us) H σ e) (o : Old A D) (hd : DenL K (hid (A.build D us) σ e H) ds us) (hs : s = .own ds) (hi : i < e.length) :
    Rep K A H (σ.set i (some (.ref D))) (e.set i s) ∧ Same (hid (A.build D us) σ e H) (hid A (σ.set i (some (.ref D))) (e.set i s) H) := by
  obtain ⟨n1, n2, n3⟩ := r.notOwn
  obtain ⟨q, sm, hD⟩ := r.built o
  have hl : ∀ j, j ≠ i → ((e.set i s)[j]? = e[j]? ∧ (σ.set i (some (V.ref D)))[j]? = σ[j]?) := fun j hj =>
    ⟨List.getElem?_set_ne (fun x => hj x.symm), List.getElem?_set_ne (fun x => hj x.symm)⟩
  have hii : (e.set i s)[i]? = some s := List.getElem?_set_self hi
  have hsi : (σ.set i (some (V.ref D)))[i]? = some (some (.ref D)) := List.getElem?_set_self (by rw [r.len]; exact hi)
  have oa : ∀ b, OwnAt (σ.set i (some (V.ref D))) (e.set i s) b → b = D ∨ OwnAt σ e b := by
    rintro b ⟨j, ⟨ds', h1⟩, h2⟩
    by_cases hj : j = i
    · subst hj
      rw [hsi] at h2
      cases h2
      exact .inl rfl
    · rw [(hl j hj).1] at h1
      rw [(hl j hj).2] at h2
      exact .inr ⟨j, ⟨ds', h1⟩, h2⟩
  have sm2 : Same (hid (A.build D us) σ e H) (hid A (σ.set i (some (V.ref D))) (e.set i s) H) := fun b o' h => by
    obtain ⟨n, m, h⟩ := hid_not h
    have qb : b ≠ D := by rintro rfl; exact m n2
    rw [hid_in (fun x => (oa b x).elim qb n) fun z => m ((off_build o.hr).2 (.inl z))]
    exact h
  refine ⟨{
    len := by rw [List.length_set, List.length_set]; exact r.len
    sub := q.sub
    bhr := q.bhr
    nbor := q.nbor
    nbld := q.nbld
    keep := q.keep
    val := fun j d' h' => by
      by_cases hj : j = i
      · subst hj
        rw [hii] at h'
        subst hs
        cases h'
      · rw [(hl j hj).1] at h'
        obtain ⟨v, k1, k2⟩ := r.val j d' h'
        exact ⟨v, by rw [(hl j hj).2]; exact k1, Den.mono sm2 _ _ k2⟩
    own := fun j ds' h' => by
      by_cases hj : j = i
      · subst hj
        rw [hii] at h'
        subst hs
        cases h'
        exact ⟨D, us, hsi, n3, DenL.mono sm2 _ _ hd, o.hr⟩
      · rw [(hl j hj).1] at h'
        obtain ⟨b, xs, k1, k2, k3, _⟩ := r.own j ds' h'
        obtain ⟨_, _, z1, _, _, z4⟩ := q.own j ds' h'
        rw [k1] at z1
        cases z1
        exact ⟨b, xs, by rw [(hl j hj).2]; exact k1, k2, DenL.mono sm2 _ _ k3, z4⟩
    brw := fun j ds' h' => by
      by_cases hj : j = i
      · subst hj
        rw [hii] at h'
        subst hs
        cases h'
      · rw [(hl j hj).1] at h'
        obtain ⟨b, xs, k1, k2, k3, _⟩ := r.brw j ds' h'
        obtain ⟨_, _, z1, _, _, z4⟩ := q.brw j ds' h'
        rw [k1] at z1
        cases z1
        exact ⟨b, xs, by rw [(hl j hj).2]; exact k1, k2, DenL.mono sm2 _ _ k3, z4⟩
    inj := fun j k b hj hk h1 h2 => by
      by_cases qj : j = i
      · by_cases qk : k = i
        · rw [qj, qk]
        · subst qj
          rw [hsi] at h1
          cases h1
          rw [(hl k qk).2] at h2
          obtain ⟨ds', hk⟩ := hk
          rw [(hl k qk).1] at hk
          exact absurd ⟨k, ⟨ds', hk⟩, h2⟩ n1
      · by_cases qk : k = i
        · subst qk
          rw [hsi] at h2
          cases h2
          rw [(hl j qj).2] at h1
          obtain ⟨ds', hj⟩ := hj
          rw [(hl j qj).1] at hj
          exact absurd ⟨j, ⟨ds', hj⟩, h1⟩ n1
        · obtain ⟨d1, hj⟩ := hj
          obtain ⟨d2, hk⟩ := hk
          rw [(hl j qj).1] at hj
          rw [(hl k qk).1] at hk
          rw [(hl j qj).2] at h1
          rw [(hl k qk).2] at h2
          exact r.inj j k b ⟨d1, hj⟩ ⟨d2, hk⟩ h1 h2 }, sm2⟩
end
end Mi
namespace Mi
open PySem PySem.Spec PyProof.Rows L2

abbrev FE := En → R (D × En)
abbrev FT := En → R (Bool × En)
abbrev FA := En → R (List D × En)
inductive Fl where
  | nx (e : En) | rt (d : D) (e : En) | rn (ds : List D) (e : En) | bk (e : En) | ct (e : En)
abbrev FS := En → R Fl
def R.bind {α β : Type} : R α → (α → R β) → R β
  | .ok a, f => f a
  | .exc c e, _ => .exc c e
  | .err, _ => .err
def lim : Nat := 16777216
theorem lim_eq : lim = sizeLine := by rw [sizeLine_eq]; rfl

/-! ### readings -/
def WX1 (mg : Str → Option Value) (W : WX) (c : Str) (σ : L2.St) (H : Hp) : Prop := ∃ u, mg c = some u ∧ W u none σ H
def Post {α β : Type} (K : PySem.W.Frag) (mg : Str → Option Value) (W : WX) (den : Hp → α → β → Prop) (A : Act) (σ : L2.St) (e : En) (H : Hp) (Q : β → Hp → Prop) : R (α × En) → Prop
  | .ok p => ∀ b H', Rep K A H' σ p.2 → Same (hid A σ e H) (hid A σ p.2 H') → den (hid A σ p.2 H') p.1 b → Q b H'
  | .exc c e' => ∀ H', Rep K A H' σ e' → Same (hid A σ e H) (hid A σ e' H') → WX1 mg W c σ H'
  | .err => False
def rd {α β : Type} (K : PySem.W.Frag) (mg : Str → Option Value) (W : WX) (den : Hp → α → β → Prop) (f : En → R (α × En)) : L2.St → Hp → (β → Hp → Prop) → Prop :=
  fun σ H Q => ∃ A e, Rep K A H σ e ∧ Post K mg W den A σ e H Q (f e)
def PostS (K : PySem.W.Frag) (mg : Str → Option Value) (W : WX) (D : Ends) (A : Act) (σ : L2.St) (e : En) (H : Hp) : R Fl → Prop
  | .ok (.nx e') => ∀ σ' H', Rep K A H' σ' e' → Same (hid A σ e H) (hid A σ' e' H') → D.nx σ' H'
  | .ok (.bk e') => ∀ σ' H', Rep K A H' σ' e' → Same (hid A σ e H) (hid A σ' e' H') → D.bk σ' H'
  | .ok (.ct e') => ∀ σ' H', Rep K A H' σ' e' → Same (hid A σ e H) (hid A σ' e' H') → D.ct σ' H'
  | .ok (.rt d e') => ∀ v σ' H', Rep K A H' σ' e' → Same (hid A σ e H) (hid A σ' e' H') → Den K (hid A σ' e' H') d v → D.rt v H'
  | .ok (.rn ds e') => ∀ q vs σ' H', Old A q → Rep K (A.build q vs) H' σ' e' → Same (hid A σ e H) (hid (A.build q vs) σ' e' H') → DenL K (hid (A.build q vs) σ' e' H') ds vs → D.rt (.ref q) H'
  | .exc c e' => ∀ σ' H', Rep K A H' σ' e' → Same (hid A σ e H) (hid A σ' e' H') → WX1 mg W c σ' H'
  | .err => False
def rdS (K : PySem.W.Frag) (mg : Str → Option Value) (W : WX) (g : FS) : TS := fun D σ H => ∃ A e, Rep K A H σ e ∧ PostS K mg W D A σ e H (g e)

abbrev rE (K : PySem.W.Frag) (mg : Str → Option Value) (W : WX) (f : FE) : TE := rd K mg W (Den K) f
abbrev rT (K : PySem.W.Frag) (mg : Str → Option Value) (W : WX) (f : FT) : TT := rd K mg W (fun _ (a : Bool) (b : Bool) => b = a) f
abbrev rA (K : PySem.W.Frag) (mg : Str → Option Value) (W : WX) (f : FA) : TA := rd K mg W (DenL K) f

theorem _root_.L2.PE.imp {X : Cx} {e : Expr} {t t' : TE} (h : PE X e t) (i : ∀ σ H Q, t' σ H Q → t σ H Q) : PE X e t' := ⟨fun pins s σ H Q I q => h.run pins s σ H Q I (i _ _ _ q)⟩
theorem _root_.L2.PT.imp {X : Cx} {e : Expr} {t t' : TT} (h : PT X e t) (i : ∀ σ H Q, t' σ H Q → t σ H Q) : PT X e t' := ⟨fun pins s σ H Q I q => h.run pins s σ H Q I (i _ _ _ q)⟩
theorem _root_.L2.PW.imp {X : Cx} {e : Expr} {t t' : TT} (h : PW X e t) (i : ∀ σ H Q, t' σ H Q → t σ H Q) : PW X e t' := ⟨fun wh pins s σ H Q I q => h.run wh pins s σ H Q I (i _ _ _ q)⟩
theorem _root_.L2.PA.imp {X : Cx} {e : List Expr} {t t' : TA} (h : PA X e t) (i : ∀ σ H Q, t' σ H Q → t σ H Q) : PA X e t' := ⟨fun pos pins s σ H Q I q => h.run pos pins s σ H Q I (i _ _ _ q)⟩
theorem _root_.L2.PS.imp {X : Cx} {e : Stmt} {t t' : TS} (h : PS X e t) (i : ∀ D σ H, t' D σ H → t D σ H) : PS X e t' := ⟨fun pins s σ H D I q => h.run pins s σ H D I (i _ _ _ q)⟩
theorem _root_.L2.PSs.imp {X : Cx} {e : List Stmt} {t t' : TS} (h : PSs X e t) (i : ∀ D σ H, t' D σ H → t D σ H) : PSs X e t' := ⟨fun pins s σ H D I q => h.run pins s σ H D I (i _ _ _ q)⟩
theorem _root_.L2.PI.imp {X : Cx} {tg it : Expr} {t t' : TI} (h : PI X tg it t) (i : ∀ σ H Q, t' σ H Q → t σ H Q) : PI X tg it t' := ⟨fun pins s σ H Q I q => h.run pins s σ H Q I (i _ _ _ q)⟩

section
variable {α β γ δ : Type} {K : PySem.W.Frag} {mg : Str → Option Value} {W : WX} {A : Act} {σ : L2.St} {e e1 : En} {H H1 : Hp}
theorem Post.shift {den : Hp → α → β → Prop} {Q : β → Hp → Prop} {r : R (α × En)} (s : Same (hid A σ e H) (hid A σ e1 H1)) (h : Post K mg W den A σ e H Q r) : Post K mg W den A σ e1 H1 Q r := by
  cases r with
  | ok p => exact fun b H' r' s' d => h b H' r' (s.trans s') d
  | exc c e' => exact fun H' r' s' => h H' r' (s.trans s')
  | err => exact h
theorem PostS.shift {σ1 : L2.St} {D : Ends} {r : R Fl} (s : Same (hid A σ e H) (hid A σ1 e1 H1)) (h : PostS K mg W D A σ e H r) : PostS K mg W D A σ1 e1 H1 r := by
  cases r with
  | ok p =>
    cases p with
    | nx e' => exact fun σ' H' r' s' => h σ' H' r' (s.trans s')
    | bk e' => exact fun σ' H' r' s' => h σ' H' r' (s.trans s')
    | ct e' => exact fun σ' H' r' s' => h σ' H' r' (s.trans s')
    | rt d e' => exact fun v σ' H' r' s' => h v σ' H' r' (s.trans s')
    | rn ds e' => exact fun q vs σ' H' o r' s' => h q vs σ' H' o r' (s.trans s')
  | exc c e' => exact fun σ' H' r' s' => h σ' H' r' (s.trans s')
  | err => exact h
/-- one part, then the rest -/
theorem rd_seq {den : Hp → α → β → Prop} {den' : Hp → γ → δ → Prop} {f : En → R (α × En)} {k : α × En → R (γ × En)} {Q : δ → Hp → Prop} {G : β → Hp → Prop} (r : Rep K A H σ e) (p : Post K mg W den' A σ e H Q ((f e).bind k))
    (hG : ∀ a e1 b H1, f e = .ok (a, e1) → Rep K A H1 σ e1 → Same (hid A σ e H) (hid A σ e1 H1) → den (hid A σ e1 H1) a b → Post K mg W den' A σ e1 H1 Q (k (a, e1)) → G b H1) : rd K mg W den f σ H G := by
  refine ⟨A, e, r, ?_⟩
  cases h : f e with
  | ok q =>
    obtain ⟨a, e1⟩ := q
    rw [h] at p
    exact fun b H1 r1 s1 d1 => hG a e1 b H1 h r1 s1 d1 (Post.shift s1 p)
  | exc c e' => rw [h] at p; exact p
  | err => rw [h] at p; exact p
theorem rd_seqS {den : Hp → α → β → Prop} {f : En → R (α × En)} {k : α × En → R Fl} {D : Ends} {G : β → Hp → Prop} (r : Rep K A H σ e) (p : PostS K mg W D A σ e H ((f e).bind k))
    (hG : ∀ a e1 b H1, f e = .ok (a, e1) → Rep K A H1 σ e1 → Same (hid A σ e H) (hid A σ e1 H1) → den (hid A σ e1 H1) a b → PostS K mg W D A σ e1 H1 (k (a, e1)) → G b H1) : rd K mg W den f σ H G := by
  refine ⟨A, e, r, ?_⟩
  cases h : f e with
  | ok q =>
    obtain ⟨a, e1⟩ := q
    rw [h] at p
    exact fun b H1 r1 s1 d1 => hG a e1 b H1 h r1 s1 d1 (PostS.shift s1 p)
  | exc c e' =>
    rw [h] at p
    exact fun H' r' s' => p σ H' r' s'
  | err => rw [h] at p; exact p
/-- a value that may lean on new objects -/
def Fresh (K : PySem.W.Frag) (Hh H H' : Hp) (d : D) (v : V) : Prop := ∀ Hv : Hp, Same Hh Hv → (∀ a o, H' a = some o → H a = none → Hv a = some o) → Den K Hv d v
theorem Fresh.flat {Hh H H' : Hp} {d : D} {v : V} (h : Den K Hh d v) : Fresh K Hh H H' d v := fun Hv s _ => Den.mono s _ _ h
theorem Fresh.lst {Hh H : Hp} {ds : List D} {vs : List V} {p : Addr} (hp : H p = none) (h : DenL K Hh ds vs) : Fresh K Hh H (upd H p (.lst vs)) (.lst ds) (.ref p) := fun Hv s n => by
  simp only [Den]
  exact ⟨p, vs, rfl, n p _ upd_same hp, DenL.mono s _ _ h⟩
theorem Fresh.tup {Hh H : Hp} {ds : List D} {vs : List V} {p : Addr} (hp : H p = none) (h : DenL K Hh ds vs) : Fresh K Hh H (upd H p (.tup vs)) (.tup ds) (.ref p) := fun Hv s n => by
  simp only [Den]
  exact ⟨p, vs, rfl, .inl (.inl (n p _ upd_same hp)), DenL.mono s _ _ h⟩
theorem same_upd {H : Hp} {p : Addr} {o : HO} (h : H p = none) : Same H (upd H p o) := fun b x e => by
  rw [upd_ne (ne_of_none e h)]
  exact e
theorem fin {H' : Hp} {Q : VK} {d : D} {v : V} (r : Rep K A H σ e) (p : Post K mg W (Den K) A σ e H Q (.ok (d, e))) (s : Same H H') (h : Fresh K (hid A σ e H) H H' d v) : Q v H' :=
  p v H' (r.grow s) (hid_same s) (h _ (hid_same s) fun _ _ a b => r.seen a b)
end

/-! ### expressions -/
section
variable {X : Cx} {W : WX} {pos : Pos} {a b c : Expr} {fa fb fc : FE}
def eC (d : D) : FE := fun e => .ok (d, e)
theorem v_const {ex : Expr} {v : V} {d : D} (h : PE X ex (tC v)) (hd : ∀ H, Den X.K H d v) : PE X ex (rE X.K X.mg W (eC d)) :=
  h.imp fun σ H Q ⟨A, e, r, p⟩ => p v H r (Same.refl _) (hd _)
theorem v_int {i : Int} {j : Nat} : PE X (.Constant (.int i) j pos) (rE X.K X.mg W (eC (.int i))) := v_const pe_int fun _ => by simp only [Den]
theorem v_bl {i : Bool} {j : Nat} : PE X (.Constant (.bool i) j pos) (rE X.K X.mg W (eC (.bl i))) := v_const pe_bl fun _ => by simp only [Den]
theorem v_non {j : Nat} : PE X (.Constant .none j pos) (rE X.K X.mg W (eC .non)) := v_const pe_non fun _ => by simp only [Den]
theorem v_str {i : Str} {j : Nat} : PE X (.Constant (.str i) j pos) (rE X.K X.mg W (eC (.str i))) := v_const pe_str fun _ => by simp only [Den]
/-- a local name; a held list is a value from then on -/
def eV (i : Nat) : FE := fun e => match e[i]? with
  | some (.val d) => .ok (d, e)
  | some (.own ds) => .ok (.lst ds, e.set i (.val (.lst ds)))
  | _ => .err
theorem v_var (i : Nat) {x : Str} (hN : X.N[i]? = some x := by rfl) (hv : Vis X.env.scope x := by first | exact Or.inl rfl | exact Or.inr (Or.inl rfl) | exact Or.inr (Or.inr rfl)) (hd : (x == ("__debug__" : Str)) = false := by decide)
    (hcd : (x == ("__classdict__" : Str)) = false := by decide) : PE X (.Name x pos) (rE X.K X.mg W (eV i)) :=
  (pe_var hN hv hd hcd).imp fun σ H Q ⟨A, e, r, p⟩ => by
    unfold eV at p
    cases h : e[i]? with
    | none => rw [h] at p; exact p.elim
    | some s =>
      rw [h] at p
      cases s with
      | un => exact p.elim
      | brw ds => exact p.elim
      | val d =>
        obtain ⟨v, h1, h2⟩ := r.val i d h
        exact ⟨v, h1, p v H r (Same.refl _) h2⟩
      | own ds =>
        obtain ⟨a, h1, h2, h3, h4⟩ := r.freeze h
        exact ⟨_, h1, p _ H h2 h3 h4⟩
/-- an operation by values -/
def eB (g : D → D → Option D) (fa fb : FE) : FE := fun e => (fa e).bind fun p => (fb p.2).bind fun q => match g p.1 q.1 with
  | some d => .ok (d, q.2)
  | none => .err
def RB (K : PySem.W.Frag) (r : R2) (g : D → D → Option D) : Prop := ∀ (Hh H : Hp) (a b : D) (x y : V) (d : D) (Q : VK), Same Hh H → Den K Hh a x → Den K Hh b y → g a b = some d → (∀ v H', Same H H' → Fresh K Hh H H' d v → Q v H') → r x y H Q
theorem rB_of {r : R2} {g : D → D → Option D} (hg : RB X.K r g) : ∀ σ H Q, rE X.K X.mg W (eB g fa fb) σ H Q → tOp r (rE X.K X.mg W fa) (rE X.K X.mg W fb) σ H Q := fun σ H Q ⟨A, e, rp, p⟩ => by
  refine rd_seq rp p fun da e1 x H1 _ r1 s1 d1 p1 => rd_seq r1 p1 fun db e2 y H2 _ r2 s2 d2 p2 => ?_
  cases h : g da db with
  | none =>
    simp only [h] at p2
    exact p2.elim
  | some d =>
    simp only [h] at p2
    exact hg _ H2 da db x y d Q hid_sub (Den.mono s2 _ _ d1) d2 h fun v H' s f => fin r2 p2 s f
theorem v_op {op : Operator} {r : R2} {g : D → D → Option D} (hg : RB X.K r g) (ho : OpR X (binaryOp op) r) (ha : PE X a (rE X.K X.mg W fa)) (hb : PE X b (rE X.K X.mg W fb)) : PE X (.BinOp a op b pos) (rE X.K X.mg W (eB g fa fb)) :=
  (pe_op ho ha hb).imp (rB_of hg)
theorem v_cmp {op : CmpOp} {r : R2} {g : D → D → Option D} (hg : RB X.K r g) (ho : OpR X (compareOp op) r) (hm : behindInMarks op b = false) (ha : PE X a (rE X.K X.mg W fa)) (hb : PE X b (rE X.K X.mg W fb)) : PE X (.Compare a [op] [b] pos) (rE X.K X.mg W (eB g fa fb)) :=
  (pe_cmpR ho ha hb hm).imp (rB_of hg)
theorem v_ix {r : R2} {g : D → D → Option D} (hg : RB X.K r g) (ho : IxR X r) (ha : PE X a (rE X.K X.mg W fa)) (hb : PE X b (rE X.K X.mg W fb)) (hs : PlainIx b := by exact fun _ _ => rfl) : PE X (.Subscript a b pos) (rE X.K X.mg W (eB g fa fb)) :=
  (pe_ix ho ha hb hs).imp (rB_of hg)
/-- a one-place operation -/
def eU (g : D → Option D) (fa : FE) : FE := fun e => (fa e).bind fun p => match g p.1 with
  | some d => .ok (d, p.2)
  | none => .err
def RU (K : PySem.W.Frag) (r : V → Hp → VK → Prop) (g : D → Option D) : Prop := ∀ (Hh H : Hp) (a : D) (x : V) (d : D) (Q : VK), Same Hh H → Den K Hh a x → g a = some d → (∀ v H', Same H H' → Fresh K Hh H H' d v → Q v H') → r x H Q
theorem v_un {op : UnaryOp} {r : V → Hp → VK → Prop} {g : D → Option D} (hg : RU X.K r g) (ho : UnR X (unaryOp op) r) (ha : PE X a (rE X.K X.mg W fa)) : PE X (.UnaryOp op a pos) (rE X.K X.mg W (eU g fa)) :=
  (pe_un ho ha).imp fun σ H Q ⟨A, e, rp, p⟩ => by
    refine rd_seq rp p fun da e1 x H1 _ r1 s1 d1 p1 => ?_
    cases h : g da with
    | none =>
      simp only [h] at p1
      exact p1.elim
    | some d =>
      simp only [h] at p1
      exact hg _ H1 da x d Q hid_sub d1 h fun v H' s f => fin r1 p1 s f
/-- argument lists -/
def aN : FA := fun e => .ok ([], e)
def aC (f : FE) (g : FA) : FA := fun e => (f e).bind fun p => (g p.2).bind fun q => .ok (p.1 :: q.1, q.2)
theorem va_nil : PA X [] (rA X.K X.mg W aN) := pa_nil.imp fun σ H Q ⟨A, e, r, p⟩ => p [] H r (Same.refl _) DenL.nil
theorem va_cons {es : List Expr} {f : FE} {g : FA} (ha : PE X a (rE X.K X.mg W f)) (hr : PA X es (rA X.K X.mg W g)) (hs : starEach (a :: es) X.env = (false, eval a X.env) :: starEach es X.env := by rfl) : PA X (a :: es) (rA X.K X.mg W (aC f g)) :=
  (pa_cons ha hr hs).imp fun σ H Q ⟨A, e, r, p⟩ => by
    refine rd_seq r p fun da e1 x H1 _ r1 s1 d1 p1 => rd_seq r1 p1 fun ds e2 xs H2 _ r2 s2 d2 p2 => ?_
    exact p2 _ _ r2 (Same.refl _) (DenL.cons (Den.mono s2 _ _ d1) d2)
/-- displays -/
def eTup (f : FA) : FE := fun e => (f e).bind fun p => if p.1.length ≤ lim then .ok (.tup p.1, p.2) else .err
def eLst (f : FA) : FE := fun e => (f e).bind fun p => if p.1.length ≤ lim then .ok (.lst p.1, p.2) else .err
theorem v_tup {es : List Expr} {f : FA} {x1 : Nat} (h : PA X es (rA X.K X.mg W f)) : PE X (.Tuple es x1 pos) (rE X.K X.mg W (eTup f)) :=
  (pe_tup h).imp fun σ H Q ⟨A, e, r, p⟩ => by
    refine rd_seq r p fun ds e1 xs H1 _ r1 s1 d1 p1 => ?_
    by_cases h : ds.length ≤ lim
    · simp only [h, if_true] at p1
      exact ⟨by rw [← d1.length, ← lim_eq]; exact h, fun q nq => fin r1 p1 (same_upd nq) (Fresh.tup nq d1)⟩
    · simp only [h, if_false] at p1
      exact p1.elim
theorem v_lst {es : List Expr} {f : FA} (h : PA X es (rA X.K X.mg W f)) : PE X (.List es pos) (rE X.K X.mg W (eLst f)) :=
  (pe_lst h).imp fun σ H Q ⟨A, e, r, p⟩ => by
    refine rd_seq r p fun ds e1 xs H1 _ r1 s1 d1 p1 => ?_
    by_cases h : ds.length ≤ lim
    · simp only [h, if_true] at p1
      exact ⟨by rw [← d1.length, ← lim_eq]; exact h, fun q nq => fin r1 p1 (same_upd nq) (Fresh.lst nq d1)⟩
    · simp only [h, if_false] at p1
      exact p1.elim
/-- a built-in -/
def eF (g : List D → Option D) (f : FA) : FE := fun e => (f e).bind fun p => match g p.1 with
  | some d => .ok (d, p.2)
  | none => .err
def RC (K : PySem.W.Frag) (r : List V → Hp → VK → Prop) (g : List D → Option D) : Prop := ∀ (Hh H : Hp) (ds : List D) (vs : List V) (d : D) (Q : VK), Same Hh H → DenL K Hh ds vs → g ds = some d → (∀ v H', Same H H' → Fresh K Hh H H' d v → Q v H') → r vs H Q
theorem rC_of {r : List V → Hp → VK → Prop} {g : List D → Option D} {f : FA} (hg : RC X.K r g) : ∀ σ H Q, rE X.K X.mg W (eF g f) σ H Q → tCB r (rA X.K X.mg W f) σ H Q := fun σ H Q ⟨A, e, rp, p⟩ => by
  refine rd_seq rp p fun ds e1 xs H1 _ r1 s1 d1 p1 => ?_
  cases h : g ds with
  | none =>
    simp only [h] at p1
    exact p1.elim
  | some d =>
    simp only [h] at p1
    exact hg _ H1 ds xs d Q hid_sub d1 h fun v H' s f => fin r1 p1 s f
/-- and, or, not as values; a if c else b -/
def eAnd (fa fb : FE) : FE := fun e => (fa e).bind fun p => match p.1 with
  | .bl true => fb p.2
  | .bl false => .ok (.bl false, p.2)
  | _ => .err
def eOr (fa fb : FE) : FE := fun e => (fa e).bind fun p => match p.1 with
  | .bl false => fb p.2
  | .bl true => .ok (.bl true, p.2)
  | _ => .err
def eNot (fa : FE) : FE := eU (fun d => match d with
  | .bl b => some (.bl (!b))
  | _ => none) fa
def eIf (c : FT) (fa fb : FE) : FE := fun e => (c e).bind fun p => if p.1 = true then fa p.2 else fb p.2
theorem den_bl {K : PySem.W.Frag} {H : Hp} {b : Bool} {v : V} (h : Den K H (.bl b) v) : v = .bl b := by simpa only [Den] using h
theorem den_int {K : PySem.W.Frag} {H : Hp} {b : Int} {v : V} (h : Den K H (.int b) v) : v = .int b := by simpa only [Den] using h
theorem den_str {K : PySem.W.Frag} {H : Hp} {b : Str} {v : V} (h : Den K H (.str b) v) : v = .str b := by simpa only [Den] using h
theorem den_non {K : PySem.W.Frag} {H : Hp} {v : V} (h : Den K H .non v) : v = .non := by simpa only [Den] using h
theorem v_one {op : BoolOp} (ha : PE X a (rE X.K X.mg W fa)) : PE X (.BoolOp op [a] pos) (rE X.K X.mg W fa) := pe_one ha
theorem v_and {rest : List Expr} (ha : PE X a (rE X.K X.mg W fa)) (hb : PE X (.BoolOp .And (b :: rest) pos) (rE X.K X.mg W fb)) : PE X (.BoolOp .And (a :: b :: rest) pos) (rE X.K X.mg W (eAnd fa fb)) :=
  (pe_and ha hb).imp fun σ H Q ⟨A, e, r, p⟩ => by
    refine rd_seq r p fun da e1 x H1 _ r1 s1 d1 p1 => ?_
    cases da with
    | bl k =>
      refine ⟨k, den_bl d1, ?_⟩
      cases k with
      | true => exact iteT ⟨A, e1, r1, p1⟩
      | false => exact iteF (p1 _ _ r1 (Same.refl _) (by simp only [Den]))
    | _ => exact p1.elim
theorem v_or {rest : List Expr} (ha : PE X a (rE X.K X.mg W fa)) (hb : PE X (.BoolOp .Or (b :: rest) pos) (rE X.K X.mg W fb)) : PE X (.BoolOp .Or (a :: b :: rest) pos) (rE X.K X.mg W (eOr fa fb)) :=
  (pe_or ha hb).imp fun σ H Q ⟨A, e, r, p⟩ => by
    refine rd_seq r p fun da e1 x H1 _ r1 s1 d1 p1 => ?_
    cases da with
    | bl k =>
      refine ⟨k, den_bl d1, ?_⟩
      cases k with
      | false => exact iteF ⟨A, e1, r1, p1⟩
      | true => exact iteT (p1 _ _ r1 (Same.refl _) (by simp only [Den]))
    | _ => exact p1.elim
theorem v_not (ha : PE X a (rE X.K X.mg W fa)) : PE X (.UnaryOp .Not a pos) (rE X.K X.mg W (eNot fa)) :=
  (pe_not ha).imp fun σ H Q ⟨A, e, r, p⟩ => by
    refine rd_seq r p fun da e1 x H1 _ r1 s1 d1 p1 => ?_
    cases da with
    | bl k => exact ⟨k, den_bl d1, p1 _ _ r1 (Same.refl _) (by simp only [Den])⟩
    | _ => exact p1.elim
theorem v_if {fc : FT} (hc : PT X c (rT X.K X.mg W fc)) (ha : PE X a (rE X.K X.mg W fa)) (hb : PE X b (rE X.K X.mg W fb)) : PE X (.IfExp c a b pos) (rE X.K X.mg W (eIf fc fa fb)) :=
  (pe_ifExp hc ha hb).imp fun σ H Q ⟨A, e, r, p⟩ => by
    refine rd_seq r p fun k e1 x H1 _ r1 s1 d1 p1 => ?_
    subst d1
    cases x with
    | true => exact iteT ⟨A, e1, r1, p1⟩
    | false => exact iteF ⟨A, e1, r1, p1⟩
/-! ### tests -/
def truth : D → Option Bool
  | .non => some false
  | .bl b => some b
  | .int i => some (i != 0)
  | .str x => if x.length ≤ lim then some ((x.length : Int) != 0) else none
  | .tup ds => some (!ds.isEmpty)
  | .lst ds => some (!ds.isEmpty)
  | .rls ds => some (!ds.isEmpty)
  | .dct _ ds => some (!ds.isEmpty)
  | .ty _ => none
theorem denL_empty {K : PySem.W.Frag} {H : Hp} {ds : List D} {vs : List V} (h : DenL K H ds vs) : (!ds.isEmpty) = !vs.isEmpty := by
  have := h.length
  cases ds <;> cases vs <;> first | rfl | simp at this
theorem truV {K : PySem.W.Frag} {H Hh : Hp} {d : D} {v : V} {k : Bool} (s : Same Hh H) (h : Den K Hh d v) (t : truth d = some k) : TruV K v H k := by
  have h' := Den.mono s _ _ h
  cases d with
  | non => rw [den_non h']; simp only [truth, Option.some.injEq] at t; subst t; rfl
  | bl b => rw [den_bl h']; simp only [truth, Option.some.injEq] at t; subst t; rfl
  | int i => rw [den_int h']; simp only [truth, Option.some.injEq] at t; subst t; rfl
  | str x =>
    rw [den_str h']
    simp only [truth] at t
    split at t
    · simp only [Option.some.injEq] at t
      rename_i q
      exact ⟨by rw [← lim_eq]; exact q, t.symm⟩
    · cases t
  | tup ds =>
    simp only [Den] at h'
    obtain ⟨a, vs, rfl, h1, h2⟩ := h'
    simp only [truth, Option.some.injEq] at t
    subst t
    exact .inr (.inl ⟨vs, h1, denL_empty h2⟩)
  | lst ds =>
    simp only [Den] at h'
    obtain ⟨a, vs, rfl, h1, h2⟩ := h'
    simp only [truth, Option.some.injEq] at t
    subst t
    exact .inl ⟨vs, .inl (.inl h1), denL_empty h2⟩
  | rls ds =>
    simp only [Den] at h'
    obtain ⟨a, vs, rfl, h1, h2⟩ := h'
    simp only [truth, Option.some.injEq] at t
    subst t
    exact .inl ⟨vs, h1, denL_empty h2⟩
  | dct ks ds =>
    simp only [Den] at h'
    obtain ⟨a, vs, rfl, h1, h2, h3⟩ := h'
    simp only [truth, Option.some.injEq] at t
    subst t
    refine .inr (.inr ⟨_, h1, ?_⟩)
    rw [denL_empty h3]
    cases ks <;> cases vs <;> first | rfl | simp at h2
  | ty n => cases t
def tE (f : FE) : FT := fun e => (f e).bind fun p => match truth p.1 with
  | some k => .ok (k, p.2)
  | none => .err
theorem vt_val (ha : PE X a (rE X.K X.mg W fa)) (he : ∀ whole, isTrue a X.env whole = (do let v ← whole; standAt a.pos; holding [v] (truthy v)) := by intro _; rfl) : PT X a (rT X.K X.mg W (tE fa)) :=
  (pt_truth ha he).imp fun σ H Q ⟨A, e, r, p⟩ => by
    refine rd_seq r p fun da e1 x H1 _ r1 s1 d1 p1 => ?_
    cases h : truth da with
    | none => simp only [h] at p1; exact p1.elim
    | some k =>
      simp only [h] at p1
      exact ⟨k, truV hid_sub d1 h, p1 _ _ r1 (Same.refl _) rfl⟩
/-- a comparison as a test -/
def bl? : D → Option Bool
  | .bl b => some b
  | _ => none
def tC1 (f : FE) : FT := fun e => (f e).bind fun p => match bl? p.1 with
  | some k => .ok (k, p.2)
  | none => .err
theorem bl_some {d : D} {k : Bool} (h : bl? d = some k) : d = .bl k := by
  cases d <;> simp only [bl?, Option.some.injEq] at h <;> first | (subst h; rfl) | cases h
theorem vt_cmp {op : CmpOp} {r : R2} {g : D → D → Option D} (hg : RB X.K r g) (ho : OpR X (compareOp op) r) (hm : behindInMarks op b = false) (ha : PE X a (rE X.K X.mg W fa)) (hb : PE X b (rE X.K X.mg W fb)) : PT X (.Compare a [op] [b] pos) (rT X.K X.mg W (tC1 (eB g fa fb))) :=
  (pt_cmpR ho ha hb hm).imp fun σ H Q ⟨A, e, r, p⟩ => by
    refine rB_of hg σ H _ ?_
    refine rd_seq r p fun da e1 x H1 _ r1 s1 d1 p1 => ?_
    cases h : bl? da with
    | none => simp only [h] at p1; exact p1.elim
    | some k =>
      simp only [h] at p1
      rw [bl_some h] at d1
      exact ⟨k, den_bl d1, p1 _ _ r1 (Same.refl _) rfl⟩
def tAnd1 (f g : FT) : FT := fun e => (f e).bind fun p => if p.1 = true then g p.2 else .ok (false, p.2)
def tOr1 (f g : FT) : FT := fun e => (f e).bind fun p => if p.1 = true then .ok (true, p.2) else g p.2
def tNot1 (f : FT) : FT := fun e => (f e).bind fun p => .ok (!p.1, p.2)
section
variable {ga gb : FT} {rest : List Expr}
theorem vw_and1 (ha : PT X a (rT X.K X.mg W ga)) : PW X (.BoolOp .And [a] pos) (rT X.K X.mg W ga) := pw_and1 ha
theorem vw_or1 (ha : PT X a (rT X.K X.mg W ga)) : PW X (.BoolOp .Or [a] pos) (rT X.K X.mg W ga) := pw_or1 ha
theorem vw_and (ha : PT X a (rT X.K X.mg W ga)) (hb : PW X (.BoolOp .And (b :: rest) pos) (rT X.K X.mg W gb)) : PW X (.BoolOp .And (a :: b :: rest) pos) (rT X.K X.mg W (tAnd1 ga gb)) :=
  (pw_and ha hb).imp fun σ H Q ⟨A, e, r, p⟩ => by
    refine rd_seq r p fun k e1 x H1 _ r1 s1 d1 p1 => ?_
    subst d1
    cases x with
    | true => exact iteT ⟨A, e1, r1, p1⟩
    | false => exact iteF (p1 _ _ r1 (Same.refl _) rfl)
theorem vw_or (ha : PT X a (rT X.K X.mg W ga)) (hb : PW X (.BoolOp .Or (b :: rest) pos) (rT X.K X.mg W gb)) : PW X (.BoolOp .Or (a :: b :: rest) pos) (rT X.K X.mg W (tOr1 ga gb)) :=
  (pw_or ha hb).imp fun σ H Q ⟨A, e, r, p⟩ => by
    refine rd_seq r p fun k e1 x H1 _ r1 s1 d1 p1 => ?_
    subst d1
    cases x with
    | true => exact iteT (p1 _ _ r1 (Same.refl _) rfl)
    | false => exact iteF ⟨A, e1, r1, p1⟩
theorem vt_not (ha : PT X a (rT X.K X.mg W ga)) : PT X (.UnaryOp .Not a pos) (rT X.K X.mg W (tNot1 ga)) :=
  (pt_not ha).imp fun σ H Q ⟨A, e, r, p⟩ => by
    refine rd_seq r p fun k e1 x H1 _ r1 s1 d1 p1 => ?_
    subst d1
    exact p1 _ _ r1 (Same.refl _) rfl
end
/-- a chain of two comparisons -/
def eCh (g g' : D → D → Option D) (fa fb fc : FE) : FE := fun e => (fa e).bind fun p => (fb p.2).bind fun q => match (g p.1 q.1).bind bl? with
  | some true => (fc q.2).bind fun s => match g' q.1 s.1 with
    | some d => .ok (d, s.2)
    | none => .err
  | some false => .ok (.bl false, q.2)
  | none => .err
theorem rCh_of {r r' : R2} {g g' : D → D → Option D} (hg : RB X.K r g) (hg' : RB X.K r' g') : ∀ σ H Q, rE X.K X.mg W (eCh g g' fa fb fc) σ H Q → tChain r r' (rE X.K X.mg W fa) (rE X.K X.mg W fb) (rE X.K X.mg W fc) σ H Q := fun σ H Q ⟨A, e, rp, p⟩ => by
  refine rd_seq rp p fun da e1 x H1 _ r1 s1 d1 p1 => rd_seq r1 p1 fun db e2 y H2 _ r2 s2 d2 p2 => ?_
  cases h : g da db with
  | none => simp only [h] at p2; exact p2.elim
  | some d =>
    refine hg _ H2 da db x y d _ hid_sub (Den.mono s2 _ _ d1) d2 h fun v H' s f => ?_
    have hv := f (hid A σ e2 H') (hid_same s) fun _ _ a b => r2.seen a b
    have r3 := r2.grow s
    simp only [h, Option.bind_some] at p2
    cases k : bl? d with
    | none => simp only [k] at p2; exact p2.elim
    | some b =>
      rw [bl_some k] at hv
      refine ⟨b, den_bl hv, ?_⟩
      cases b with
      | false =>
        simp only [k] at p2
        exact iteF (p2 _ _ r3 (hid_same s) (by simp only [Den]))
      | true =>
        simp only [k] at p2
        refine iteT (rd_seq r3 (Post.shift (hid_same s) p2) fun dc e3 z H3 _ r4 s4 d4 p4 => ?_)
        cases h' : g' db dc with
        | none => simp only [h'] at p4; exact p4.elim
        | some d' =>
          simp only [h'] at p4
          exact hg' _ H3 db dc y z d' Q hid_sub (Den.mono s4 _ _ (Den.mono (hid_same s) _ _ d2)) d4 h' fun v H' s f => fin r4 p4 s f
theorem v_chain {op op' : CmpOp} {r r' : R2} {g g' : D → D → Option D} (hg : RB X.K r g) (hg' : RB X.K r' g') (ho : OpR X (compareOp op) r) (ho' : OpR X (compareOp op') r')
    (ha : PE X a (rE X.K X.mg W fa)) (hb : PE X b (rE X.K X.mg W fb)) (hc : PE X c (rE X.K X.mg W fc)) (hm : lastMarks [op, op'] [b, c] = false := by with_unfolding_all rfl) : PE X (.Compare a [op, op'] [b, c] pos) (rE X.K X.mg W (eCh g g' fa fb fc)) :=
  (pe_chain ho ho' ha hb hc hm).imp (rCh_of hg hg')
theorem vt_chain {op op' : CmpOp} {r r' : R2} {g g' : D → D → Option D} (hg : RB X.K r g) (hg' : RB X.K r' g') (ho : OpR X (compareOp op) r) (ho' : OpR X (compareOp op') r')
    (ha : PE X a (rE X.K X.mg W fa)) (hb : PE X b (rE X.K X.mg W fb)) (hc : PE X c (rE X.K X.mg W fc)) (hm : lastMarks [op, op'] [b, c] = false := by with_unfolding_all rfl) : PT X (.Compare a [op, op'] [b, c] pos) (rT X.K X.mg W (tC1 (eCh g g' fa fb fc))) :=
  (pt_chain ho ho' ha hb hc hm).imp fun σ H Q ⟨A, e, r, p⟩ => by
    refine rCh_of hg hg' σ H _ ?_
    refine rd_seq r p fun da e1 x H1 _ r1 s1 d1 p1 => ?_
    cases h : bl? da with
    | none => simp only [h] at p1; exact p1.elim
    | some k =>
      simp only [h] at p1
      rw [bl_some h] at d1
      exact ⟨k, den_bl d1, p1 _ _ r1 (Same.refl _) rfl⟩
end
end Mi
namespace Mi
open PySem PySem.Spec PyProof.Rows L2

/-! ### targets -/
abbrev TD := D → En → Option En
def rdG (K : PySem.W.Frag) (G : TD) (js : List Nat) : TG := fun v σ H Q => ∃ A e d, Rep K A H σ e ∧ Den K (hid A σ e H) d v ∧ ∃ e1, G d e = some e1 ∧
  ∀ σ', Rep K A H σ' e1 → Same (hid A σ e H) (hid A σ' e1 H) → σ'.length = σ.length → (∀ j, j ∉ js → σ'[j]? = σ[j]?) → Q σ' H
abbrev TDs := List D → En → Option En
def rdGs (K : PySem.W.Frag) (G : TDs) (js : List Nat) : TGs := fun vs σ H Q => ∃ A e ds, Rep K A H σ e ∧ DenL K (hid A σ e H) ds vs ∧ ∃ e1, G ds e = some e1 ∧
  ∀ σ', Rep K A H σ' e1 → Same (hid A σ e H) (hid A σ' e1 H) → σ'.length = σ.length → (∀ j, j ∉ js → σ'[j]? = σ[j]?) → Q σ' H
theorem _root_.L2.PG.imp {X : Cx} {e : Expr} {t t' : TG} (h : PG X e t) (i : ∀ v σ H Q, t' v σ H Q → t v σ H Q) : PG X e t' := ⟨fun pins s σ H v u Q I r q => h.run pins s σ H v u Q I r (i _ _ _ _ q)⟩
theorem _root_.L2.PGs.imp {X : Cx} {e : List Expr} {t t' : TGs} (h : PGs X e t) (i : ∀ v σ H Q, t' v σ H Q → t v σ H Q) : PGs X e t' := ⟨fun pins s σ H v u Q I r q => h.run pins s σ H v u Q I r (i _ _ _ _ q)⟩
section
variable {X : Cx} {pos : Pos}
def gN (i : Nat) : TD := fun d e => some (e.set i (.val d))
theorem vg_name (i : Nat) {x : Str} (hN : X.N.Nodup) (hi : X.N[i]? = some x := by rfl) (hx : Loc X.env.scope x := by first | exact .inl rfl | exact .inr rfl) (hf : X.fn x = true ∨ X.env.scope.names.lookup x = some .local := by first | exact .inl rfl | exact .inr rfl) : PG X (.Name x pos) (rdG X.K (gN i) [i]) :=
  (pg_name hN hi hx hf).imp fun v σ H Q ⟨A, e, d, r, hd, e1, he, q⟩ => by
    cases he
    refine q _ (r.set hd) hid_set (List.length_set) fun j hj => ?_
    rw [List.getElem?_set_ne (fun z => hj (by simp [z]))]
def gsN : TDs := fun ds e => match ds with
  | [] => some e
  | _ => none
def gsC (G : TD) (Gs : TDs) : TDs := fun ds e => match ds with
  | d :: r => (G d e).bind (Gs r)
  | [] => none
theorem vgs_nil : PGs X [] (rdGs X.K gsN []) := pgs_nil.imp fun vs σ H Q ⟨A, e, ds, r, hd, e1, he, q⟩ => by
  cases ds with
  | nil =>
    simp only [DenL] at hd
    cases he
    exact ⟨hd, q σ r (Same.refl _) rfl fun _ _ => rfl⟩
  | cons d ds => cases he
theorem vgs_cons {t : Expr} {ts : List Expr} {G : TD} {Gs : TDs} {js ks : List Nat} (h1 : PG X t (rdG X.K G js)) (h2 : PGs X ts (rdGs X.K Gs ks))
    (hs : (assignEach (t :: ts) X.env).map (·.2) = assign t X.env :: (assignEach ts X.env).map (·.2) := by rfl) : PGs X (t :: ts) (rdGs X.K (gsC G Gs) (js ++ ks)) :=
  (pgs_cons h1 h2 hs).imp fun vs σ H Q ⟨A, e, ds, r, hd, e1, he, q⟩ => by
    cases ds with
    | nil => cases he
    | cons d ds =>
      simp only [DenL] at hd
      obtain ⟨v, us, rfl, hv, hu⟩ := hd
      cases h : G d e with
      | none => simp only [gsC, h] at he; cases he
      | some e2 =>
        have he' : Gs ds e2 = some e1 := by simpa only [gsC, h, Option.bind_some] using he
        refine ⟨v, us, rfl, A, e, d, r, hv, e2, h, fun σ' r' s' l' k' => ⟨A, e2, ds, r', DenL.mono s' _ _ hu, e1, he', fun σ2 r2 s2 l2 k2 => q σ2 r2 (s'.trans s2) (l2.trans l') fun j hj => ?_⟩⟩
        rw [k2 j (fun z => hj (List.mem_append_right _ z)), k' j (fun z => hj (List.mem_append_left _ z))]
def gT (n : Nat) (Gs : TDs) : TD := fun d e => match d with
  | .tup ds => if ds.length = n then Gs ds e else none
  | _ => none
theorem vg_tup {ts : List Expr} {k n : Nat} {Gs : TDs} {js : List Nat} (hc : X.calm = true) (h : PGs X ts (rdGs X.K Gs js)) (hn : (assignEach ts X.env).length = n := by rfl)
    (hst : (assignEach ts X.env).findIdx? (·.1) = none := by rfl) : PG X (.Tuple ts k pos) (rdG X.K (gT n Gs) js) :=
  (pg_tup hc h hn hst).imp fun v σ H Q ⟨A, e, d, r, hd, e1, he, q⟩ => by
    cases d with
    | tup ds =>
      simp only [Den] at hd
      obtain ⟨a, vs, rfl, h1, h2⟩ := hd
      by_cases hl : ds.length = n
      · have he' : Gs ds e = some e1 := by simpa only [gT, hl, if_true] using he
        exact ⟨a, vs, rfl, Same.seqT hid_sub h1, by rw [← h2.length]; exact hl, A, e, ds, r, h2, e1, he', q⟩
      · simp only [gT, hl, if_false] at he
        cases he
    | _ => cases he

/-! ### statements -/
section
variable {W : WX} {a b : Expr} {fa fb : FE} {st : Stmt} {rest : List Stmt} {g h : FS}
def sNx : FS := fun e => .ok (.nx e)
def sSeq (g h : FS) : FS := fun e => match g e with
  | .ok (.nx e1) => h e1
  | r => r
theorem vss_nil : PSs X [] (rdS X.K X.mg W sNx) := pss_nil.imp fun D σ H ⟨A, e, r, p⟩ => p σ H r (Same.refl _)
theorem vss_cons (h1 : PS X st (rdS X.K X.mg W g)) (h2 : PSs X rest (rdS X.K X.mg W h)) : PSs X (st :: rest) (rdS X.K X.mg W (sSeq g h)) :=
  (pss_cons h1 h2).imp fun D σ H ⟨A, e, r, p⟩ => by
    refine ⟨A, e, r, ?_⟩
    unfold sSeq at p
    cases q : g e with
    | ok f =>
      rw [q] at p
      cases f with
      | nx e1 => exact fun σ' H' r' s' => ⟨A, e1, r', PostS.shift s' p⟩
      | rt d e1 => exact p
      | rn ds e1 => exact p
      | bk e1 => exact p
      | ct e1 => exact p
    | exc c e1 => rw [q] at p; exact p
    | err => rw [q] at p; exact p
theorem vss_one (h1 : PS X st (rdS X.K X.mg W g)) : PSs X [st] (rdS X.K X.mg W g) := pss_one h1
theorem vs_pass : PS X (.Pass pos) (rdS X.K X.mg W sNx) := ps_pass.imp fun D σ H ⟨A, e, r, p⟩ => p σ H r (Same.refl _)
def sBk : FS := fun e => .ok (.bk e)
def sCt : FS := fun e => .ok (.ct e)
theorem vs_break : PS X (.Break pos) (rdS X.K X.mg W sBk) := ps_break.imp fun D σ H ⟨A, e, r, p⟩ => p σ H r (Same.refl _)
theorem vs_continue : PS X (.Continue pos) (rdS X.K X.mg W sCt) := ps_continue.imp fun D σ H ⟨A, e, r, p⟩ => p σ H r (Same.refl _)
def sErr : FS := fun _ => .err
theorem vs_never : PS X st (rdS X.K X.mg W sErr) := ps_never.imp fun D σ H ⟨A, e, r, p⟩ => p.elim
theorem vss_never {sts : List Stmt} : PSs X sts (rdS X.K X.mg W sErr) := pss_never.imp fun D σ H ⟨A, e, r, p⟩ => p.elim
def sRet (f : FE) : FS := fun e => (f e).bind fun p => .ok (.rt p.1 p.2)
theorem vs_ret (ha : PE X a (rE X.K X.mg W fa)) : PS X (.Return (some a) pos) (rdS X.K X.mg W (sRet fa)) :=
  (ps_ret ha).imp fun D σ H ⟨A, e, r, p⟩ => rd_seqS r p fun d e1 x H1 _ r1 s1 d1 p1 => p1 x σ H1 r1 (Same.refl _) d1
def sIf (c : FT) (g h : FS) : FS := fun e => (c e).bind fun p => if p.1 = true then g p.2 else h p.2
theorem vs_if {c : Expr} {fc : FT} {s1 s2 : List Stmt} (hc : PT X c (rT X.K X.mg W fc)) (ha : PSs X s1 (rdS X.K X.mg W g)) (hb : PSs X s2 (rdS X.K X.mg W h)) : PS X (.If c s1 s2 pos) (rdS X.K X.mg W (sIf fc g h)) :=
  (ps_if hc ha hb).imp fun D σ H ⟨A, e, r, p⟩ => rd_seqS r p fun k e1 x H1 _ r1 s1 d1 p1 => by
    subst d1
    cases x with
    | true => exact iteT ⟨A, e1, r1, p1⟩
    | false => exact iteF ⟨A, e1, r1, p1⟩
def sSet (i : Nat) (f : FE) : FS := fun e => (f e).bind fun p => .ok (.nx (p.2.set i (.val p.1)))
theorem rSet_of {i : Nat} : ∀ (D : Ends) σ H, rdS X.K X.mg W (sSet i fa) D σ H → tAsg (rE X.K X.mg W fa) (gName i) D σ H := fun D σ H ⟨A, e, r, p⟩ =>
  rd_seqS r p fun d e1 x H1 _ r1 s1 d1 p1 => p1 _ H1 (r1.set d1) hid_set
theorem vs_set (i : Nat) {x : Str} {pos' : Pos} (hN : X.N.Nodup) (ha : PE X a (rE X.K X.mg W fa)) (hi : X.N[i]? = some x := by rfl) (hx : Loc X.env.scope x := by first | exact .inl rfl | exact .inr rfl) (hs : swapsWith a (some (.Name x pos')) pos.line X.env = pure false := by rfl)
    (hf : X.fn x = true ∨ X.env.scope.names.lookup x = some .local := by first | exact .inl rfl | exact .inr rfl) : PS X (.Assign [.Name x pos'] a pos) (rdS X.K X.mg W (sSet i fa)) :=
  (ps_set hN hi hx ha hs hf).imp rSet_of
/-- a general target -/
def sAsg (G : TD) (f : FE) : FS := fun e => (f e).bind fun p => match G p.1 p.2 with
  | some e1 => .ok (.nx e1)
  | none => .err
theorem vs_asg {tg : Expr} {G : TD} {js : List Nat} (ha : PE X a (rE X.K X.mg W fa)) (hg : PG X tg (rdG X.K G js)) (hs : swapsWithSole [tg] a pos.line X.env = pure false := by rfl) (hw : swappedStores [tg] a X.env = pure none := by rfl)
    (h1 : (assignEach [tg] X.env).map (·.2) = [assign tg X.env] := by rfl) : PS X (.Assign [tg] a pos) (rdS X.K X.mg W (sAsg G fa)) :=
  (ps_asg ha hg hs hw h1).imp fun D σ H ⟨A, e, r, p⟩ => rd_seqS r p fun d e1 x H1 _ r1 s1 d1 p1 => by
    cases h : G d e1 with
    | none => simp only [h] at p1; exact p1.elim
    | some e2 =>
      simp only [h] at p1
      exact ⟨A, e1, d, r1, d1, e2, h, fun σ' r' s' _ _ => p1 σ' H1 r' s'⟩
/-! ### new lists -/
def PostN (K : PySem.W.Frag) (mg : Str → Option Value) (W : WX) (A : Act) (σ : L2.St) (e : En) (H : Hp) (Q : VK) : R (List D × En) → Prop
  | .ok p => ∀ q vs H', Old A q → Rep K (A.build q vs) H' σ p.2 → Same (hid A σ e H) (hid (A.build q vs) σ p.2 H') → DenL K (hid (A.build q vs) σ p.2 H') p.1 vs → Q (.ref q) H'
  | .exc c e' => ∀ H', Rep K A H' σ e' → Same (hid A σ e H) (hid A σ e' H') → WX1 mg W c σ H'
  | .err => False
def rN (K : PySem.W.Frag) (mg : Str → Option Value) (W : WX) (f : FA) : TE := fun σ H Q => ∃ A e, Rep K A H σ e ∧ PostN K mg W A σ e H Q (f e)
/-- how a reading of parts leads to a new list -/
theorem rN_seq {α β : Type} {K : PySem.W.Frag} {mg : Str → Option Value} {A : Act} {σ : L2.St} {e : En} {H : Hp} {den : Hp → α → β → Prop} {f : En → R (α × En)} {k : α × En → R (List D × En)} {Q : VK} {G : β → Hp → Prop} (r : Rep K A H σ e) (p : PostN K mg W A σ e H Q ((f e).bind k))
    (hG : ∀ a e1 b H1, f e = .ok (a, e1) → Rep K A H1 σ e1 → Same (hid A σ e H) (hid A σ e1 H1) → den (hid A σ e1 H1) a b → PostN K mg W A σ e1 H1 Q (k (a, e1)) → G b H1) : rd K mg W den f σ H G := by
  refine ⟨A, e, r, ?_⟩
  cases h : f e with
  | ok q =>
    obtain ⟨a, e1⟩ := q
    rw [h] at p
    refine fun b H1 r1 s1 d1 => hG a e1 b H1 h r1 s1 d1 ?_
    have p' : PostN K mg W A σ e H Q (k (a, e1)) := p
    revert p'
    cases k (a, e1) with
    | ok q => exact fun p' q vs H' o r' s' d' => p' q vs H' o r' (s1.trans s') d'
    | exc c e' => exact fun p' H' r' s' => p' H' r' (s1.trans s')
    | err => exact fun p' => p'
  | exc c e' => rw [h] at p; exact p
  | err => rw [h] at p; exact p
theorem finN {K : PySem.W.Frag} {mg : Str → Option Value} {A : Act} {σ : L2.St} {e : En} {H : Hp} {Q : VK} {ds : List D} {vs : List V} {q : Addr} (r : Rep K A H σ e) (p : PostN K mg W A σ e H Q (.ok (ds, e))) (hq : H q = none) (h : DenL K (hid A σ e H) ds vs) : Q (.ref q) (upd H q (.lst vs)) := by
  refine p q vs _ (r.old hq) (r.build vs hq) ?_ ?_
  · rw [hid_build r hq]; exact Same.refl _
  · rw [hid_build r hq]; exact h
/-- as a value -/
def eL (f : FA) : FE := fun e => (f e).bind fun p => .ok (.lst p.1, p.2)
theorem v_ofN {ex : Expr} {f : FA} (h : PE X ex (rN X.K X.mg W f)) : PE X ex (rE X.K X.mg W (eL f)) :=
  h.imp fun σ H Q ⟨A, e, r, p⟩ => by
    refine ⟨A, e, r, ?_⟩
    unfold eL at p
    cases q : f e with
    | ok z =>
      obtain ⟨ds, e1⟩ := z
      rw [q] at p
      intro a vs H' o r' s' d'
      obtain ⟨rb, sb, hb⟩ := r'.built o
      refine p _ H' rb (s'.trans sb) ?_
      simp only [Den]
      exact ⟨a, vs, rfl, hb, DenL.mono sb _ _ d'⟩
    | exc c e1 => rw [q] at p; exact p
    | err => rw [q] at p; exact p
def nLst (f : FA) : FA := fun e => (f e).bind fun p => if p.1.length ≤ lim then .ok p else .err
theorem n_lst {es : List Expr} {f : FA} (h : PA X es (rA X.K X.mg W f)) : PE X (.List es pos) (rN X.K X.mg W (nLst f)) :=
  (pe_lst h).imp fun σ H Q ⟨A, e, r, p⟩ => by
    refine rN_seq r p fun ds e1 xs H1 _ r1 s1 d1 p1 => ?_
    by_cases h : ds.length ≤ lim
    · simp only [h, if_true] at p1
      exact ⟨by rw [← d1.length, ← lim_eq]; exact h, fun q nq => finN r1 p1 nq d1⟩
    · simp only [h, if_false] at p1
      exact p1.elim
def RBN (K : PySem.W.Frag) (r : R2) (g : D → D → Option (List D)) : Prop := ∀ (Hh H : Hp) (a b : D) (x y : V) (ds : List D) (Q : VK), Same Hh H → Den K Hh a x → Den K Hh b y → g a b = some ds → (∀ p vs, H p = none → DenL K Hh ds vs → Q (.ref p) (upd H p (.lst vs))) → r x y H Q
def nB (g : D → D → Option (List D)) (fa fb : FE) : FA := fun e => (fa e).bind fun p => (fb p.2).bind fun q => match g p.1 q.1 with
  | some d => .ok (d, q.2)
  | none => .err
theorem n_op {op : Operator} {r : R2} {g : D → D → Option (List D)} (hg : RBN X.K r g) (ho : OpR X (binaryOp op) r) (ha : PE X a (rE X.K X.mg W fa)) (hb : PE X b (rE X.K X.mg W fb)) : PE X (.BinOp a op b pos) (rN X.K X.mg W (nB g fa fb)) :=
  (pe_op ho ha hb).imp fun σ H Q ⟨A, e, rp, p⟩ => by
    refine rN_seq rp p fun da e1 x H1 _ r1 s1 d1 p1 => rN_seq r1 p1 fun db e2 y H2 _ r2 s2 d2 p2 => ?_
    cases h : g da db with
    | none => simp only [h] at p2; exact p2.elim
    | some ds =>
      simp only [h] at p2
      exact hg _ H2 da db x y ds Q hid_sub (Den.mono s2 _ _ d1) d2 h fun q vs nq d => finN r2 p2 nq d
def RCN (K : PySem.W.Frag) (r : List V → Hp → VK → Prop) (g : List D → Option (List D)) : Prop := ∀ (Hh H : Hp) (ds : List D) (vs : List V) (es : List D) (Q : VK), Same Hh H → DenL K Hh ds vs → g ds = some es → (∀ p us, H p = none → DenL K Hh es us → Q (.ref p) (upd H p (.lst us))) → r vs H Q
def nF (g : List D → Option (List D)) (f : FA) : FA := fun e => (f e).bind fun p => match g p.1 with
  | some d => .ok (d, p.2)
  | none => .err
theorem rCN_of {r : List V → Hp → VK → Prop} {g : List D → Option (List D)} {f : FA} (hg : RCN X.K r g) : ∀ σ H Q, rN X.K X.mg W (nF g f) σ H Q → tCB r (rA X.K X.mg W f) σ H Q := fun σ H Q ⟨A, e, rp, p⟩ => by
  refine rN_seq rp p fun ds e1 xs H1 _ r1 s1 d1 p1 => ?_
  cases h : g ds with
  | none => simp only [h] at p1; exact p1.elim
  | some es =>
    simp only [h] at p1
    exact hg _ H1 ds xs es Q hid_sub d1 h fun q vs nq d => finN r1 p1 nq d
def sRetN (f : FA) : FS := fun e => (f e).bind fun p => .ok (.rn p.1 p.2)
theorem vs_retN {f : FA} (ha : PE X a (rN X.K X.mg W f)) : PS X (.Return (some a) pos) (rdS X.K X.mg W (sRetN f)) :=
  (ps_ret ha).imp fun D σ H ⟨A, e, r, p⟩ => by
    refine ⟨A, e, r, ?_⟩
    unfold sRetN at p
    cases q : f e with
    | ok z =>
      rw [q] at p
      exact fun a vs H' o r' s' d' => p a vs σ H' o r' s' d'
    | exc c e1 =>
      rw [q] at p
      exact fun H' r' => p σ H' r'
    | err => rw [q] at p; exact p
/-- x = a new list, to be changed in place -/
def sNew (i : Nat) (f : FA) : FS := fun e => (f e).bind fun p => if i < p.2.length then .ok (.nx (p.2.set i (.own p.1))) else .err
theorem vs_new (i : Nat) {x : Str} {pos' : Pos} {f : FA} (hN : X.N.Nodup) (ha : PE X a (rN X.K X.mg W f)) (hi : X.N[i]? = some x := by rfl) (hx : Loc X.env.scope x := by first | exact .inl rfl | exact .inr rfl)
    (hs : swapsWith a (some (.Name x pos')) pos.line X.env = pure false := by rfl)
    (hf : X.fn x = true ∨ X.env.scope.names.lookup x = some .local := by first | exact .inl rfl | exact .inr rfl) : PS X (.Assign [.Name x pos'] a pos) (rdS X.K X.mg W (sNew i f)) :=
  (ps_set hN hi hx ha hs hf).imp fun D σ H ⟨A, e, r, p⟩ => by
    refine ⟨A, e, r, ?_⟩
    unfold sNew at p
    cases q : f e with
    | ok z =>
      obtain ⟨ds, e1⟩ := z
      rw [q] at p
      intro a vs H' o r' s' d'
      by_cases h : i < e1.length
      · have p2 : PostS X.K X.mg W D A σ e H (if i < e1.length then .ok (.nx (e1.set i (.own ds))) else .err) := p
        rw [if_pos h] at p2
        obtain ⟨rc, sc⟩ := r'.claim (ds := ds) (i := i) (s := .own ds) o d' rfl h
        exact p2 _ _ rc (s'.trans sc)
      · have p2 : PostS X.K X.mg W D A σ e H (if i < e1.length then .ok (.nx (e1.set i (.own ds))) else .err) := p
        rw [if_neg h] at p2
        exact p2.elim
    | exc c e1 =>
      rw [q] at p
      exact fun H' r' => p σ H' r'
    | err => rw [q] at p; exact p
/-! ### x, y = e1, e2: each a value, or a new list to be changed in place -/
inductive Bp where
  | v (d : D) | n (ds : List D)
inductive Got (K : PySem.W.Frag) (Hf : Hp) : Act → Act → List Bp → List V → Prop
  | nil {A : Act} : Got K Hf A A [] []
  | v {A A' : Act} {d : D} {x : V} {bs : List Bp} {vs : List V} : Den K Hf d x → Got K Hf A A' bs vs → Got K Hf A A' (.v d :: bs) (x :: vs)
  | n {A A' : Act} {p : Addr} {ds : List D} {us : List V} {bs : List Bp} {vs : List V} : Old A p → DenL K Hf ds us → Got K Hf (A.build p us) A' bs vs → Got K Hf A A' (.n ds :: bs) (.ref p :: vs)
theorem Got.mono {K : PySem.W.Frag} {Hf Hg : Hp} (s : Same Hf Hg) {A A' : Act} {bs : List Bp} {vs : List V} (g : Got K Hf A A' bs vs) : Got K Hg A A' bs vs := by
  induction g with
  | nil => exact .nil
  | v h _ ih => exact .v (Den.mono s _ _ h) ih
  | n o h _ ih => exact .n o (DenL.mono s _ _ h) ih
def Bp.sl : Bp → Sl
  | .v d => .val d
  | .n ds => .own ds
def setsV (σ : L2.St) : List Nat → List V → L2.St
  | i :: is, v :: vs => (setsV σ is vs).set i (some v)
  | _, _ => σ
def setsE (e : En) : List Nat → List Bp → En
  | i :: is, b :: bs => (setsE e is bs).set i b.sl
  | _, _ => e
theorem setsE_length (e : En) : ∀ (is : List Nat) (bs : List Bp), (setsE e is bs).length = e.length
  | [], _ => rfl
  | _ :: _, [] => rfl
  | i :: is, b :: bs => by unfold setsE; rw [List.length_set, setsE_length e is bs]
theorem Got.all {K : PySem.W.Frag} {Hf H : Hp} {σ : L2.St} {e : En} {A A' : Act} {bs : List Bp} {vs : List V} (g : Got K Hf A A' bs vs) : ∀ (is : List Nat), is.length = bs.length → (∀ i ∈ is, i < e.length) → Rep K A' H σ e → Same Hf (hid A' σ e H) →
    Rep K A H (setsV σ is vs) (setsE e is bs) ∧ Same (hid A' σ e H) (hid A (setsV σ is vs) (setsE e is bs) H) := by
  induction g with
  | nil =>
    intro is hl hi r s
    cases is with
    | nil => exact ⟨r, Same.refl _⟩
    | cons i is => cases hl
  | v h _ ih =>
    intro is hl hi r s
    cases is with
    | nil => cases hl
    | cons i is =>
      obtain ⟨r1, s1⟩ := ih is (Nat.succ.inj hl) (fun j hj => hi j (List.mem_cons_of_mem _ hj)) r s
      exact ⟨r1.set (Den.mono (s.trans s1) _ _ h), s1.trans hid_set⟩
  | n o h _ ih =>
    intro is hl hi r s
    cases is with
    | nil => cases hl
    | cons i is =>
      obtain ⟨r1, s1⟩ := ih is (Nat.succ.inj hl) (fun j hj => hi j (List.mem_cons_of_mem _ hj)) r s
      obtain ⟨r2, s2⟩ := r1.claim (i := i) o (DenL.mono (s.trans s1) _ _ h) rfl (by rw [setsE_length]; exact hi i List.mem_cons_self)
      exact ⟨r2, s1.trans s2⟩
abbrev FB := En → R (List Bp × En)
def PostB (K : PySem.W.Frag) (mg : Str → Option Value) (W : WX) (A : Act) (σ : L2.St) (e : En) (H : Hp) (Q : List V → Hp → Prop) : R (List Bp × En) → Prop
  | .ok p => ∀ A' vs H', Rep K A' H' σ p.2 → Same (hid A σ e H) (hid A' σ p.2 H') → Got K (hid A' σ p.2 H') A A' p.1 vs → Q vs H'
  | .exc _ _ => False
  | .err => False
def rB (K : PySem.W.Frag) (mg : Str → Option Value) (W : WX) (f : FB) : TA := fun σ H Q => ∃ A e, Rep K A H σ e ∧ PostB K mg W A σ e H Q (f e)
def bN : FB := fun e => .ok ([], e)
def bV (f : FE) (g : FB) : FB := fun e => (f e).bind fun p => (g p.2).bind fun q => .ok (.v p.1 :: q.1, q.2)
def bL (f : FA) (g : FB) : FB := fun e => (f e).bind fun p => (g p.2).bind fun q => .ok (.n p.1 :: q.1, q.2)
theorem vb_nil : PA X [] (rB X.K X.mg W bN) := pa_nil.imp fun σ H Q ⟨A, e, r, p⟩ => p A [] H r (Same.refl _) .nil
theorem vb_v {es : List Expr} {f : FE} {g : FB} (ha : PE X a (rE X.K X.mg W f)) (hr : PA X es (rB X.K X.mg W g)) (hs : starEach (a :: es) X.env = (false, eval a X.env) :: starEach es X.env := by rfl) : PA X (a :: es) (rB X.K X.mg W (bV f g)) :=
  (pa_cons ha hr hs).imp fun σ H Q ⟨A, e, r, p⟩ => by
    refine ⟨A, e, r, ?_⟩
    unfold bV at p
    cases q : f e with
    | ok z =>
      obtain ⟨d, e1⟩ := z
      rw [q] at p
      intro x H1 r1 s1 d1
      refine ⟨A, e1, r1, ?_⟩
      have p1 : PostB X.K X.mg W A σ e H Q ((g e1).bind fun q => .ok (.v d :: q.1, q.2)) := p
      cases q2 : g e1 with
      | ok z =>
        rw [q2] at p1
        exact fun A' vs H2 r2 s2 g2 => p1 A' (x :: vs) H2 r2 (s1.trans s2) (.v (Den.mono s2 _ _ d1) g2)
      | exc c e2 => rw [q2] at p1; exact p1.elim
      | err => rw [q2] at p1; exact p1
    | exc c e1 => rw [q] at p; exact p.elim
    | err => rw [q] at p; exact p
theorem vb_l {es : List Expr} {f : FA} {g : FB} (ha : PE X a (rN X.K X.mg W f)) (hr : PA X es (rB X.K X.mg W g)) (hs : starEach (a :: es) X.env = (false, eval a X.env) :: starEach es X.env := by rfl) : PA X (a :: es) (rB X.K X.mg W (bL f g)) :=
  (pa_cons ha hr hs).imp fun σ H Q ⟨A, e, r, p⟩ => by
    refine ⟨A, e, r, ?_⟩
    unfold bL at p
    cases q : f e with
    | ok z =>
      obtain ⟨ds, e1⟩ := z
      rw [q] at p
      intro w us H1 o r1 s1 d1
      refine ⟨A.build w us, e1, r1, ?_⟩
      have p1 : PostB X.K X.mg W A σ e H Q ((g e1).bind fun q => .ok (.n ds :: q.1, q.2)) := p
      cases q2 : g e1 with
      | ok z =>
        rw [q2] at p1
        exact fun A' vs H2 r2 s2 g2 => p1 A' (.ref w :: vs) H2 r2 (s1.trans s2) (.n o (DenL.mono s2 _ _ d1) g2)
      | exc c e2 => rw [q2] at p1; exact p1.elim
      | err => rw [q2] at p1; exact p1
    | exc c e1 => rw [q] at p; exact p.elim
    | err => rw [q] at p; exact p
def sPar (is : List Nat) (f : FB) : FS := fun e => match f e with
  | .ok p => if p.1.length = is.length ∧ (∀ i ∈ is, i < p.2.length) then .ok (.nx (setsE p.2 is p.1)) else .err
  | _ => .err
theorem rPar_of {is : List Nat} {f : FB} : ∀ (D : Ends) σ H, rdS X.K X.mg W (sPar is f) D σ H → rB X.K X.mg W f σ H (fun vs H1 => vs.length = is.length ∧ D.nx (setsV σ is vs) H1) := fun D σ H ⟨A, e, r, p⟩ => by
  refine ⟨A, e, r, ?_⟩
  unfold sPar at p
  cases q : f e with
  | ok z =>
    obtain ⟨bs, e1⟩ := z
    rw [q] at p
    have p1 : PostS X.K X.mg W D A σ e H (if bs.length = is.length ∧ (∀ i ∈ is, i < e1.length) then .ok (.nx (setsE e1 is bs)) else .err) := p
    intro A' vs H1 r1 s1 g
    by_cases h : bs.length = is.length ∧ (∀ i ∈ is, i < e1.length)
    · rw [if_pos h] at p1
      obtain ⟨r2, s2⟩ := g.all is h.1.symm h.2 r1 (Same.refl _)
      have hl : ∀ {A A' : Act} {Hf : Hp} {bs : List Bp} {vs : List V}, Got X.K Hf A A' bs vs → bs.length = vs.length := fun g => by
        induction g with
        | nil => rfl
        | v _ _ ih => rw [List.length_cons, List.length_cons, ih]
        | n _ _ _ ih => rw [List.length_cons, List.length_cons, ih]
      exact ⟨(hl g).symm.trans h.1, p1 _ _ r2 (s1.trans s2)⟩
    · rw [if_neg h] at p1
      exact p1.elim
  | exc c e1 => rw [q] at p; exact p
  | err => rw [q] at p; exact p
theorem vs_par (i j : Nat) {x y : Str} {px py pt : Pos} {kt k2 : Nat} {pt2 : Pos} {f : FB} (hc : X.calm = true) (hN : X.N.Nodup) (ha : PA X [a, b] (rB X.K X.mg W f)) (hi : X.N[i]? = some x := by rfl) (hj : X.N[j]? = some y := by rfl) (hij : i ≠ j := by decide)
    (hx : X.env.scope.names.lookup x = some .local := by rfl) (hy : X.env.scope.names.lookup y = some .local := by rfl)
    (hw : swappedStores [.Tuple [.Name x px, .Name y py] kt pt] (.Tuple [a, b] k2 pt2) X.env = pure (some [x, y]) := by rfl)
    (hs : swapsWithSole [.Tuple [.Name x px, .Name y py] kt pt] (.Tuple [a, b] k2 pt2) pos.line X.env = pure false := by rfl) :
    PS X (.Assign [.Tuple [.Name x px, .Name y py] kt pt] (.Tuple [a, b] k2 pt2) pos) (rdS X.K X.mg W (sPar [i, j] f)) :=
  (ps_par hc hN hi hj hij hx hy ha hw hs).imp fun D σ H h => by
    obtain ⟨A, e, r, p⟩ := rPar_of D σ H h
    refine ⟨A, e, r, ?_⟩
    revert p
    cases f e with
    | ok z =>
      intro p A' vs H' r' s' g
      obtain ⟨hl, q⟩ := p A' vs H' r' s' g
      match vs, hl, q with
      | [v, w], _, q =>
        refine ⟨v, w, rfl, ?_⟩
        have q' : D.nx ((σ.set j (some w)).set i (some v)) H' := q
        rw [List.set_comm _ _ (Ne.symm hij)] at q'
        exact q'
    | exc c e1 => exact fun p => p
    | err => exact fun p => p
theorem vs_par3 (i j l : Nat) {c : Expr} {x y z : Str} {px py pz pt : Pos} {kt k2 : Nat} {pt2 : Pos} {f : FB} (hc : X.calm = true) (hN : X.N.Nodup) (ha : PA X [a, b, c] (rB X.K X.mg W f)) (hi : X.N[i]? = some x := by rfl) (hj : X.N[j]? = some y := by rfl) (hl : X.N[l]? = some z := by rfl)
    (hij : i ≠ j := by decide) (hil : i ≠ l := by decide) (hjl : j ≠ l := by decide)
    (hx : X.env.scope.names.lookup x = some .local := by rfl) (hy : X.env.scope.names.lookup y = some .local := by rfl) (hz : X.env.scope.names.lookup z = some .local := by rfl)
    (hw : swappedStores [.Tuple [.Name x px, .Name y py, .Name z pz] kt pt] (.Tuple [a, b, c] k2 pt2) X.env = pure (some [x, y, z]) := by rfl)
    (hs : swapsWithSole [.Tuple [.Name x px, .Name y py, .Name z pz] kt pt] (.Tuple [a, b, c] k2 pt2) pos.line X.env = pure false := by rfl) :
    PS X (.Assign [.Tuple [.Name x px, .Name y py, .Name z pz] kt pt] (.Tuple [a, b, c] k2 pt2) pos) (rdS X.K X.mg W (sPar [i, j, l] f)) :=
  (ps_par3 hc hN hi hj hl hij hil hjl hx hy hz ha hw hs).imp fun D σ H h => by
    obtain ⟨A, e, r, p⟩ := rPar_of D σ H h
    refine ⟨A, e, r, ?_⟩
    revert p
    cases f e with
    | ok z =>
      intro p A' vs H' r' s' g
      obtain ⟨hl, q⟩ := p A' vs H' r' s' g
      match vs, hl, q with
      | [u, v, w], _, q =>
        refine ⟨u, v, w, rfl, ?_⟩
        have q' : D.nx (((σ.set l (some w)).set j (some v)).set i (some u)) H' := q
        rw [List.set_comm _ _ (Ne.symm hjl), List.set_comm _ _ (Ne.symm hil), List.set_comm _ _ (Ne.symm hij)] at q'
        exact q'
    | exc c e1 => exact fun p => p
    | err => exact fun p => p
/-! ### x.append(e), x.pop() -/
def sApp (i : Nat) (f : FE) : FS := fun e => match e[i]? with
  | some (.own _) => (f e).bind fun p => match p.2[i]? with
    | some (.own ds) => if ds.length < lim then .ok (.nx (p.2.set i (.own (ds ++ [p.1])))) else .err
    | _ => .err
  | _ => .err
theorem vs_append (i : Nat) {x : Str} {p1 p2 p3 : Pos} (ha : PE X a (rE X.K X.mg W fa)) (hN : X.N[i]? = some x := by rfl) (hv : Vis X.env.scope x := by first | exact Or.inl rfl | exact Or.inr (Or.inl rfl) | exact Or.inr (Or.inr rfl))
    (hd : (x == ("__debug__" : Str)) = false := by decide) (hcd : (x == ("__classdict__" : Str)) = false := by decide)
    (hbase : attributeBase (.Name x p1) "append" X.env (eval (.Name x p1) X.env) = eval (.Name x p1) X.env := by rfl)
    (hfew : ((backTo p3 (starEach [a] X.env)).all (fun x => !x.1) && (backToKw p3 (keywordEach [] X.env)).all (fun x => x.1.isSome)
      && decide ([a].length + ([] : List Keyword).length + (if ([] : List Keyword).isEmpty then 0 else 1) < 30)) = true := by rfl)
    (hline : (p2.endLine == p3.line) = true := by rfl) (hs : starEach [a] X.env = (false, eval a X.env) :: starEach [] X.env := by rfl) (hplain : (backTo p3 (starEach [] X.env)).any (·.1) = false := by rfl)
    (hsw : swapsWith (.Call (.Attribute (.Name x p1) "append" p2) [a] [] p3) none pos.line X.env = pure false := by rfl) :
    PS X (.Expr (.Call (.Attribute (.Name x p1) "append" p2) [a] [] p3) pos) (rdS X.K X.mg W (sApp i fa)) :=
  (ps_expr (pe_bm PySem.F.plainAttrs_list PySem.F.slot_list_append PySem.F.type_list_append mt_append (pe_var hN hv hd hcd) (pa_cons ha pa_nil hs) hbase hfew hline hs hplain) hsw).imp fun D σ H ⟨A, e, r, p⟩ => by
    unfold sApp at p
    cases h : e[i]? with
    | none => rw [h] at p; exact p.elim
    | some s =>
      rw [h] at p
      cases s with
      | own ds0 =>
        obtain ⟨l, vs0, h1, h2, h3, h4⟩ := r.own i ds0 h
        refine ⟨.ref l, h1, .inl ⟨rfl, vs0, .inl (.inl h2)⟩, ?_⟩
        refine rd_seqS r p fun d e1 y H1 _ r1 s1 d1 p1 => ?_
        cases h' : e1[i]? with
        | none => simp only [h'] at p1; exact p1.elim
        | some s' =>
          simp only [h'] at p1
          cases s' with
          | own ds =>
            by_cases hl : ds.length < lim
            · simp only [hl, if_true] at p1
              obtain ⟨l', vs, k1, k2, k3, k4⟩ := r1.own i ds h'
              rw [h1] at k1
              cases k1
              obtain ⟨rp, hp⟩ := r1.put h' ⟨ds, .inl h'⟩ h1 (DenL.append k3 (DenL.cons d1 DenL.nil))
              have hp' : hid A σ (e1.set i (.own (ds ++ [d]))) (upd H1 l (.lst (vs ++ [y]))) = hid A σ e1 H1 := hp
              refine ⟨l, vs, y, rfl, rfl, k2, by rw [← k3.length, ← lim_eq]; exact hl, p1 σ _ rp ?_⟩
              rw [hp']
              exact Same.refl _
            · simp only [hl, if_false] at p1
              exact p1.elim
          | _ => exact p1.elim
      | _ => exact p.elim
/-- the last one is taken off -/
def ePop (i : Nat) : FE := fun e => match e[i]? with
  | some s => (match s with
    | .own ds | .brw ds => (match ds.getLast? with
      | some d => .ok (d, e.set i (s.turn ds.dropLast))
      | none => .err)
    | _ => .err)
  | none => .err
theorem v_pop (i : Nat) {x : Str} {p1 p2 : Pos} (hN : X.N[i]? = some x := by rfl) (hv : Vis X.env.scope x := by first | exact Or.inl rfl | exact Or.inr (Or.inl rfl) | exact Or.inr (Or.inr rfl))
    (hd : (x == ("__debug__" : Str)) = false := by decide) (hcd : (x == ("__classdict__" : Str)) = false := by decide)
    (hbase : attributeBase (.Name x p1) "pop" X.env (eval (.Name x p1) X.env) = eval (.Name x p1) X.env := by rfl) (hline : (p2.endLine == pos.line) = true := by rfl) :
    PE X (.Call (.Attribute (.Name x p1) "pop" p2) [] [] pos) (rE X.K X.mg W (ePop i)) :=
  (pe_bm0 PySem.F.plainAttrs_list PySem.F.slot_list_pop PySem.F.type_list_pop mt_pop (pe_var hN hv hd hcd) hbase hline).imp fun σ H Q ⟨A, e, r, p⟩ => by
    unfold ePop at p
    cases h : e[i]? with
    | none => rw [h] at p; exact p.elim
    | some s =>
      rw [h] at p
      have go : ∀ ds, (s = .own ds ∨ s = .brw ds) → Post X.K X.mg W (Den X.K) A σ e H Q (match ds.getLast? with
          | some d => .ok (d, e.set i (s.turn ds.dropLast))
          | none => .err) → tBM0 X.K "list" rPop (tVar i) σ H Q := fun ds hs p => by
        have hh : Held e i := ⟨ds, by rcases hs with rfl | rfl; exact .inl h; exact .inr h⟩
        have ho : ∃ a vs, σ[i]? = some (some (.ref a)) ∧ H a = some (.lst vs) ∧ DenL X.K (hid A σ e H) ds vs := by
          rcases hs with rfl | rfl
          · obtain ⟨a, vs, k1, k2, k3, _⟩ := r.own i ds h
            exact ⟨a, vs, k1, k2, k3⟩
          · obtain ⟨a, vs, k1, k2, k3, _⟩ := r.brw i ds h
            exact ⟨a, vs, k1, k2, k3⟩
        obtain ⟨a, vs, k1, k2, k3⟩ := ho
        cases hg : ds.getLast? with
        | none => rw [hg] at p; exact p.elim
        | some d =>
          rw [hg] at p
          rw [List.getLast?_eq_getElem?] at hg
          obtain ⟨v, hv, dv⟩ := k3.get hg
          rw [k3.length] at hv
          obtain ⟨rp, hp⟩ := r.put h hh k1 k3.dropLast
          refine ⟨.ref a, k1, .inl ⟨rfl, vs, .inl (.inl k2)⟩, a, vs, v, rfl, rfl, k2, hv, ?_⟩
          refine p v _ rp ?_ ?_
          · rw [hp]; exact Same.refl _
          · rw [hp]; exact dv
      cases s with
      | own ds => exact go ds (.inl rfl) p
      | brw ds => exact go ds (.inr rfl) p
      | _ => exact p.elim
/-- len(x), x[k] of a held list, which stays held -/
def ePeek (i : Nat) (g : List D → Option D) : FE := fun e => match e[i]? with
  | some (.own ds) | some (.brw ds) => (match g ds with
    | some d => .ok (d, e)
    | none => .err)
  | _ => .err
theorem peek {i : Nat} {A : Act} {σ : L2.St} {e : En} {H : Hp} {g : List D → Option D} {Q : VK} (r : Rep X.K A H σ e) (p : Post X.K X.mg W (Den X.K) A σ e H Q (ePeek i g e)) :
    ∃ ds a vs d, σ[i]? = some (some (.ref a)) ∧ H a = some (.lst vs) ∧ DenL X.K (hid A σ e H) ds vs ∧ g ds = some d ∧ ∀ v, Den X.K (hid A σ e H) d v → Q v H := by
  unfold ePeek at p
  have go : ∀ ds, (e[i]? = some (.own ds) ∨ e[i]? = some (.brw ds)) → Post X.K X.mg W (Den X.K) A σ e H Q (match g ds with
      | some d => .ok (d, e)
      | none => .err) → ∃ ds a vs d, σ[i]? = some (some (.ref a)) ∧ H a = some (.lst vs) ∧ DenL X.K (hid A σ e H) ds vs ∧ g ds = some d ∧ ∀ v, Den X.K (hid A σ e H) d v → Q v H := fun ds hs p => by
    have ho : ∃ a vs, σ[i]? = some (some (.ref a)) ∧ H a = some (.lst vs) ∧ DenL X.K (hid A σ e H) ds vs := by
      rcases hs with h | h
      · obtain ⟨a, vs, k1, k2, k3, _⟩ := r.own i ds h
        exact ⟨a, vs, k1, k2, k3⟩
      · obtain ⟨a, vs, k1, k2, k3, _⟩ := r.brw i ds h
        exact ⟨a, vs, k1, k2, k3⟩
    obtain ⟨a, vs, k1, k2, k3⟩ := ho
    cases hg : g ds with
    | none => rw [hg] at p; exact p.elim
    | some d =>
      rw [hg] at p
      exact ⟨ds, a, vs, d, k1, k2, k3, hg, fun v hv => p v H r (Same.refl _) hv⟩
  cases h : e[i]? with
  | none => rw [h] at p; exact p.elim
  | some s =>
    rw [h] at p
    cases s with
    | own ds => exact go ds (.inl h) p
    | brw ds => exact go ds (.inr h) p
    | _ => exact p.elim
def lenOf : List D → Option D := fun ds => some (.int ds.length)
theorem v_lenHeld (i : Nat) {x : Str} {p p1 : Pos} (hg : Gl X "len") (hm : X.mg "len" = none) (hN : X.N[i]? = some x := by rfl) (hv : Vis X.env.scope x := by first | exact Or.inl rfl | exact Or.inr (Or.inl rfl) | exact Or.inr (Or.inr rfl))
    (hd : (x == ("__debug__" : Str)) = false := by decide) (hcd : (x == ("__classdict__" : Str)) = false := by decide) :
    PE X (.Call (.Name "len" p) [.Name x p1] [] pos) (rE X.K X.mg W (ePeek i lenOf)) :=
  (pe_callB call_len_seq hg hm PySem.boot_len (pa_cons (pe_var hN hv hd hcd) pa_nil)).imp fun σ H Q ⟨A, e, r, p⟩ => by
    obtain ⟨ds, a, vs, d, k1, k2, k3, k4, q⟩ := peek r p
    refine ⟨.ref a, k1, a, vs, rfl, .inl (.inl (.inl k2)), q _ ?_⟩
    simp only [lenOf, Option.some.injEq] at k4
    subst k4
    simp only [Den]
    rw [k3.length]
/-! ### x op= e -/
def RI (K : PySem.W.Frag) (t : TIp) (g : D → D → Option D) : Prop := RB K t g
def sAug (i : Nat) (g : D → D → Option D) (f : FE) : FS := fun e => match e[i]? with
  | some (.val d0) => (f e).bind fun p => match g d0 p.1 with
    | some d => .ok (.nx (p.2.set i (.val d)))
    | none => .err
  | _ => .err
theorem vs_aug (i : Nat) {x : Str} {op : Operator} {t : TIp} {g : D → D → Option D} {pos' : Pos} (hg : RB X.K t g) (ho : PIp X op t) (hN : X.N.Nodup) (ha : PE X a (rE X.K X.mg W fa)) (hi : X.N[i]? = some x := by rfl) (hx : Loc X.env.scope x := by first | exact .inl rfl | exact .inr rfl)
    (hf : X.fn x = true ∨ X.env.scope.names.lookup x = some .local := by first | exact .inl rfl | exact .inr rfl) : PS X (.AugAssign (.Name x pos') op a pos) (rdS X.K X.mg W (sAug i g fa)) :=
  (ps_aug hN hi hx ha ho hf).imp fun D σ H ⟨A, e, r, p⟩ => by
    unfold sAug at p
    cases h : e[i]? with
    | none => rw [h] at p; exact p.elim
    | some s =>
      rw [h] at p
      cases s with
      | val d0 =>
        obtain ⟨v0, h1, h2⟩ := r.val i d0 h
        refine ⟨v0, h1, rd_seqS r p fun d e1 y H1 _ r1 s1 d1 p1 => ?_⟩
        cases h' : g d0 d with
        | none => simp only [h'] at p1; exact p1.elim
        | some d' =>
          simp only [h'] at p1
          refine hg _ H1 d0 d v0 y d' _ hid_sub (Den.mono s1 _ _ h2) d1 h' fun z H2 s2 f2 => ?_
          have dz := f2 (hid A σ e1 H2) (hid_same s2) fun _ _ a b => r1.seen a b
          exact p1 _ H2 ((r1.grow s2).set dz) ((hid_same s2).trans hid_set)
      | _ => exact p.elim
end
end
end Mi
namespace Mi
open PySem PySem.Spec PyProof.Rows L2

/-! ### what a loop walks -/
def JD (K : PySem.W.Frag) (Hh : Hp) (items : List D) (J : It) : Prop := ∀ Hv H : Hp, Same Hh Hv → Same Hv H → ∀ i : Nat,
  (i < items.length → J.go i H) ∧ (∀ d, items[i]? = some d → ∀ x H', J.yld i H x H' → Same H H' ∧ Fresh K Hv H H' d x) ∧ (items.length ≤ i → J.stop i H)
abbrev rI (K : PySem.W.Frag) (mg : Str → Option Value) (W : WX) (f : FA) : TI := rd K mg W (JD K) f
theorem JD.mono {K : PySem.W.Frag} {Hh Hg : Hp} {items : List D} {J : It} (s : Same Hh Hg) (h : JD K Hh items J) : JD K Hg items J := fun Hv H s1 s2 => h Hv H (s.trans s1) s2
section
variable {X : Cx} {W : WX} {tg : Expr} {pos : Pos} {a : Expr} {fa : FE}
theorem jd_list {K : PySem.W.Frag} {Hh : Hp} {ds : List D} {vs : List V} {p : Addr} (h1 : SqL K Hh p vs) (h2 : DenL K Hh ds vs) : JD K Hh ds (Itl K p) := fun Hv H s1 s2 i => by
  have hq : SqL K H p vs := (s1.trans s2).seq h1
  refine ⟨fun hi => ?_, fun d hd x H' y => ?_, fun hi => ⟨vs, hq, by rw [← h2.length]; exact hi⟩⟩
  · rw [h2.length] at hi
    exact ⟨vs, vs[i], hq, List.getElem?_eq_getElem hi⟩
  · obtain ⟨rfl, y⟩ := y
    obtain ⟨v, hv, dv⟩ := h2.get hd
    have := y vs hq
    rw [hv] at this
    cases this
    exact ⟨Same.refl _, Fresh.flat (Den.mono s1 _ _ dv)⟩
theorem jd_tup {K : PySem.W.Frag} {Hh : Hp} {ds : List D} {vs : List V} {p : Addr} (h1 : SqT K Hh p vs) (h2 : DenL K Hh ds vs) : JD K Hh ds (Itt K p) := fun Hv H s1 s2 i => by
  have hq : SqT K H p vs := Same.seqT (s1.trans s2) h1
  refine ⟨fun hi => ?_, fun d hd x H' y => ?_, fun hi => ⟨vs, hq, by rw [← h2.length]; exact hi⟩⟩
  · rw [h2.length] at hi
    exact ⟨vs, vs[i], hq, List.getElem?_eq_getElem hi⟩
  · obtain ⟨rfl, y⟩ := y
    obtain ⟨v, hv, dv⟩ := h2.get hd
    have := y vs hq
    rw [hv] at this
    cases this
    exact ⟨Same.refl _, Fresh.flat (Den.mono s1 _ _ dv)⟩
/-- a list is walked -/
def iL (f : FE) : FA := fun e => (f e).bind fun p => match p.1 with
  | .lst ds => .ok (ds, p.2)
  | .rls ds => .ok (ds, p.2)
  | _ => .err
theorem vi_list (ha : PE X a (rE X.K X.mg W fa)) : PI X tg a (rI X.K X.mg W (iL fa)) :=
  (pi_list ha).imp fun σ H Q ⟨A, e, r, p⟩ => by
    refine rd_seq r p fun d e1 x H1 _ r1 s1 d1 p1 => ?_
    cases d with
    | lst ds =>
      simp only [Den] at d1
      obtain ⟨q, vs, rfl, h1, h2⟩ := d1
      exact ⟨q, rfl, ⟨vs, .inl (.inl (hid_sub _ _ h1))⟩, p1 _ _ r1 (Same.refl _) (jd_list (.inl (.inl h1)) h2)⟩
    | rls ds =>
      simp only [Den] at d1
      obtain ⟨q, vs, rfl, h1, h2⟩ := d1
      exact ⟨q, rfl, ⟨vs, hid_sub.seq h1⟩, p1 _ _ r1 (Same.refl _) (jd_list h1 h2)⟩
    | _ => exact p1.elim
/-- a tuple is walked -/
def iT (f : FE) : FA := fun e => (f e).bind fun p => match p.1 with
  | .tup ds => .ok (ds, p.2)
  | _ => .err
theorem vi_tup (ha : PE X a (rE X.K X.mg W fa)) : PI X tg a (rI X.K X.mg W (iT fa)) :=
  (pi_tup ha).imp fun σ H Q ⟨A, e, r, p⟩ => by
    refine rd_seq r p fun d e1 x H1 _ r1 s1 d1 p1 => ?_
    cases d with
    | tup ds =>
      simp only [Den] at d1
      obtain ⟨q, vs, rfl, h1, h2⟩ := d1
      exact ⟨q, rfl, ⟨vs, Same.seqT hid_sub h1⟩, p1 _ _ r1 (Same.refl _) (jd_tup h1 h2)⟩
    | _ => exact p1.elim
/-- a range -/
def rangeD (lo : Int) (n : Nat) : List D := (List.range n).map fun (k : Nat) => D.int (lo + (k : Int))
theorem rangeD_length {lo : Int} {n : Nat} : (rangeD lo n).length = n := by unfold rangeD; rw [List.length_map, List.length_range]
theorem jd_range {K : PySem.W.Frag} {Hh : Hp} {lo : Int} {n : Nat} : JD K Hh (rangeD lo n) (Itr lo n) := fun Hv H s1 s2 i => by
  refine ⟨fun hi => ?_, fun d hd x H' y => ?_, fun hi => ?_⟩
  · rw [rangeD_length] at hi; exact hi
  · obtain ⟨rfl, rfl⟩ := y
    unfold rangeD at hd
    rw [List.getElem?_map] at hd
    by_cases hi : i < n
    · rw [List.getElem?_range hi] at hd
      simp only [Option.map_some, Option.some.injEq] at hd
      subst hd
      exact ⟨Same.refl _, Fresh.flat (by simp only [Den])⟩
    · rw [List.getElem?_eq_none (by rw [List.length_range]; omega)] at hd
      cases hd
  · rw [rangeD_length] at hi; exact hi
theorem den1 {K : PySem.W.Frag} {H : Hp} {d : D} {vs : List V} (h : DenL K H [d] vs) : ∃ v, vs = [v] ∧ Den K H d v := by
  simp only [DenL] at h
  obtain ⟨v, r, rfl, h, rfl⟩ := h
  exact ⟨v, rfl, h⟩
theorem den2 {K : PySem.W.Frag} {H : Hp} {d d' : D} {vs : List V} (h : DenL K H [d, d'] vs) : ∃ v v', vs = [v, v'] ∧ Den K H d v ∧ Den K H d' v' := by
  simp only [DenL] at h
  obtain ⟨v, r, rfl, h, v', r', rfl, h', rfl⟩ := h
  exact ⟨v, v', rfl, h, h'⟩
theorem den3 {K : PySem.W.Frag} {H : Hp} {d d' d'' : D} {vs : List V} (h : DenL K H [d, d', d''] vs) : ∃ v v' v'', vs = [v, v', v''] ∧ Den K H d v ∧ Den K H d' v' ∧ Den K H d'' v'' := by
  simp only [DenL] at h
  obtain ⟨v, r, rfl, h, v', r', rfl, h', v'', r'', rfl, h'', rfl⟩ := h
  exact ⟨v, v', v'', rfl, h, h', h''⟩
def int? : D → Option Int
  | .int i => some i
  | _ => none
theorem int_some {d : D} {i : Int} (h : int? d = some i) : d = .int i := by
  cases d <;> simp only [int?, Option.some.injEq] at h <;> first | (subst h; rfl) | cases h
def ar1 : List D → Option D
  | [a] => some a
  | _ => none
def ar2 : List D → Option (D × D)
  | [a, b] => some (a, b)
  | _ => none
theorem ar1_some {ds : List D} {a : D} (h : ar1 ds = some a) : ds = [a] := by
  cases ds with
  | nil => cases h
  | cons x r =>
    cases r with
    | nil => simp only [ar1, Option.some.injEq] at h; subst h; rfl
    | cons y r => cases h
theorem ar2_some {ds : List D} {a b : D} (h : ar2 ds = some (a, b)) : ds = [a, b] := by
  cases ds with
  | nil => cases h
  | cons x r =>
    cases r with
    | nil => cases h
    | cons y r =>
      cases r with
      | nil => simp only [ar2, Option.some.injEq, Prod.mk.injEq] at h; obtain ⟨rfl, rfl⟩ := h; rfl
      | cons z r => cases h
/-- within 2 ^ 62 either way; so written that the kernel stops at a j it does not know -/
def r62 : Int → Bool
  | .ofNat n => Nat.ble n 4611686018427387903
  | .negSucc n => Nat.ble n 4611686018427387903
theorem r62_iff {j : Int} : r62 j = true ↔ -4611686018427387904 ≤ j ∧ j < 4611686018427387904 := by
  cases j with
  | ofNat n =>
    show Nat.ble n 4611686018427387903 = true ↔ _
    rw [Nat.ble_eq]
    have : (Int.ofNat n) = (n : Int) := rfl
    omega
  | negSucc n =>
    show Nat.ble n 4611686018427387903 = true ↔ _
    rw [Nat.ble_eq]
    have : Int.negSucc n = -(n : Int) - 1 := by omega
    omega
theorem r62_ok {j : Int} (h : r62 j = true) : -(2 ^ 62) ≤ j ∧ j < 2 ^ 62 := by
  have := r62_iff.1 h
  have e : (2 : Int) ^ 62 = 4611686018427387904 := by decide +kernel
  rw [e]
  exact this
def rn1 (ds : List D) : Option Int := (ar1 ds).bind fun a => (int? a).bind fun j => if r62 j = true then some j else none
def rn2 (ds : List D) : Option (Int × Int) := (ar2 ds).bind fun q => (int? q.1).bind fun i => (int? q.2).bind fun j => if r62 i = true ∧ r62 j = true then some (i, j) else none
theorem rn1_some {ds : List D} {j : Int} (h : rn1 ds = some j) : ds = [.int j] ∧ r62 j = true := by
  unfold rn1 at h
  cases e : ar1 ds with
  | none => rw [e] at h; cases h
  | some a =>
    rw [e, Option.bind_some] at h
    cases k : int? a with
    | none => rw [k] at h; cases h
    | some i =>
      rw [k, Option.bind_some] at h
      by_cases c : r62 i = true
      · rw [if_pos c] at h
        cases h
        rw [ar1_some e, int_some k]
        exact ⟨rfl, c⟩
      · rw [if_neg c] at h
        cases h
theorem rn2_some {ds : List D} {i j : Int} (h : rn2 ds = some (i, j)) : ds = [.int i, .int j] ∧ r62 i = true ∧ r62 j = true := by
  unfold rn2 at h
  cases e : ar2 ds with
  | none => rw [e] at h; cases h
  | some q =>
    obtain ⟨a, b⟩ := q
    rw [e, Option.bind_some] at h
    cases k : int? a with
    | none => simp only [k, Option.bind_none] at h; cases h
    | some i =>
      cases k2 : int? b with
      | none => simp only [k, k2, Option.bind_some, Option.bind_none] at h; cases h
      | some j =>
        simp only [k, k2, Option.bind_some] at h
        by_cases c : r62 i = true ∧ r62 j = true
        · rw [if_pos c] at h
          cases h
          rw [ar2_some e, int_some k, int_some k2]
          exact ⟨rfl, c⟩
        · rw [if_neg c] at h
          cases h
def iR1 (f : FA) : FA := fun e => (f e).bind fun p => match rn1 p.1 with
  | some j => .ok (rangeD 0 j.toNat, p.2)
  | none => .err
def iR2 (f : FA) : FA := fun e => (f e).bind fun p => match rn2 p.1 with
  | some q => .ok (rangeD q.1 (q.2 - q.1).toNat, p.2)
  | none => .err
theorem vi_range1 {p : Pos} {f : FA} (hg : Gl X "range") (hm : X.mg "range" = none) (ha : PA X [a] (rA X.K X.mg W f)) (hs : starEach [a] X.env = [(false, eval a X.env)] := by rfl) : PI X tg (.Call (.Name "range" p) [a] [] pos) (rI X.K X.mg W (iR1 f)) :=
  (pi_range1 hg hm ha hs).imp fun σ H Q ⟨A, e, r, p⟩ => by
    refine rd_seq r p fun ds e1 x H1 _ r1 s1 d1 p1 => ?_
    cases q : rn1 ds with
    | none => simp only [q] at p1; exact p1.elim
    | some j =>
      simp only [q] at p1
      obtain ⟨rfl, c⟩ := rn1_some q
      obtain ⟨v, rfl, h⟩ := den1 d1
      rw [den_int h]
      exact ⟨j, rfl, (r62_ok c).1, (r62_ok c).2, p1 _ _ r1 (Same.refl _) jd_range⟩
theorem vi_range2 {b : Expr} {p : Pos} {f : FA} (hg : Gl X "range") (hm : X.mg "range" = none) (ha : PA X [a, b] (rA X.K X.mg W f)) (hs : starEach [a, b] X.env = [(false, eval a X.env), (false, eval b X.env)] := by rfl) (hs2 : starEach [b] X.env = [(false, eval b X.env)] := by rfl) :
    PI X tg (.Call (.Name "range" p) [a, b] [] pos) (rI X.K X.mg W (iR2 f)) :=
  (pi_range2 hg hm ha hs hs2).imp fun σ H Q ⟨A, e, r, p⟩ => by
    refine rd_seq r p fun ds e1 x H1 _ r1 s1 d1 p1 => ?_
    cases q : rn2 ds with
    | none => simp only [q] at p1; exact p1.elim
    | some ij =>
      obtain ⟨i, j⟩ := ij
      simp only [q] at p1
      obtain ⟨rfl, c, c'⟩ := rn2_some q
      obtain ⟨v, v', rfl, h, h'⟩ := den2 d1
      rw [den_int h, den_int h']
      exact ⟨i, j, rfl, ⟨(r62_ok c).1, (r62_ok c).2, (r62_ok c').1, (r62_ok c').2⟩, p1 _ _ r1 (Same.refl _) jd_range⟩
/-- the signs of a text -/
def signs (x : Str) : List D := x.cps.toList.map fun c => D.str ⟨#[c]⟩
theorem jd_str {K : PySem.W.Frag} {Hh : Hp} {x : Str} : JD K Hh (signs x) (Its x) := fun Hv H s1 s2 i => by
  have hl : (signs x).length = x.cps.size := by unfold signs; rw [List.length_map]; simp
  refine ⟨fun hi => ?_, fun d hd y H' z => ?_, fun hi => ?_⟩
  · rw [hl] at hi; exact hi
  · obtain ⟨rfl, c, hc, rfl⟩ := z
    unfold signs at hd
    rw [List.getElem?_map, Array.getElem?_toList, hc] at hd
    simp only [Option.map_some, Option.some.injEq] at hd
    subst hd
    exact ⟨Same.refl _, Fresh.flat (by simp only [Den])⟩
  · rw [hl] at hi; exact hi
def iS (f : FE) : FA := fun e => (f e).bind fun p => match p.1 with
  | .str x => .ok (signs x, p.2)
  | _ => .err
theorem vi_str (ha : PE X a (rE X.K X.mg W fa)) : PI X tg a (rI X.K X.mg W (iS fa)) :=
  (pi_str ha).imp fun σ H Q ⟨A, e, r, p⟩ => by
    refine rd_seq r p fun d e1 x H1 _ r1 s1 d1 p1 => ?_
    cases d with
    | str z => exact ⟨z, den_str d1, p1 _ _ r1 (Same.refl _) jd_str⟩
    | _ => exact p1.elim
/-- zip of two lists, enumerate of a list -/
def zipD : List D → List D → List D
  | a :: as, b :: bs => .tup [a, b] :: zipD as bs
  | _, _ => []
theorem zipD_get : ∀ {as bs : List D} {i : Nat} {d : D}, (zipD as bs)[i]? = some d → ∃ a b, as[i]? = some a ∧ bs[i]? = some b ∧ d = .tup [a, b]
  | [], _, _, _, h => by simp [zipD] at h
  | _ :: _, [], _, _, h => by simp [zipD] at h
  | a :: as, b :: bs, 0, d, h => by
    simp only [zipD, List.getElem?_cons_zero, Option.some.injEq] at h
    exact ⟨a, b, rfl, rfl, h.symm⟩
  | a :: as, b :: bs, i + 1, d, h => by
    simp only [zipD, List.getElem?_cons_succ] at h ⊢
    exact zipD_get h
theorem zipD_length : ∀ as bs : List D, (zipD as bs).length = min as.length bs.length
  | [], _ => by simp [zipD]
  | _ :: _, [] => by simp [zipD]
  | a :: as, b :: bs => by simp only [zipD, List.length_cons, zipD_length as bs]; omega
theorem fresh_tup2 {K : PySem.W.Frag} {Hh H : Hp} {d d' : D} {v v' : V} {p : Addr} (hp : H p = none) (h : Den K Hh d v) (h' : Den K Hh d' v') : Fresh K Hh H (upd H p (.tup [v, v'])) (.tup [d, d']) (.ref p) :=
  Fresh.tup hp (DenL.cons h (DenL.cons h' DenL.nil))
theorem jd_zip {K : PySem.W.Frag} {Hh : Hp} {as bs : List D} {vs us : List V} {p q : Addr} (h1 : SqL K Hh p vs) (h2 : DenL K Hh as vs) (h3 : SqL K Hh q us) (h4 : DenL K Hh bs us) : JD K Hh (zipD as bs) (Itz K p q) := fun Hv H s1 s2 i => by
  have k1 : SqL K H p vs := (s1.trans s2).seq h1
  have k3 : SqL K H q us := (s1.trans s2).seq h3
  refine ⟨fun hi => ?_, fun d hd x H' y => ?_, fun hi => ?_⟩
  · rw [zipD_length, h2.length, h4.length] at hi
    have i1 : i < vs.length := by omega
    have i2 : i < us.length := by omega
    exact ⟨vs, us, vs[i], us[i], k1, k3, List.getElem?_eq_getElem i1, List.getElem?_eq_getElem i2⟩
  · obtain ⟨a, b, ha, hb, rfl⟩ := zipD_get hd
    obtain ⟨T, x1, x2, rfl, nT, rfl, f1, f2⟩ := y
    obtain ⟨v, hv, dv⟩ := h2.get ha
    obtain ⟨u, hu, du⟩ := h4.get hb
    have e1 := f1 vs k1
    rw [hv] at e1
    cases e1
    have e2 := f2 us k3
    rw [hu] at e2
    cases e2
    exact ⟨same_upd nT, fresh_tup2 nT (Den.mono s1 _ _ dv) (Den.mono s1 _ _ du)⟩
  · rw [zipD_length, h2.length, h4.length] at hi
    refine ⟨vs, us, k1, k3, ?_⟩
    omega
def lst? : D → Option (List D)
  | .lst ds => some ds
  | .rls ds => some ds
  | _ => none
theorem den_lst? {K : PySem.W.Frag} {H : Hp} {d : D} {ds : List D} {v : V} (h : Den K H d v) (e : lst? d = some ds) : ∃ p vs, v = .ref p ∧ SqL K H p vs ∧ DenL K H ds vs := by
  cases d with
  | lst es =>
    simp only [lst?, Option.some.injEq] at e
    subst e
    simp only [Den] at h
    obtain ⟨p, vs, rfl, h1, h2⟩ := h
    exact ⟨p, vs, rfl, .inl (.inl h1), h2⟩
  | rls es =>
    simp only [lst?, Option.some.injEq] at e
    subst e
    simp only [Den] at h
    obtain ⟨p, vs, rfl, h1, h2⟩ := h
    exact ⟨p, vs, rfl, h1, h2⟩
  | _ => cases e
def zp2 (ds : List D) : Option (List D × List D) := (ar2 ds).bind fun q => (lst? q.1).bind fun as => (lst? q.2).bind fun bs => some (as, bs)
theorem zp2_some {ds as bs : List D} (h : zp2 ds = some (as, bs)) : ∃ a b, ds = [a, b] ∧ lst? a = some as ∧ lst? b = some bs := by
  unfold zp2 at h
  cases e : ar2 ds with
  | none => rw [e] at h; cases h
  | some q =>
    obtain ⟨a, b⟩ := q
    rw [e, Option.bind_some] at h
    cases k : lst? a with
    | none => simp only [k, Option.bind_none] at h; cases h
    | some i =>
      cases k2 : lst? b with
      | none => simp only [k, k2, Option.bind_some, Option.bind_none] at h; cases h
      | some j =>
        simp only [k, k2, Option.bind_some, Option.some.injEq, Prod.mk.injEq] at h
        obtain ⟨rfl, rfl⟩ := h
        exact ⟨a, b, ar2_some e, k, k2⟩
def iZ (f : FA) : FA := fun e => (f e).bind fun p => match zp2 p.1 with
  | some q => .ok (zipD q.1 q.2, p.2)
  | none => .err
theorem vi_zip {b : Expr} {p tpos : Pos} {elts : List Expr} {kk : Nat} {f : FA} (hg : Gl X "zip") (hm : X.mg "zip" = none) (ha : PA X [a, b] (rA X.K X.mg W f)) (hs : starEach [a, b] X.env = (false, eval a X.env) :: starEach [b] X.env := by rfl)
    (hpl : (backTo pos (starEach [b] X.env)).any (·.1) = false := by rfl) : PI X (.Tuple elts kk tpos) (.Call (.Name "zip" p) [a, b] [] pos) (rI X.K X.mg W (iZ f)) :=
  (pi_zip hg hm ha hs hpl).imp fun σ H Q ⟨A, e, r, p⟩ => by
    refine rd_seq r p fun ds e1 x H1 _ r1 s1 d1 p1 => ?_
    cases z : zp2 ds with
    | none => simp only [z] at p1; exact p1.elim
    | some z' =>
          obtain ⟨as, bs⟩ := z'
          simp only [z] at p1
          obtain ⟨a', b', rfl, ea, eb⟩ := zp2_some z
          obtain ⟨v, v', rfl, h, h'⟩ := den2 d1
          obtain ⟨q, vs, rfl, k1, k2⟩ := den_lst? h ea
          obtain ⟨q', us, rfl, k3, k4⟩ := den_lst? h' eb
          exact ⟨q, q', vs, us, rfl, hid_sub.seq k1, hid_sub.seq k3, p1 _ _ r1 (Same.refl _) (jd_zip k1 k2 k3 k4)⟩
def enumD : Nat → List D → List D
  | k, a :: as => .tup [.int (k : Nat), a] :: enumD (k + 1) as
  | _, [] => []
theorem enumD_get : ∀ {as : List D} {k i : Nat} {d : D}, (enumD k as)[i]? = some d → ∃ a, as[i]? = some a ∧ d = .tup [.int ((k + i : Nat) : Int), a]
  | [], _, _, _, h => by simp [enumD] at h
  | a :: as, k, 0, d, h => by
    simp only [enumD, List.getElem?_cons_zero, Option.some.injEq] at h
    exact ⟨a, rfl, by rw [← h]; simp⟩
  | a :: as, k, i + 1, d, h => by
    simp only [enumD, List.getElem?_cons_succ] at h ⊢
    obtain ⟨b, h1, h2⟩ := enumD_get h
    exact ⟨b, h1, by rw [h2]; congr 2; congr 1; omega⟩
theorem enumD_length : ∀ (as : List D) (k : Nat), (enumD k as).length = as.length
  | [], _ => rfl
  | a :: as, k => by simp only [enumD, List.length_cons, enumD_length as]
theorem jd_enum {K : PySem.W.Frag} {Hh : Hp} {as : List D} {vs : List V} {p : Addr} (h1 : SqL K Hh p vs) (h2 : DenL K Hh as vs) : JD K Hh (enumD 0 as) (Ite K p) := fun Hv H s1 s2 i => by
  have k1 : SqL K H p vs := (s1.trans s2).seq h1
  refine ⟨fun hi => ?_, fun d hd x H' y => ?_, fun hi => ?_⟩
  · rw [enumD_length, h2.length] at hi
    exact ⟨vs, vs[i], k1, List.getElem?_eq_getElem hi⟩
  · obtain ⟨a, ha, rfl⟩ := enumD_get hd
    obtain ⟨T, x1, rfl, nT, rfl, f1⟩ := y
    obtain ⟨v, hv, dv⟩ := h2.get ha
    have e1 := f1 vs k1
    rw [hv] at e1
    cases e1
    exact ⟨same_upd nT, fresh_tup2 nT (by simp only [Den, Nat.zero_add]) (Den.mono s1 _ _ dv)⟩
  · rw [enumD_length, h2.length] at hi
    exact ⟨vs, k1, hi⟩
def en1 (ds : List D) : Option (List D) := (ar1 ds).bind lst?
theorem en1_some {ds as : List D} (h : en1 ds = some as) : ∃ a, ds = [a] ∧ lst? a = some as := by
  unfold en1 at h
  cases e : ar1 ds with
  | none => rw [e] at h; cases h
  | some q =>
    rw [e, Option.bind_some] at h
    exact ⟨q, ar1_some e, h⟩
def iEn (f : FA) : FA := fun e => (f e).bind fun p => match en1 p.1 with
  | some as => .ok (enumD 0 as, p.2)
  | none => .err
theorem vi_enum {p tpos : Pos} {elts : List Expr} {kk : Nat} {f : FA} (hg : Gl X "enumerate") (hm : X.mg "enumerate" = none) (ha : PA X [a] (rA X.K X.mg W f)) (hs : starEach [a] X.env = [(false, eval a X.env)] := by rfl) :
    PI X (.Tuple elts kk tpos) (.Call (.Name "enumerate" p) [a] [] pos) (rI X.K X.mg W (iEn f)) :=
  (pi_enum hg hm ha hs).imp fun σ H Q ⟨A, e, r, p⟩ => by
    refine rd_seq r p fun ds e1 x H1 _ r1 s1 d1 p1 => ?_
    cases z : en1 ds with
    | none => simp only [z] at p1; exact p1.elim
    | some as =>
        simp only [z] at p1
        obtain ⟨a', rfl, ea⟩ := en1_some z
        obtain ⟨v, rfl, h⟩ := den1 d1
        obtain ⟨q, vs, rfl, k1, k2⟩ := den_lst? h ea
        exact ⟨q, vs, rfl, hid_sub.seq k1, p1 _ _ r1 (Same.refl _) (jd_enum k1 k2)⟩

/-! ### for -/
def forF (G : TD) (b : FS) : List D → En → R Fl
  | [], e => .ok (.nx e)
  | d :: ds, e => match G d e with
    | none => .err
    | some e1 => match b e1 with
      | .ok (.nx e2) => forF G b ds e2
      | .ok (.ct e2) => forF G b ds e2
      | .ok (.bk e2) => .ok (.nx e2)
      | .ok (.rt d e2) => .ok (.rt d e2)
      | .ok (.rn ds e2) => .ok (.rn ds e2)
      | .exc c e2 => .exc c e2
      | .err => .err
def sFor (it : FA) (G : TD) (b : FS) : FS := fun e => (it e).bind fun p => forF G b p.1 p.2
theorem vs_for {iter : Expr} {body : List Stmt} {it : FA} {G : TD} {js : List Nat} {b : FS} (hp : PassesOwn (model X.prog X.w) X.A X.env X.xe) (hc : X.calm = true) (hi : PI X tg iter (rI X.K X.mg W it)) (hg : PG X tg (rdG X.K G js)) (hb : PSs X body (rdS X.K X.mg W b))
    (hs : ∀ x, foldedSetIterable iter X.env x = pure x := by intro _; rfl) : PS X (.For tg iter body [] pos) (rdS X.K X.mg W (sFor it G b)) :=
  (ps_for hp hc hi hg hb hs).imp fun D σ H ⟨A, e, r, p⟩ => by
    refine rd_seqS r p fun items e1 J H1 _ r1 s1 jd p1 => ?_
    refine ⟨fun i m σ' H' => m = items.length - i ∧ ∃ e', Rep X.K A H' σ' e' ∧ Same (hid A σ e1 H1) (hid A σ' e' H') ∧ PostS X.K X.mg W D A σ' e' H' (forF G b (items.drop i) e'),
      ⟨items.length, by simp, e1, r1, Same.refl _, p1⟩, ?_⟩
    rintro i m σ' H' ⟨rfl, e', r', s', p'⟩
    obtain ⟨j1, j2, j3⟩ := jd _ H' s' hid_sub i
    by_cases hi : i < items.length
    · refine .inr ⟨j1 hi, fun σ2 H2 => ∃ e2, Rep X.K A H2 σ2 e2 ∧ Same (hid A σ e1 H1) (hid A σ2 e2 H2) ∧ PostS X.K X.mg W D A σ2 e2 H2 (forF G b (items.drop (i + 1)) e2), fun σ2 H2 ⟨e2, q1, q2, q3⟩ => ⟨items.length - (i + 1), by omega, rfl, e2, q1, q2, q3⟩, fun x H2 y => ?_⟩
      have hd : items[i]? = some items[i] := List.getElem?_eq_getElem hi
      obtain ⟨sy, fy⟩ := j2 _ hd x H2 y
      have r2 := r'.grow sy
      have dx := fy (hid A σ' e' H2) (hid_same sy) fun _ _ a b => r'.seen a b
      rw [List.drop_eq_getElem_cons hi] at p'
      unfold forF at p'
      cases hG : G items[i] e' with
      | none => rw [hG] at p'; exact p'.elim
      | some e2 =>
        rw [hG] at p'
        refine ⟨A, e', items[i], r2, dx, e2, hG, fun σ3 r3 s3 _ _ => ?_⟩
        have s13 : Same (hid A σ e1 H1) (hid A σ3 e2 H2) := s'.trans ((hid_same sy).trans s3)
        have p3 := PostS.shift (σ1 := σ3) (e1 := e2) (H1 := H2) ((hid_same sy).trans s3) p'
        refine ⟨A, e2, r3, ?_⟩
        revert p3
        dsimp only
        cases b e2 with
        | ok f =>
          cases f with
          | nx e4 => exact fun p3 σ4 H4 r4 s4 => ⟨e4, r4, s13.trans s4, PostS.shift s4 p3⟩
          | ct e4 => exact fun p3 σ4 H4 r4 s4 => ⟨e4, r4, s13.trans s4, PostS.shift s4 p3⟩
          | bk e4 => exact fun p3 => p3
          | rt d e4 => exact fun p3 => p3
          | rn ds e4 => exact fun p3 => p3
        | exc c e4 => exact fun p3 => p3
        | err => exact fun p3 => p3
    · refine .inl ⟨j3 (by omega), ?_⟩
      rw [List.drop_eq_nil_of_le (by omega)] at p'
      exact p' σ' H' r' (Same.refl _)
/-! ### while -/
def whF (c : FT) (b : FS) : Nat → En → R Fl
  | 0, _ => .err
  | n + 1, e => match c e with
    | .ok (true, e1) => (match b e1 with
      | .ok (.nx e2) => whF c b n e2
      | .ok (.ct e2) => whF c b n e2
      | .ok (.bk e2) => .ok (.nx e2)
      | .ok (.rt d e2) => .ok (.rt d e2)
      | .ok (.rn ds e2) => .ok (.rn ds e2)
      | .exc c e2 => .exc c e2
      | .err => .err)
    | .ok (false, e1) => .ok (.nx e1)
    | .exc c e1 => .exc c e1
    | .err => .err
theorem vs_while {c : Expr} {body : List Stmt} {fc : FT} {b : FS} (n : Nat) (hp : PassesOwn (model X.prog X.w) X.A X.env X.xe) (hc : PT X c (rT X.K X.mg W fc)) (hb : PSs X body (rdS X.K X.mg W b)) : PS X (.While c body [] pos) (rdS X.K X.mg W (whF fc b n)) :=
  (ps_while hp hc hb).imp fun D σ H ⟨A, e, r, p⟩ => by
    refine ⟨fun m σ' H' => ∃ e', Rep X.K A H' σ' e' ∧ PostS X.K X.mg W D A σ' e' H' (whF fc b m e'), ⟨n, e, r, p⟩, ?_⟩
    rintro m σ' H' ⟨e', r', p'⟩
    refine ⟨A, e', r', ?_⟩
    cases m with
    | zero => exact p'.elim
    | succ m =>
      unfold whF at p'
      revert p'
      cases fc e' with
      | ok z =>
        obtain ⟨k, e1⟩ := z
        cases k with
        | false =>
          intro p' k H1 r1 s1 hk
          subst hk
          exact iteF (p' σ' H1 r1 s1)
        | true =>
          intro p' k H1 r1 s1 hk
          subst hk
          have p1 := PostS.shift (σ1 := σ') (e1 := e1) (H1 := H1) s1 p'
          refine iteT ⟨fun σ2 H2 => ∃ e2, Rep X.K A H2 σ2 e2 ∧ PostS X.K X.mg W D A σ2 e2 H2 (whF fc b m e2), fun σ2 H2 q => ⟨m, Nat.lt_succ_self m, q⟩, A, e1, r1, ?_⟩
          revert p1
          dsimp only
          cases b e1 with
          | ok f =>
            cases f with
            | nx e4 => exact fun p3 σ4 H4 r4 s4 => ⟨e4, r4, PostS.shift s4 p3⟩
            | ct e4 => exact fun p3 σ4 H4 r4 s4 => ⟨e4, r4, PostS.shift s4 p3⟩
            | bk e4 => exact fun p3 => p3
            | rt d e4 => exact fun p3 => p3
            | rn ds e4 => exact fun p3 => p3
          | exc c e4 => exact fun p3 => p3
          | err => exact fun p3 => p3
      | exc c e1 => exact fun p' H1 r1 => p' σ' H1 r1
      | err => exact fun p' => p'
end
end Mi
namespace Mi
open PySem PySem.Spec PyProof.Rows L2

/-! ### list comprehensions -/
def lcF (vs : List Nat) (G : TD) (c : FT) (f : FE) : List D → En → R (List D × En)
  | [], e => .ok ([], e)
  | d :: ds, e => match G d e with
    | none => .err
    | some e1 => match c e1 with
      | .ok (true, e2) => (match f e2 with
        | .ok (y, e3) => (match lcF vs G c f ds (wipeE e3 vs) with
          | .ok (ys, e4) => .ok (y :: ys, e4)
          | _ => .err)
        | _ => .err)
      | .ok (false, e2) => lcF vs G c f ds (wipeE e2 vs)
      | _ => .err
def resE (e0 e : En) : List Nat → En
  | [] => e
  | v :: vs => (resE e0 e vs).set v ((e0[v]?).getD .un)
def okW (e0 : En) (vs : List Nat) : Bool := vs.all fun v => match e0[v]? with
  | some (.own _) => false
  | some (.brw _) => false
  | _ => true
theorem resE_length (e0 e : En) : ∀ vs : List Nat, (resE e0 e vs).length = e.length
  | [] => rfl
  | v :: vs => by unfold resE; rw [List.length_set, resE_length e0 e vs]
theorem resE_out {e0 e : En} {i : Nat} : ∀ {vs : List Nat}, i ∉ vs → (resE e0 e vs)[i]? = e[i]?
  | [], _ => rfl
  | v :: vs, h => by
    simp only [List.mem_cons, not_or] at h
    unfold resE
    rw [List.getElem?_set_ne (fun x => h.1 x.symm), resE_out h.2]
theorem resE_in {e0 e : En} {i : Nat} {s : Sl} : ∀ {vs : List Nat}, i ∈ vs → (resE e0 e vs)[i]? = some s → s = (e0[i]?).getD .un
  | [], h, _ => by simp at h
  | v :: vs, h, hs => by
    unfold resE at hs
    by_cases hi : v = i
    · subst hi
      by_cases hv : v < (resE e0 e vs).length
      · rw [List.getElem?_set_self hv] at hs; cases hs; rfl
      · rw [List.getElem?_eq_none (by simpa using hv)] at hs; cases hs
    · rw [List.getElem?_set_ne hi] at hs
      rcases List.mem_cons.mp h with x | x
      · exact absurd x.symm hi
      · exact resE_in x hs
def nLc (it : FA) (vs : List Nat) (G : TD) (c : FT) (f : FE) : FA := fun e => (it e).bind fun p => match lcF vs G c f p.1 (wipeE p.2 vs) with
  | .ok q => if q.1.length ≤ lim ∧ okW p.2 vs = true then .ok (q.1, resE p.2 q.2 vs) else .err
  | _ => .err
abbrev W0 : WX := fun _ _ _ _ => False
def tYes1 : FT := fun e => .ok (true, e)
theorem wipe_eq {σ σ' : L2.St} {vs : List Nat} (hl : σ'.length = σ.length) (h : ∀ j, j ∉ vs → σ'[j]? = (wipe σ vs)[j]?) : wipe σ' vs = wipe σ vs := by
  apply List.ext_getElem?
  intro j
  by_cases hj : j ∈ vs
  · have key : ∀ (τ : L2.St) (ws : List Nat), j ∈ ws → (wipe τ ws)[j]? = if j < τ.length then some none else none := by
      intro τ ws
      induction ws with
      | nil => intro z; simp at z
      | cons w ws ih =>
        intro z
        unfold wipe
        by_cases hw : w = j
        · subst hw
          by_cases q : w < τ.length
          · rw [List.getElem?_set_self (by rw [wipe_length]; exact q), if_pos q]
          · rw [List.getElem?_eq_none (by rw [List.length_set, wipe_length]; omega), if_neg q]
        · rw [List.getElem?_set_ne hw]
          exact ih ((List.mem_cons.mp z).resolve_left fun x => hw x.symm)
    rw [key _ _ hj, key _ _ hj, hl]
  · rw [wipe_get hj, h j hj]
section
variable {X : Cx} {W : WX} {pos : Pos}
theorem rLc_of {it : FA} {G : TD} {js : List Nat} {c : FT} {f : FE} {vs : List Nat} (hj : ∀ j ∈ js, j ∈ vs) : ∀ (σ : L2.St) (H : Hp) (Q : VK), rN X.K X.mg W (nLc it vs G c f) σ H Q →
    tLc (rI X.K X.mg W it) (rdG X.K G js) (rT X.K X.mg W0 c) (rE X.K X.mg W0 f) vs σ H Q := fun σ H Q ⟨A, e, r, p⟩ => by
  refine rN_seq r p fun items e1 J H1 _ r1 s1 jd p1 => ?_
  intro D hD
  cases q : lcF vs G c f items (wipeE e1 vs) with
  | err => simp only [q] at p1; exact p1.elim
  | exc _ _ => simp only [q] at p1; exact p1.elim
  | ok z =>
    obtain ⟨fi, ef⟩ := z
    simp only [q] at p1
    by_cases hc : fi.length ≤ lim ∧ okW e1 vs = true
    case neg =>
      rw [if_neg hc] at p1
      exact p1.elim
    rw [if_pos hc] at p1
    have od := r1.old hD
    refine ⟨fun i m H' => m = items.length - i ∧ ∃ e' acc accV ys, Rep X.K (A.build D accV) H' (wipe σ vs) e' ∧ DenL X.K (hid (A.build D accV) (wipe σ vs) e' H') acc accV ∧
        Same (hid A σ e1 H1) (hid (A.build D accV) (wipe σ vs) e' H') ∧ lcF vs G c f (items.drop i) e' = .ok (ys, ef) ∧ acc ++ ys = fi, ⟨items.length, by simp, wipeE e1 vs, [], [], fi, ?_, DenL.nil, ?_, q, rfl⟩, ?_⟩
    · exact (r1.build [] hD).part (sub_wipe r1.len)
    · have := (sub_wipe (vs := vs) r1.len).hid (A := A.build D []) (H := upd H1 D (.lst []))
      rw [hid_build r1 hD] at this
      exact this
    rintro i m H' ⟨rfl, e', acc, accV, ys, r', da, s', hl, hf⟩
    obtain ⟨j1, j2, j3⟩ := jd _ H' s' hid_sub i
    by_cases hi : i < items.length
    · refine .inr ⟨j1 hi, fun H2 => ∃ e2 acc accV ys, Rep X.K (A.build D accV) H2 (wipe σ vs) e2 ∧ DenL X.K (hid (A.build D accV) (wipe σ vs) e2 H2) acc accV ∧
        Same (hid A σ e1 H1) (hid (A.build D accV) (wipe σ vs) e2 H2) ∧ lcF vs G c f (items.drop (i + 1)) e2 = .ok (ys, ef) ∧ acc ++ ys = fi, fun H2 h => ⟨items.length - (i + 1), by omega, rfl, h⟩, fun x H2 y => ?_⟩
      have hd : items[i]? = some items[i] := List.getElem?_eq_getElem hi
      obtain ⟨sy, fy⟩ := j2 _ hd x H2 y
      have r2 := r'.grow sy
      have dx := fy (hid (A.build D accV) (wipe σ vs) e' H2) (hid_same sy) fun _ _ a b => r'.seen a b
      rw [List.drop_eq_getElem_cons hi] at hl
      unfold lcF at hl
      cases hG : G items[i] e' with
      | none => rw [hG] at hl; cases hl
      | some e2 =>
        rw [hG] at hl
        dsimp only at hl
        refine ⟨A.build D accV, e', items[i], r2, dx, e2, hG, fun σ2 r3 s3 l3 k3 => ?_⟩
        have we : wipe σ2 vs = wipe σ vs := wipe_eq (l3.trans (wipe_length σ vs)) fun j h => k3 j fun z => h (hj j z)
        refine ⟨we, A.build D accV, e2, r3, ?_⟩
        have s13 : Same (hid A σ e1 H1) (hid (A.build D accV) σ2 e2 H2) := s'.trans ((hid_same sy).trans s3)
        have da3 := DenL.mono ((hid_same sy).trans s3) _ _ da
        revert hl
        cases c e2 with
        | err => exact fun hl => nomatch hl
        | exc _ _ => exact fun hl => nomatch hl
        | ok z =>
          obtain ⟨k, e4⟩ := z
          intro hl b H4 r4 s4 hb
          subst hb
          cases b with
          | false =>
            refine iteF ⟨wipeE e4 vs, acc, accV, ys, ?_, ?_, ?_, hl, hf⟩
            · rw [← we]; exact r4.part (sub_wipe r4.len)
            · rw [← we]; exact DenL.mono (s4.trans (sub_wipe r4.len).hid) _ _ da3
            · rw [← we]; exact s13.trans (s4.trans (sub_wipe r4.len).hid)
          | true =>
            refine iteT ⟨A.build D accV, e4, r4, ?_⟩
            revert hl
            dsimp only
            cases f e4 with
            | err => exact fun hl => nomatch hl
            | exc _ _ => exact fun hl => nomatch hl
            | ok z =>
              obtain ⟨y1, e5⟩ := z
              dsimp only
              intro hl yv H5 r5 s5 dy
              cases hr : lcF vs G c f (items.drop (i + 1)) (wipeE e5 vs) with
              | err => rw [hr] at hl; cases hl
              | exc _ _ => rw [hr] at hl; cases hl
              | ok z =>
                obtain ⟨ys', e6⟩ := z
                rw [hr] at hl
                cases hl
                have da5 := DenL.mono (s4.trans s5) _ _ da3
                have hz : acc.length < lim := by
                  have := congrArg List.length hf
                  rw [List.length_append, List.length_cons] at this
                  have := hc.1
                  omega
                have hb := hid_bput (ws := accV ++ [yv]) (o := .lst (accV ++ [yv])) r5
                refine ⟨accV, r5.notOwn.2.2, by rw [← da5.length, ← lim_eq]; exact hz, wipeE e5 vs, acc ++ [y1], accV ++ [yv], ys', ?_, ?_, ?_, hr, by rw [List.append_assoc]; exact hf⟩
                · rw [← we]; exact (r5.bput (accV ++ [yv])).part (sub_wipe r5.len)
                · rw [← we]
                  refine DenL.mono (sub_wipe r5.len).hid _ _ ?_
                  rw [hb]
                  exact DenL.append da5 (DenL.cons dy DenL.nil)
                · rw [← we]
                  refine (s13.trans (s4.trans s5)).trans ?_
                  rw [← hb]
                  exact (sub_wipe r5.len).hid
    · refine .inl ⟨j3 (by omega), ?_⟩
      rw [List.drop_eq_nil_of_le (by omega)] at hl
      unfold lcF at hl
      injection hl with hl3
      injection hl3 with hy hee
      subst hy
      rw [List.append_nil] at hf
      subst hf
      rw [← hee] at p1
      have hlen : e'.length = e1.length := by rw [← r'.len, wipe_length, r1.len]
      obtain ⟨rv, sv⟩ := r'.vals (σ' := σ) (e' := resE e1 e' vs) (by rw [resE_length, hlen, ← r1.len]) fun j s hs => by
        by_cases hv : j ∈ vs
        · have es := resE_in hv hs
          cases h1 : e1[j]? with
          | none => rw [h1] at es; exact .inl es
          | some s1 =>
            rw [h1] at es
            have ok := (List.all_eq_true.mp hc.2) j hv
            rw [h1] at ok
            cases s1 with
            | un => exact .inl es
            | val d =>
              obtain ⟨v, k1, k2⟩ := r1.val j d h1
              exact .inr (.inr ⟨d, v, es, k1, Den.mono s' _ _ k2⟩)
            | own ds => cases ok
            | brw ds => cases ok
        · rw [resE_out hv] at hs
          exact .inr (.inl ⟨hs, (wipe_get hv).symm⟩)
      exact p1 D accV H' od rv (s'.trans sv) (DenL.mono sv _ _ da)
theorem n_lc {elt tg iter : Expr} {ifs : List Expr} {scope : Scope} {own : List (Str × Nat)} {it : FA} {G : TD} {js : List Nat} {c : FT} {f : FE} (hc : X.calm = true) (hN : X.N.Nodup) (hi : PI X tg iter (rI X.K X.mg W it)) (ok : blkC X.N X.env.scope scope own = true)
    (hg : ∀ (s : Shared) (H : Hp) (C : Addr) (cl : List (Str × Addr)) (fp : List Addr), PG (X.blk s H scope (compEnvC scope cl C X.env) fp) tg (rdG X.K G js))
    (ht : ∀ (s : Shared) (H : Hp) (C : Addr) (cl : List (Str × Addr)) (fp : List Addr), PTs (X.blk s H scope (compEnvC scope cl C X.env) fp) ifs (rT X.K X.mg W0 c))
    (he : ∀ (s : Shared) (H : Hp) (C : Addr) (cl : List (Str × Addr)) (fp : List Addr), PE (X.blk s H scope (compEnvC scope cl C X.env) fp) elt (rE X.K X.mg W0 f))
    (hj : ∀ j ∈ js, j ∈ own.map (·.2) := by decide) (hs : ∀ x, foldedSetIterable iter X.env x = pure x := by intro _; rfl) :
    PE X (.ListComp elt [⟨tg, iter, ifs, 0⟩] scope pos) (rN X.K X.mg W (nLc it (own.map (·.2)) G c f)) :=
  (pe_lc hc hN hi (blkOk_by ok) hg ht he hs).imp (rLc_of hj)
theorem vts_nil : PTs X [] (rT X.K X.mg W tYes1) := ⟨fun pins s σ H Q I ⟨A, e, r, p⟩ => pts_nil.run pins s σ H Q I (p true H r (Same.refl _) rfl)⟩
theorem vts_one {c : Expr} {fc : FT} (h : PT X c (rT X.K X.mg W fc)) : PTs X [c] (rT X.K X.mg W fc) := pts_one h
/-- name = [..] -/
theorem rSetN_of {i : Nat} {te : TE} {f : FA} (h : ∀ σ H Q, rN X.K X.mg W f σ H Q → te σ H Q) : ∀ (D : Ends) σ H, rdS X.K X.mg W (sNew i f) D σ H → tAsg te (gName i) D σ H := fun D σ H ⟨A, e, r, p⟩ => by
  refine h σ H _ ⟨A, e, r, ?_⟩
  unfold sNew at p
  cases q : f e with
  | ok z =>
    obtain ⟨ds, e1⟩ := z
    rw [q] at p
    intro a vs H' o r' s' d'
    have p2 : PostS X.K X.mg W D A σ e H (if i < e1.length then .ok (.nx (e1.set i (.own ds))) else .err) := p
    by_cases h : i < e1.length
    · rw [if_pos h] at p2
      obtain ⟨rc, sc⟩ := r'.claim (ds := ds) (i := i) (s := .own ds) o d' rfl h
      exact p2 _ _ rc (s'.trans sc)
    · rw [if_neg h] at p2
      exact p2.elim
  | exc c e1 =>
    rw [q] at p
    exact fun H' r' => p σ H' r'
  | err => rw [q] at p; exact p
theorem rSetL_of {i : Nat} {te : TE} {f : FA} (h : ∀ σ H Q, rN X.K X.mg W f σ H Q → te σ H Q) : ∀ (D : Ends) σ H, rdS X.K X.mg W (sSet i (eL f)) D σ H → tAsg te (gName i) D σ H := fun D σ H ⟨A, e, r, p⟩ => by
  refine h σ H _ ⟨A, e, r, ?_⟩
  unfold sSet eL at p
  cases q : f e with
  | ok z =>
    obtain ⟨ds, e1⟩ := z
    rw [q] at p
    intro a vs H' o r' s' d'
    obtain ⟨rb, sb, hb⟩ := r'.built o
    have dl : Den X.K (hid A σ e1 H') (.lst ds) (.ref a) := by
      simp only [Den]
      exact ⟨a, vs, rfl, hb, DenL.mono sb _ _ d'⟩
    exact p _ H' (rb.set dl) ((s'.trans sb).trans hid_set)
  | exc c e1 =>
    rw [q] at p
    exact fun H' r' => p σ H' r'
  | err => rw [q] at p; exact p
section
variable {i : Nat} {y : Str} {py spos : Pos} {elt tg iter : Expr} {ifs : List Expr} {scope : Scope} {own : List (Str × Nat)} {it : FA} {G : TD} {js : List Nat} {c : FT} {f : FE}
theorem vs_setLc (i : Nat) (hc : X.calm = true) (hN : X.N.Nodup) (hi : PI X tg iter (rI X.K X.mg W it)) (ok : blkC X.N X.env.scope scope own = true)
    (hg : ∀ (s : Shared) (H : Hp) (C : Addr) (cl : List (Str × Addr)) (fp : List Addr), PG (X.blk s H scope (compEnvC scope cl C X.env) fp) tg (rdG X.K G js))
    (ht : ∀ (s : Shared) (H : Hp) (C : Addr) (cl : List (Str × Addr)) (fp : List Addr), PTs (X.blk s H scope (compEnvC scope cl C X.env) fp) ifs (rT X.K X.mg W0 c))
    (he : ∀ (s : Shared) (H : Hp) (C : Addr) (cl : List (Str × Addr)) (fp : List Addr), PE (X.blk s H scope (compEnvC scope cl C X.env) fp) elt (rE X.K X.mg W0 f))
    (hsw : swapsWith (.ListComp elt [⟨tg, iter, ifs, 0⟩] scope pos) (some (.Name y py)) spos.line X.env = pure true) (hy : X.N[i]? = some y := by rfl) (hyl : X.env.scope.names.lookup y = some .local := by rfl)
    (hj : ∀ j ∈ js, j ∈ own.map (·.2) := by decide) (hs : ∀ x, foldedSetIterable iter X.env x = pure x := by intro _; rfl) :
    PS X (.Assign [.Name y py] (.ListComp elt [⟨tg, iter, ifs, 0⟩] scope pos) spos) (rdS X.K X.mg W (sSet i (eL (nLc it (own.map (·.2)) G c f)))) :=
  (ps_setLc hc hN hy hyl hsw hi (blkOk_by ok) hg ht he hs).imp (rSetL_of (rLc_of hj))
theorem vs_newLc (i : Nat) (hc : X.calm = true) (hN : X.N.Nodup) (hi : PI X tg iter (rI X.K X.mg W it)) (ok : blkC X.N X.env.scope scope own = true)
    (hg : ∀ (s : Shared) (H : Hp) (C : Addr) (cl : List (Str × Addr)) (fp : List Addr), PG (X.blk s H scope (compEnvC scope cl C X.env) fp) tg (rdG X.K G js))
    (ht : ∀ (s : Shared) (H : Hp) (C : Addr) (cl : List (Str × Addr)) (fp : List Addr), PTs (X.blk s H scope (compEnvC scope cl C X.env) fp) ifs (rT X.K X.mg W0 c))
    (he : ∀ (s : Shared) (H : Hp) (C : Addr) (cl : List (Str × Addr)) (fp : List Addr), PE (X.blk s H scope (compEnvC scope cl C X.env) fp) elt (rE X.K X.mg W0 f))
    (hsw : swapsWith (.ListComp elt [⟨tg, iter, ifs, 0⟩] scope pos) (some (.Name y py)) spos.line X.env = pure true) (hy : X.N[i]? = some y := by rfl) (hyl : X.env.scope.names.lookup y = some .local := by rfl)
    (hj : ∀ j ∈ js, j ∈ own.map (·.2) := by decide) (hs : ∀ x, foldedSetIterable iter X.env x = pure x := by intro _; rfl) :
    PS X (.Assign [.Name y py] (.ListComp elt [⟨tg, iter, ifs, 0⟩] scope pos) spos) (rdS X.K X.mg W (sNew i (nLc it (own.map (·.2)) G c f))) :=
  (ps_setLc hc hN hy hyl hsw hi (blkOk_by ok) hg ht he hs).imp (rSetN_of (rLc_of hj))
end

/-! ### raise -/
def sRaise (c : Str) : FS := fun e => .exc c e
theorem vs_raise {x m : Str} {j : Nat} {p p2 cp : Pos} {B newId initId : String} {bmB : List Value} {C : Addr} (hc : X.calm = true) (tk : Takes X W) (F : ExcBaseFacts B newId initId bmB) (q : PySem.W.excIn X.K C bmB newId = true) (gC : X.mg x = some (.ref C)) (kC : PySem.W.keepIn X.K (.ref C) = true)
    (r : Raises X (.ref C)) (hg : Gl X x) (hdb : (x == ("__debug__" : Str)) = false := by decide) : PS X (.Raise (some (.Call (.Name x p) [.Constant (.str m) j p2] [] cp)) none pos) (rdS X.K X.mg W (sRaise x)) :=
  (ps_raise hc tk (pmk_own F q gC kC r hg hdb)).imp fun D σ H ⟨A, e, rp, h⟩ => by
    obtain ⟨u, hu, w⟩ := h σ H rp (Same.refl _)
    rw [gC] at hu
    cases hu
    exact w

/-! ### calls of the text's defs -/
/-- a new list comes back -/
def CallN (K : PySem.W.Frag) (Hv H : Hp) (Q : VK) (ds : List D) : Prop := ∀ p us H', Same H H' → H p = none → H' p = some (.lst us) → (∀ Hw : Hp, Same Hv Hw → (∀ a o, a ≠ p → H' a = some o → H a = none → Hw a = some o) → DenL K Hw ds us) → Q (.ref p) H'
def lstOf (fr : Bool) : D → Option (List D)
  | .lst ds => if fr = true then some ds else none
  | _ => none
def CallP (K : PySem.W.Frag) (mg : Str → Option Value) (fr : Bool) (Hv H : Hp) (Q : VK) (E : XK) : R D → Prop
  | .ok d => (match lstOf fr d with
    | some ds => CallN K Hv H Q ds
    | none => ∀ v H', Same H H' → Fresh K Hv H H' d v → Q v H')
  | .exc c _ => ∀ H', Same H H' → ∃ u, mg c = some u ∧ E u none H'
  | .err => False
theorem lstOf_some {fr : Bool} {d : D} {ds : List D} (h : lstOf fr d = some ds) : d = .lst ds ∧ fr = true := by
  cases d with
  | lst es =>
    simp only [lstOf] at h
    by_cases c : fr = true
    · rw [if_pos c] at h
      cases h
      exact ⟨rfl, c⟩
    · rw [if_neg c] at h
      cases h
  | _ => cases h
/-- whoever takes it as a value -/
theorem CallP.of {K : PySem.W.Frag} {mg : Str → Option Value} {fr : Bool} {Hv H : Hp} {Q : VK} {E : XK} {d : D} (h : ∀ v H', Same H H' → Fresh K Hv H H' d v → Q v H') : CallP K mg fr Hv H Q E (.ok d) := by
  cases k : lstOf fr d with
  | none => simp only [CallP, k]; exact h
  | some ds =>
    simp only [CallP, k]
    obtain ⟨rfl, _⟩ := lstOf_some k
    exact fun p us H' s hp hp' f => h _ _ s fun Hw s1 s2 => by
      simp only [Den]
      exact ⟨p, us, rfl, s2 p _ hp' hp, f Hw s1 fun a o _ h1 h2 => s2 a o h1 h2⟩
def spA (K : PySem.W.Frag) (mg : Str → Option Value) (n : Nat) (fr : Bool) (fn : List D → R D) : Sp := fun vs H Q E => ∃ ds Hv, Same Hv H ∧ DenL K Hv ds vs ∧ ds.length = n ∧ CallP K mg fr Hv H Q E (fn ds)
def eCall (n : Nat) (fn : List D → R D) (f : FA) : FE := fun e => (f e).bind fun p => if p.1.length = n then (match fn p.1 with
  | .ok d => .ok (d, p.2)
  | .exc c _ => .exc c p.2
  | .err => .err) else .err
def nCall (n : Nat) (fn : List D → R D) (f : FA) : FA := fun e => (f e).bind fun p => if p.1.length = n then (match fn p.1 with
  | .ok d => (match lstOf true d with
    | some ds => .ok (ds, p.2)
    | none => .err)
  | .exc c _ => .exc c p.2
  | .err => .err) else .err
section
variable {k n : Nat} {fr : Bool} {fa : Addr} {fd : FuncData} {ps : List Str} {fn : List D → R D} {x : Str} {p : Pos} {a : Expr} {es : List Expr} {f : FA}
theorem v_call (F : FnOk X.prog X.w X.K X.mg X.base (L2.CX X.prog X.w) k fa fd ps (spA X.K X.mg n fr fn)) (hr : Room k X.A) (tk : Takes X W) (hk : PySem.W.keepIn X.K (.ref fa) = true) (hb : Binds X.K fd ps []) (hm : X.mg x = some (.ref fa)) (hg : Gl X x)
    (ha : PA X (a :: es) (rA X.K X.mg W f)) (hdb : (x == ("__debug__" : Str)) = false := by decide) (he : starEach (a :: es) X.env = (false, eval a X.env) :: starEach es X.env := by rfl) (hpl : (backTo pos (starEach es X.env)).any (·.1) = false := by rfl) :
    PE X (.Call (.Name x p) (a :: es) [] pos) (rE X.K X.mg W (eCall n fn f)) :=
  (pe_callS (E := WE W) F hr hg hm hk hb (fun σ => passAt tk σ) ha hdb he hpl).imp fun σ H Q ⟨A, e, r, q⟩ => by
    refine rd_seq r q fun ds e1 vs H1 _ r1 s1 d1 p1 => ?_
    by_cases hl : ds.length = n
    · rw [if_pos hl] at p1
      refine ⟨ds, hid A σ e1 H1, hid_sub, d1, hl, ?_⟩
      revert p1
      dsimp only
      cases fn ds with
      | ok d => exact fun p1 => CallP.of fun v H' s fr => fin r1 p1 s fr
      | exc c z => exact fun p1 H' s => p1 H' (r1.grow s) (hid_same s)
      | err => exact fun p1 => p1
    · rw [if_neg hl] at p1
      exact p1.elim
/-- a def that hands back a new list -/
theorem n_call (F : FnOk X.prog X.w X.K X.mg X.base (L2.CX X.prog X.w) k fa fd ps (spA X.K X.mg n true fn)) (hr : Room k X.A) (tk : Takes X W) (hk : PySem.W.keepIn X.K (.ref fa) = true) (hb : Binds X.K fd ps []) (hm : X.mg x = some (.ref fa)) (hg : Gl X x)
    (ha : PA X (a :: es) (rA X.K X.mg W f)) (hdb : (x == ("__debug__" : Str)) = false := by decide) (he : starEach (a :: es) X.env = (false, eval a X.env) :: starEach es X.env := by rfl) (hpl : (backTo pos (starEach es X.env)).any (·.1) = false := by rfl) :
    PE X (.Call (.Name x p) (a :: es) [] pos) (rN X.K X.mg W (nCall n fn f)) :=
  (pe_callS (E := WE W) F hr hg hm hk hb (fun σ => passAt tk σ) ha hdb he hpl).imp fun σ H Q ⟨A, e, r, q⟩ => by
    refine rN_seq r q fun ds e1 vs H1 _ r1 s1 d1 p1 => ?_
    by_cases hl : ds.length = n
    · rw [if_pos hl] at p1
      refine ⟨ds, hid A σ e1 H1, hid_sub, d1, hl, ?_⟩
      revert p1
      dsimp only
      cases fn ds with
      | ok d =>
        dsimp only
        cases k : lstOf true d with
        | none => exact fun p1 => p1.elim
        | some es =>
          simp only [CallP, k]
          intro p1 q us H' s hq hq' hd
          -- the heap without the new list, then the new list
          have s2 : Same H1 (fun b => if b = q then none else H' b) := fun b o h => by
            show (if b = q then none else H' b) = some o
            rw [if_neg (ne_of_none h hq)]
            exact s b o h
          have r2 := r1.grow s2
          have hn2 : (fun b => if b = q then none else H' b : Hp) q = none := if_pos rfl
          have eH : upd (fun b => if b = q then none else H' b) q (.lst us) = H' := by
            funext b
            by_cases hb : b = q
            · subst hb; rw [upd_same, hq']
            · rw [upd_ne hb]
              exact if_neg hb
          have rb := r2.build us hn2
          have hb := hid_build (vs := us) (o := .lst us) r2 hn2
          rw [eH] at rb hb
          refine p1 q us H' (r1.old hq) rb ?_ ?_
          · rw [hb]; exact hid_same s2
          · rw [hb]
            exact hd _ (hid_same s2) fun a o ha h1 h2 => r1.seen (H' := fun b => if b = q then none else H' b) ((if_neg ha).trans h1) h2
      | exc c z => exact fun p1 H' s => p1 H' (r1.grow s) (hid_same s)
      | err => exact fun p1 => p1
    · rw [if_neg hl] at p1
      exact p1.elim
end
/-- a def that takes numbers off the list it is handed first -/
def spB (K : PySem.W.Frag) (n : Nat) (fn : List Int → List D → R (D × List Int)) : Sp := fun vs H Q _ => ∃ a ns ds Hv us, vs = .ref a :: us ∧ H a = some (.lst (ns.map V.int)) ∧ Same Hv H ∧ Hv a = none ∧ DenL K Hv ds us ∧ ds.length + 1 = n ∧
  match fn ns ds with
  | .ok q => ∀ v H', (∀ b o, b ≠ a → H b = some o → H' b = some o) → H' a = some (.lst (q.2.map V.int)) → Fresh K Hv H H' q.1 v → Q v H'
  | _ => False
def intsOf : List D → Option (List Int)
  | [] => some []
  | .int i :: ds => (intsOf ds).map (i :: ·)
  | _ :: _ => none
theorem intsOf_some : ∀ {ds : List D} {ns : List Int}, intsOf ds = some ns → ds = ns.map D.int
  | [], ns, h => by simp only [intsOf, Option.some.injEq] at h; subst h; rfl
  | d :: ds, ns, h => by
    cases d with
    | int i =>
      simp only [intsOf] at h
      cases q : intsOf ds with
      | none => rw [q] at h; cases h
      | some ms =>
        rw [q] at h
        simp only [Option.map_some, Option.some.injEq] at h
        subst h
        rw [intsOf_some q]
        rfl
    | _ => cases h
theorem intsOf_map (ns : List Int) : intsOf (ns.map D.int) = some ns := by
  induction ns with
  | nil => rfl
  | cons n ns ih => simp only [List.map_cons, intsOf, ih, Option.map_some]
theorem denL_ints {K : PySem.W.Frag} {H : Hp} : ∀ {ns : List Int} {vs : List V}, DenL K H (ns.map D.int) vs ↔ vs = ns.map V.int
  | [], vs => by simp only [List.map_nil, DenL]
  | n :: ns, vs => by
    simp only [List.map_cons, DenL, Den]
    constructor
    · rintro ⟨v, r, rfl, rfl, h⟩
      rw [denL_ints.1 h]
    · rintro rfl
      exact ⟨_, _, rfl, rfl, denL_ints.2 rfl⟩
def eCallB (n i : Nat) (fn : List Int → List D → R (D × List Int)) (f : FA) : FE := fun e => match e[i]? with
  | some s0 => (match s0 with
    | .own _ | .brw _ => (f e).bind fun p => if p.1.length + 1 = n then (match p.2[i]? with
      | some s => (match s with
        | .own cs | .brw cs => (match intsOf cs with
          | some ns => (match fn ns p.1 with
            | .ok q => .ok (q.1, p.2.set i (s.turn (q.2.map D.int)))
            | _ => .err)
          | none => .err)
        | _ => .err)
      | none => .err) else .err
    | _ => .err)
  | none => .err
section
variable {k n : Nat} {fa : Addr} {fd : FuncData} {ps : List Str} {fn : List Int → List D → R (D × List Int)} {x : Str} {p : Pos} {es : List Expr} {f : FA}
theorem v_callB (i : Nat) {y : Str} {py : Pos} (F : FnOk X.prog X.w X.K X.mg X.base (L2.CX X.prog X.w) k fa fd ps (spB X.K n fn)) (hr : Room k X.A) (tk : Takes X W) (hk : PySem.W.keepIn X.K (.ref fa) = true) (hb : Binds X.K fd ps []) (hm : X.mg x = some (.ref fa)) (hg : Gl X x)
    (ha : PA X es (rA X.K X.mg W f)) (hN : X.N[i]? = some y := by rfl) (hv : Vis X.env.scope y := by first | exact Or.inl rfl | exact Or.inr (Or.inl rfl) | exact Or.inr (Or.inr rfl)) (hd : (y == ("__debug__" : Str)) = false := by decide) (hcd : (y == ("__classdict__" : Str)) = false := by decide)
    (hdb : (x == ("__debug__" : Str)) = false := by decide) (he : starEach (.Name y py :: es) X.env = (false, eval (.Name y py) X.env) :: starEach es X.env := by rfl) (hpl : (backTo pos (starEach es X.env)).any (·.1) = false := by rfl) :
    PE X (.Call (.Name x p) (.Name y py :: es) [] pos) (rE X.K X.mg W (eCallB n i fn f)) :=
  (pe_callS (E := WE W) F hr hg hm hk hb (fun σ => passAt tk σ) (pa_cons (pe_var hN hv hd hcd) ha he) hdb he hpl).imp fun σ H Q ⟨A, e, r, q⟩ => by
    unfold eCallB at q
    cases h0 : e[i]? with
    | none => rw [h0] at q; exact q.elim
    | some s0 =>
      rw [h0] at q
      have step : (∃ ds, s0 = .own ds ∨ s0 = .brw ds) → Post X.K X.mg W (Den X.K) A σ e H Q ((f e).bind fun p => if p.1.length + 1 = n then (match p.2[i]? with
          | some s => (match s with
            | .own cs | .brw cs => (match intsOf cs with
              | some ns => (match fn ns p.1 with
                | .ok q => .ok (q.1, p.2.set i (s.turn (q.2.map D.int)))
                | _ => .err)
              | none => .err)
            | _ => .err)
          | none => .err) else .err) → tCallS (spB X.K n fn) (WE W) (tCons (tVar i) (rA X.K X.mg W f)) σ H Q := by
        rintro ⟨ds0, hs0⟩ q
        have hh0 : Held e i := ⟨ds0, by rcases hs0 with rfl | rfl; exact .inl h0; exact .inr h0⟩
        obtain ⟨a, vs0, k1, _, _⟩ := r.held hh0
        refine ⟨.ref a, k1, rd_seq r q fun ds e1 us H1 _ r1 s1 d1 p1 => ?_⟩
        by_cases hl : ds.length + 1 = n
        case neg =>
          rw [if_neg hl] at p1
          exact p1.elim
        rw [if_pos hl] at p1
        cases h1 : e1[i]? with
        | none => rw [h1] at p1; exact p1.elim
        | some s =>
          rw [h1] at p1
          have go : ∀ cs, (s = .own cs ∨ s = .brw cs) → Post X.K X.mg W (Den X.K) A σ e1 H1 Q (match intsOf cs with
              | some ns => (match fn ns ds with
                | .ok q => .ok (q.1, e1.set i (s.turn (q.2.map D.int)))
                | _ => .err)
              | none => .err) → spB X.K n fn (.ref a :: us) H1 Q (WE W σ) := by
            intro cs hs p1
            have hh : Held e1 i := ⟨cs, by rcases hs with rfl | rfl; exact .inl h1; exact .inr h1⟩
            have ho : ∃ b vs, σ[i]? = some (some (.ref b)) ∧ H1 b = some (.lst vs) ∧ DenL X.K (hid A σ e1 H1) cs vs := by
              rcases hs with rfl | rfl
              · obtain ⟨b, vs, k1, k2, k3, _⟩ := r1.own i cs h1
                exact ⟨b, vs, k1, k2, k3⟩
              · obtain ⟨b, vs, k1, k2, k3, _⟩ := r1.brw i cs h1
                exact ⟨b, vs, k1, k2, k3⟩
            obtain ⟨b, vs, kb, k2, k3⟩ := ho
            rw [k1] at kb
            cases kb
            cases hn : intsOf cs with
            | none => rw [hn] at p1; exact p1.elim
            | some ns =>
              rw [hn] at p1
              have ec := intsOf_some hn
              subst ec
              rw [denL_ints.1 k3] at k2
              have oa : OwnAt σ e1 a := ⟨i, hh, k1⟩
              have ha0 : hid A σ e1 H1 a = none := by
                unfold hid
                rw [if_pos (.inl oa)]
              refine ⟨a, ns, ds, hid A σ e1 H1, us, rfl, k2, hid_sub, ha0, d1, hl, ?_⟩
              revert p1
              dsimp only
              cases fn ns ds with
              | err => exact fun p1 => p1.elim
              | exc _ _ => exact fun p1 => p1.elim
              | ok z =>
                intro p1 v H' ke ka fr
                obtain ⟨rp, hp⟩ := r1.put h1 hh k1 (denL_ints.2 (rfl : z.2.map V.int = _))
                have sm : Same (upd H1 a (.lst (z.2.map V.int))) H' := fun b o hb => by
                  by_cases hq : b = a
                  · subst hq
                    rw [upd_same] at hb
                    cases hb
                    exact ka
                  · rw [upd_ne hq] at hb
                    exact ke b o hq hb
                have sh : Same (hid A σ e1 H1) (hid A σ (e1.set i (s.turn (z.2.map D.int))) H') := by
                  rw [← hp]
                  exact hid_same sm
                refine p1 v H' (rp.grow sm) sh (fr _ sh fun b o hb hn => ?_)
                have hq : b ≠ a := by
                  rintro rfl
                  rw [k2] at hn
                  cases hn
                exact rp.seen hb (by rw [upd_ne hq]; exact hn)
          cases s with
          | own cs => exact go cs (.inl rfl) p1
          | brw cs => exact go cs (.inr rfl) p1
          | _ => exact p1.elim
      cases s0 with
      | own ds0 => exact step ⟨ds0, .inl rfl⟩ q
      | brw ds0 => exact step ⟨ds0, .inr rfl⟩ q
      | _ => exact q.elim
end
end
/-! ### defs -/
def runA (m : Nat) (fr : Bool) (g : FS) (ds : List D) : R D := match g (ds.map Sl.val ++ List.replicate (m - ds.length) .un) with
  | .ok (.rt d _) => (match lstOf fr d with
    | some _ => .err
    | none => .ok d)
  | .ok (.rn ds _) => .ok (.lst ds)
  | .ok (.nx _) => .ok .non
  | .exc c _ => .exc c []
  | _ => .err
def runB (m : Nat) (g : FS) (ns : List Int) (ds : List D) : R (D × List Int) :=
  let out (d : D) (e : En) : R (D × List Int) := match e[(0 : Nat)]? with
    | some (.brw cs) => (match intsOf cs with
      | some ms => .ok (d, ms)
      | none => .err)
    | _ => .err
  match g (.brw (ns.map D.int) :: ds.map Sl.val ++ List.replicate (m - (ds.length + 1)) .un) with
  | .ok (.rt d e) => out d e
  | .ok (.nx e) => out .non e
  | _ => .err
section
variable {P : Program} {w : World} {K : PySem.W.Frag} {mg : Str → Option Value} {base : Heap}
theorem spA_start {N : List Str} {n : Nat} {fr : Bool} {g : FS} {vs : List V} {H : Hp} {Q : VK} {E : XK} (hnN : n ≤ N.length) (h : spA K mg n fr (runA N.length fr g) vs H Q E) :
    rdS K mg (fun cls d _ H => E cls d H) g { nx := fun _ H' => Q .non H', rt := Q } (L2.start N vs) H := by
  obtain ⟨ds, Hv, sv, hd, hl, hc⟩ := h
  have hlen := hd.length
  have hN' : ds.length ≤ N.length := by rw [hl]; exact hnN
  refine ⟨⟨H, Hv, fun _ => False, fun _ => none⟩, ds.map Sl.val ++ List.replicate (N.length - ds.length) .un, ?_⟩
  generalize hA : (⟨H, Hv, fun _ => False, fun _ => none⟩ : Act) = A0
  have noH : ∀ (e : En), (∀ (i : Nat) (ds : List D), e[i]? ≠ some (.own ds) ∧ e[i]? ≠ some (.brw ds)) → ∀ σ a, ¬ OwnAt σ e a := fun e he σ a ⟨i, ⟨es, h⟩, _⟩ => h.elim (he i es).1 (he i es).2
  have he0 : ∀ (i : Nat) (es : List D), (ds.map Sl.val ++ List.replicate (N.length - ds.length) .un)[i]? ≠ some (.own es) ∧ (ds.map Sl.val ++ List.replicate (N.length - ds.length) .un)[i]? ≠ some (.brw es) := fun i es => by
    constructor
    all_goals
      intro h
      rcases List.mem_append.mp (List.mem_of_getElem? h) with m | m
      · obtain ⟨d, _, z⟩ := List.mem_map.mp m
        cases z
      · exact absurd (List.eq_of_mem_replicate m) (by simp)
  have eh : Same Hv (hid A0 (L2.start N vs) (ds.map Sl.val ++ List.replicate (N.length - ds.length) .un) H) := fun b o hb => by
    rw [hid_in (noH _ he0 _ b) (fun z => by rw [← hA] at z; rw [show Hv b = none from z.2] at hb; cases hb)]
    exact sv _ _ hb
  have R0 : Rep K A0 H (L2.start N vs) (ds.map Sl.val ++ List.replicate (N.length - ds.length) .un) := {
    len := by unfold L2.start; simp [hlen]
    sub := by rw [← hA]; exact sv
    bhr := fun a z => by rw [← hA] at z; exact z.elim
    nbor := fun a z => by rw [← hA] at z; exact z.elim (fun z => z.elim) (fun z => absurd rfl z)
    nbld := fun a us z => by rw [← hA] at z; cases z
    keep := fun b o z _ => by rw [← hA] at z; exact z
    val := fun i d z => by
      by_cases hi : i < ds.length
      · rw [List.getElem?_append_left (by rw [List.length_map]; exact hi), List.getElem?_map] at z
        cases hg : ds[i]? with
        | none => rw [hg] at z; cases z
        | some d' =>
          rw [hg] at z
          cases z
          obtain ⟨v, hv, dv⟩ := hd.get hg
          refine ⟨v, ?_, Den.mono eh _ _ dv⟩
          unfold L2.start
          rw [List.getElem?_append_left (by rw [List.length_map, ← hlen]; exact hi), List.getElem?_map, hv]
          rfl
      · rw [List.getElem?_append_right (by rw [List.length_map]; omega)] at z
        exact absurd (List.eq_of_mem_replicate (List.mem_of_getElem? z)) (by simp)
    own := fun i es z => absurd z (he0 i es).1
    brw := fun i es z => absurd z (he0 i es).2
    inj := fun i j a ⟨es, z⟩ => (z.elim (he0 i es).1 (he0 i es).2).elim }
  have fin' : ∀ {d : D} {v : V} {σ' : L2.St} {H' : Hp} {e' : En}, (∀ v H', Same H H' → Fresh K Hv H H' d v → Q v H') → Rep K A0 H' σ' e' → Den K (hid A0 σ' e' H') d v → Q v H' := fun {d v σ' H' e'} hc r' d' => by
    refine hc v H' (fun b o hb => r'.keep b o (by rw [← hA]; exact hb) (by rw [← hA]; exact fun z => z.elim id fun z => z rfl)) fun Hw s1 s2 => Den.mono (fun b o hb => ?_) _ _ d'
    obtain ⟨n1, n2, hb'⟩ := hid_not hb
    by_cases hq : H b = none
    · exact s2 b o hb' hq
    · have : Hv b ≠ none := fun z => n2 (by rw [← hA]; exact ⟨hq, z⟩)
      cases hv : Hv b with
      | none => exact absurd hv this
      | some o' =>
        have k := r'.keep b o' (by rw [← hA]; exact sv _ _ hv) (by rw [← hA]; exact fun z => z.elim id fun z => z rfl)
        rw [hb'] at k
        cases k
        exact s1 _ _ hv
  refine ⟨R0, ?_⟩
  unfold runA at hc
  revert hc
  cases g (ds.map Sl.val ++ List.replicate (N.length - ds.length) .un) with
  | ok fl =>
    cases fl with
    | nx e' => exact fun hc σ' H' r' _ => fin' (d := .non) (show ∀ v H', Same H H' → Fresh K Hv H H' .non v → Q v H' from hc) r' (by simp only [Den])
    | rt d e' =>
      dsimp only
      cases k : lstOf fr d with
      | some _ => exact fun hc => hc.elim
      | none =>
        intro hc v σ' H' r' _ d'
        simp only [CallP, k] at hc
        exact fin' hc r' d'
    | rn es e' =>
      intro hc q us σ' H' od r' s' d'
      obtain ⟨rb, sb, hb⟩ := r'.built od
      cases k : lstOf fr (.lst es) with
      | none =>
        simp only [CallP, k] at hc
        refine fin' hc rb ?_
        simp only [Den]
        exact ⟨q, us, rfl, hb, DenL.mono sb _ _ d'⟩
      | some es' =>
        simp only [CallP, k] at hc
        obtain ⟨ee, _⟩ := lstOf_some k
        cases ee
        have hq : H q = none := by
          have := od.hr
          rw [← hA] at this
          exact this
        refine hc q us H' (fun b o hb => rb.keep b o (by rw [← hA]; exact hb) (by rw [← hA]; exact fun z => z.elim id fun z => z rfl)) hq r'.notOwn.2.2 fun Hw s1 s2 => DenL.mono (fun b o hb => ?_) _ _ d'
        obtain ⟨n1, n2, hb'⟩ := hid_not hb
        have hbq : b ≠ q := by rintro rfl; exact n2 r'.notOwn.2.1
        have n3 : ¬ off A0 b := fun z => n2 ((off_build od.hr).2 (.inl z))
        by_cases hq : H b = none
        · exact s2 b o hbq hb' hq
        · have hz : Hv b ≠ none := fun z => n3 (by rw [← hA]; exact ⟨hq, z⟩)
          cases hv : Hv b with
          | none => exact absurd hv hz
          | some o' =>
            have k := rb.keep b o' (by rw [← hA]; exact sv _ _ hv) (by rw [← hA]; exact fun z => z.elim id fun z => z rfl)
            rw [hb'] at k
            cases k
            exact s1 _ _ hv
    | bk e' => exact fun hc => hc.elim
    | ct e' => exact fun hc => hc.elim
  | exc c e' => exact fun hc σ' H' r' _ => hc H' fun b o hb => r'.keep b o (by rw [← hA]; exact hb) (by rw [← hA]; exact fun z => z.elim id fun z => z rfl)
  | err => exact fun hc => hc
theorem ok_A {x qual : Str} {st : Stmt} {f : Addr} {fd : FuncData} {N ps : List Str} {k n : Nat} {g : FS} (fr : Bool) (F : Fun K x qual st f fd) (S : FnScope N ps (defScope st)) (hn : n = ps.length) (hN : ps.length ≤ N.length)
    (hbody : ∀ (cdv : Value) (A : Around) (outer : List Env) (s : Shared) (H : Hp) (E : XK), Room k (A.deeper (envOfC qual (defScope st) s.heap.objs.size f cdv)) →
      PSs (cxOf (L2.CX P w) P w K mg base N qual (defScope st) f cdv A outer s H E) (defBody st) (rdS K mg (fun cls d _ H => E cls d H) g)) : FnOk P w K mg base (L2.CX P w) (k + 1) f fd ps (spA K mg n fr (runA N.length fr g)) := by
  refine F.okX S (fun vs H Q E h => ?_) (fun cdv A outer s H vs Q E hr h => ⟨_, hbody cdv A outer s H E hr, ?_⟩)
  · obtain ⟨ds, Hv, _, hd, hl, _⟩ := h
    rw [← hd.length, hl, hn]
  · exact spA_start (by rw [hn]; exact hN) h
theorem ok_B {x qual : Str} {st : Stmt} {f : Addr} {fd : FuncData} {N ps : List Str} {k n : Nat} {g : FS} (F : Fun K x qual st f fd) (S : FnScope N ps (defScope st)) (hn : n = ps.length) (hN : ps.length ≤ N.length)
    (hbody : ∀ (cdv : Value) (A : Around) (outer : List Env) (s : Shared) (H : Hp) (E : XK), Room k (A.deeper (envOfC qual (defScope st) s.heap.objs.size f cdv)) →
      PSs (cxOf (L2.CX P w) P w K mg base N qual (defScope st) f cdv A outer s H E) (defBody st) (rdS K mg (fun cls d _ H => E cls d H) g)) : FnOk P w K mg base (L2.CX P w) (k + 1) f fd ps (spB K n (runB N.length g)) := by
  refine F.okX S (fun vs H Q E h => ?_) (fun cdv A outer s H vs Q E hr h => ⟨_, hbody cdv A outer s H E hr, ?_⟩)
  · obtain ⟨a, ns, ds, Hv, us, rfl, _, _, _, hd, hl, _⟩ := h
    rw [List.length_cons, ← hd.length, hl, hn]
  · obtain ⟨a, ns, ds, Hv, us, rfl, ha, sv, hva, hd, hl, hc⟩ := h
    have hlen := hd.length
    have hnl : ds.length + 1 ≤ N.length := by omega
    generalize he : (Sl.brw (ns.map D.int) :: ds.map Sl.val ++ List.replicate (N.length - (ds.length + 1)) Sl.un : En) = e0
    refine ⟨⟨H, Hv, fun b => b = a, fun _ => none⟩, e0, ?_⟩
    generalize hA : (⟨H, Hv, fun b => b = a, fun _ => none⟩ : Act) = A0
    have g0 : e0[(0 : Nat)]? = some (.brw (ns.map D.int)) := by rw [← he]; rfl
    have gS : ∀ i : Nat, e0[i + 1]? = (ds.map Sl.val ++ List.replicate (N.length - (ds.length + 1)) Sl.un)[i]? := fun i => by rw [← he]; rfl
    have gV : ∀ (i : Nat) (s : Sl), (ds.map Sl.val ++ List.replicate (N.length - (ds.length + 1)) Sl.un)[i]? = some s → s = .un ∨ ∃ d v, s = .val d ∧ us[i]? = some v ∧ Den K Hv d v := fun i s z => by
      by_cases hi : i < ds.length
      · rw [List.getElem?_append_left (by rw [List.length_map]; exact hi), List.getElem?_map] at z
        cases hg : ds[i]? with
        | none => rw [hg] at z; cases z
        | some d' =>
          rw [hg] at z
          cases z
          obtain ⟨v, hv, dv⟩ := hd.get hg
          exact .inr ⟨d', v, rfl, hv, dv⟩
      · rw [List.getElem?_append_right (by rw [List.length_map]; omega)] at z
        exact .inl (List.eq_of_mem_replicate (List.mem_of_getElem? z))
    have st0 : (L2.start N (V.ref a :: us))[(0 : Nat)]? = some (some (.ref a)) := rfl
    have stS : ∀ (i : Nat) (v : V), us[i]? = some v → (L2.start N (V.ref a :: us))[i + 1]? = some (some v) := fun i v hv => by
      have hi : i < us.length := (List.getElem?_eq_some_iff.mp hv).1
      unfold L2.start
      rw [List.getElem?_append_left (by rw [List.length_map, List.length_cons]; omega), List.getElem?_map, List.getElem?_cons_succ, hv]
      rfl
    have hheld : ∀ i, Held e0 i → i = 0 := fun i ⟨es, z⟩ => by
      cases i with
      | zero => rfl
      | succ i =>
        rw [gS] at z
        rcases z with z | z
        · rcases gV i _ z with q | ⟨_, _, q, _⟩ <;> cases q
        · rcases gV i _ z with q | ⟨_, _, q, _⟩ <;> cases q
    have hown : ∀ b, OwnAt (L2.start N (V.ref a :: us)) e0 b → b = a := fun b ⟨i, hi, hb⟩ => by
      rw [hheld i hi, st0] at hb
      cases hb
      rfl
    have eh : Same Hv (hid A0 (L2.start N (V.ref a :: us)) e0 H) := fun b o hb => by
      have hq : b ≠ a := by rintro rfl; rw [hva] at hb; cases hb
      rw [hid_in (fun z => hq (hown b z)) (fun z => by rw [← hA] at z; rw [show Hv b = none from z.2] at hb; cases hb)]
      exact sv _ _ hb
    have R0 : Rep K A0 H (L2.start N (V.ref a :: us)) e0 := {
      len := by rw [← he]; unfold L2.start; simp [hlen]
      sub := by rw [← hA]; exact sv
      bhr := fun b z => by
        rw [← hA] at z ⊢
        rw [show b = a from z]
        show H a ≠ none
        rw [ha]
        exact fun z => nomatch z
      nbor := fun b z => by
        rw [← hA] at z ⊢
        rcases z with z | z
        · rw [show b = a from z]; exact ⟨hva, by rw [ha]; exact fun z => nomatch z⟩
        · exact absurd rfl z
      nbld := fun b us z => by rw [← hA] at z; cases z
      keep := fun b o z _ => by rw [← hA] at z; exact z
      val := fun i d z => by
        cases i with
        | zero => rw [g0] at z; cases z
        | succ i =>
          rw [gS] at z
          rcases gV i _ z with q | ⟨d', v, q, hv, dv⟩
          · cases q
          · cases q
            exact ⟨v, stS i v hv, Den.mono eh _ _ dv⟩
      own := fun i es z => by
        cases i with
        | zero => rw [g0] at z; cases z
        | succ i =>
          rw [gS] at z
          rcases gV i _ z with q | ⟨_, _, q, _⟩ <;> cases q
      brw := fun i es z => by
        cases i with
        | zero =>
          rw [g0] at z
          cases z
          exact ⟨a, _, st0, ha, denL_ints.2 rfl, by rw [← hA]⟩
        | succ i =>
          rw [gS] at z
          rcases gV i _ z with q | ⟨_, _, q, _⟩ <;> cases q
      inj := fun i j b hi hj _ _ => by rw [hheld i hi, hheld j hj] }
    have nb : ∀ b, b ≠ a → ¬ (A0.bor b ∨ A0.bld b ≠ none) := fun b hq => by rw [← hA]; exact fun z => z.elim hq fun z => z rfl
    have fin' : ∀ {d : D} {v : V} {σ' : L2.St} {H' : Hp} {e' : En}, (match (match e'[(0 : Nat)]? with
          | some (.brw cs) => (match intsOf cs with
            | some ms => R.ok (d, ms)
            | none => .err)
          | _ => .err : R (D × List Int)) with
        | .ok q => ∀ v H', (∀ b o, b ≠ a → H b = some o → H' b = some o) → H' a = some (.lst (q.2.map V.int)) → Fresh K Hv H H' q.1 v → Q v H'
        | _ => False) → Rep K A0 H' σ' e' → Den K (hid A0 σ' e' H') d v → Q v H' := fun {d v σ' H' e'} hc r' d' => by
      cases h0 : e'[(0 : Nat)]? with
      | none => rw [h0] at hc; exact hc.elim
      | some s =>
        rw [h0] at hc
        cases s with
        | brw cs =>
          dsimp only at hc
          cases hn : intsOf cs with
          | none => rw [hn] at hc; exact hc.elim
          | some ms =>
            rw [hn] at hc
            obtain ⟨b, vs, k1, k2, k3, k4⟩ := r'.brw 0 cs h0
            rw [← hA] at k4
            have k4' : b = a := k4
            subst k4'
            rw [intsOf_some hn] at k3
            rw [denL_ints.1 k3] at k2
            refine hc v H' (fun c o hq hb => r'.keep c o (by rw [← hA]; exact hb) (nb c hq)) k2 fun Hw s1 s2 => Den.mono (fun c o hb => ?_) _ _ d'
            obtain ⟨n1, n2, hb'⟩ := hid_not hb
            by_cases hq : H c = none
            · exact s2 c o hb' hq
            · have hz : Hv c ≠ none := fun z => n2 (by rw [← hA]; exact ⟨hq, z⟩)
              cases hv : Hv c with
              | none => exact absurd hv hz
              | some o' =>
                have hcb : c ≠ b := by rintro rfl; exact hz hva
                have k := r'.keep c o' (by rw [← hA]; exact sv _ _ hv) (nb c hcb)
                rw [hb'] at k
                cases k
                exact s1 _ _ hv
        | _ => exact hc.elim
    refine ⟨R0, ?_⟩
    unfold runB at hc
    rw [he] at hc
    revert hc
    dsimp only
    cases g e0 with
    | ok fl =>
      cases fl with
      | nx e' => exact fun hc σ' H' r' _ => fin' (d := .non) hc r' (by simp only [Den])
      | rt d e' => exact fun hc v σ' H' r' _ d' => fin' hc r' d'
      | rn ds e' => exact fun hc => hc.elim
      | bk e' => exact fun hc => hc.elim
      | ct e' => exact fun hc => hc.elim
    | exc c e' => exact fun hc => hc.elim
    | err => exact fun hc => hc
end
end Mi
namespace Mi
open PySem PySem.Spec PyProof.Rows L2

section
variable {K : PySem.W.Frag}
/-- a flat answer -/
theorem flatQ {Hh H : Hp} {d : D} {v : V} {Q : VK} (h : ∀ H, Den K H d v) (q : ∀ v H', Same H H' → Fresh K Hh H H' d v → Q v H') : Q v H := q v H (Same.refl _) (Fresh.flat (h _))
/-! ### ints -/
def gI (C : Int → Int → Bool) (g : Int → Int → D) (a b : D) : Option D := (int? a).bind fun i => (int? b).bind fun j => if C i j = true then some (g i j) else none
theorem gI_some {C : Int → Int → Bool} {g : Int → Int → D} {a b d : D} (h : gI C g a b = some d) : ∃ i j, a = .int i ∧ b = .int j ∧ C i j = true ∧ d = g i j := by
  unfold gI at h
  cases k : int? a with
  | none => rw [k] at h; cases h
  | some i =>
    cases k2 : int? b with
    | none => rw [k, k2] at h; cases h
    | some j =>
      rw [k, k2, Option.bind_some, Option.bind_some] at h
      by_cases c : C i j = true
      · rw [if_pos c] at h
        cases h
        exact ⟨i, j, int_some k, int_some k2, c, rfl⟩
      · rw [if_neg c] at h
        cases h
theorem rb_I {C : Int → Int → Bool} {g : Int → Int → D} {P : Int → Int → Prop} {gv : Int → Int → V} (hC : ∀ i j, C i j = true → P i j) (hg : ∀ i j H, Den K H (g i j) (gv i j)) : RB K (L2.rI P gv) (gI C g) := fun Hh H a b x y d Q s ha hb h q => by
  obtain ⟨i, j, rfl, rfl, c, rfl⟩ := gI_some h
  exact ⟨i, j, den_int ha, den_int hb, hC i j c, flatQ (hg i j) q⟩
theorem rb_I0 {g : Int → Int → D} {gv : Int → Int → V} (hg : ∀ i j H, Den K H (g i j) (gv i j)) : RB K (rI0 gv) (gI (fun _ _ => true) g) := fun Hh H a b x y d Q s ha hb h q => by
  obtain ⟨i, j, rfl, rfl, c, rfl⟩ := gI_some h
  exact ⟨i, j, den_int ha, den_int hb, flatQ (hg i j) q⟩
def T2 : Int → Int → Bool := fun _ _ => true
abbrev gSub := gI T2 fun i j => .int (i - j)
theorem rb_sub : RB K (rI0 fun i j => .int (i - j)) gSub := rb_I0 fun _ _ _ => by simp only [Den]
/-- two factors of together less than a hundred million bits -/
def CMulX (i j : Int) : Prop := i.natAbs.log2 + j.natAbs.log2 < 100000000
theorem bits_log (x : Int) : Builtin.Int.intBits x ≤ x.natAbs.log2 + 1 := by
  unfold Builtin.Int.intBits
  split <;> omega
theorem CMulX.ok {i j : Int} (h : CMulX i j) : IntMulOk i j := fun z => by
  have h1 := bits_log i
  have h2 := bits_log j
  have h3 : i.natAbs.log2 + j.natAbs.log2 < 100000000 := h
  have e : bitsLine = 134217728 := by decide
  have z2 := (Bool.and_eq_true_iff.mp z).2
  unfold Builtin.Int.intTooBig at z2
  have z3 := of_decide_eq_true z2
  rw [e] at z3
  omega
theorem op_mulX {X : Cx} : OpR X (binaryOp .Mult) (L2.rI CMulX fun i j => .int (i * j)) := opI fun _ _ _ _ _ _ _ hc q => mul_int q hc.ok
def mulOk (i j : Int) : Bool := decide (i.natAbs.log2 + j.natAbs.log2 < 100000000)
abbrev gMulI := gI mulOk fun i j => .int (i * j)
theorem rb_mulI : RB K (L2.rI CMulX fun i j => .int (i * j)) gMulI := rb_I (fun i j h => @of_decide_eq_true (i.natAbs.log2 + j.natAbs.log2 < 100000000) _ h) fun _ _ _ => by simp only [Den]
def modOk (_ j : Int) : Bool := decide (0 < j)
abbrev gMod := gI modOk fun i j => .int (i % j)
theorem rb_mod : RB K (L2.rI (fun _ j => 0 < j) fun i j => .int (i % j)) gMod := rb_I (fun i j h => of_decide_eq_true (show decide (0 < j) = true from h)) fun _ _ _ => by simp only [Den]
def divOk (_ j : Int) : Bool := decide (0 < j) && decide (j.natAbs.log2 < 9000)
abbrev gDiv := gI divOk fun i j => .int (i / j)
theorem rb_div : RB K (L2.rI CDivW fun i j => .int (i / j)) gDiv := rb_I (fun i j h => by
  unfold divOk at h
  rw [Bool.and_eq_true] at h
  exact ⟨of_decide_eq_true h.1, of_decide_eq_true h.2⟩) fun _ _ _ => by simp only [Den]
def powOk (i j : Int) : Bool := decide (0 ≤ j) && (decide (j ≤ 1000000) && decide (i.natAbs < 18446744073709551616))
abbrev gPow := gI powOk fun i j => .int (i ^ j.toNat)
theorem rb_pow : RB K (L2.rI CPow fun i j => .int (i ^ j.toNat)) gPow := rb_I (fun i j h => by
  unfold powOk at h
  rw [Bool.and_eq_true, Bool.and_eq_true] at h
  have e : 2 ^ 64 = 18446744073709551616 := by decide +kernel
  exact ⟨of_decide_eq_true h.1, of_decide_eq_true h.2.1, by rw [e]; exact of_decide_eq_true h.2.2⟩) fun _ _ _ => by simp only [Den]
abbrev gLtI := gI T2 fun i j => .bl (decide (i < j))
abbrev gLeI := gI T2 fun i j => .bl (decide (i ≤ j))
abbrev gGtI := gI T2 fun i j => .bl (decide (j < i))
abbrev gGeI := gI T2 fun i j => .bl (decide (j ≤ i))
theorem rb_ltI : RB K (rI0 fun i j => .bl (decide (i < j))) gLtI := rb_I0 fun _ _ _ => by simp only [Den]
theorem rb_leI : RB K (rI0 fun i j => .bl (decide (i ≤ j))) gLeI := rb_I0 fun _ _ _ => by simp only [Den]
theorem rb_gtI : RB K (rI0 fun i j => .bl (decide (j < i))) gGtI := rb_I0 fun _ _ _ => by simp only [Den]
theorem rb_geI : RB K (rI0 fun i j => .bl (decide (j ≤ i))) gGeI := rb_I0 fun _ _ _ => by simp only [Den]
def gNeg (a : D) : Option D := (int? a).map fun i => .int (-i)
theorem ru_neg : RU K (rU fun i => .int (-i)) gNeg := fun Hh H a x d Q s ha h q => by
  unfold gNeg at h
  cases k : int? a with
  | none => rw [k] at h; cases h
  | some i =>
    rw [k] at h
    cases h
    rw [int_some k] at ha
    exact ⟨i, den_int ha, flatQ (fun _ => by simp only [Den]) q⟩
/-! ### + of any kind -/
def str? : D → Option Str
  | .str x => some x
  | _ => none
theorem str_some {d : D} {x : Str} (h : str? d = some x) : d = .str x := by
  cases d <;> simp only [str?, Option.some.injEq] at h <;> first | (subst h; rfl) | cases h
def tup? : D → Option (List D)
  | .tup ds => some ds
  | _ => none
theorem tup_some {d : D} {x : List D} (h : tup? d = some x) : d = .tup x := by
  cases d <;> simp only [tup?, Option.some.injEq] at h <;> first | (subst h; rfl) | cases h
def gAdd : D → D → Option D
  | .int i, .int j => some (.int (i + j))
  | .str x, .str y => if x.length + y.length ≤ lim then some (.str (x ++ y)) else none
  | .lst a, .lst b => if a.length + b.length ≤ lim then some (.lst (a ++ b)) else none
  | .tup a, .tup b => if a.length + b.length ≤ lim then some (.tup (a ++ b)) else none
  | _, _ => none
def rAddA (K : PySem.W.Frag) : R2 := fun x y H Q => (rI0 (fun i j => .int (i + j)) x y H Q ∨ (∃ i j, x = .str i ∧ y = .str j ∧ i.length + j.length ≤ sizeLine ∧ Q (.str (i ++ j)) H)) ∨ (rCat x y H Q ∨ rCatA K x y H Q)
theorem op_addA {X : Cx} : OpR X (binaryOp .Add) (rAddA X.K) := OpR.or (OpR.or op_add op_add_str) (OpR.or op_cat op_catA)
theorem den_lst {H : Hp} {ds : List D} {v : V} (h : Den K H (.lst ds) v) : ∃ a vs, v = .ref a ∧ H a = some (.lst vs) ∧ DenL K H ds vs := by simpa only [Den] using h
theorem den_tup {H : Hp} {ds : List D} {v : V} (h : Den K H (.tup ds) v) : ∃ a vs, v = .ref a ∧ SqT K H a vs ∧ DenL K H ds vs := by simpa only [Den] using h
theorem rb_add : RB K (rAddA K) gAdd := fun Hh H a b x y d Q s ha hb h q => by
  cases a with
  | int i =>
    cases b with
    | int j =>
      simp only [gAdd, Option.some.injEq] at h
      subst h
      exact .inl (.inl ⟨i, j, den_int ha, den_int hb, flatQ (fun _ => by simp only [Den]) q⟩)
    | _ => cases h
  | str i =>
    cases b with
    | str j =>
      simp only [gAdd] at h
      by_cases c : i.length + j.length ≤ lim
      · rw [if_pos c] at h
        cases h
        exact .inl (.inr ⟨i, j, den_str ha, den_str hb, by rw [← lim_eq]; exact c, flatQ (fun _ => by simp only [Den]) q⟩)
      · rw [if_neg c] at h; cases h
    | _ => cases h
  | lst i =>
    cases b with
    | lst j =>
      simp only [gAdd] at h
      by_cases c : i.length + j.length ≤ lim
      · rw [if_pos c] at h
        cases h
        obtain ⟨p, vs, rfl, h1, h2⟩ := den_lst ha
        obtain ⟨p', us, rfl, h3, h4⟩ := den_lst hb
        exact .inr (.inl ⟨p, p', vs, us, rfl, rfl, s _ _ h1, s _ _ h3, by rw [← h2.length, ← h4.length, ← lim_eq]; exact c, fun r hr => q _ _ (same_upd hr) (Fresh.lst hr (DenL.append h2 h4))⟩)
      · rw [if_neg c] at h; cases h
    | _ => cases h
  | tup i =>
    cases b with
    | tup j =>
      simp only [gAdd] at h
      by_cases c : i.length + j.length ≤ lim
      · rw [if_pos c] at h
        cases h
        obtain ⟨p, vs, rfl, h1, h2⟩ := den_tup ha
        obtain ⟨p', us, rfl, h3, h4⟩ := den_tup hb
        refine .inr (.inr ⟨p, p', vs, us, rfl, rfl, Same.seqT s h1, Same.seqT s h3, by rw [← h2.length, ← h4.length, ← lim_eq]; exact c, fun e => ?_, fun _ e => ?_, fun _ _ r hr => q _ _ (same_upd hr) (Fresh.tup hr (DenL.append h2 h4))⟩)
        · subst e
          have hl := h2.length
          have e0 : i = [] := by cases i with | nil => rfl | cons _ _ => cases hl
          subst e0
          exact q _ _ (Same.refl _) (Fresh.flat hb)
        · subst e
          have hl := h4.length
          have e0 : j = [] := by cases j with | nil => rfl | cons _ _ => cases hl
          subst e0
          rw [List.append_nil] at q
          exact q _ _ (Same.refl _) (Fresh.flat ha)
      · rw [if_neg c] at h; cases h
    | _ => cases h
  | _ => cases h
/-- list * int -/
def gRep : D → D → Option (List D)
  | .lst ds, .int k => if r62 k = true ∧ ds.length * k.toNat ≤ lim then some (List.replicate k.toNat ds).flatten else none
  | _, _ => none
theorem rbn_rep : RBN K rRep gRep := fun Hh H a b x y ds Q s ha hb h q => by
  cases a with
  | lst es =>
    cases b with
    | int k =>
      simp only [gRep] at h
      by_cases c : r62 k = true ∧ es.length * k.toNat ≤ lim
      · rw [if_pos c] at h
        cases h
        obtain ⟨p, vs, rfl, h1, h2⟩ := den_lst ha
        have e : (2 : Int) ^ 63 = 9223372036854775808 := by decide +kernel
        have c1 := c.1
        have c2 := (r62_iff.1 c1).1
        have c3 := (r62_iff.1 c1).2
        exact ⟨p, k, vs, rfl, den_int hb, s _ _ h1, by rw [e]; omega, by rw [e]; omega, by rw [← h2.length, ← lim_eq]; exact c.2, fun r hr => q r _ hr (DenL.rep h2 _)⟩
      · rw [if_neg c] at h; cases h
    | _ => cases h
  | _ => cases h
def gMul : D → D → Option D
  | .lst ds, k => (gRep (.lst ds) k).map .lst
  | a, b => gMulI a b
def rMulA : R2 := fun x y H Q => L2.rI CMulX (fun i j => .int (i * j)) x y H Q ∨ rRep x y H Q
theorem op_mulA {X : Cx} : OpR X (binaryOp .Mult) rMulA := OpR.or op_mulX op_rep
theorem rb_mul : RB K rMulA gMul := fun Hh H a b x y d Q s ha hb h q => by
  by_cases ca : ∃ ds, a = .lst ds
  · obtain ⟨ds, rfl⟩ := ca
    simp only [gMul] at h
    cases k : gRep (.lst ds) b with
    | none => rw [k] at h; cases h
    | some es =>
      rw [k] at h
      cases h
      exact .inr (rbn_rep Hh H _ _ x y es Q s ha hb k fun p vs hp dl => q _ _ (same_upd hp) (Fresh.lst hp dl))
  · have e : gMul a b = gMulI a b := by
      cases a with
      | lst ds => exact absurd ⟨ds, rfl⟩ ca
      | _ => rfl
    rw [e] at h
    exact .inl (rb_mulI Hh H a b x y d Q s ha hb h q)
/-! ### comparisons of any kind -/
def rLtA : R2 := fun x y H Q => rI0 (fun i j => .bl (decide (i < j))) x y H Q ∨ ∃ i j, x = .str i ∧ y = .str j ∧ Q (.bl (decide (i.cps.toList < j.cps.toList))) H
def rLeA : R2 := fun x y H Q => rI0 (fun i j => .bl (decide (i ≤ j))) x y H Q ∨ ∃ i j, x = .str i ∧ y = .str j ∧ Q (.bl (!decide (j.cps.toList < i.cps.toList))) H
def gLt : D → D → Option D
  | .int i, .int j => some (.bl (decide (i < j)))
  | .str i, .str j => some (.bl (decide (i.cps.toList < j.cps.toList)))
  | _, _ => none
def gLe : D → D → Option D
  | .int i, .int j => some (.bl (decide (i ≤ j)))
  | .str i, .str j => some (.bl (!decide (j.cps.toList < i.cps.toList)))
  | _, _ => none
theorem op_ltA {X : Cx} : OpR X (compareOp .Lt) rLtA := OpR.or op_lt op_lt_str
theorem op_leA {X : Cx} : OpR X (compareOp .LtE) rLeA := OpR.or op_le op_le_str
theorem rb_lt : RB K rLtA gLt := fun Hh H a b x y d Q s ha hb h q => by
  cases a <;> cases b <;> simp only [gLt, Option.some.injEq] at h <;> first
    | (subst h; exact .inl ⟨_, _, den_int ha, den_int hb, flatQ (fun _ => by simp only [Den]) q⟩)
    | (subst h; exact .inr ⟨_, _, den_str ha, den_str hb, flatQ (fun _ => by simp only [Den]) q⟩)
    | cases h
theorem rb_le : RB K rLeA gLe := fun Hh H a b x y d Q s ha hb h q => by
  cases a <;> cases b <;> simp only [gLe, Option.some.injEq] at h <;> first
    | (subst h; exact .inl ⟨_, _, den_int ha, den_int hb, flatQ (fun _ => by simp only [Den]) q⟩)
    | (subst h; exact .inr ⟨_, _, den_str ha, den_str hb, flatQ (fun _ => by simp only [Den]) q⟩)
    | cases h
mutual
def pd : D → Option PyData
  | .non => some .none
  | .bl b => some (.bool b)
  | .int i => some (.int i)
  | .str x => some (.str x)
  | .tup ds => (pdL ds).map .tuple
  | .lst ds => (pdL ds).map .list
  | .rls ds => (pdL ds).map .list
  | .dct _ _ => none
  | .ty _ => none
def pdL : List D → Option (List PyData)
  | [] => some []
  | d :: ds => (pd d).bind fun x => (pdL ds).map (x :: ·)
end
mutual
theorem pd_dp {H : Hp} : ∀ (d : D) (v : V) (x : PyData), Den K H d v → pd d = some x → Dp K H v x
  | .non, v, x, h, e => by
    simp only [pd, Option.some.injEq] at e
    subst e
    rw [den_non h]
    exact .non
  | .bl b, v, x, h, e => by
    simp only [pd, Option.some.injEq] at e
    subst e
    rw [den_bl h]
    exact .bl b
  | .int b, v, x, h, e => by
    simp only [pd, Option.some.injEq] at e
    subst e
    rw [den_int h]
    exact .int b
  | .str b, v, x, h, e => by
    simp only [pd, Option.some.injEq] at e
    subst e
    rw [den_str h]
    exact .str b
  | .tup ds, v, x, h, e => by
    simp only [pd] at e
    obtain ⟨a, vs, rfl, h1, h2⟩ := den_tup h
    cases k : pdL ds with
    | none => rw [k] at e; cases e
    | some xs =>
      rw [k] at e
      cases e
      exact .tup h1 (pdL_dp ds vs xs h2 k)
  | .lst ds, v, x, h, e => by
    simp only [pd] at e
    obtain ⟨a, vs, rfl, h1, h2⟩ := den_lst h
    cases k : pdL ds with
    | none => rw [k] at e; cases e
    | some xs =>
      rw [k] at e
      cases e
      exact .lst (.inl (.inl h1)) (pdL_dp ds vs xs h2 k)
  | .rls ds, v, x, h, e => by
    simp only [pd] at e
    simp only [Den] at h
    obtain ⟨a, vs, rfl, h1, h2⟩ := h
    cases k : pdL ds with
    | none => rw [k] at e; cases e
    | some xs =>
      rw [k] at e
      cases e
      exact .lst h1 (pdL_dp ds vs xs h2 k)
  | .dct _ _, _, _, _, e => by simp only [pd] at e; cases e
  | .ty _, _, _, _, e => by simp only [pd] at e; cases e
theorem pdL_dp {H : Hp} : ∀ (ds : List D) (vs : List V) (xs : List PyData), DenL K H ds vs → pdL ds = some xs → DpAll K H vs xs
  | [], vs, xs, h, e => by
    simp only [pdL, Option.some.injEq] at e
    simp only [DenL] at h
    subst e h
    exact .nil
  | d :: ds, vs, xs, h, e => by
    simp only [pdL] at e
    simp only [DenL] at h
    obtain ⟨v, r, rfl, h1, h2⟩ := h
    cases k : pd d with
    | none => rw [k] at e; cases e
    | some x =>
      rw [k, Option.bind_some] at e
      cases k2 : pdL ds with
      | none => rw [k2] at e; cases e
      | some ys =>
        rw [k2] at e
        cases e
        exact .cons (pd_dp d v x h1 k) (pdL_dp ds r ys h2 k2)
end
def eqDeep (a b : D) : Option Bool := (pd a).bind fun x => (pd b).bind fun y => if SeqAt.shaped x = true ∧ SeqAt.shaped y = true then some (PyData.eqv x y) else none
def eqB : D → D → Option Bool
  | .int i, .int j => some (decide (i = j))
  | .str i, .str j => some (decide (i = j))
  | .bl i, .bl j => some (decide (i = j))
  | .non, .non => some true
  | a, b => eqDeep a b
def gEq (a b : D) : Option D := (eqB a b).map .bl
def gNe (a b : D) : Option D := (eqB a b).map fun k => .bl (!k)
def rEqA (K : PySem.W.Frag) : R2 := fun x y H Q => rEq x y H Q ∨ rEqD K x y H Q
def rNeA (K : PySem.W.Frag) : R2 := fun x y H Q => rNe x y H Q ∨ rNeD K x y H Q
theorem eqB_cases {a b : D} {k : Bool} (h : eqB a b = some k) : (∃ i j, a = .int i ∧ b = .int j ∧ k = decide (i = j)) ∨ (∃ i j, a = .str i ∧ b = .str j ∧ k = decide (i = j)) ∨ (∃ i j, a = .bl i ∧ b = .bl j ∧ k = decide (i = j)) ∨ (a = .non ∧ b = .non ∧ k = true) ∨ eqDeep a b = some k := by
  cases a <;> cases b <;> first
    | (simp only [eqB, Option.some.injEq] at h; exact .inl ⟨_, _, rfl, rfl, h.symm⟩)
    | (simp only [eqB, Option.some.injEq] at h; exact .inr (.inl ⟨_, _, rfl, rfl, h.symm⟩))
    | (simp only [eqB, Option.some.injEq] at h; exact .inr (.inr (.inl ⟨_, _, rfl, rfl, h.symm⟩)))
    | (simp only [eqB, Option.some.injEq] at h; exact .inr (.inr (.inr (.inl ⟨rfl, rfl, h.symm⟩))))
    | exact .inr (.inr (.inr (.inr h)))
theorem eqDeep_some {a b : D} {k : Bool} (h : eqDeep a b = some k) : ∃ x y, pd a = some x ∧ pd b = some y ∧ SeqAt.shaped x = true ∧ SeqAt.shaped y = true ∧ k = PyData.eqv x y := by
  unfold eqDeep at h
  cases ka : pd a with
  | none => rw [ka] at h; cases h
  | some x =>
    cases kb : pd b with
    | none => rw [ka, kb] at h; cases h
    | some y =>
      rw [ka, kb, Option.bind_some, Option.bind_some] at h
      by_cases c : SeqAt.shaped x = true ∧ SeqAt.shaped y = true
      · rw [if_pos c] at h
        cases h
        exact ⟨x, y, rfl, rfl, c.1, c.2, rfl⟩
      · rw [if_neg c] at h
        cases h
theorem op_eqA {X : Cx} (hu : X.A.units + 64 < cLine) : OpR X (compareOp .Eq) (rEqA X.K) := OpR.or op_eq (op_eqD hu)
theorem op_neA {X : Cx} (hu : X.A.units + 64 < cLine) : OpR X (compareOp .NotEq) (rNeA X.K) := OpR.or op_ne (op_neD hu)
theorem dec_v {α : Type} {f : α → V} (hf : ∀ a b, f a = f b → a = b) {i j : α} [DecidableEq α] : decide (f i = f j) = decide (i = j) := by
  by_cases h : i = j
  · subst h; simp
  · rw [decide_eq_false h, decide_eq_false fun z => h (hf _ _ z)]
theorem rb_eq : RB K (rEqA K) gEq := fun Hh H a b x y d Q s ha hb h q => by
  unfold gEq at h
  cases k : eqB a b with
  | none => rw [k] at h; cases h
  | some r =>
    rw [k] at h
    cases h
    have fl : Q (.bl r) H := flatQ (fun _ => by simp only [Den]) q
    rcases eqB_cases k with ⟨i, j, rfl, rfl, e⟩ | ⟨i, j, rfl, rfl, e⟩ | ⟨i, j, rfl, rfl, e⟩ | ⟨rfl, rfl, e⟩ | e
    · rw [den_int ha, den_int hb]
      refine .inl ⟨rfl, ?_⟩
      rw [dec_v (f := V.int) (fun _ _ z => V.int.inj z), ← e]
      exact fl
    · rw [den_str ha, den_str hb]
      refine .inl ⟨rfl, ?_⟩
      rw [dec_v (f := V.str) (fun _ _ z => V.str.inj z), ← e]
      exact fl
    · rw [den_bl ha, den_bl hb]
      refine .inl ⟨rfl, ?_⟩
      rw [dec_v (f := V.bl) (fun _ _ z => V.bl.inj z), ← e]
      exact fl
    · rw [den_non ha, den_non hb]
      refine .inl ⟨rfl, ?_⟩
      rw [decide_eq_true rfl, ← e]
      exact fl
    · obtain ⟨u, w, ku, kw, su, sw, e⟩ := eqDeep_some e
      refine .inr ⟨u, w, pd_dp _ _ _ (Den.mono s _ _ ha) ku, pd_dp _ _ _ (Den.mono s _ _ hb) kw, su, sw, ?_⟩
      rw [← e]
      exact fl
theorem rb_ne : RB K (rNeA K) gNe := fun Hh H a b x y d Q s ha hb h q => by
  unfold gNe at h
  cases k : eqB a b with
  | none => rw [k] at h; cases h
  | some r =>
    rw [k] at h
    cases h
    have fl : Q (.bl (!r)) H := flatQ (fun _ => by simp only [Den]) q
    rcases eqB_cases k with ⟨i, j, rfl, rfl, e⟩ | ⟨i, j, rfl, rfl, e⟩ | ⟨i, j, rfl, rfl, e⟩ | ⟨rfl, rfl, e⟩ | e
    · rw [den_int ha, den_int hb]
      refine .inl ⟨rfl, ?_⟩
      rw [dec_v (f := V.int) (fun _ _ z => V.int.inj z), ← e]
      exact fl
    · rw [den_str ha, den_str hb]
      refine .inl ⟨rfl, ?_⟩
      rw [dec_v (f := V.str) (fun _ _ z => V.str.inj z), ← e]
      exact fl
    · rw [den_bl ha, den_bl hb]
      refine .inl ⟨rfl, ?_⟩
      rw [dec_v (f := V.bl) (fun _ _ z => V.bl.inj z), ← e]
      exact fl
    · rw [den_non ha, den_non hb]
      refine .inl ⟨rfl, ?_⟩
      rw [decide_eq_true rfl, ← e]
      exact fl
    · obtain ⟨u, w, ku, kw, su, sw, e⟩ := eqDeep_some e
      refine .inr ⟨u, w, pd_dp _ _ _ (Den.mono s _ _ ha) ku, pd_dp _ _ _ (Den.mono s _ _ hb) kw, su, sw, ?_⟩
      rw [← e]
      exact fl
def non? : D → Bool
  | .non => true
  | _ => false
def gIsN : D → D → Option D
  | a, .non => some (.bl (non? a))
  | _, _ => none
def gNotN : D → D → Option D
  | a, .non => some (.bl (!non? a))
  | _, _ => none
theorem non_dec {H : Hp} {d : D} {v : V} (h : Den K H d v) : decide (v = .non) = non? d := by
  cases d with
  | non => rw [den_non h]; rfl
  | bl b => rw [den_bl h]; rfl
  | int b => rw [den_int h]; rfl
  | str b => rw [den_str h]; rfl
  | tup ds => obtain ⟨a, vs, rfl, _⟩ := den_tup h; rfl
  | lst ds => obtain ⟨a, vs, rfl, _⟩ := den_lst h; rfl
  | rls ds => simp only [Den] at h; obtain ⟨a, vs, rfl, _⟩ := h; rfl
  | dct ks ds => simp only [Den] at h; obtain ⟨a, vs, rfl, _⟩ := h; rfl
  | ty n => simp only [Den] at h; subst h; rfl
theorem rb_isN : RB K (fun x y H Q => y = .non ∧ Q (.bl (decide (x = .non))) H) gIsN := fun Hh H a b x y d Q s ha hb h q => by
  cases b with
  | non =>
    simp only [gIsN, Option.some.injEq] at h
    subst h
    refine ⟨den_non hb, ?_⟩
    rw [non_dec ha]
    exact flatQ (fun _ => by simp only [Den]) q
  | _ => simp only [gIsN] at h; cases h
theorem rb_notN : RB K (fun x y H Q => y = .non ∧ Q (.bl (!decide (x = .non))) H) gNotN := fun Hh H a b x y d Q s ha hb h q => by
  cases b with
  | non =>
    simp only [gNotN, Option.some.injEq] at h
    subst h
    refine ⟨den_non hb, ?_⟩
    rw [non_dec ha]
    exact flatQ (fun _ => by simp only [Den]) q
  | _ => simp only [gNotN] at h; cases h
/-! ### x[i] -/
def gIx : D → D → Option D
  | .tup ds, .int i => atI ds i
  | .lst ds, .int i => atI ds i
  | .rls ds, .int i => atI ds i
  | .str x, .int i => if x.length ≤ lim then (atI x.cps.toList i).map fun c => .str ⟨#[c]⟩ else none
  | _, _ => none
theorem atI_den {H : Hp} {ds : List D} {vs : List V} {i : Int} {d : D} (h : DenL K H ds vs) (e : atI ds i = some d) : ∃ v, atI vs i = some v ∧ Den K H d v := by
  unfold atI at e ⊢
  rw [← h.length]
  cases k : ixN ds.length i with
  | none => rw [k] at e; cases e
  | some j =>
    rw [k, Option.bind_some] at e
    obtain ⟨v, hv, dv⟩ := h.get e
    exact ⟨v, by rw [Option.bind_some]; exact hv, dv⟩
theorem rb_ix : RB K (rIx K) gIx := fun Hh H a b x y d Q s ha hb h q => by
  cases b with
  | int i =>
    cases a with
    | tup ds =>
      obtain ⟨p, vs, rfl, h1, h2⟩ := den_tup ha
      obtain ⟨v, hv, dv⟩ := atI_den h2 h
      exact .inr (.inl ⟨p, vs, i, v, rfl, den_int hb, Same.seqT s h1, hv, q v H (Same.refl _) (Fresh.flat dv)⟩)
    | lst ds =>
      obtain ⟨p, vs, rfl, h1, h2⟩ := den_lst ha
      obtain ⟨v, hv, dv⟩ := atI_den h2 h
      exact .inl ⟨p, vs, i, v, rfl, den_int hb, .inl (.inl (s _ _ h1)), hv, q v H (Same.refl _) (Fresh.flat dv)⟩
    | rls ds =>
      simp only [Den] at ha
      obtain ⟨p, vs, rfl, h1, h2⟩ := ha
      obtain ⟨v, hv, dv⟩ := atI_den h2 h
      exact .inl ⟨p, vs, i, v, rfl, den_int hb, s.seq h1, hv, q v H (Same.refl _) (Fresh.flat dv)⟩
    | str z =>
      simp only [gIx] at h
      by_cases c : z.length ≤ lim
      · rw [if_pos c] at h
        cases k : atI z.cps.toList i with
        | none => rw [k] at h; cases h
        | some w =>
          rw [k] at h
          cases h
          exact .inr (.inr ⟨z, i, w, den_str ha, den_int hb, by rw [← lim_eq]; exact c, k, flatQ (fun _ => by simp only [Den]) q⟩)
      · rw [if_neg c] at h; cases h
    | _ => cases h
  | _ => cases a <;> cases h
/-! ### built-ins -/
def fLen : List D → Option D
  | [.str x] => if x.length ≤ lim then some (.int x.length) else none
  | [.tup ds] => some (.int ds.length)
  | [.lst ds] => some (.int ds.length)
  | [.rls ds] => some (.int ds.length)
  | _ => none
def rLenA (K : PySem.W.Frag) : List V → Hp → VK → Prop := fun xs H Q => (∃ p ys, xs = [.ref p] ∧ (SqL K H p ys ∨ SqT K H p ys) ∧ Q (.int ys.length) H) ∨ ∃ z, xs = [.str z] ∧ z.length ≤ sizeLine ∧ Q (.int z.length) H
theorem call_lenA {X : Cx} : CallR X (.builtin "len") (rLenA X.K) := CallR.or call_len_seq call_len_str
theorem rc_len : RC K (rLenA K) fLen := fun Hh H ds vs d Q s h e q => by
  match ds, e with
  | [.str x], e =>
    simp only [fLen] at e
    by_cases c : x.length ≤ lim
    · rw [if_pos c] at e
      cases e
      obtain ⟨v, rfl, hv⟩ := den1 h
      rw [den_str hv]
      exact .inr ⟨x, rfl, by rw [← lim_eq]; exact c, flatQ (fun _ => by simp only [Den]) q⟩
    · rw [if_neg c] at e; cases e
  | [.tup es], e =>
    cases e
    obtain ⟨v, rfl, hv⟩ := den1 h
    obtain ⟨p, us, rfl, h1, h2⟩ := den_tup hv
    exact .inl ⟨p, us, rfl, .inr (Same.seqT s h1), flatQ (fun _ => by simp only [Den]; rw [h2.length]) q⟩
  | [.lst es], e =>
    cases e
    obtain ⟨v, rfl, hv⟩ := den1 h
    obtain ⟨p, us, rfl, h1, h2⟩ := den_lst hv
    exact .inl ⟨p, us, rfl, .inl (.inl (.inl (s _ _ h1))), flatQ (fun _ => by simp only [Den]; rw [h2.length]) q⟩
  | [.rls es], e =>
    cases e
    obtain ⟨v, rfl, hv⟩ := den1 h
    simp only [Den] at hv
    obtain ⟨p, us, rfl, h1, h2⟩ := hv
    exact .inl ⟨p, us, rfl, .inl (s.seq h1), flatQ (fun _ => by simp only [Den]; rw [h2.length]) q⟩
def fAbs : List D → Option D
  | [.int i] => some (.int (if i < 0 then -i else i))
  | _ => none
theorem rc_abs : RC K (fun xs H Q => ∃ i, xs = [.int i] ∧ Q (.int (if i < 0 then -i else i)) H) fAbs := fun Hh H ds vs d Q s h e q => by
  match ds, e with
  | [.int i], e =>
    cases e
    obtain ⟨v, rfl, hv⟩ := den1 h
    rw [den_int hv]
    exact ⟨i, rfl, flatQ (fun _ => by simp only [Den]) q⟩
def fMax2 : List D → Option D
  | [.int i, .int j] => some (.int (if j > i then j else i))
  | _ => none
def fMin2 : List D → Option D
  | [.int i, .int j] => some (.int (if j < i then j else i))
  | _ => none
theorem rc_max2 : RC K (fun xs H Q => ∃ i j, xs = [.int i, .int j] ∧ Q (.int (if j > i then j else i)) H) fMax2 := fun Hh H ds vs d Q s h e q => by
  match ds, e with
  | [.int i, .int j], e =>
    cases e
    obtain ⟨v, v', rfl, hv, hv'⟩ := den2 h
    rw [den_int hv, den_int hv']
    exact ⟨i, j, rfl, flatQ (fun _ => by simp only [Den]) q⟩
theorem rc_min2 : RC K (fun xs H Q => ∃ i j, xs = [.int i, .int j] ∧ Q (.int (if j < i then j else i)) H) fMin2 := fun Hh H ds vs d Q s h e q => by
  match ds, e with
  | [.int i, .int j], e =>
    cases e
    obtain ⟨v, v', rfl, hv, hv'⟩ := den2 h
    rw [den_int hv, den_int hv']
    exact ⟨i, j, rfl, flatQ (fun _ => by simp only [Den]) q⟩
def fInt : List D → Option D
  | [.int i] => some (.int i)
  | [.bl b] => some (.int (if b then 1 else 0))
  | _ => none
theorem rc_int : RC K (fun xs H Q => (∃ i, xs = [.int i] ∧ Q (.int i) H) ∨ ∃ k, xs = [.bl k] ∧ Q (.int (if k then 1 else 0)) H) fInt := fun Hh H ds vs d Q s h e q => by
  match ds, e with
  | [.int i], e =>
    cases e
    obtain ⟨v, rfl, hv⟩ := den1 h
    rw [den_int hv]
    exact .inl ⟨i, rfl, flatQ (fun _ => by simp only [Den]) q⟩
  | [.bl i], e =>
    cases e
    obtain ⟨v, rfl, hv⟩ := den1 h
    rw [den_bl hv]
    exact .inr ⟨i, rfl, flatQ (fun _ => by simp only [Den]) q⟩
def bls : List D → Option (List Bool)
  | [] => some []
  | .bl b :: ds => (bls ds).map (b :: ·)
  | _ :: _ => none
theorem bls_some {H : Hp} : ∀ {ds : List D} {bs : List Bool} {vs : List V}, bls ds = some bs → DenL K H ds vs → vs = bs.map V.bl
  | [], bs, vs, h, e => by simp only [bls, Option.some.injEq] at h; subst h; simp only [DenL] at e; exact e
  | d :: ds, bs, vs, h, e => by
    cases d with
    | bl b =>
      simp only [bls] at h
      simp only [DenL] at e
      obtain ⟨v, r, rfl, h1, h2⟩ := e
      cases k : bls ds with
      | none => rw [k] at h; cases h
      | some cs =>
        rw [k] at h
        cases h
        rw [den_bl h1, bls_some k h2]
        rfl
    | _ => cases h
def fAll : List D → Option D
  | [.lst ds] => (bls ds).map fun bs => .bl (bs.all id)
  | _ => none
theorem rc_all : RC K (rAll K) fAll := fun Hh H ds vs d Q s h e q => by
  match ds, e with
  | [.lst es], e =>
    simp only [fAll] at e
    cases k : bls es with
    | none => rw [k] at e; cases e
    | some bs =>
      rw [k] at e
      cases e
      obtain ⟨v, rfl, hv⟩ := den1 h
      obtain ⟨p, us, rfl, h1, h2⟩ := den_lst hv
      rw [bls_some k h2] at h1
      exact ⟨p, bs, rfl, .inl (.inl (s _ _ h1)), flatQ (fun _ => by simp only [Den]) q⟩
/-- isinstance(x, T) -/
def tyName : D → Option String
  | .non => some "NoneType"
  | .bl _ => some "bool"
  | .int _ => some "int"
  | .str _ => some "str"
  | .tup _ => some "tuple"
  | .lst _ => some "list"
  | .rls _ => some "list"
  | .dct _ _ => some "dict"
  | .ty _ => none
def isT (a b : String) : Option Bool := if a = "bool" ∧ b = "int" then some true else if ["int", "bool", "str", "tuple", "list", "dict"].contains b then some (decide (a = b)) else none
def fIs : List D → Option D
  | [d, .ty n] => (tyName d).bind fun a => (isT a n).map .bl
  | _ => none
theorem tyX {Hh H : Hp} {d : D} {v : V} {a : String} (s : Same Hh H) (h : Den K Hh d v) (e : tyName d = some a) : TyX K H v (.type a) := by
  cases d with
  | non => cases e; rw [den_non h]; exact .base .non
  | bl b => cases e; rw [den_bl h]; exact .base (.bl b)
  | int b => cases e; rw [den_int h]; exact .base (.int b)
  | str b => cases e; rw [den_str h]; exact .base (.str b)
  | tup ds =>
    cases e
    obtain ⟨p, vs, rfl, h1, _⟩ := den_tup h
    rcases Same.seqT s h1 with (h1 | ⟨o, h1⟩) | ⟨o, its, n, h1, h2, _⟩
    · exact .base (.tup h1)
    · exact .fTuple h1
    · exact .kTuple h1 h2
  | lst ds =>
    cases e
    obtain ⟨p, vs, rfl, h1, _⟩ := den_lst h
    exact .base (.lst (s _ _ h1))
  | rls ds =>
    cases e
    simp only [Den] at h
    obtain ⟨p, vs, rfl, h1, _⟩ := h
    rcases s.seq h1 with (h1 | ⟨o, h1⟩) | ⟨o, its, n, h1, h2, _⟩
    · exact .base (.lst h1)
    · exact .base (.frz h1)
    · exact .kList h1 h2
  | dct ks ds =>
    cases e
    simp only [Den] at h
    obtain ⟨p, vs, rfl, h1, _⟩ := h
    exact .base (.dK (s _ _ h1))
  | ty n => cases e
theorem isT_kit {a b : String} {r : Bool} (ha : a ∈ ["NoneType", "bool", "int", "str", "tuple", "list", "dict"]) (h : isT a b = some r) : kitB a b = some r := by
  have hb : b ∈ ["int", "bool", "str", "tuple", "list", "dict"] := by
    unfold isT at h
    by_cases c : a = "bool" ∧ b = "int"
    · rw [c.2]; decide
    · rw [if_neg c] at h
      by_cases c2 : ["int", "bool", "str", "tuple", "list", "dict"].contains b = true
      · exact List.contains_iff_mem.mp c2
      · rw [if_neg c2] at h; cases h
  have key : ∀ a ∈ ["NoneType", "bool", "int", "str", "tuple", "list", "dict"], ∀ b ∈ ["int", "bool", "str", "tuple", "list", "dict"], kitB a b = isT a b := by decide +kernel
  rw [key a ha b hb]
  exact h
theorem tyName_mem {d : D} {a : String} (e : tyName d = some a) : a ∈ ["NoneType", "bool", "int", "str", "tuple", "list", "dict"] := by
  cases d <;> simp only [tyName, Option.some.injEq] at e <;> first | (subst e; decide) | cases e
theorem rc_is : RC K (rIsi K) fIs := fun Hh H ds vs d Q s h e q => by
  match ds, e with
  | [x, .ty n], e =>
    simp only [fIs] at e
    cases k : tyName x with
    | none => rw [k] at e; cases e
    | some a =>
      rw [k, Option.bind_some] at e
      cases k2 : isT a n with
      | none => rw [k2] at e; cases e
      | some r =>
        rw [k2] at e
        cases e
        obtain ⟨v, v', rfl, hv, hv'⟩ := den2 h
        simp only [Den] at hv'
        subst hv'
        exact ⟨v, .ty n, .type a, .type n, r, rfl, .ty n, tyX s hv k, kit_ty (isT_kit (tyName_mem k) k2), flatQ (fun _ => by simp only [Den]) q⟩
end
section
variable {X : Cx} {W : WX} {pos : Pos}
theorem v_ty {x : Str} {n : String} (hg : Gl X x) (hm : X.mg x = none) (hv : bootBuiltins x = some (.type n) := by decide +kernel) (hn : x ≠ "__name__" := by decide) (hd : (x == ("__debug__" : Str)) = false := by decide) : PE X (.Name x pos) (rE X.K X.mg W (eC (.ty n))) :=
  v_const (pe_bltn hg hm hv (v := .ty n) rfl hn hd) fun _ => by simp only [Den]
theorem v_globI {x : Str} {i : Int} {u : Value} (hg : Gl X x) (hm : X.mg x = some u) (r : RelV (.int i) u) (hd : (x == ("__debug__" : Str)) = false := by decide) : PE X (.Name x pos) (rE X.K X.mg W (eC (.int i))) :=
  v_const (pe_glob hg hm r hd) fun _ => by simp only [Den]
theorem v_globS {x i : Str} {u : Value} (hg : Gl X x) (hm : X.mg x = some u) (r : RelV (.str i) u) (hd : (x == ("__debug__" : Str)) = false := by decide) : PE X (.Name x pos) (rE X.K X.mg W (eC (.str i))) :=
  v_const (pe_glob hg hm r hd) fun _ => by simp only [Den]
theorem v_blt {x : Str} {id : String} {r : List V → Hp → VK → Prop} {g : List D → Option D} {p : Pos} {a : Expr} {es : List Expr} {f : FA} (hr : RC X.K r g) (hc : CallR X (.builtin id) r) (hg : Gl X x) (hm : X.mg x = none) (ha : PA X (a :: es) (rA X.K X.mg W f)) (hv : bootBuiltins x = some (.builtin id) := by decide +kernel)
    (hn : x ≠ "__name__" := by decide) (hdb : (x == ("__debug__" : Str)) = false := by decide) (he : starEach (a :: es) X.env = (false, eval a X.env) :: starEach es X.env := by rfl) (hpl : (backTo pos (starEach es X.env)).any (·.1) = false := by rfl) :
    PE X (.Call (.Name x p) (a :: es) [] pos) (rE X.K X.mg W (eF g f)) := (pe_callB hc hg hm hv ha hn hdb he hpl).imp (rC_of hr)
theorem v_bty {x : Str} {T : String} {r : List V → Hp → VK → Prop} {g : List D → Option D} {p : Pos} {a : Expr} {es : List Expr} {f : FA} (hr : RC X.K r g) (hc : CallR X (.type T) r) (hg : Gl X x) (hm : X.mg x = none) (ha : PA X (a :: es) (rA X.K X.mg W f)) (hv : bootBuiltins x = some (.type T) := by decide +kernel)
    (hn : x ≠ "__name__" := by decide) (hdb : (x == ("__debug__" : Str)) = false := by decide) (he : starEach (a :: es) X.env = (false, eval a X.env) :: starEach es X.env := by rfl) (hpl : (backTo pos (starEach es X.env)).any (·.1) = false := by rfl) :
    PE X (.Call (.Name x p) (a :: es) [] pos) (rE X.K X.mg W (eF g f)) := (pe_callTy hc hg hm hv ha hn hdb he hpl).imp (rC_of hr)
end
end Mi
namespace Mi
open PySem PySem.Spec PyProof.Rows L2 RT
section
variable {prog : Program} {w : World} {A : Around} {E : Value → Shared → Prop} {s : Shared}
theorem ext_rev {R : Result → Shared → Prop} {it l S : Addr} {items : Array Value} {res : Value} {c₀ : Nat} (hh : A.handled = none) (hit : s.heap.IsRevIter it l ((items.size : Int) - 1)) (hl : s.heap.IsList l items) (hne : l ≠ it) (hn : items.size ≤ sizeLine)
    (hS : s.heap.get? S = some { cls := .type "list", data := .seq #[] c₀ }) (hSi : S ≠ it) (hSl : S ≠ l)
    (hR : ∀ h' tk acc' c', (∀ b o, b ≠ S → b ≠ it → s.heap.get? b = some o → h'.get? b = some o) → h'.get? S = some { cls := .type "list", dict := none, data := .seq acc' c', slots := #[] } →
      ItemsOf (fun i v => items[items.size - 1 - i]? = some v) acc' items.size → R (.ok (.ret res)) { s with heap := h', toks := tk }) :
    wpAny (model prog w) A.in1 (Builtin.List.listExtendWith (.ref S) (.ref it) res)
      (fun fin s' => match fin with | .done f => R (.ok f) s' | .again c' => c'.quiet = true ∧ codeAny (model prog w) A c' R s') (fun e s' => R (.error e) s') s := by
  have W := (Walks.listRev (prog := prog) (w := w) (A := A.in1) hh it l hne items).toS
  have hSf : S ∉ [it, l] := by simp only [List.mem_cons, List.not_mem_nil, or_false, not_or]; exact ⟨hSi, hSl⟩
  have hT : s.TypeIs (.ref it) "list_reverseiterator" := hit.typeIs
  have h1 : Builtin.List.listSameRef (.ref S) (.ref it) = false := by simp [Builtin.List.listSameRef, hSi]
  unfold Builtin.List.listExtendWith
  refine wpAny_bind (wpAny_typeOf hT ?_)
  rw [if_neg (by rw [h1]; decide)]
  refine wpAny_bind (wpAny_pyIter_revIter hit ?_)
  refine wpAny_bind (wpAny_holding ?_)
  unfold Builtin.List.listLengthHint
  refine wpAny_bind (wpAny_specialOf hT nolen_lri ?_)
  show wpAny _ A.in1 (specialOf (Value.ref it) (Str.ofString "__length_hint__") >>= _) _ _ _
  refine wpAny_bind (wpAny_specialOf hT hint_lri ?_)
  generalize hid : ("list_reverseiterator.__length_hint__" : String) = id0
  wp_delta
  rw [show splitId id0 = some ("list_reverseiterator", "__length_hint__") from by subst hid; decide +kernel]
  subst hid
  refine wpAny_bind (wpAny_isInstance (b := true) hT (by rw [isSubtype_type]; kernel_rfl) ?_)
  refine wpAny_pure ?_
  rw [if_neg (by decide)]
  have e0 : ((items.size : Nat) : Int) - 1 - ((0 : Nat) : Int) = (items.size : Int) - 1 := by omega
  refine wpAny_pure ⟨plainId_quiet F.plain_extend_loop _, codeAny_extend_loopS W hn S hSf res items.size 0 _ _ _ rfl (Nat.zero_le _) ⟨Nat.zero_le _, by rw [e0]; exact hit, hl⟩ hS (ItemsOf.nil _) fun s' acc' c' hm hS' hacc => ?_⟩
  rw [Moved.eq_with hm]
  refine hR s'.heap s'.toks acc' c' (fun b o hb hb' e => hm.heap b o (fun hmem => ?_) e) hS' hacc
  rcases List.mem_cons.mp hmem with e' | hmem
  · exact hb e'
  · exact hb' (List.mem_singleton.mp hmem)
theorem list_init_rev {R : Result → Shared → Prop} {it l S : Addr} {items : Array Value} (hh : A.handled = none) (hit : s.heap.IsRevIter it l ((items.size : Int) - 1)) (hl : s.heap.IsList l items) (hne : l ≠ it) (hn : items.size ≤ sizeLine)
    (hS : s.heap.get? S = some { cls := .type "list", data := .seq #[] }) (hSi : S ≠ it) (hSl : S ≠ l)
    (hR : ∀ h' tk acc' c', (∀ b o, b ≠ S → b ≠ it → s.heap.get? b = some o → h'.get? b = some o) → h'.get? S = some { cls := .type "list", dict := none, data := .seq acc' c', slots := #[] } →
      ItemsOf (fun i v => items[items.size - 1 - i]? = some v) acc' items.size → R (.ok (.ret .none)) { s with heap := h', toks := tk }) :
    wpAny (model prog w) A.in1 (Builtin.«list.__init__» ⟨[.ref S, .ref it], []⟩)
      (fun fin s' => match fin with | .done f => R (.ok f) s' | .again c' => c'.quiet = true ∧ codeAny (model prog w) A c' R s') (fun e s' => R (.error e) s') s := by
  show wpAny _ _ (do let old ← Builtin.List.listItems (.ref S); Builtin.List.listUpdate (.ref S) (fun _ => #[]); letGo old.toList.reverse; Builtin.List.listExtendWith (.ref S) (.ref it) .none) _ _ s
  refine wpAny_bind ?_
  unfold Builtin.List.listItems
  refine wpAny_bind (wpAny_seqItems hS rfl (wpAny_pure ?_))
  show wpAny _ _ (updateSeq S (fun _ => #[]) >>= fun _ => letGo (#[] : Array Value).toList.reverse >>= fun _ => Builtin.List.listExtendWith (.ref S) (.ref it) .none) _ _ s
  refine wpAny_bind (wpAny_updateSeq hS rfl ?_)
  have hS₂ := Heap.get?_update_self (Obj.mapSeq (fun _ => (#[] : Array Value))) hS rfl
  have oth : ∀ b o, b ≠ S → s.heap.get? b = some o → (s.heap.update S (Obj.mapSeq (fun _ => (#[] : Array Value)))).get? b = some o :=
    fun b o hb e => (Heap.get?_update_other _ _ (Ne.symm hb)).trans e
  refine wpAny_bind (wpAny_letGo ?_)
  obtain ⟨ol, hol, hcl, nl, hdl⟩ := hl
  refine ext_rev (s := { s with heap := s.heap.update S (Obj.mapSeq (fun _ => (#[] : Array Value))) }) hh (hit.at fun o e => oth it o (Ne.symm hSi) e) ⟨ol, oth l ol (Ne.symm hSl) hol, hcl, nl, hdl⟩ hne hn hS₂ hSi hSl fun h' tk acc' c' hk hS' hacc => ?_
  exact hR h' tk acc' c' (fun b o hb hb' e => hk b o hb hb' (oth b o hb e)) hS' hacc
theorem call_list_rev {it l : Addr} {items : Array Value} {Q : Value → Shared → Prop} (hh : A.handled = none) (hit : s.heap.IsRevIter it l ((items.size : Int) - 1)) (hl : s.heap.IsList l items) (hne : l ≠ it) (hn : items.size ≤ sizeLine)
    (hQ : ∀ h' tk acc' c', (∀ b o, b ≠ it → s.heap.get? b = some o → h'.get? b = some o) → h'.get? s.heap.objs.size = some { cls := .type "list", dict := none, data := .seq acc' c', slots := #[] } →
      ItemsOf (fun i v => items[items.size - 1 - i]? = some v) acc' items.size → Q (.ref s.heap.objs.size) { s with heap := h', toks := tk }) :
    wpAny (model prog w) A (call (.type "list") [.ref it]) Q E s := by
  refine callType_codes (Q₁ := fun obj s₁ => obj = .ref s.heap.objs.size ∧ s₁ = { s with heap := s.heap.push { cls := .type "list", data := .seq #[] } }) F.called_list (F.typeCall_list_1 _) F.entry_list_init
    (code_list_new _ ⟨rfl, rfl⟩) fun obj s₁ h₁ => ?_
  obtain ⟨rfl, rfl⟩ := h₁
  have hS : (s.heap.push { cls := .type "list", data := .seq #[] }).get? s.heap.objs.size = some { cls := .type "list", data := .seq #[] } := Heap.get?_push_size _ rfl
  obtain ⟨oi, hoi, _⟩ := id hit
  obtain ⟨ol, hol, _⟩ := id hl
  refine ⟨⟨_, hS, rfl⟩, F.args_list_init_2 _ _, list_init_rev (A := A.in1) (s := { s with heap := s.heap.push { cls := .type "list", data := .seq #[] } }) hh (hit.at fun o e => Heap.get?_push_of_some _ e) (hl.push _) hne hn hS (Nat.ne_of_gt (Heap.lt_size hoi)) (Nat.ne_of_gt (Heap.lt_size hol)) fun h' tk acc' c' hk hS' hacc => ?_⟩
  exact ⟨rfl, hQ h' tk acc' c' (fun b o hb e => hk b o (Nat.ne_of_lt (Heap.lt_size e)) hb (Heap.get?_push_of_some _ e)) hS' hacc⟩
end
section
variable {X : Cx} {W : WX}
def tLstRev (K : PySem.W.Frag) (te : TE) : TE := fun σ H Q => te σ H fun v H1 => ∃ (a : Addr) (xs : List V), v = .ref a ∧ SqL K H1 a xs ∧ ∀ p, H1 p = none → Q (.ref p) (upd H1 p (.lst xs.reverse))
theorem pe_lstRev {e : Expr} {te : TE} {p p2 pos pos2 : Pos} (hc : X.calm = true) (hg : Gl X "list") (hm : X.mg "list" = none) (hg2 : Gl X "reversed") (hm2 : X.mg "reversed" = none) (he : PE X e te)
    (hs : starEach [e] X.env = (false, eval e X.env) :: starEach [] X.env := by rfl)
    (hs2 : starEach [.Call (.Name "reversed" p2) [e] [] pos2] X.env = (false, eval (.Call (.Name "reversed" p2) [e] [] pos2) X.env) :: starEach [] X.env := by rfl) :
    PE X (.Call (.Name "list" p) [.Call (.Name "reversed" p2) [e] [] pos2] [] pos) (tLstRev X.K te) := by
  refine ⟨fun pins s σ H Q I h => ?_⟩
  refine Call_ (ld_blt I hg hm boot_list (PyProof.Rows.callWith_type1 (args_cons (Call_ (ld_blt I hg2 hm2 PyProof.Rows.boot_reversed (PyProof.Rows.callWith_type1 (args_cons (thn (he.run pins s σ H _ I h) fun u s1 ⟨v, H1, I1, r1, q1⟩ => args_nil ?_) hs) hs rfl))) hs2) hs2 rfl))
  obtain ⟨a, xs, ev, hq, q⟩ := q1
  subst ev
  obtain rfl : u = Value.ref a := r1
  obtain ⟨its, rv, p', hz⟩ := I1.list hq
  refine call_reversed_list p'.isList (args_nil ?_)
  have k0 : ∀ b o, s1.heap.get? b = some o → (s1.heap.push (revObj a ((its.toArray.size : Int) - 1))).get? b = some o := fun b o e => Heap.get?_push_of_some _ e
  have I2 : Inv X pins σ H1 { s1 with heap := s1.heap.push (revObj a ((its.toArray.size : Int) - 1)) } := I1.kept (t' := s1.toks) k0
  obtain ⟨f0, f1, f2, f3, f4, f5⟩ := I1.fpOk (H' := H1) (b := s1.heap.objs.size) (Nat.le_refl _) (I1.hok.fresh (Nat.le_refl _))
  have hl := p'.isList
  obtain ⟨ol, hol, _⟩ := id hl
  have hne : a ≠ s1.heap.objs.size := Nat.ne_of_lt (Heap.lt_size hol)
  have hn : its.toArray.size ≤ sizeLine := by rw [List.size_toArray, ← rv.length]; exact hz
  refine call_list_rev (s := { s1 with heap := s1.heap.push (revObj a ((its.toArray.size : Int) - 1)) }) (I1.ok.hd hc) ⟨_, Heap.get?_push_size _ rfl, rfl, rfl⟩ (hl.push _) hne hn fun h' tk acc c' hk hS' hi => ?_
  have hf : ∀ b ∈ [s1.heap.objs.size], FpOk X pins H1 b := fun b hb => by
    rw [List.mem_singleton.mp hb]
    exact ⟨f0, f1, f2, f3, f4, f5⟩
  have hfr := I2.hok.fresh (Nat.le_refl _)
  have new : ObjOk X.prog X.w (upd H1 (s1.heap.push (revObj a ((its.toArray.size : Int) - 1))).objs.size (.lst xs.reverse)) h' (s1.heap.push (revObj a ((its.toArray.size : Int) - 1))).objs.size (.lst xs.reverse) :=
    ⟨by rw [List.length_reverse]; exact hz, acc.toList, c', vals_rev rv hi, by rw [Array.toArray_toList]; exact hS'⟩
  have I3 := I2.turnedNew (t' := tk) (ch := [s1.heap.objs.size]) (fun b o hb e => hk b o (fun z => hb (by rw [z]; exact List.mem_singleton.mpr rfl)) e) hf (Nat.le_refl _) new
  exact ⟨.ref _, _, I3, rfl, q _ hfr⟩
def gRevL (d : D) : Option (List D) := (lst? d).map List.reverse
def nU (g : D → Option (List D)) (fa : FE) : FA := fun e => (fa e).bind fun p => match g p.1 with
  | some d => .ok (d, p.2)
  | none => .err
theorem n_lstRev {e : Expr} {f : FE} {p p2 pos pos2 : Pos} (hc : X.calm = true) (hg : Gl X "list") (hm : X.mg "list" = none) (hg2 : Gl X "reversed") (hm2 : X.mg "reversed" = none) (he : PE X e (rE X.K X.mg W f))
    (hs : starEach [e] X.env = (false, eval e X.env) :: starEach [] X.env := by rfl)
    (hs2 : starEach [.Call (.Name "reversed" p2) [e] [] pos2] X.env = (false, eval (.Call (.Name "reversed" p2) [e] [] pos2) X.env) :: starEach [] X.env := by rfl) :
    PE X (.Call (.Name "list" p) [.Call (.Name "reversed" p2) [e] [] pos2] [] pos) (rN X.K X.mg W (nU gRevL f)) :=
  (pe_lstRev hc hg hm hg2 hm2 he hs hs2).imp fun σ H Q ⟨A, en, r, q⟩ => by
    refine rN_seq r q fun d e1 x H1 _ r1 s1 d1 p1 => ?_
    unfold gRevL at p1
    cases k : lst? d with
    | none => simp only [k, Option.map_none] at p1; exact p1.elim
    | some ds =>
      simp only [k, Option.map_some] at p1
      obtain ⟨a, vs, rfl, h1, h2⟩ := den_lst? d1 k
      exact ⟨a, vs, rfl, hid_sub.seq h1, fun t ht => finN r1 p1 ht (DenL.reverse h2)⟩
end
/-! ### op= -/
section
variable {X : Cx}
theorem ip_mulW : PIp X .Mult (L2.rI CMulX fun i j => .int (i * j)) := by
  intro pins s σ H x y v u Q I r1 r2 h
  obtain ⟨i, j, e1, e2, hc, q⟩ := h
  subst e1; subst e2
  obtain ⟨t, rfl⟩ := r1
  obtain ⟨t', rfl⟩ := r2
  exact PyProof.Rows.imul_int ⟨.int _, H, I.tok _, ⟨_, rfl⟩, q⟩ hc.ok
abbrev gAddI := gI T2 fun i j => .int (i + j)
theorem rb_ipadd {K : PySem.W.Frag} : RB K (ipI fun i j => i + j) gAddI := fun Hh H a b x y d Q s ha hb h q => by
  obtain ⟨i, j, rfl, rfl, _, rfl⟩ := gI_some h
  exact ⟨i, j, den_int ha, den_int hb, flatQ (fun _ => by simp only [Den]) q⟩
theorem rb_ipsub {K : PySem.W.Frag} : RB K (ipI fun i j => i - j) gSub := fun Hh H a b x y d Q s ha hb h q => by
  obtain ⟨i, j, rfl, rfl, _, rfl⟩ := gI_some h
  exact ⟨i, j, den_int ha, den_int hb, flatQ (fun _ => by simp only [Den]) q⟩
end
end Mi
namespace Mi
open PySem PySem.Spec PyProof.Rows L2

section
variable {X : Cx} {W : WX} {pos : Pos} {a b c : Expr} {fa fb fc : FE}
/-! ### a statement that is an expression -/
def sExp (f : FE) : FS := fun e => (f e).bind fun p => .ok (.nx p.2)
theorem vs_expr (ha : PE X a (rE X.K X.mg W fa)) (hs : swapsWith a none pos.line X.env = pure false := by rfl) : PS X (.Expr a pos) (rdS X.K X.mg W (sExp fa)) :=
  (ps_expr ha hs).imp fun D σ H ⟨A, e, r, p⟩ => by
    refine ⟨A, e, r, ?_⟩
    unfold sExp at p
    cases q : fa e with
    | ok z =>
      rw [q] at p
      exact fun v H' r' s' d' => p σ H' r' s'
    | exc c e1 =>
      rw [q] at p
      exact fun H' r' => p σ H' r'
    | err => rw [q] at p; exact p
end
/-! ### // of great ints, by any divisor that is above a little below the other -/
theorem noPylong_near {x y : Int} (h : x.natAbs.log2 < 13500) : Builtin.divisionGoesByPylong x y = false := by
  show (decide ((if y == 0 then 0 else y.natAbs.log2 / 30 + 1) > 300) && decide ((if x == 0 then 0 else x.natAbs.log2 / 30 + 1) > (if y == 0 then 0 else y.natAbs.log2 / 30 + 1) + 150)) = false
  rw [Bool.and_eq_false_iff]
  by_cases c : (if y == 0 then 0 else y.natAbs.log2 / 30 + 1) > 300
  · refine .inr (decide_eq_false ?_)
    generalize (if y == 0 then 0 else y.natAbs.log2 / 30 + 1) = k at c
    have : (if (x == 0) = true then 0 else x.natAbs.log2 / 30 + 1) ≤ 450 := by
      split <;> omega
    omega
  · exact .inl (decide_eq_false c)
def CDivX (i j : Int) : Prop := 0 < j ∧ (j.natAbs.log2 < 9000 ∨ i.natAbs.log2 < 13500)
theorem noPyX {i j : Int} (h : CDivX i j) : Builtin.divisionGoesByPylong i j = false := h.2.elim PyProof.noPylong_of_log2 noPylong_near
theorem op_fdivX {X : Cx} : OpR X (binaryOp .FloorDiv) (L2.rI CDivX fun i j => .int (i / j)) := opI fun i j _ _ _ _ _ hc q => by
  have h1 : (0 : Int) < j := hc.1
  exact floordiv_int (by omega) (by rw [Int.fdiv_eq_ediv_of_nonneg i (by omega)]; exact q) (.inl (noPyX hc))
def divXOk (i j : Int) : Bool := decide (0 < j) && (decide (j.natAbs.log2 < 9000) || decide (i.natAbs.log2 < 13500))
theorem divXOk_iff {i j : Int} : divXOk i j = true ↔ CDivX i j := by
  unfold divXOk CDivX
  rw [Bool.and_eq_true, Bool.or_eq_true, decide_eq_true_iff, decide_eq_true_iff, decide_eq_true_iff]
abbrev gDivX := gI divXOk fun i j => .int (i / j)
theorem rb_divX {K : PySem.W.Frag} : RB K (L2.rI CDivX fun i j => .int (i / j)) gDivX := rb_I (fun i j h => divXOk_iff.1 h) fun _ _ _ => by simp only [Den]
theorem _root_.L2.Room.hu {k : Nat} {A : Around} (r : Room k A) : A.units + 64 < cLine := by have := r.un; omega
/-- turns enough for any while -/
def fuelN : Nat := 1099511627776
/-! ### where a def stands, a call of it -/
def DefA (K : PySem.W.Frag) (mg : Str → Option Value) (x : Str) (st : Stmt) (ps : List Str) : Prop :=
  ∃ (f : Addr) (fd : FuncData), Fun K x x st f fd ∧ mg x = some (.ref f) ∧ PySem.W.keepIn K (.ref f) = true ∧ Binds K fd ps []
def CallA (P : Program) (w : World) (K : PySem.W.Frag) (mg : Str → Option Value) (base : Heap) (k : Nat) (x : Str) (n : Nat) (fr : Bool) (fn : List D → R D) : Prop :=
  ∃ (fa : Addr) (fd : FuncData) (ps : List Str), FnOk P w K mg base (L2.CX P w) k fa fd ps (spA K mg n fr fn) ∧ PySem.W.keepIn K (.ref fa) = true ∧ Binds K fd ps [] ∧ mg x = some (.ref fa)
def CallB (P : Program) (w : World) (K : PySem.W.Frag) (mg : Str → Option Value) (base : Heap) (k : Nat) (x : Str) (n : Nat) (fn : List Int → List D → R (D × List Int)) : Prop :=
  ∃ (fa : Addr) (fd : FuncData) (ps : List Str), FnOk P w K mg base (L2.CX P w) k fa fd ps (spB K n fn) ∧ PySem.W.keepIn K (.ref fa) = true ∧ Binds K fd ps [] ∧ mg x = some (.ref fa)
def ExcA (K : PySem.W.Frag) (mg : Str → Option Value) (x : Str) : Prop :=
  ∃ C : Addr, mg x = some (.ref C) ∧ PySem.W.excIn K C He.veBase "ValueError.__new__" = true ∧ PySem.W.keepIn K (.ref C) = true ∧ PySem.W.subIn K (.ref C) (.type "BaseException") = some true ∧ PySem.W.typeIn K (.ref C) = some (.type "type")
def IntA (mg : Str → Option Value) (x : Str) (i : Int) : Prop := ∃ t, mg x = some (.int i t)
section
variable {X : Cx} {W : WX} {pos p : Pos} {x : Str} {a : Expr} {es : List Expr} {f : FA} {k n : Nat}
theorem v_callU {fr : Bool} {fn : List D → R D} (h : CallA X.prog X.w X.K X.mg X.base k x n fr fn) (hr : Room k X.A) (tk : Takes X W) (hg : Gl X x) (ha : PA X (a :: es) (rA X.K X.mg W f)) (hdb : (x == ("__debug__" : Str)) = false := by decide)
    (he : starEach (a :: es) X.env = (false, eval a X.env) :: starEach es X.env := by rfl) (hpl : (backTo pos (starEach es X.env)).any (·.1) = false := by rfl) : PE X (.Call (.Name x p) (a :: es) [] pos) (rE X.K X.mg W (eCall n fn f)) := by
  obtain ⟨fa, fd, ps, F, hk, hb, hm⟩ := h
  exact v_call F hr tk hk hb hm hg ha hdb he hpl
theorem n_callU {fn : List D → R D} (h : CallA X.prog X.w X.K X.mg X.base k x n true fn) (hr : Room k X.A) (tk : Takes X W) (hg : Gl X x) (ha : PA X (a :: es) (rA X.K X.mg W f)) (hdb : (x == ("__debug__" : Str)) = false := by decide)
    (he : starEach (a :: es) X.env = (false, eval a X.env) :: starEach es X.env := by rfl) (hpl : (backTo pos (starEach es X.env)).any (·.1) = false := by rfl) : PE X (.Call (.Name x p) (a :: es) [] pos) (rN X.K X.mg W (nCall n fn f)) := by
  obtain ⟨fa, fd, ps, F, hk, hb, hm⟩ := h
  exact n_call F hr tk hk hb hm hg ha hdb he hpl
theorem v_callBU (i : Nat) {y : Str} {py : Pos} {fn : List Int → List D → R (D × List Int)} (h : CallB X.prog X.w X.K X.mg X.base k x n fn) (hr : Room k X.A) (tk : Takes X W) (hg : Gl X x)
    (ha : PA X es (rA X.K X.mg W f)) (hN : X.N[i]? = some y := by rfl) (hv : Vis X.env.scope y := by first | exact Or.inl rfl | exact Or.inr (Or.inl rfl) | exact Or.inr (Or.inr rfl)) (hd : (y == ("__debug__" : Str)) = false := by decide) (hcd : (y == ("__classdict__" : Str)) = false := by decide)
    (hdb : (x == ("__debug__" : Str)) = false := by decide) (he : starEach (.Name y py :: es) X.env = (false, eval (.Name y py) X.env) :: starEach es X.env := by rfl) (hpl : (backTo pos (starEach es X.env)).any (·.1) = false := by rfl) :
    PE X (.Call (.Name x p) (.Name y py :: es) [] pos) (rE X.K X.mg W (eCallB n i fn f)) := by
  obtain ⟨fa, fd, ps, F, hk, hb, hm⟩ := h
  exact v_callB i F hr tk hk hb hm hg ha hN hv hd hcd hdb he hpl
theorem vs_raiseU {m : Str} {j : Nat} {p2 cp : Pos} (h : ExcA X.K X.mg x) (hc : X.calm = true) (tk : Takes X W) (hg : Gl X x) (hdb : (x == ("__debug__" : Str)) = false := by decide) :
    PS X (.Raise (some (.Call (.Name x p) [.Constant (.str m) j p2] [] cp)) none pos) (rdS X.K X.mg W (sRaise x)) := by
  obtain ⟨C, h1, h2, h3, h4, h5⟩ := h
  exact vs_raise hc tk PySem.F.excBase_ValueError h2 h1 h3 (raises_own h4 h5) hg hdb
theorem v_globIU {i : Int} (h : IntA X.mg x i) (hg : Gl X x) (hd : (x == ("__debug__" : Str)) = false := by decide) : PE X (.Name x pos) (rE X.K X.mg W (eC (.int i))) := by
  obtain ⟨t, h⟩ := h
  exact v_globI hg h ⟨t, rfl⟩ hd
end
end Mi
namespace Mi
open PySem PySem.Spec PyProof.Rows L2
/-! What the readings compute, one step each: for simp only [mi, mo, ..]. sSeq, whF, forF, nLc, eCallB, runA, runB are left out. -/
theorem mi0 : (∀ {α β : Type} (x : α) (f : α → R β), (R.ok x).bind f = f x) ∧
  (∀ {α β : Type} (c : Str) (e : En) (f : α → R β), (R.exc c e : R α).bind f = .exc c e) ∧
  (∀ (d : D) (e : En), eC d e = .ok (d, e)) ∧
  (∀ (i : Nat) (e : En), eV i e = match e[i]? with | some (.val d) => .ok (d, e) | some (.own ds) => .ok (.lst ds, e.set i (.val (.lst ds))) | _ => .err) ∧
  (∀ (g : D → D → Option D) (f h : FE) (e : En), eB g f h e = (f e).bind fun p => (h p.2).bind fun q => match g p.1 q.1 with | some d => .ok (d, q.2) | none => .err) ∧
  (∀ (g : D → Option D) (f : FE) (e : En), eU g f e = (f e).bind fun p => match g p.1 with | some d => .ok (d, p.2) | none => .err) ∧
  (∀ (e : En), aN e = .ok ([], e)) ∧
  (∀ (f : FE) (a : FA) (e : En), aC f a e = (f e).bind fun p => (a p.2).bind fun q => .ok (p.1 :: q.1, q.2)) ∧
  (∀ (a : FA) (e : En), eTup a e = (a e).bind fun p => if p.1.length ≤ lim then .ok (.tup p.1, p.2) else .err) ∧
  (∀ (a : FA) (e : En), eLst a e = (a e).bind fun p => if p.1.length ≤ lim then .ok (.lst p.1, p.2) else .err) ∧
  (∀ (g : List D → Option D) (a : FA) (e : En), eF g a e = (a e).bind fun p => match g p.1 with | some d => .ok (d, p.2) | none => .err) ∧
  (∀ (f h : FE) (e : En), eAnd f h e = (f e).bind fun p => match p.1 with | .bl true => h p.2 | .bl false => .ok (.bl false, p.2) | _ => .err) :=
  ⟨by intros; rfl, by intros; rfl, by intros; rfl, by intros; rfl, by intros; rfl, by intros; rfl, by intros; rfl, by intros; rfl, by intros; rfl, by intros; rfl, by intros; rfl, by intros; rfl⟩
theorem mi1 : (∀ (f h : FE) (e : En), eOr f h e = (f e).bind fun p => match p.1 with | .bl false => h p.2 | .bl true => .ok (.bl true, p.2) | _ => .err) ∧
  (∀ (f : FE) (e : En), eNot f e = (f e).bind fun p => match (match p.1 with | .bl b => some (D.bl (!b)) | _ => none) with | some d => .ok (d, p.2) | none => .err) ∧
  (∀ (k : FT) (f h : FE) (e : En), eIf k f h e = (k e).bind fun p => if p.1 = true then f p.2 else h p.2) ∧
  (∀ (f : FE) (e : En), tE f e = (f e).bind fun p => match truth p.1 with | some k => .ok (k, p.2) | none => .err) ∧
  (∀ (f : FE) (e : En), tC1 f e = (f e).bind fun p => match bl? p.1 with | some k => .ok (k, p.2) | none => .err) ∧
  (∀ (b : Bool), bl? (.bl b) = some b) ∧
  (∀ (b : Bool), truth (.bl b) = some b) ∧
  (∀ (b : Int), truth (.int b) = some (b != 0)) ∧
  (∀ (k l : FT) (e : En), tAnd1 k l e = (k e).bind fun p => if p.1 = true then l p.2 else .ok (false, p.2)) ∧
  (∀ (k l : FT) (e : En), tOr1 k l e = (k e).bind fun p => if p.1 = true then .ok (true, p.2) else l p.2) ∧
  (∀ (k : FT) (e : En), tNot1 k e = (k e).bind fun p => .ok (!p.1, p.2)) ∧
  (∀ (g g' : D → D → Option D) (fa fb fc : FE) (e : En), eCh g g' fa fb fc e = (fa e).bind fun p => (fb p.2).bind fun q => match (g p.1 q.1).bind bl? with | some true => ((fc q.2).bind fun s => match g' q.1 s.1 with | some d => .ok (d, s.2) | none => .err) | some false => .ok (.bl false, q.2) | none => .err) :=
  ⟨by intros; rfl, by intros; rfl, by intros; rfl, by intros; rfl, by intros; rfl, by intros; rfl, by intros; rfl, by intros; rfl, by intros; rfl, by intros; rfl, by intros; rfl, by intros; rfl⟩
theorem mi2 : (∀ (i : Nat) (d : D) (e : En), gN i d e = some (e.set i (.val d))) ∧
  (∀ (e : En), gsN [] e = some e) ∧
  (∀ (G : TD) (Gs : TDs) (d : D) (r : List D) (e : En), gsC G Gs (d :: r) e = (G d e).bind (Gs r)) ∧
  (∀ (n : Nat) (Gs : TDs) (ds : List D) (e : En), gT n Gs (.tup ds) e = if ds.length = n then Gs ds e else none) ∧
  (∀ (e : En), sNx e = .ok (.nx e)) ∧
  (∀ (e : En), sBk e = .ok (.bk e)) ∧
  (∀ (e : En), sCt e = .ok (.ct e)) ∧
  (∀ (e : En), sErr e = .err) ∧
  (∀ (f : FE) (e : En), sRet f e = (f e).bind fun p => .ok (.rt p.1 p.2)) ∧
  (∀ (k : FT) (S U : FS) (e : En), sIf k S U e = (k e).bind fun p => if p.1 = true then S p.2 else U p.2) ∧
  (∀ (i : Nat) (f : FE) (e : En), sSet i f e = (f e).bind fun p => .ok (.nx (p.2.set i (.val p.1)))) ∧
  (∀ (G : TD) (f : FE) (e : En), sAsg G f e = (f e).bind fun p => match G p.1 p.2 with | some e1 => .ok (.nx e1) | none => .err) :=
  ⟨by intros; rfl, by intros; rfl, by intros; rfl, by intros; rfl, by intros; rfl, by intros; rfl, by intros; rfl, by intros; rfl, by intros; rfl, by intros; rfl, by intros; rfl, by intros; rfl⟩
theorem mi3 : (∀ (a : FA) (e : En), eL a e = (a e).bind fun p => .ok (.lst p.1, p.2)) ∧
  (∀ (a : FA) (e : En), nLst a e = (a e).bind fun p => if p.1.length ≤ lim then .ok p else .err) ∧
  (∀ (a : FA) (e : En), sRetN a e = (a e).bind fun p => .ok (.rn p.1 p.2)) ∧
  (∀ (i : Nat) (a : FA) (e : En), sNew i a e = (a e).bind fun p => if i < p.2.length then .ok (.nx (p.2.set i (.own p.1))) else .err) ∧
  (∀ (e : En), bN e = .ok ([], e)) ∧
  (∀ (f : FE) (b : FB) (e : En), bV f b e = (f e).bind fun p => (b p.2).bind fun q => .ok (.v p.1 :: q.1, q.2)) ∧
  (∀ (f : FA) (b : FB) (e : En), bL f b e = (f e).bind fun p => (b p.2).bind fun q => .ok (.n p.1 :: q.1, q.2)) ∧
  (∀ (i j : Nat) (f : FB) (e : En), sPar [i, j] f e = match f e with | .ok p => if p.1.length = [i, j].length ∧ (∀ k ∈ [i, j], k < p.2.length) then .ok (.nx (setsE p.2 [i, j] p.1)) else .err | _ => .err) ∧
  (∀ (i j l : Nat) (f : FB) (e : En), sPar [i, j, l] f e = match f e with | .ok p => if p.1.length = [i, j, l].length ∧ (∀ k ∈ [i, j, l], k < p.2.length) then .ok (.nx (setsE p.2 [i, j, l] p.1)) else .err | _ => .err) ∧
  (∀ (i : Nat) (is : List Nat) (b : Bp) (bs : List Bp) (e : En), setsE e (i :: is) (b :: bs) = (setsE e is bs).set i b.sl) ∧
  (∀ (e : En), setsE e [] [] = e) ∧
  (∀ (d : D), (Bp.v d).sl = .val d) :=
  ⟨by intros; rfl, by intros; rfl, by intros; rfl, by intros; rfl, by intros; rfl, by intros; rfl, by intros; rfl, by intros; rfl, by intros; rfl, by intros; rfl, by intros; rfl, by intros; rfl⟩
theorem mi4 : (∀ (d : List D), (Bp.n d).sl = .own d) ∧
  (∀ (i : Nat) (f : FE) (e : En), sApp i f e = match e[i]? with | some (.own _) => (f e).bind (fun p => match p.2[i]? with | some (.own ds) => if ds.length < lim then .ok (.nx (p.2.set i (.own (ds ++ [p.1])))) else .err | _ => .err) | _ => .err) ∧
  (∀ (i : Nat) (g : List D → Option D) (e : En), ePeek i g e = match e[i]? with | some (.own ds) | some (.brw ds) => (match g ds with | some d => .ok (d, e) | none => .err) | _ => .err) ∧
  (∀ (ds : List D), lenOf ds = some (.int ds.length)) ∧
  (∀ (i : Nat) (g : D → D → Option D) (f : FE) (e : En), sAug i g f e = match e[i]? with | some (.val d0) => (f e).bind (fun p => match g d0 p.1 with | some d => .ok (.nx (p.2.set i (.val d))) | none => .err) | _ => .err) ∧
  (∀ (f : FE) (e : En), sExp f e = (f e).bind fun p => .ok (.nx p.2)) ∧
  (∀ (f : FE) (e : En), iL f e = (f e).bind fun p => match p.1 with | .lst ds => .ok (ds, p.2) | .rls ds => .ok (ds, p.2) | _ => .err) ∧
  (∀ (a : FA) (e : En), iR1 a e = (a e).bind fun p => match rn1 p.1 with | some j => .ok (rangeD 0 j.toNat, p.2) | none => .err) ∧
  (∀ (a : FA) (e : En), iR2 a e = (a e).bind fun p => match rn2 p.1 with | some q => .ok (rangeD q.1 (q.2 - q.1).toNat, p.2) | none => .err) ∧
  (∀ (a : FA) (G : TD) (S : FS) (e : En), sFor a G S e = (a e).bind fun p => forF G S p.1 p.2) ∧
  (∀ (e : En), tYes1 e = .ok (true, e)) ∧
  (∀ (c : Str) (e : En), sRaise c e = .exc c e) :=
  ⟨by intros; rfl, by intros; rfl, by intros; rfl, by intros; rfl, by intros; rfl, by intros; rfl, by intros; rfl, by intros; rfl, by intros; rfl, by intros; rfl, by intros; rfl, by intros; rfl⟩
theorem mi5 : (∀ (n : Nat) (fn : List D → R D) (a : FA) (e : En), eCall n fn a e = (a e).bind fun p => if p.1.length = n then (match fn p.1 with | .ok d => .ok (d, p.2) | .exc c _ => .exc c p.2 | .err => .err) else .err) ∧
  (∀ (n : Nat) (fn : List D → R D) (a : FA) (e : En), nCall n fn a e = (a e).bind fun p => if p.1.length = n then (match fn p.1 with | .ok d => (match lstOf true d with | some ds => .ok (ds, p.2) | none => .err) | .exc c _ => .exc c p.2 | .err => .err) else .err) ∧
  (∀ (ds : List D), lstOf true (.lst ds) = some ds) ∧
  (∀ (g : D → Option (List D)) (f : FE) (e : En), nU g f e = (f e).bind fun p => match g p.1 with | some d => .ok (d, p.2) | none => .err) :=
  ⟨by intros; rfl, by intros; rfl, by intros; rfl, by intros; rfl⟩
theorem mo0 : (∀ (i j : Int), gAdd (.int i) (.int j) = some (.int (i + j))) ∧
  (∀ (i j : Int), gSub (.int i) (.int j) = some (.int (i - j))) ∧
  (∀ (i j : Int), gAddI (.int i) (.int j) = some (.int (i + j))) ∧
  (∀ (i j : Int), gMul (.int i) (.int j) = if mulOk i j = true then some (.int (i * j)) else none) ∧
  (∀ (i j : Int), gMulI (.int i) (.int j) = if mulOk i j = true then some (.int (i * j)) else none) ∧
  (∀ (i j : Int), gMod (.int i) (.int j) = if modOk i j = true then some (.int (i % j)) else none) ∧
  (∀ (i j : Int), gDivX (.int i) (.int j) = if divXOk i j = true then some (.int (i / j)) else none) ∧
  (∀ (i j : Int), gPow (.int i) (.int j) = if powOk i j = true then some (.int (i ^ j.toNat)) else none) ∧
  (∀ (i j : Int), gLt (.int i) (.int j) = some (.bl (decide (i < j)))) ∧
  (∀ (i j : Int), gLe (.int i) (.int j) = some (.bl (decide (i ≤ j)))) ∧
  (∀ (i j : Int), gGtI (.int i) (.int j) = some (.bl (decide (j < i)))) ∧
  (∀ (i j : Int), gGeI (.int i) (.int j) = some (.bl (decide (j ≤ i)))) :=
  ⟨by intros; rfl, by intros; rfl, by intros; rfl, by intros; rfl, by intros; rfl, by intros; rfl, by intros; rfl, by intros; rfl, by intros; rfl, by intros; rfl, by intros; rfl, by intros; rfl⟩
theorem mo1 : (∀ (i j : Int), gEq (.int i) (.int j) = some (.bl (decide (i = j)))) ∧
  (∀ (i j : Int), gNe (.int i) (.int j) = some (.bl (!decide (i = j)))) ∧
  (∀ (i j : Bool), gEq (.bl i) (.bl j) = some (.bl (decide (i = j)))) ∧
  (∀ (i j : Bool), gNe (.bl i) (.bl j) = some (.bl (!decide (i = j)))) ∧
  (∀ (i : Int), gNeg (.int i) = some (.int (-i))) ∧
  (∀ (a : D), gIsN a .non = some (.bl (non? a))) ∧
  (∀ (a : D), gNotN a .non = some (.bl (!non? a))) ∧
  (non? .non = true) ∧
  (∀ (i : Int), non? (.int i) = false) ∧
  (∀ (i : Bool), non? (.bl i) = false) ∧
  (∀ (i : List D), non? (.tup i) = false) ∧
  (∀ (i : List D), non? (.lst i) = false) :=
  ⟨by intros; rfl, by intros; rfl, by intros; rfl, by intros; rfl, by intros; rfl, by intros; rfl, by intros; rfl, by intros; rfl, by intros; rfl, by intros; rfl, by intros; rfl, by intros; rfl⟩
theorem mo2 : (∀ (ds : List D) (i : Int), gIx (.tup ds) (.int i) = atI ds i) ∧
  (∀ (ds : List D) (i : Int), gIx (.lst ds) (.int i) = atI ds i) ∧
  (∀ (ds : List D) (i : Int), gIx (.rls ds) (.int i) = atI ds i) ∧
  (∀ (ds : List D), fLen [.tup ds] = some (.int ds.length)) ∧
  (∀ (ds : List D), fLen [.lst ds] = some (.int ds.length)) ∧
  (∀ (ds : List D), fLen [.rls ds] = some (.int ds.length)) ∧
  (∀ (i : Int), fAbs [.int i] = some (.int (if i < 0 then -i else i))) ∧
  (∀ (i j : Int), fMax2 [.int i, .int j] = some (.int (if j > i then j else i))) :=
  ⟨by intros; rfl, by intros; rfl, by intros; rfl, by intros; rfl, by intros; rfl, by intros; rfl, by intros; rfl, by intros; rfl⟩
theorem mo3 : (∀ (i j : Int), fMin2 [.int i, .int j] = some (.int (if j < i then j else i))) ∧
  (∀ (i : Int), fInt [.int i] = some (.int i)) ∧
  (∀ (b : Bool), fInt [.bl b] = some (.int (if b then 1 else 0))) ∧
  (∀ (i : Int), rn1 [.int i] = if r62 i = true then some i else none) ∧
  (∀ (i j : Int), rn2 [.int i, .int j] = if r62 i = true ∧ r62 j = true then some (i, j) else none) ∧
  (∀ (ds : List D), gRevL (.lst ds) = some ds.reverse) :=
  ⟨by intros; rfl, by intros; rfl, by intros; rfl, by intros; rfl, by intros; rfl, by intros; rfl⟩
theorem mt0 : (fIs [.non, .ty "int"] = some (.bl false)) ∧
  (fIs [.non, .ty "bool"] = some (.bl false)) ∧
  (fIs [.non, .ty "str"] = some (.bl false)) ∧
  (fIs [.non, .ty "tuple"] = some (.bl false)) ∧
  (fIs [.non, .ty "list"] = some (.bl false)) ∧
  (fIs [.non, .ty "dict"] = some (.bl false)) ∧
  (∀ (b : Bool), fIs [(.bl b), .ty "int"] = some (.bl true)) ∧
  (∀ (b : Bool), fIs [(.bl b), .ty "bool"] = some (.bl true)) ∧
  (∀ (b : Bool), fIs [(.bl b), .ty "str"] = some (.bl false)) ∧
  (∀ (b : Bool), fIs [(.bl b), .ty "tuple"] = some (.bl false)) ∧
  (∀ (b : Bool), fIs [(.bl b), .ty "list"] = some (.bl false)) ∧
  (∀ (b : Bool), fIs [(.bl b), .ty "dict"] = some (.bl false)) ∧
  (∀ (i : Int), fIs [(.int i), .ty "int"] = some (.bl true)) ∧
  (∀ (i : Int), fIs [(.int i), .ty "bool"] = some (.bl false)) ∧
  (∀ (i : Int), fIs [(.int i), .ty "str"] = some (.bl false)) ∧
  (∀ (i : Int), fIs [(.int i), .ty "tuple"] = some (.bl false)) ∧
  (∀ (i : Int), fIs [(.int i), .ty "list"] = some (.bl false)) ∧
  (∀ (i : Int), fIs [(.int i), .ty "dict"] = some (.bl false)) ∧
  (∀ (s : Str), fIs [(.str s), .ty "int"] = some (.bl false)) ∧
  (∀ (s : Str), fIs [(.str s), .ty "bool"] = some (.bl false)) ∧
  (∀ (s : Str), fIs [(.str s), .ty "str"] = some (.bl true)) ∧
  (∀ (s : Str), fIs [(.str s), .ty "tuple"] = some (.bl false)) ∧
  (∀ (s : Str), fIs [(.str s), .ty "list"] = some (.bl false)) ∧
  (∀ (s : Str), fIs [(.str s), .ty "dict"] = some (.bl false)) ∧
  (∀ (ds : List D), fIs [(.tup ds), .ty "int"] = some (.bl false)) ∧
  (∀ (ds : List D), fIs [(.tup ds), .ty "bool"] = some (.bl false)) ∧
  (∀ (ds : List D), fIs [(.tup ds), .ty "str"] = some (.bl false)) ∧
  (∀ (ds : List D), fIs [(.tup ds), .ty "tuple"] = some (.bl true)) ∧
  (∀ (ds : List D), fIs [(.tup ds), .ty "list"] = some (.bl false)) ∧
  (∀ (ds : List D), fIs [(.tup ds), .ty "dict"] = some (.bl false)) ∧
  (∀ (ds : List D), fIs [(.lst ds), .ty "int"] = some (.bl false)) ∧
  (∀ (ds : List D), fIs [(.lst ds), .ty "bool"] = some (.bl false)) ∧
  (∀ (ds : List D), fIs [(.lst ds), .ty "str"] = some (.bl false)) ∧
  (∀ (ds : List D), fIs [(.lst ds), .ty "tuple"] = some (.bl false)) ∧
  (∀ (ds : List D), fIs [(.lst ds), .ty "list"] = some (.bl true)) ∧
  (∀ (ds : List D), fIs [(.lst ds), .ty "dict"] = some (.bl false)) :=
  ⟨by intros; rfl, by intros; rfl, by intros; rfl, by intros; rfl, by intros; rfl, by intros; rfl, by intros; rfl, by intros; rfl, by intros; rfl, by intros; rfl, by intros; rfl, by intros; rfl, by intros; rfl, by intros; rfl, by intros; rfl, by intros; rfl, by intros; rfl, by intros; rfl, by intros; rfl, by intros; rfl, by intros; rfl, by intros; rfl, by intros; rfl, by intros; rfl, by intros; rfl, by intros; rfl, by intros; rfl, by intros; rfl, by intros; rfl, by intros; rfl, by intros; rfl, by intros; rfl, by intros; rfl, by intros; rfl, by intros; rfl, by intros; rfl⟩
theorem mo9 : (∀ (a : D) (r : List D), atI (a :: r) 0 = some a) ∧ (∀ (a b : D) (r : List D), atI (a :: b :: r) 1 = some b) ∧ (∀ (a b c : D) (r : List D), atI (a :: b :: c :: r) 2 = some c) ∧ (∀ (a b c d : D) (r : List D), atI (a :: b :: c :: d :: r) 3 = some d) :=
  ⟨fun a r => atI_nat (j := 0) (xs := a :: r) rfl, fun a b r => atI_nat (j := 1) (xs := a :: b :: r) rfl, fun a b c r => atI_nat (j := 2) (xs := a :: b :: c :: r) rfl, fun a b c d r => atI_nat (j := 3) (xs := a :: b :: c :: d :: r) rfl⟩
theorem mo8 : (((0 : Nat) : Int) = 0) ∧ (((1 : Nat) : Int) = 1) ∧ (((2 : Nat) : Int) = 2) ∧ (((3 : Nat) : Int) = 3) ∧ (((4 : Nat) : Int) = 4) ∧ (((5 : Nat) : Int) = 5) ∧ (((6 : Nat) : Int) = 6) ∧ (((7 : Nat) : Int) = 7) ∧ (((8 : Nat) : Int) = 8) ∧ (((9 : Nat) : Int) = 9) ∧ (((10 : Nat) : Int) = 10) ∧ (((11 : Nat) : Int) = 11) ∧ (((12 : Nat) : Int) = 12) :=
  ⟨rfl, rfl, rfl, rfl, rfl, rfl, rfl, rfl, rfl, rfl, rfl, rfl, rfl⟩
theorem seq_ap (S U : FS) (e : En) : sSeq S U e = match S e with | .ok (.nx e1) => U e1 | r => r := rfl
theorem lim_v : lim = 16777216 := rfl
/-- a for over a range, by an invariant -/
theorem for_inv {G : TD} {b : FS} (I : Nat → En → Prop) : ∀ (ds : List D) (k : Nat) (e : En), I k e → (∀ j d e, ds[j]? = some d → I (k + j) e → ∃ e1 e2, G d e = some e1 ∧ b e1 = .ok (.nx e2) ∧ I (k + j + 1) e2) → ∃ e', forF G b ds e = .ok (.nx e') ∧ I (k + ds.length) e'
  | [], k, e, h, _ => ⟨e, rfl, h⟩
  | d :: ds, k, e, h, st => by
    obtain ⟨e1, e2, h1, h2, h3⟩ := st 0 d e rfl h
    obtain ⟨e', h4, h5⟩ := for_inv I ds (k + 1) e2 h3 fun j d' e' hd hi => by
      have := st (j + 1) d' e' (by simpa using hd) (by rw [show k + (j + 1) = k + 1 + j by omega]; exact hi)
      rw [show k + (j + 1) + 1 = k + 1 + j + 1 by omega] at this
      exact this
    refine ⟨e', ?_, by rw [List.length_cons, show k + (ds.length + 1) = k + 1 + ds.length by omega]; exact h5⟩
    unfold forF
    simp only [h1, h2]
    exact h4
theorem rangeD_get {lo : Int} {n j : Nat} {d : D} (h : (rangeD lo n)[j]? = some d) : d = .int (lo + j) ∧ j < n := by
  unfold rangeD at h
  rw [List.getElem?_map] at h
  by_cases c : j < n
  · rw [List.getElem?_range c] at h
    exact ⟨(Option.some.inj h).symm, c⟩
  · rw [List.getElem?_eq_none (by simpa using c)] at h
    cases h
theorem for_rng {G : TD} {b : FS} {lo : Int} {n : Nat} (I : Nat → En → Prop) {e : En} (h0 : I 0 e) (st : ∀ j e, j < n → I j e → ∃ e1 e2, G (.int (lo + j)) e = some e1 ∧ b e1 = .ok (.nx e2) ∧ I (j + 1) e2) : ∃ e', forF G b (rangeD lo n) e = .ok (.nx e') ∧ I n e' := by
  obtain ⟨e', h1, h2⟩ := for_inv I (rangeD lo n) 0 e h0 fun j d e hd hi => by
    obtain ⟨rfl, hj⟩ := rangeD_get hd
    rw [Nat.zero_add] at hi ⊢
    exact st j e hj hi
  rw [rangeD_length, Nat.zero_add] at h2
  exact ⟨e', h1, h2⟩
end Mi
namespace Mi
/-! statement after statement -/
def Go (S : FS) (e : En) (Q : En → Prop) : Prop := ∃ e', S e = .ok (.nx e') ∧ Q e'
def Rt (S : FS) (e : En) (d : D) : Prop := ∃ e', S e = .ok (.rt d e')
theorem Go.seq {S U : FS} {e : En} {Q : En → Prop} (h : Go S e fun e1 => Go U e1 Q) : Go (sSeq S U) e Q := by
  obtain ⟨e1, h1, e2, h2, q⟩ := h
  exact ⟨e2, by rw [seq_ap, h1]; exact h2, q⟩
theorem Go.of {S : FS} {e e' : En} {Q : En → Prop} (h : S e = .ok (.nx e')) (q : Q e') : Go S e Q := ⟨e', h, q⟩
theorem Go.nx {e : En} {Q : En → Prop} (q : Q e) : Go sNx e Q := ⟨e, rfl, q⟩
theorem Go.ifF {k : FT} {S U : FS} {e e1 : En} {Q : En → Prop} (h : k e = .ok (false, e1)) (q : Go U e1 Q) : Go (sIf k S U) e Q := by
  obtain ⟨e2, h2, q⟩ := q
  refine ⟨e2, ?_, q⟩
  show (k e).bind _ = _
  rw [h]
  exact h2
theorem Go.ifT {k : FT} {S U : FS} {e e1 : En} {Q : En → Prop} (h : k e = .ok (true, e1)) (q : Go S e1 Q) : Go (sIf k S U) e Q := by
  obtain ⟨e2, h2, q⟩ := q
  refine ⟨e2, ?_, q⟩
  show (k e).bind _ = _
  rw [h]
  exact h2
theorem Go.mono {S : FS} {e : En} {Q Q' : En → Prop} (h : Go S e Q) (i : ∀ e', Q e' → Q' e') : Go S e Q' := by
  obtain ⟨e', h, q⟩ := h
  exact ⟨e', h, i e' q⟩
theorem Rt.seq {S U : FS} {e : En} {d : D} (h : Go S e fun e1 => Rt U e1 d) : Rt (sSeq S U) e d := by
  obtain ⟨e1, h1, e2, h2⟩ := h
  exact ⟨e2, by rw [seq_ap, h1]; exact h2⟩
theorem Rt.of {S : FS} {e e' : En} {d : D} (h : S e = .ok (.rt d e')) : Rt S e d := ⟨e', h⟩
/-- a for over a range whose body always goes on -/
theorem Go.forR {G : TD} {b : FS} {lo : Int} {n : Nat} (I : Nat → En → Prop) {e : En} {Q : En → Prop} (h0 : I 0 e) (st : ∀ j e, j < n → I j e → ∃ e1, G (.int (lo + j)) e = some e1 ∧ Go b e1 (I (j + 1))) (q : ∀ e', I n e' → Q e') : ∃ e', forF G b (rangeD lo n) e = .ok (.nx e') ∧ Q e' := by
  obtain ⟨e', h1, h2⟩ := for_rng (G := G) (b := b) I h0 fun j e hj hi => by
    obtain ⟨e1, g, e2, h, i⟩ := st j e hj hi
    exact ⟨e1, e2, g, h, i⟩
  exact ⟨e', h1, q e' h2⟩
theorem par2 (i j n : Nat) : (∀ k ∈ [i, j], k < n) = (i < n ∧ j < n) := by simp
theorem par3 (i j l n : Nat) : (∀ k ∈ [i, j, l], k < n) = (i < n ∧ j < n ∧ l < n) := by simp
/-! pairs compared -/
theorem eqv_pair (i j i' j' : Int) : eqDeep (.tup [.int i, .int j]) (.tup [.int i', .int j']) = some (decide (i = i') && decide (j = j')) := by
  have s : ∀ a b : Int, PySem.SeqAt.shaped (.tuple [.int a, .int b]) = true := fun a b => by
    simp [PySem.SeqAt.shaped, PySem.PyData.canLay0, PySem.PyData.canLayAll0, PySem.PyData.depth, PySem.PyData.depthAll]
  unfold eqDeep
  simp only [pd, pdL, Option.bind_some, Option.map_some]
  rw [if_pos ⟨s _ _, s _ _⟩]
  simp only [PySem.PyData.eqv, PySem.PyData.eqvAll, Bool.and_true]
  rfl
theorem ne_pair (i j i' j' : Int) : gNe (.tup [.int i, .int j]) (.tup [.int i', .int j']) = some (.bl (!(decide (i = i') && decide (j = j')))) := by
  show ((eqDeep _ _).map _) = _
  rw [eqv_pair]
  rfl
theorem eq_pair (i j i' j' : Int) : gEq (.tup [.int i, .int j]) (.tup [.int i', .int j']) = some (.bl (decide (i = i') && decide (j = j'))) := by
  show ((eqDeep _ _).map _) = _
  rw [eqv_pair]
  rfl
end Mi
namespace Mi
open PySem PySem.Spec PyProof.Rows L2
/-! ### slices -/
abbrev FO := En → R (Option Int × En)
def oN : FO := fun e => .ok (none, e)
def oS (f : FE) : FO := fun e => (f e).bind fun p => match int? p.1 with
  | some i => .ok (some i, p.2)
  | none => .err
abbrev rO (K : PySem.W.Frag) (mg : Str → Option Value) (W : WX) (f : FO) : TO := rd K mg W (fun _ (a b : Option Int) => b = a) f
section
variable {X : Cx} {W : WX} {pos p2 : Pos} {a b c : Expr} {fa fb fc : FE} {lo hi : Option Expr} {fl fh : FO} {K : PySem.W.Frag}
theorem vo_none : PO X none (rO X.K X.mg W oN) := ⟨fun pins s σ H Q I ⟨A, e, r, p⟩ => po_none.run pins s σ H Q I (p none H r (Same.refl _) rfl)⟩
theorem vo_some (h : PE X a (rE X.K X.mg W fa)) : PO X (some a) (rO X.K X.mg W (oS fa)) := ⟨fun pins s σ H Q I ⟨A, e, r, p⟩ => (po_some h).run pins s σ H Q I (by
  refine rd_seq r p fun d e1 x H1 _ r1 s1 d1 p1 => ?_
  cases k : int? d with
  | none => simp only [k] at p1; exact p1.elim
  | some i =>
    simp only [k] at p1
    rw [int_some k] at d1
    exact ⟨i, den_int d1, p1 _ _ r1 (Same.refl _) rfl⟩)⟩
def eSl (g : D → Option Int → Option Int → Option D) (f : FE) (lo hi : FO) : FE := fun e => (f e).bind fun p => (lo p.2).bind fun q => (hi q.2).bind fun r => match g p.1 q.1 r.1 with
  | some d => .ok (d, r.2)
  | none => .err
def RSl (K : PySem.W.Frag) (r : V → Option Int → Option Int → Hp → VK → Prop) (g : D → Option Int → Option Int → Option D) : Prop :=
  ∀ (Hh H : Hp) (a : D) (lo hi : Option Int) (x : V) (d : D) (Q : VK), Same Hh H → Den K Hh a x → g a lo hi = some d → (∀ v H', Same H H' → Fresh K Hh H H' d v → Q v H') → r x lo hi H Q
theorem v_slice {r : V → Option Int → Option Int → Hp → VK → Prop} {g : D → Option Int → Option Int → Option D} (hg : RSl X.K r g) (hr : SlR X r) (ha : PE X a (rE X.K X.mg W fa)) (hl : PO X lo (rO X.K X.mg W fl)) (hh : PO X hi (rO X.K X.mg W fh)) :
    PE X (.Subscript a (.Slice lo hi none p2) pos) (rE X.K X.mg W (eSl g fa fl fh)) :=
  (pe_slice hr ha hl hh).imp fun σ H Q ⟨A, e, rp, p⟩ => by
    refine rd_seq rp p fun da e1 x H1 _ r1 s1 d1 p1 => rd_seq r1 p1 fun ol e2 l H2 _ r2 s2 d2 p2 => rd_seq r2 p2 fun oh e3 u H3 _ r3 s3 d3 p3 => ?_
    subst d2 d3
    cases k : g da l u with
    | none => simp only [k] at p3; exact p3.elim
    | some d =>
      simp only [k] at p3
      exact hg _ H3 da l u x d Q hid_sub (Den.mono (s2.trans s3) _ _ d1) k fun v H' s f => fin r3 p3 s f
def cutD (ds : List D) (lo hi : Option Int) : List D := (ds.drop (HT.sIx ds.length 0 lo)).take (HT.sIx ds.length ds.length hi - HT.sIx ds.length 0 lo)
def gSl : D → Option Int → Option Int → Option D
  | .lst ds, lo, hi => some (.lst (cutD ds lo hi))
  | .tup ds, lo, hi => some (.tup (cutD ds lo hi))
  | .str z, lo, hi => if z.length ≤ lim then some (.str (cutS z lo hi)) else none
  | _, _, _ => none
def rSlAll (K : PySem.W.Frag) : V → Option Int → Option Int → Hp → VK → Prop := fun x lo hi H Q => rSlL K x lo hi H Q ∨ (rSlA K x lo hi H Q ∨ rSlS x lo hi H Q)
theorem sl_all : SlR X (rSlAll X.K) := SlR.or sl_list (SlR.or sl_tupA sl_str)
theorem DenL.cut {H : Hp} {ds : List D} {vs : List V} {lo hi : Option Int} (h : DenL K H ds vs) : DenL K H (cutD ds lo hi) (cutV vs lo hi) := by
  unfold cutD cutV
  rw [h.length]
  exact DenL.take _ (DenL.drop _ h)
theorem rsl_all : RSl K (rSlAll K) gSl := fun Hh H a lo hi x d Q s ha h q => by
  cases a with
  | lst ds =>
    simp only [gSl, Option.some.injEq] at h
    subst h
    obtain ⟨p, vs, rfl, h1, h2⟩ := den_lst ha
    exact .inl ⟨p, vs, rfl, s.seq (.inl (.inl h1)), fun r hr => q _ _ (same_upd hr) (Fresh.lst hr h2.cut)⟩
  | tup ds =>
    simp only [gSl, Option.some.injEq] at h
    subst h
    obtain ⟨p, vs, rfl, h1, h2⟩ := den_tup ha
    refine .inr (.inl ⟨p, vs, rfl, Same.seqT s h1, fun e => ?_, fun e r hr => q _ _ (same_upd hr) (Fresh.tup hr h2.cut)⟩)
    have c : cutD ds lo hi = ds := by
      unfold cutD
      rw [h2.length, e.1, e.2, List.drop_zero, Nat.sub_zero, ← h2.length, List.take_length]
    rw [c] at q
    exact q _ _ (Same.refl _) (Fresh.flat ha)
  | str z =>
    simp only [gSl] at h
    by_cases c : z.length ≤ lim
    · rw [if_pos c] at h
      cases h
      exact .inr (.inr ⟨z, den_str ha, by rw [← lim_eq]; exact c, flatQ (fun _ => by simp only [Den]) q⟩)
    · rw [if_neg c] at h; cases h
  | _ => cases h
/-- a new list -/
def nSl (f : FE) (lo hi : FO) : FA := fun e => (f e).bind fun p => (lo p.2).bind fun q => (hi q.2).bind fun r => match p.1 with
  | .lst ds => .ok (cutD ds q.1 r.1, r.2)
  | _ => .err
theorem n_slice (ha : PE X a (rE X.K X.mg W fa)) (hl : PO X lo (rO X.K X.mg W fl)) (hh : PO X hi (rO X.K X.mg W fh)) :
    PE X (.Subscript a (.Slice lo hi none p2) pos) (rN X.K X.mg W (nSl fa fl fh)) :=
  (pe_slice sl_list ha hl hh).imp fun σ H Q ⟨A, e, rp, p⟩ => by
    refine rN_seq rp p fun da e1 x H1 _ r1 s1 d1 p1 => rN_seq r1 p1 fun ol e2 l H2 _ r2 s2 d2 p2 => rN_seq r2 p2 fun oh e3 u H3 _ r3 s3 d3 p3 => ?_
    subst d2 d3
    cases da with
    | lst ds =>
      obtain ⟨p, vs, rfl, h1, h2⟩ := den_lst (Den.mono (s2.trans s3) _ _ d1)
      exact ⟨p, vs, rfl, .inl (.inl (hid_sub _ _ h1)), fun r hr => finN r3 p3 hr h2.cut⟩
    | _ => exact p3.elim
/-! ### sorted -/
def srt (ns : List Int) : List Int := ns.mergeSort fun a b => decide (a ≤ b)
theorem srt_perm (ns : List Int) : (srt ns).Perm ns := List.mergeSort_perm ns _
theorem srt_le (ns : List Int) : (srt ns).Pairwise (· ≤ ·) := by
  have h := List.pairwise_mergeSort (le := fun a b : Int => decide (a ≤ b)) (fun a b c h1 h2 => by
    have := of_decide_eq_true h1; have := of_decide_eq_true h2; exact decide_eq_true (by omega)) (fun a b => by
    by_cases c : a ≤ b
    · simp [c]
    · simp [show b ≤ a by omega]) ns
  exact h.imp fun h => of_decide_eq_true h
theorem srt_of {ns ms : List Int} (p : ms.Perm ns) (h : ms.Pairwise (· ≤ ·)) : ms = srt ns := (p.trans (srt_perm ns).symm).eq_of_pairwise (fun x y _ _ h1 h2 => Int.le_antisymm h1 h2) h (srt_le ns)
theorem srt_self {ns : List Int} (h : ns.Pairwise (· ≤ ·)) : srt ns = ns := (srt_of (List.Perm.refl ns) h).symm
def fSort : List D → Option D
  | [.lst ds] => (intsOf ds).map fun ns => .lst ((srt ns).map D.int)
  | _ => none
theorem den_ints_back {H : Hp} {ns : List Int} {vs : List V} (h : DenL K H (ns.map D.int) vs) : vs = ns.map V.int := denL_ints.1 h
theorem rc_sort : RC K (rSortedI K) fSort := fun Hh H ds vs d Q s h e q => by
  match ds, e with
  | [.lst es], e =>
    simp only [fSort] at e
    cases k : intsOf es with
    | none => rw [k] at e; cases e
    | some ns =>
      rw [k] at e
      cases e
      rw [intsOf_some k] at h
      obtain ⟨v, rfl, hv⟩ := den1 h
      obtain ⟨p, us, rfl, h1, h2⟩ := den_lst hv
      rw [den_ints_back h2] at h1
      refine ⟨p, ns, rfl, s.seq (.inl (.inl h1)), fun ms r hp hl hr => ?_⟩
      rw [srt_of hp hl]
      exact q _ _ (same_upd hr) (Fresh.lst hr (denL_ints.2 rfl))
/-! ### is True, is False -/
def gIsB : D → D → Option D
  | .bl a, .bl b => some (.bl (decide (a = b)))
  | _, _ => none
def gNotB : D → D → Option D
  | .bl a, .bl b => some (.bl (!decide (a = b)))
  | _, _ => none
theorem rb_isB : RB K (fun x y H Q => ∃ a b, x = .bl a ∧ y = .bl b ∧ Q (.bl (decide (a = b))) H) gIsB := fun Hh H a b x y d Q s ha hb h q => by
  match a, b, h with
  | .bl i, .bl j, h =>
    cases h
    exact ⟨i, j, den_bl ha, den_bl hb, flatQ (fun _ => by simp only [Den]) q⟩
theorem rb_notB : RB K (fun x y H Q => ∃ a b, x = .bl a ∧ y = .bl b ∧ Q (.bl (!decide (a = b))) H) gNotB := fun Hh H a b x y d Q s ha hb h q => by
  match a, b, h with
  | .bl i, .bl j, h =>
    cases h
    exact ⟨i, j, den_bl ha, den_bl hb, flatQ (fun _ => by simp only [Den]) q⟩
end
end Mi
namespace Mi
open PySem PySem.Spec PyProof.Rows L2
section
variable {X : Cx} {W : WX} {pos : Pos} {a b c : Expr} {fa fb fc : FE}
/-! ### what is read of a held list -/
def heldE (e : En) (i : Nat) : Option (List D) := match e[i]? with
  | some (.own ds) => some ds
  | some (.brw ds) => some ds
  | _ => none
theorem heldE_rep {A : Act} {σ : L2.St} {e : En} {H : Hp} {i : Nat} {ds : List D} (r : Rep X.K A H σ e) (h : heldE e i = some ds) : ∃ a vs, σ[i]? = some (some (.ref a)) ∧ H a = some (.lst vs) ∧ DenL X.K (hid A σ e H) ds vs := by
  unfold heldE at h
  split at h
  · cases h
    obtain ⟨a, vs, k1, k2, k3, _⟩ := r.own i ds (by assumption)
    exact ⟨a, vs, k1, k2, k3⟩
  · cases h
    obtain ⟨a, vs, k1, k2, k3, _⟩ := r.brw i ds (by assumption)
    exact ⟨a, vs, k1, k2, k3⟩
  · cases h
theorem var_imp {K : PySem.W.Frag} {mg : Str → Option Value} {σ : L2.St} {H : Hp} {G : VK} {i : Nat} (h : rE K mg W (eV i) σ H G) : tVar i σ H G := by
  obtain ⟨A, e, r, p⟩ := h
  unfold eV at p
  cases h : e[i]? with
  | none => rw [h] at p; exact p.elim
  | some s =>
    rw [h] at p
    cases s with
    | un => exact p.elim
    | brw ds => exact p.elim
    | val d =>
      obtain ⟨v, h1, h2⟩ := r.val i d h
      exact ⟨v, h1, p v H r (Same.refl _) h2⟩
    | own ds =>
      obtain ⟨a, h1, h2, h3, h4⟩ := r.freeze h
      exact ⟨_, h1, p _ H h2 h3 h4⟩
/-- x[k], x held or a value -/
def ePkIx (i : Nat) (fb : FE) : FE := fun e => match heldE e i with
  | some _ => (fb e).bind fun q => match heldE q.2 i with
    | some ds => (match (int? q.1).bind (atI ds) with
      | some d => .ok (d, q.2)
      | none => .err)
    | none => .err
  | none => eB gIx (eV i) fb e
theorem v_ixHeld (i : Nat) {x : Str} {p1 : Pos} (hb : PE X b (rE X.K X.mg W fb)) (hN : X.N[i]? = some x := by rfl) (hv : Vis X.env.scope x := by first | exact Or.inl rfl | exact Or.inr (Or.inl rfl) | exact Or.inr (Or.inr rfl))
    (hd : (x == ("__debug__" : Str)) = false := by decide) (hcd : (x == ("__classdict__" : Str)) = false := by decide) (hs : PlainIx b := by exact fun _ _ => rfl) :
    PE X (.Subscript (.Name x p1) b pos) (rE X.K X.mg W (ePkIx i fb)) :=
  (pe_ix ix_seq (pe_var hN hv hd hcd) hb hs).imp fun σ H Q ⟨A, e, r, p⟩ => by
    unfold ePkIx at p
    cases h : heldE e i with
    | none =>
      rw [h] at p
      exact var_imp (rB_of rb_ix σ H Q ⟨A, e, r, p⟩)
    | some ds0 =>
      rw [h] at p
      obtain ⟨a, vs0, k1, _, _⟩ := heldE_rep r h
      refine ⟨.ref a, k1, rd_seq r p fun dj e1 y H1 _ r1 s1 d1 p1 => ?_⟩
      cases h1 : heldE e1 i with
      | none => simp only [h1] at p1; exact p1.elim
      | some ds =>
        simp only [h1] at p1
        obtain ⟨a', vs, k1', k2, k3⟩ := heldE_rep r1 h1
        rw [k1] at k1'
        cases k1'
        cases h2 : int? dj with
        | none => simp only [h2, Option.bind_none] at p1; exact p1.elim
        | some j =>
          simp only [h2, Option.bind_some] at p1
          cases h3 : atI ds j with
          | none => simp only [h3] at p1; exact p1.elim
          | some d =>
            simp only [h3] at p1
            obtain ⟨v, hv', dv⟩ := atI_den k3 h3
            rw [int_some h2] at d1
            exact .inl ⟨a, vs, j, v, rfl, den_int d1, .inl (.inl k2), hv', p1 v H1 r1 (Same.refl _) dv⟩
end
end Mi
namespace Mi
open PySem PySem.Spec PyProof.Rows L2
theorem mi6 : (∀ (g : D → Option Int → Option Int → Option D) (f : FE) (lo hi : FO) (e : En), eSl g f lo hi e = (f e).bind fun p => (lo p.2).bind fun q => (hi q.2).bind fun r => match g p.1 q.1 r.1 with | some d => .ok (d, r.2) | none => .err) ∧
  (∀ (e : En), oN e = .ok (none, e)) ∧
  (∀ (f : FE) (e : En), oS f e = (f e).bind fun p => match int? p.1 with | some i => .ok (some i, p.2) | none => .err) ∧
  (∀ (i : Int), int? (.int i) = some i) ∧
  (∀ (f : FE) (lo hi : FO) (e : En), nSl f lo hi e = (f e).bind fun p => (lo p.2).bind fun q => (hi q.2).bind fun r => match p.1 with | .lst ds => .ok (cutD ds q.1 r.1, r.2) | _ => .err) ∧
  (∀ (ds : List D) (lo hi : Option Int), gSl (.lst ds) lo hi = some (.lst (cutD ds lo hi))) ∧
  (∀ (ds : List D) (lo hi : Option Int), gSl (.tup ds) lo hi = some (.tup (cutD ds lo hi))) ∧
  (∀ (x : Str) (lo hi : Option Int), gSl (.str x) lo hi = if x.length ≤ lim then some (.str (cutS x lo hi)) else none) ∧
  (∀ (f : FA) (e : En), iZ f e = (f e).bind fun p => match zp2 p.1 with | some q => .ok (zipD q.1 q.2, p.2) | none => .err) ∧
  (∀ (a b : List D), zp2 [.lst a, .lst b] = some (a, b)) ∧
  (∀ (f : FE) (e : En), iT f e = (f e).bind fun p => match p.1 with | .tup ds => .ok (ds, p.2) | _ => .err) ∧
  (∀ (f : FE) (e : En), iS f e = (f e).bind fun p => match p.1 with | .str x => .ok (signs x, p.2) | _ => .err) :=
  ⟨by intros; rfl, by intros; rfl, by intros; rfl, by intros; rfl, by intros; rfl, by intros; rfl, by intros; rfl, by intros; rfl, by intros; rfl, by intros; rfl, by intros; rfl, by intros; rfl⟩
theorem mi7 : (∀ (i : Nat) (fb : FE) (e : En), ePkIx i fb e = match heldE e i with | some _ => ((fb e).bind fun q => match heldE q.2 i with | some ds => (match (int? q.1).bind (atI ds) with | some d => .ok (d, q.2) | none => .err) | none => .err) | none => eB gIx (eV i) fb e) ∧
  (∀ (e : En) (i : Nat), heldE e i = match e[i]? with | some (.own ds) => some ds | some (.brw ds) => some ds | _ => none) ∧
  (∀ (ds : List D), fSort [.lst ds] = (intsOf ds).map fun ns => .lst ((srt ns).map D.int)) ∧
  (∀ (a b : Bool), gIsB (.bl a) (.bl b) = some (.bl (decide (a = b)))) ∧
  (∀ (a b : Bool), gNotB (.bl a) (.bl b) = some (.bl (!decide (a = b)))) ∧
  (∀ (f : FA) (e : En), iEn f e = (f e).bind fun p => match en1 p.1 with | some as => .ok (enumD 0 as, p.2) | none => .err) ∧
  (∀ (a : List D), en1 [.lst a] = some a) ∧
  (∀ (g : D → D → Option (List D)) (f h : FE) (e : En), nB g f h e = (f e).bind fun p => (h p.2).bind fun q => match g p.1 q.1 with | some d => .ok (d, q.2) | none => .err) ∧
  (∀ (a b : List D), gAdd (.lst a) (.lst b) = if a.length + b.length ≤ lim then some (.lst (a ++ b)) else none) ∧
  (∀ (a b : List D), gAdd (.tup a) (.tup b) = if a.length + b.length ≤ lim then some (.tup (a ++ b)) else none) ∧
  (∀ (a b : Str), gAdd (.str a) (.str b) = if a.length + b.length ≤ lim then some (.str (a ++ b)) else none) ∧
  (∀ (ds : List D) (k : Int), gRep (.lst ds) (.int k) = if r62 k = true ∧ ds.length * k.toNat ≤ lim then some (List.replicate k.toNat ds).flatten else none) ∧
  (∀ (ds : List D) (k : Int), gMul (.lst ds) (.int k) = (gRep (.lst ds) (.int k)).map .lst) :=
  ⟨by intros; rfl, by intros; rfl, by intros; rfl, by intros; rfl, by intros; rfl, by intros; rfl, by intros; rfl, by intros; rfl, by intros; rfl, by intros; rfl, by intros; rfl, by intros; rfl, by intros; rfl⟩
theorem mi8 : (∀ (x : Str), non? (.str x) = false) ∧ (∀ (x : List D), non? (.rls x) = false) ∧
  (∀ (x y : Str), gEq (.str x) (.str y) = some (.bl (decide (x = y)))) ∧
  (∀ (x y : Str), gNe (.str x) (.str y) = some (.bl (!decide (x = y)))) :=
  ⟨by intros; rfl, by intros; rfl, by intros; rfl, by intros; rfl⟩
theorem cutD_from (ds : List D) (k : Nat) : cutD ds (some (k : Int)) none = ds.drop k := by
  unfold cutD
  rw [HT.sIx_nat, HT.sIx_none]
  by_cases h : k ≤ ds.length
  · rw [Nat.min_eq_left h]
    exact List.take_of_length_le (by rw [List.length_drop]; omega)
  · rw [Nat.min_eq_right (by omega), List.drop_of_length_le (by omega), List.drop_of_length_le (by omega), List.take_nil]
theorem cutD_to (ds : List D) (k : Nat) : cutD ds none (some (k : Int)) = ds.take k := by
  unfold cutD
  rw [HT.sIx_none, HT.sIx_nat, List.drop_zero, Nat.sub_zero]
  by_cases h : k ≤ ds.length
  · rw [Nat.min_eq_left h]
  · rw [Nat.min_eq_right (by omega), List.take_of_length_le (by omega), List.take_of_length_le (by omega)]
end Mi
namespace Mi
open PySem PySem.Spec PyProof.Rows L2
/-! ### try .. except -/
def noX : R Fl → R Fl
  | .exc _ _ => .err
  | r => r
def handleM (sub : Str → Str → Option Bool) : List (Str × FS) → Str → FS
  | [], c => fun e => .exc c e
  | (h, g) :: r, c => fun e => match sub c h with
    | some true => noX (g e)
    | some false => handleM sub r c e
    | none => .err
def sTry (sub : Str → Str → Option Bool) (g : FS) (hs : List (Str × FS)) : FS := fun e => match g e with
  | .exc c e1 => handleM sub hs c e1
  | r => r
/-- which class is below which -/
def SubOk (K : PySem.W.Frag) (mg : Str → Option Value) (sub : Str → Str → Option Bool) : Prop := ∀ c h b, sub c h = some b → ∃ u v, mg c = some u ∧ mg h = some v ∧ PySem.W.exmOne K u v = some b
inductive HsOk (X : Cx) : List ExceptHandler → List (Str × FS) → Prop
  | nil : HsOk X [] []
  | cons {x : Str} {g : FS} {b₀ : Stmt} {suite : List Stmt} {np pos' : Pos} {hds : List ExceptHandler} {l : List (Str × FS)} (hg : Gl X x) (hd : (x == ("__debug__" : Str)) = false) (hm : ∃ v, X.mg x = some v)
      (hsu : ∀ (a : Addr) (pn : List (Addr × Obj)), PSs (X.suite a pn) (b₀ :: suite) (rdS X.K X.mg W0 g)) (r : HsOk X hds l) :
      HsOk X (.ExceptHandler (some (.Name x np)) none (b₀ :: suite) pos' :: hds) ((x, g) :: l)
section
variable {X : Cx} {W : WX} {pos : Pos}
theorem PostS.noX {K : PySem.W.Frag} {mg : Str → Option Value} {D : Ends} {A : Act} {σ : L2.St} {e : En} {H : Hp} : ∀ {r : R Fl}, PostS K mg W D A σ e H (noX r) → PostS K mg W0 D A σ e H r
  | .ok (.nx _), h => h
  | .ok (.bk _), h => h
  | .ok (.ct _), h => h
  | .ok (.rt _ _), h => h
  | .ok (.rn _ _), h => h
  | .exc _ _, h => h.elim
  | .err, h => h
theorem HsOk.go {sub : Str → Str → Option Bool} (hsb : SubOk X.K X.mg sub) : ∀ {hds : List ExceptHandler} {l : List (Str × FS)}, HsOk X hds l → ∃ l' : List (Value × (Addr → Value → Option Addr → TS)), HdsOk X hds l' ∧
    ∀ (c : Str) (D : Ends) (A : Act) (σ σ' : L2.St) (e e' : En) (H H' : Hp), Rep X.K A H' σ' e' → Same (hid A σ e H) (hid A σ' e' H') → PostS X.K X.mg W D A σ e H (handleM sub l c e') → ∃ u, X.mg c = some u ∧ wMany X.K W D l' u none σ' H'
  | _, _, .nil => ⟨[], .nil, fun c D A σ σ' e e' H H' r s p => p σ' H' r s⟩
  | _, _, .cons (x := x) (g := g) hg hd hm hsu r => by
    obtain ⟨l', h1, h2⟩ := HsOk.go hsb r
    obtain ⟨v, hv⟩ := hm
    refine ⟨(v, fun _ _ _ => rdS X.K X.mg W0 g) :: l', .cons ⟨hg, hd, .inl hv⟩ (fun a oe cls d pn _ _ => hsu a _) h1, fun c D A σ σ' e e' H H' rp s p => ?_⟩
    unfold handleM at p
    cases k : sub c x with
    | none => rw [k] at p; exact p.elim
    | some b =>
      rw [k] at p
      obtain ⟨u, v', hu, hv', hx⟩ := hsb c x b k
      rw [hv] at hv'
      cases hv'
      refine ⟨u, hu, b, hx, fun hb a ha => ?_, fun hb => ?_⟩
      · subst hb
        exact ⟨A, e', rp, PostS.noX (PostS.shift s p)⟩
      · subst hb
        obtain ⟨u', hu', w⟩ := h2 c D A σ σ' e e' H H' rp s p
        rw [hu] at hu'
        cases hu'
        exact w
theorem vs_try {body : List Stmt} {h₀ : ExceptHandler} {hds : List ExceptHandler} {g : FS} {l : List (Str × FS)} {sub : Str → Str → Option Bool} (hsb : SubOk X.K X.mg sub) (hs : X.stack = X.env :: X.outer) (hf : X.env.frame = some X.env.locals) (tk : Takes X W)
    (hb : ∀ (W' : WX) (pn : List (Addr × Obj)) (xe : Value → Shared → Prop), Takes (X.tr pn xe) W' → PassesOwn (model X.prog X.w) X.A X.env xe → PSs (X.tr pn xe) body (rdS X.K X.mg W' g)) (hh : HsOk X (h₀ :: hds) l) :
    PS X (.Try body (h₀ :: hds) [] [] pos) (rdS X.K X.mg W (sTry sub g l)) := by
  obtain ⟨l', h1, h2⟩ := HsOk.go (W := W) hsb hh
  refine (ps_try_many (tb := fun W' => rdS X.K X.mg W' g) hs hf tk hb h1).imp fun D σ H ⟨A, e, r, p⟩ => ?_
  refine ⟨A, e, r, ?_⟩
  unfold sTry at p
  cases q : g e with
  | ok fl =>
    rw [q] at p
    cases fl <;> exact p
  | exc c e1 =>
    rw [q] at p
    exact fun σ' H' r' s' => h2 c D A σ σ' e e1 H H' r' s' p
  | err => rw [q] at p; exact p
/-! ### [f, g, ..][k](..) -/
inductive Fns (X : Cx) (k n : Nat) : List Expr → List (List D → R D) → Prop
  | nil : Fns X k n [] []
  | cons {x : Str} {p : Pos} {fn : List D → R D} {es : List Expr} {fns : List (List D → R D)} {j : Nat} (h : CallA X.prog X.w X.K X.mg X.base j x n false fn) (hj : j ≤ k) (hg : Gl X x) (hd : (x == ("__debug__" : Str)) = false) (hs : starEach (.Name x p :: es) X.env = (false, eval (.Name x p) X.env) :: starEach es X.env) (r : Fns X k n es fns) :
      Fns X k n (.Name x p :: es) (fn :: fns)
end
end Mi
namespace Mi
open PySem PySem.Spec PyProof.Rows L2
def eCallIx (n : Nat) (fns : List (List D → R D)) (fi : FE) (f : FA) : FE := fun e => (fi e).bind fun p => match (int? p.1).bind (atI fns) with
  | none => .err
  | some fn => (f p.2).bind fun q => if q.1.length = n then (match fn q.1 with
    | .ok d => .ok (d, q.2)
    | .exc c _ => .exc c q.2
    | .err => .err) else .err
section
variable {X : Cx} {W : WX} {pos lp sp : Pos} {a b : Expr} {es as : List Expr} {k n : Nat} {fns : List (List D → R D)} {fi : FE} {f : FA}
/-- what stands of one of the functions -/
def Fn1 (X : Cx) (k n : Nat) (fn : List D → R D) (fa : Addr) : Prop := ∃ (fd : FuncData) (ps : List Str) (j : Nat), FnOk X.prog X.w X.K X.mg X.base (L2.CX X.prog X.w) j fa fd ps (spA X.K X.mg n false fn) ∧ PySem.W.keepIn X.K (.ref fa) = true ∧ Binds X.K fd ps [] ∧ j ≤ k
theorem Fns.get : ∀ {es : List Expr} {fns : List (List D → R D)}, Fns X k n es fns → ∃ fas : List Addr, fas.length = fns.length ∧ PA X es (fun _ H Q => Q (fas.map V.ref) H) ∧ ∀ (i : Nat) (fn : List D → R D), fns[i]? = some fn → ∃ fa, fas[i]? = some fa ∧ Fn1 X k n fn fa
  | _, _, .nil => ⟨[], rfl, pa_nil, fun i fn h => by simp at h⟩
  | _, _, .cons (fn := fn) h hj hg hd hs r => by
    obtain ⟨fas, l, ha, hf⟩ := Fns.get r
    obtain ⟨fa, fd, ps, F, kp, b, m⟩ := h
    refine ⟨fa :: fas, by rw [List.length_cons, List.length_cons, l], ?_, fun i fn' hi => ?_⟩
    · exact (pa_cons (pe_glob (v := .ref fa) hg m rfl hd) ha hs).imp fun σ H Q q => q
    · cases i with
      | zero =>
        simp only [List.getElem?_cons_zero, Option.some.injEq] at hi
        subst hi
        exact ⟨fa, rfl, fd, ps, _, F, kp, b, hj⟩
      | succ i => exact hf i fn' (by simpa using hi)
theorem v_callIx (hF : Fns X k n es fns) (hr : Room k X.A) (tk : Takes X W) (hb : PE X b (rE X.K X.mg W fi)) (ha : PA X (a :: as) (rA X.K X.mg W f)) (hn : fns.length ≤ 16777216) (hs : PlainIx b := by exact fun _ _ => rfl)
    (he : starEach (a :: as) X.env = (false, eval a X.env) :: starEach as X.env := by rfl) (hpl : (backTo pos (starEach as X.env)).any (·.1) = false := by rfl) :
    PE X (.Call (.Subscript (.List es lp) b sp) (a :: as) [] pos) (rE X.K X.mg W (eCallIx n fns fi f)) := by
  obtain ⟨fas, hlen, hfa, hget⟩ := hF.get
  refine ⟨fun pins s σ H Q I h => ?_⟩
  obtain ⟨A, e, r, p⟩ := h
  have ev : eval (.Call (.Subscript (.List es lp) b sp) (a :: as) [] pos) X.env = (do callWith pos (← eval (.Subscript (.List es lp) b sp) X.env) [] (backTo pos (starEach (a :: as) X.env)) (backToKw pos (keywordEach [] X.env))) := rfl
  rw [ev]
  refine wpAny_bind ?_
  refine thn ((pe_ix ix_seq (pe_lst hfa) hb hs).run pins s σ H (fun v H2 => ∃ (fn : List D → R D) (fa : Addr), v = .ref fa ∧ Fn1 X k n fn fa ∧ rA X.K X.mg W f σ H2 fun vs H3 => spA X.K X.mg n false fn vs H3 Q (WE W σ)) I ?_) fun u s1 ⟨v, H1, I1, r1, q1⟩ => ?_
  · refine ⟨by rw [List.length_map, hlen, ← lim_eq]; exact hn, fun pp hp => ?_⟩
    have su := same_upd (o := .lst (fas.map V.ref)) hp
    refine rd_seq (r.grow su) (Post.shift (hid_same su) p) fun di e1 y H2 _ r2 s2 d2 p2 => ?_
    cases q : int? di with
    | none => simp only [q, Option.bind_none] at p2; exact p2.elim
    | some i =>
      simp only [q, Option.bind_some] at p2
      cases q2 : atI fns i with
      | none => simp only [q2] at p2; exact p2.elim
      | some fn =>
        simp only [q2] at p2
        rw [int_some q] at d2
        have at1 : ∃ j : Nat, ixN fns.length i = some j ∧ fns[j]? = some fn := by
          unfold atI at q2
          cases z : ixN fns.length i with
          | none => rw [z] at q2; cases q2
          | some j => rw [z] at q2; exact ⟨j, rfl, q2⟩
        obtain ⟨j, hj1, hj2⟩ := at1
        obtain ⟨fa, hfa1, hF1⟩ := hget j fn hj2
        have at2 : atI (fas.map V.ref) i = some (.ref fa) := by
          unfold atI
          rw [List.length_map, hlen, hj1, Option.bind_some, List.getElem?_map, hfa1]
          rfl
        have hl : H2 pp = some (.lst (fas.map V.ref)) := hid_sub _ _ (s2 _ _ (r.seen upd_same hp))
        refine .inl ⟨pp, _, i, _, rfl, den_int d2, .inl (.inl hl), at2, fn, fa, rfl, hF1, ?_⟩
        refine rd_seq r2 p2 fun ds e3 vs H3 _ r3 s3 d3 p3 => ?_
        by_cases hl : ds.length = n
        · rw [if_pos hl] at p3
          refine ⟨ds, hid A σ e3 H3, hid_sub, d3, hl, ?_⟩
          revert p3
          dsimp only
          cases fn ds with
          | ok d => exact fun p3 => CallP.of fun v H' s fr => fin r3 p3 s fr
          | exc c z => exact fun p3 H' s => p3 H' (r3.grow s) (hid_same s)
          | err => exact fun p3 => p3
        · rw [if_neg hl] at p3
          exact p3.elim
  · obtain ⟨fn, fa, rfl, ⟨fd, ps, j, F, hk, hbd, hj⟩, q⟩ := q1
    cases r1
    refine PySem.W.callWith_K (h₀ := X.base) I1.ok.mod.kin hk (thn (ha.run pos pins s1 σ _ _ I1 q) fun us s2 ⟨vs, H2, I2, r, q⟩ => ⟨I2.kIn, ?_⟩) he hpl
    refine run_fnSD (dvs := []) (ds := []) F (hr.mono hj) hbd .nil (E := fun σ => WE W σ) (passAt tk σ) I2 r ?_
    rw [List.append_nil]
    exact q
end
end Mi
namespace Mi
open PySem PySem.Spec PyProof.Rows L2
/-! ### except X as e: what is told of e's class -/
def ExA (K : PySem.W.Frag) (mg : Str → Option Value) (c : Str) : Prop := ∃ D : Addr, mg c = some (.ref D) ∧ ExcC K D
def KitA (K : PySem.W.Frag) (mg : Str → Option Value) (c h : Str) (b : Bool) : Prop := ∃ D C : Addr, mg c = some (.ref D) ∧ mg h = some (.ref C) ∧ PySem.W.kitOne K (.ref D) (.ref C) = some b
def sTryP (sub : Str → Str → Option Bool) (g : FS) (x : Str) (i : Nat) (pick : Str → Option Str) : FS := fun e => match g e with
  | .exc c e1 => (match sub c x with
    | some true => (match pick c with
      | some d => if i < e1.length then .ok (.rt (.str d) (e1.set i .un)) else .err
      | none => .err)
    | some false => .exc c e1
    | none => .err)
  | r => r
section
variable {X : Cx} {W : WX} {pos : Pos}
/-- what the suite is asked -/
def tsP (mg : Str → Option Value) (i : Nat) (pick : Str → Option Str) (a : Addr) (cls : Value) (d : Option Addr) : TS := fun D σ H => ∃ c s, mg c = some cls ∧ d = none ∧ pick c = some s ∧ σ[i]? = some (some (.ref a)) ∧ ∀ H', Same H H' → D.rt (.str s) H'
theorem vs_tryP {x n : Str} {i : Nat} {np pos' : Pos} {b₀ : Stmt} {suite : List Stmt} {body : List Stmt} {g : FS} {sub : Str → Str → Option Bool} {pick : Str → Option Str} (hsb : SubOk X.K X.mg sub) (hs : X.stack = X.env :: X.outer) (hf : X.env.frame = some X.env.locals) (hN : X.N.Nodup) (hi : X.N[i]? = some n) (hln : X.env.kindOf n = some .local) (hg : Gl X x) (hd : (x == ("__debug__" : Str)) = false) (hm : ∃ v, X.mg x = some v)
    (tk : Takes X W) (hb : ∀ (W' : WX) (pn : List (Addr × Obj)) (xe : Value → Shared → Prop), Takes (X.tr pn xe) W' → PassesOwn (model X.prog X.w) X.A X.env xe → PSs (X.tr pn xe) body (rdS X.K X.mg W' g))
    (hsu : ∀ (a : Addr) (oe : Obj) (cls : Value) (d : Option Addr) (pn : List (Addr × Obj)), Zc cls d oe → (∃ vs, oe.data = .fields vs) → PSs (X.suite a ((a, oe) :: pn)) (b₀ :: suite) (tsP X.mg i pick a cls d)) :
    PS X (.Try body [.ExceptHandler (some (.Name x np)) (some n) (b₀ :: suite) pos'] [] [] pos) (rdS X.K X.mg W (sTryP sub g x i pick)) := by
  obtain ⟨v, hv⟩ := hm
  refine (ps_try_as (tb := fun W' => rdS X.K X.mg W' g) (c := v) hs hf hN hi hln ⟨hg, hd, .inl hv⟩ tk hb hsu).imp fun D σ H ⟨A, e, r, p⟩ => ?_
  refine ⟨A, e, r, ?_⟩
  unfold sTryP at p
  cases q : g e with
  | ok fl =>
    rw [q] at p
    cases fl <;> exact p
  | err => rw [q] at p; exact p
  | exc c e1 =>
    rw [q] at p
    intro σ' H' r' s'
    cases k : sub c x with
    | none => simp only [k] at p; exact p.elim
    | some b =>
      obtain ⟨u, v', hu, hv', hx⟩ := hsb c x b k
      rw [hv] at hv'
      cases hv'
      refine ⟨u, hu, b, hx, fun hb a ha => ?_, fun hb => ?_⟩
      · subst hb
        simp only [k] at p
        cases k2 : pick c with
        | none => simp only [k2] at p; exact p.elim
        | some s =>
          simp only [k2] at p
          by_cases li' : i < e1.length
          case neg => rw [if_neg li'] at p; exact p.elim
          rw [if_pos li'] at p
          have li : i < σ'.length := by rw [r'.len]; exact li'
          have hh := r'.vals (σ' := σ'.set i (some (.ref a))) (e' := e1.set i .un) (by rw [List.length_set, List.length_set]; exact r'.len) (fun j s hj => by
            by_cases c : j = i
            · subst c
              rw [List.getElem?_set_self (by rw [← r'.len]; exact li)] at hj
              cases hj
              exact .inl rfl
            · rw [List.getElem?_set_ne (Ne.symm c)] at hj
              exact .inr (.inl ⟨hj, List.getElem?_set_ne (Ne.symm c)⟩))
          refine ⟨c, s, hu, rfl, k2, List.getElem?_set_self li, fun H2 s2 => ?_⟩
          refine p _ _ H2 (hh.1.grow s2) ((s'.trans hh.2).trans (hid_same s2)) ?_
          simp only [Den]
      · subst hb
        simp only [k] at p
        obtain ⟨u', hu', w⟩ := p σ' H' r' s'
        rw [hu] at hu'
        cases hu'
        exact w
/-- return [s0, s1][int(isinstance(e, C))] -/
def pickI (kit : Str → Option Bool) (s0 s1 : Str) : Str → Option Str := fun c => (kit c).map fun b => if b = true then s1 else s0
theorem vs_tryI {x n h : Str} {i : Nat} {np pos' lp ip sp p1 p2 cp cp2 sbp rp q0 q1 : Pos} {j0 j1 : Nat} {s0 s1 : Str} {body : List Stmt} {g : FS} {sub : Str → Str → Option Bool} {kit : Str → Option Bool} (hsb : SubOk X.K X.mg sub) (hk : ∀ c b, kit c = some b → KitA X.K X.mg c h b ∧ ExA X.K X.mg c)
    (hgi : Gl X "int") (hmi : X.mg "int" = none) (hgs : Gl X "isinstance") (hms : X.mg "isinstance" = none) (hgh : Gl X h) (hdh : (h == ("__debug__" : Str)) = false)
    (hs : X.stack = X.env :: X.outer) (hf : X.env.frame = some X.env.locals) (hN : X.N.Nodup) (hi : X.N[i]? = some n) (hln : X.env.kindOf n = some .local) (hv : Vis X.env.scope n) (hdn : (n == ("__debug__" : Str)) = false) (hcn : (n == ("__classdict__" : Str)) = false) (hg : Gl X x) (hd : (x == ("__debug__" : Str)) = false) (hm : ∃ v, X.mg x = some v)
    (tk : Takes X W) (hb : ∀ (W' : WX) (pn : List (Addr × Obj)) (xe : Value → Shared → Prop), Takes (X.tr pn xe) W' → PassesOwn (model X.prog X.w) X.A X.env xe → PSs (X.tr pn xe) body (rdS X.K X.mg W' g)) :
    PS X (.Try body [.ExceptHandler (some (.Name x np)) (some n) [.Return (some (.Subscript (.List [.Constant (.str s0) j0 q0, .Constant (.str s1) j1 q1] lp) (.Call (.Name "int" ip) [.Call (.Name "isinstance" sp) [.Name n p1, .Name h p2] [] cp] [] cp2) sbp)) rp] pos'] [] [] pos) (rdS X.K X.mg W (sTryP sub g x i (pickI kit s0 s1))) := by
  refine vs_tryP hsb hs hf hN hi hln hg hd hm tk hb fun a oe cls d pn hz hfl => ⟨fun pins s σ H D I hh => ?_⟩
  obtain ⟨c, s, hc, rfl, hp, hσ, hD⟩ := hh
  unfold pickI at hp
  cases k : kit c with
  | none => rw [k] at hp; cases hp
  | some b =>
    rw [k] at hp
    cases hp
    obtain ⟨⟨D1, C, h1, h2, h3⟩, D2, h4, h5⟩ := hk c b k
    rw [hc] at h1 h4
    cases h1
    cases h4
    have a1 := pa_cons (X := X.suite a ((a, oe) :: pn)) (pe_var (pos := p1) (i := i) hi hv hdn hcn) (pa_cons (X := X.suite a ((a, oe) :: pn)) (pe_glob (pos := p2) (v := .ref C) hgh h2 rfl hdh) (pa_nil (X := X.suite a ((a, oe) :: pn))))
    have a2 := pe_callB (X := X.suite a ((a, oe) :: pn)) (p := sp) (pos := cp) (call_isE h5 hz hfl) hgs hms (by decide +kernel) a1
    have a3 := pe_callTy (X := X.suite a ((a, oe) :: pn)) (p := ip) (pos := cp2) call_int1 hgi hmi (by decide +kernel) (pa_cons (X := X.suite a ((a, oe) :: pn)) a2 (pa_nil (X := X.suite a ((a, oe) :: pn))))
    have a4 := pe_lst (X := X.suite a ((a, oe) :: pn)) (pos := lp) (pa_cons (X := X.suite a ((a, oe) :: pn)) (pe_str (x := s0) (j := j0) (pos := q0)) (pa_cons (X := X.suite a ((a, oe) :: pn)) (pe_str (x := s1) (j := j1) (pos := q1)) (pa_nil (X := X.suite a ((a, oe) :: pn)))))
    have a5 := pss_one (X := X.suite a ((a, oe) :: pn)) (ps_ret (pos := rp) (pe_ix (X := X.suite a ((a, oe) :: pn)) (pos := sbp) ix_seq a4 a3 (fun _ _ => rfl)))
    refine a5.run pins s σ H D I ?_
    refine ⟨by show 2 ≤ _; rw [← lim_eq]; decide, fun p hp => ?_⟩
    refine ⟨.ref a, hσ, .ref C, .ref C, b, rfl, fun u r => r, h3, ?_⟩
    refine .inr ⟨b, rfl, .inl ⟨p, [.str s0, .str s1], if b = true then 1 else 0, .str (if b = true then s1 else s0), rfl, rfl, .inl (.inl upd_same), ?_, hD _ (same_upd hp)⟩⟩
    cases b <;> rfl
end
end Mi
namespace Mi
open PySem PySem.Spec PyProof.Rows L2
/-! ### a head that is asked one more thing -/
def obP (n : Nat) (fa : List He.Fa) (fn : List He.DefD) (ck : PySem.W.Frag → Bool) (g : Addr → Option Obj) : Bool × He.AlD := (ck (He.frG g (He.asD g n)), He.obsDG n fa fn g)
def hookP (n : Nat) (fa : List He.Fa) (fn : List He.DefD) (ck : PySem.W.Frag → Bool) : PySem.W.Hook where
  α := Bool × He.AlD
  obs := fun s => obP n fa fn ck s.heap.get?
  val := fun _ => (true, He.valD fn)
  says := fun _ h => ∃ K : PySem.W.Frag, K.In h ∧ He.SaysD fa fn K ∧ ck K = true
  of := fun _ _ e => ⟨_, He.frG_in, congrArg Prod.snd e, congrArg Prod.fst e⟩
  keeps := fun _ _ _ ⟨K, hK, c, q⟩ k => ⟨K, PySem.W.Frag.In.keeps hK k, c, q⟩
theorem obP_eq {n : Nat} {fa : List He.Fa} {fn : List He.DefD} {ck : PySem.W.Frag → Bool} {g : Addr → Option Obj} {s : Shared} (h : ∀ a, g a = s.heap.get? a) : obP n fa fn ck g = (hookP n fa fn ck).obs s := by
  have e : g = s.heap.get? := funext h
  rw [e] <;> rfl
/-! what may be asked -/
def ckExc (x : Str) (K : PySem.W.Frag) : Bool :=
  decide (PySem.W.findIn K (.ref (He.ga K x)) "__getattribute__" = some (some (.builtin "BaseException.__getattribute__"))) && (decide (PySem.W.findIn K (.ref (He.ga K x)) "__getattr__" = some none) &&
  (decide (PySem.W.subIn K (.ref (He.ga K x)) (.type "BaseException") = some true) && (PySem.W.hasDictIn K (He.ga K x) && (decide (PySem.W.findIn K (.ref (He.ga K x)) "__class__" = some (some (.builtin "object.__class__"))) &&
  (decide (PySem.W.specialIn K (.builtin "object.__class__") "__get__" = some (some (.builtin "getset_descriptor.__get__"))) && (decide (PySem.W.takesIn K (.builtin "object.__class__") = some true) && decide (PySem.W.mroIn K (He.ga K x) (.type "object") = some true)))))))
theorem ckExc_ok {x : Str} {K : PySem.W.Frag} (h : ckExc x K = true) : ExcC K (He.ga K x) := by
  unfold ckExc at h
  simp only [Bool.and_eq_true, decide_eq_true_eq] at h
  obtain ⟨h1, h2, h3, h4, h5, h6, h7, h8⟩ := h
  exact ⟨h1, h2, h3, h4, h5, h6, h7, h8⟩
def ckKit (x y : Str) (b : Bool) (K : PySem.W.Frag) : Bool := decide (PySem.W.kitOne K (.ref (He.ga K x)) (.ref (He.ga K y)) = some b)
def ckAll (cs : List (PySem.W.Frag → Bool)) (K : PySem.W.Frag) : Bool := cs.all fun c => c K
theorem ckAll_get {cs : List (PySem.W.Frag → Bool)} {K : PySem.W.Frag} (h : ckAll cs K = true) (i : Nat) {c : PySem.W.Frag → Bool} (hi : cs[i]? = some c) : c K = true := List.all_eq_true.mp h c (List.mem_of_getElem? hi)
end Mi
namespace Mi
open PySem PySem.Spec PyProof.Rows L2
section
variable {K : PySem.W.Frag}
/-! ### max, min, sum, any of a list; list(x), tuple(x); in -/
def ints1 : List D → Option (List Int)
  | [.lst ds] => intsOf ds
  | _ => none
theorem ints1_den {Hh H : Hp} {ds : List D} {vs : List V} {ns : List Int} (s : Same Hh H) (h : DenL K Hh ds vs) (e : ints1 ds = some ns) : ∃ a, vs = [V.ref a] ∧ SqL K H a (ns.map V.int) := by
  match ds, e with
  | [.lst es], e =>
    simp only [ints1] at e
    rw [intsOf_some e] at h
    obtain ⟨v, rfl, hv⟩ := den1 h
    obtain ⟨p, us, rfl, h1, h2⟩ := den_lst hv
    rw [den_ints_back h2] at h1
    exact ⟨p, rfl, s.seq (.inl (.inl h1))⟩
def maxL : List Int → Option Int
  | [] => none
  | n :: ns => some (ns.foldl (fun a b => if b > a then b else a) n)
def minL : List Int → Option Int
  | [] => none
  | n :: ns => some (ns.foldl (fun a b => if b < a then b else a) n)
theorem maxF_spec : ∀ (ns : List Int) (n : Int), (∀ y ∈ n :: ns, y ≤ ns.foldl (fun a b => if b > a then b else a) n) ∧ ns.foldl (fun a b => if b > a then b else a) n ∈ n :: ns
  | [], n => ⟨fun y hy => by simp at hy; subst hy; exact Int.le_refl _, by simp⟩
  | m :: ns, n => by
    obtain ⟨h1, h2⟩ := maxF_spec ns (if m > n then m else n)
    rw [List.foldl_cons]
    have h0 := h1 _ (List.mem_cons_self ..)
    refine ⟨fun y hy => ?_, ?_⟩
    · rcases List.mem_cons.1 hy with rfl | hy
      · refine Int.le_trans ?_ h0
        split <;> omega
      rcases List.mem_cons.1 hy with rfl | hy
      · refine Int.le_trans ?_ h0
        split <;> omega
      · exact h1 y (List.mem_cons_of_mem _ hy)
    · rcases List.mem_cons.1 h2 with h | h
      · rw [h]
        split <;> simp
      · exact List.mem_cons_of_mem _ (List.mem_cons_of_mem _ h)
theorem minF_spec : ∀ (ns : List Int) (n : Int), (∀ y ∈ n :: ns, ns.foldl (fun a b => if b < a then b else a) n ≤ y) ∧ ns.foldl (fun a b => if b < a then b else a) n ∈ n :: ns
  | [], n => ⟨fun y hy => by simp at hy; subst hy; exact Int.le_refl _, by simp⟩
  | m :: ns, n => by
    obtain ⟨h1, h2⟩ := minF_spec ns (if m < n then m else n)
    rw [List.foldl_cons]
    have h0 := h1 _ (List.mem_cons_self ..)
    refine ⟨fun y hy => ?_, ?_⟩
    · rcases List.mem_cons.1 hy with rfl | hy
      · refine Int.le_trans h0 ?_
        split <;> omega
      rcases List.mem_cons.1 hy with rfl | hy
      · refine Int.le_trans h0 ?_
        split <;> omega
      · exact h1 y (List.mem_cons_of_mem _ hy)
    · rcases List.mem_cons.1 h2 with h | h
      · rw [h]
        split <;> simp
      · exact List.mem_cons_of_mem _ (List.mem_cons_of_mem _ h)
def fMax1 (ds : List D) : Option D := (ints1 ds).bind fun ns => (maxL ns).map .int
def fMin1 (ds : List D) : Option D := (ints1 ds).bind fun ns => (minL ns).map .int
def fSum (ds : List D) : Option D := (ints1 ds).map fun ns => .int ns.sum
theorem rc_max1 : RC K (rMax K) fMax1 := fun Hh H ds vs d Q s h e q => by
  unfold fMax1 at e
  cases k : ints1 ds with
  | none => rw [k] at e; cases e
  | some ns =>
    rw [k] at e
    obtain ⟨a, rfl, hs⟩ := ints1_den s h k
    cases ns with
    | nil => cases e
    | cons n ns =>
      cases e
      obtain ⟨h1, h2⟩ := maxF_spec ns n
      refine ⟨a, _, rfl, hs, by simp, fun m hm hle => ?_⟩
      have : m = ns.foldl (fun a b => if b > a then b else a) n := Int.le_antisymm (h1 m hm) (hle _ h2)
      subst this
      exact flatQ (fun _ => by simp only [Den]) q
theorem rc_min1 : RC K (rMin K) fMin1 := fun Hh H ds vs d Q s h e q => by
  unfold fMin1 at e
  cases k : ints1 ds with
  | none => rw [k] at e; cases e
  | some ns =>
    rw [k] at e
    obtain ⟨a, rfl, hs⟩ := ints1_den s h k
    cases ns with
    | nil => cases e
    | cons n ns =>
      cases e
      obtain ⟨h1, h2⟩ := minF_spec ns n
      refine ⟨a, _, rfl, hs, by simp, fun m hm hle => ?_⟩
      have : m = ns.foldl (fun a b => if b < a then b else a) n := Int.le_antisymm (hle _ h2) (h1 m hm)
      subst this
      exact flatQ (fun _ => by simp only [Den]) q
theorem rc_sum : RC K (rSum K) fSum := fun Hh H ds vs d Q s h e q => by
  unfold fSum at e
  cases k : ints1 ds with
  | none => rw [k] at e; cases e
  | some ns =>
    rw [k] at e
    cases e
    obtain ⟨a, rfl, hs⟩ := ints1_den s h k
    exact ⟨a, ns, rfl, hs, flatQ (fun _ => by simp only [Den]) q⟩
def fAny : List D → Option D
  | [.lst ds] => (bls ds).map fun bs => .bl (bs.any id)
  | _ => none
theorem rc_any : RC K (rAny K) fAny := fun Hh H ds vs d Q s h e q => by
  match ds, e with
  | [.lst es], e =>
    simp only [fAny] at e
    cases k : bls es with
    | none => rw [k] at e; cases e
    | some bs =>
      rw [k] at e
      cases e
      obtain ⟨v, rfl, hv⟩ := den1 h
      obtain ⟨p, us, rfl, h1, h2⟩ := den_lst hv
      rw [bls_some k h2] at h1
      exact ⟨p, bs, rfl, s.seq (.inl (.inl h1)), flatQ (fun _ => by simp only [Den]) q⟩
def fTup : List D → Option D
  | [.lst ds] => some (.tup ds)
  | [.tup ds] => some (.tup ds)
  | _ => none
def rTupOf (K : PySem.W.Frag) : List V → Hp → VK → Prop := fun xs H Q => ∃ p ys, xs = [.ref p] ∧ ((SqL K H p ys ∧ ∀ l, H l = none → Q (.ref l) (upd H l (.tup ys))) ∨ (SqT K H p ys ∧ Q (.ref p) H))
theorem call_tupA {X : Cx} : CallR X (.type "tuple") (rTupOf X.K) := call_tuple_of
theorem rc_tup : RC K (rTupOf K) fTup := fun Hh H ds vs d Q s h e q => by
  match ds, e with
  | [.lst es], e =>
    cases e
    obtain ⟨v, rfl, hv⟩ := den1 h
    obtain ⟨p, us, rfl, h1, h2⟩ := den_lst hv
    exact ⟨p, us, rfl, .inl ⟨s.seq (.inl (.inl h1)), fun l hl => q _ _ (same_upd hl) (Fresh.tup hl h2)⟩⟩
  | [.tup es], e =>
    cases e
    obtain ⟨v, rfl, hv⟩ := den1 h
    obtain ⟨p, us, rfl, h1, h2⟩ := den_tup hv
    exact ⟨p, us, rfl, .inr ⟨Same.seqT s h1, q _ _ (Same.refl _) (Fresh.flat hv)⟩⟩
def fLst : List D → Option D
  | [.lst ds] => some (.lst ds)
  | [.rls ds] => some (.lst ds)
  | [.tup ds] => some (.lst ds)
  | _ => none
def rLstOf (K : PySem.W.Frag) : List V → Hp → VK → Prop := fun xs H Q => ∃ p ys, xs = [.ref p] ∧ (SqL K H p ys ∨ SqT K H p ys) ∧ ∀ l, H l = none → Q (.ref l) (upd H l (.lst ys))
theorem call_lstA {X : Cx} : CallR X (.type "list") (rLstOf X.K) := call_list_of
theorem rc_lst : RC K (rLstOf K) fLst := fun Hh H ds vs d Q s h e q => by
  match ds, e with
  | [.lst es], e =>
    cases e
    obtain ⟨v, rfl, hv⟩ := den1 h
    obtain ⟨p, us, rfl, h1, h2⟩ := den_lst hv
    exact ⟨p, us, rfl, .inl (s.seq (.inl (.inl h1))), fun l hl => q _ _ (same_upd hl) (Fresh.lst hl h2)⟩
  | [.rls es], e =>
    cases e
    obtain ⟨v, rfl, hv⟩ := den1 h
    simp only [Den] at hv
    obtain ⟨p, us, rfl, h1, h2⟩ := hv
    exact ⟨p, us, rfl, .inl (s.seq h1), fun l hl => q _ _ (same_upd hl) (Fresh.lst hl h2)⟩
  | [.tup es], e =>
    cases e
    obtain ⟨v, rfl, hv⟩ := den1 h
    obtain ⟨p, us, rfl, h1, h2⟩ := den_tup hv
    exact ⟨p, us, rfl, .inr (Same.seqT s h1), fun l hl => q _ _ (same_upd hl) (Fresh.lst hl h2)⟩
def gCat : D → D → Option (List D)
  | .lst a, .lst b => if a.length + b.length ≤ lim then some (a ++ b) else none
  | _, _ => none
theorem rbn_cat : RBN K rCat gCat := fun Hh H a b x y ds Q s ha hb h q => by
  match a, b, h with
  | .lst i, .lst j, h =>
    simp only [gCat] at h
    by_cases c : i.length + j.length ≤ lim
    · rw [if_pos c] at h
      cases h
      obtain ⟨p, vs, rfl, h1, h2⟩ := den_lst ha
      obtain ⟨p', us, rfl, h3, h4⟩ := den_lst hb
      exact ⟨p, p', vs, us, rfl, rfl, s _ _ h1, s _ _ h3, by rw [← h2.length, ← h4.length, ← lim_eq]; exact c, fun r hr => q r _ hr (DenL.append h2 h4)⟩
    · rw [if_neg c] at h; cases h
/-! ### in -/
def flatD : D → Bool
  | .int _ => true
  | .bl _ => true
  | .str _ => true
  | _ => false
end
theorem lst_no (d : D) : lstOf false d = none := by cases d <;> rfl
theorem mi9 : (∀ (sub : Str → Str → Option Bool) (g : FS) (hs : List (Str × FS)) (e : En), sTry sub g hs e = match g e with | .exc c e1 => handleM sub hs c e1 | r => r) ∧
  (∀ (sub : Str → Str → Option Bool) (c : Str) (e : En), handleM sub [] c e = .exc c e) ∧
  (∀ (sub : Str → Str → Option Bool) (h : Str) (g : FS) (r : List (Str × FS)) (c : Str) (e : En), handleM sub ((h, g) :: r) c e = match sub c h with | some true => noX (g e) | some false => handleM sub r c e | none => .err) ∧
  (∀ (d : D) (e : En), noX (.ok (.rt d e)) = .ok (.rt d e)) ∧
  (∀ (sub : Str → Str → Option Bool) (g : FS) (x : Str) (i : Nat) (pick : Str → Option Str) (e : En), sTryP sub g x i pick e = match g e with | .exc c e1 => (match sub c x with | some true => (match pick c with | some d => if i < e1.length then .ok (.rt (.str d) (e1.set i .un)) else .err | none => .err) | some false => .exc c e1 | none => .err) | r => r) ∧
  (∀ (n : Nat) (fns : List (List D → R D)) (fi : FE) (f : FA) (e : En), eCallIx n fns fi f e = (fi e).bind fun p => match (int? p.1).bind (atI fns) with | none => .err | some fn => (f p.2).bind fun q => if q.1.length = n then (match fn q.1 with | .ok d => .ok (d, q.2) | .exc c _ => .exc c q.2 | .err => .err) else .err) ∧
  (∀ (ds : List D), ints1 [.lst ds] = intsOf ds) ∧
  (∀ (ds : List D), fMax1 ds = (ints1 ds).bind fun ns => (maxL ns).map .int) ∧
  (∀ (ds : List D), fMin1 ds = (ints1 ds).bind fun ns => (minL ns).map .int) ∧
  (∀ (ds : List D), fSum ds = (ints1 ds).map fun ns => .int ns.sum) ∧
  (∀ (ds : List D), fTup [.lst ds] = some (.tup ds)) ∧ (∀ (ds : List D), fTup [.tup ds] = some (.tup ds)) ∧
  (∀ (ds : List D), fLst [.lst ds] = some (.lst ds)) ∧ (∀ (ds : List D), fLst [.tup ds] = some (.lst ds)) ∧ (∀ (a b : List D), gCat (.lst a) (.lst b) = if a.length + b.length ≤ lim then some (a ++ b) else none) :=
  ⟨by intros; rfl, by intros; rfl, by intros; rfl, by intros; rfl, by intros; rfl, by intros; rfl, by intros; rfl, by intros; rfl, by intros; rfl, by intros; rfl, by intros; rfl, by intros; rfl, by intros; rfl, by intros; rfl, by intros; rfl⟩
end Mi
namespace Mi
open PySem PySem.Spec PyProof.Rows L2
/-! ### a def that a caught exception is handed to -/
structure FnE (P : Program) (w : World) (K : PySem.W.Frag) (mg : Str → Option Value) (base : Heap) (k : Nat) (f : Addr) (fd : FuncData) (m : Str) (sp : Value → Hp → VK → Prop) : Prop where
  run : ∀ (A : Around) (outer : List Env) (s : Shared) (H : Hp) (args : Args) (p : Addr × Obj) (cls : Value) (Q : VK), L2H.RoomH k A → L2H.PinOk outer H s p → Env0 P w K mg base A outer s H → BindsTo s fd args ([m].zip [.ref p.1]) → Zc cls none p.2 → (∃ vs, p.2.data = .fields vs) → sp cls H Q →
    codeAny (model P w) A (.call (.ref f) args) (CR (L2.CX P w) outer P w H s Q E0) s
section
variable {P : Program} {w : World} {K : PySem.W.Frag} {mg : Str → Option Value} {base : Heap}
theorem ok_E {x qual m : Str} {st : Stmt} {f : Addr} {fd : FuncData} {N : List Str} {k : Nat} {sp : Value → Hp → VK → Prop} (F : Fun K x qual st f fd) (S : FnScope N [m] (defScope st))
    (hbody : ∀ (cdv : Value) (A : Around) (outer : List Env) (s : Shared) (H : Hp) (p : Addr × Obj) (cls : Value) (Q : VK), L2H.RoomH k (A.deeper (envOfC qual (defScope st) s.heap.objs.size f cdv)) → Zc cls none p.2 → (∃ vs, p.2.data = .fields vs) → sp cls H Q →
      ∃ t, PSs (L2H.cxH (L2.CX P w) P w K mg base N qual (defScope st) f cdv A outer s H E0 p) (defBody st) t ∧ t { nx := fun _ H' => Q .non H', rt := Q } (L2.start N [.ref p.1]) H) : FnE P w K mg base (k + 1) f fd m sp := by
  obtain ⟨oc, od, kV, doc, pm, an, cdv, ct, osl, rfl, lk, hcd⟩ := F.ex
  refine ⟨fun A outer s H args p cls Q hr hpin e0 hb hz hf hsp => ?_⟩
  have KX : K.In s.heap := e0.mod.kin.keeps fun b o e => (e0.bs b o e).1
  have lim : s.heap.NoLimit := e0.mod.nolimit.keeps fun b o e => (e0.bs b o e).1
  have hkind : ∀ y ∈ [m].zip [Value.ref p.1], (defScope st).names.lookup y.1 = some .local ∨ ((defScope st).names.lookup y.1 = some .cell ∧ ((cellsFrom (s.heap.objs.size + 1) (defScope st).names []).lookup y.1).isSome = true) := fun ⟨n, v⟩ hy => by
    rcases S.par n (List.of_mem_zip hy).1 with q | q
    · exact .inl q
    · exact .inr ⟨q, PySem.W.cellsFrom_some _ _ _ (.inl q)⟩
  refine codeAny_call_function hr.depth (KX _ _ lk) rfl S.co S.gen rfl (PySem.W.codeRec_of KX hcd) (hb _ _ _ _ ?_)
  refine wpAny_newFunctionEnv_cells S.kind hkind fun env he s1 x => ?_
  subst he
  refine ⟨lim.keeps x.toInCall.keep, codeAny_func ?_⟩
  obtain ⟨t, ht, hq⟩ := hbody cdv A outer s H p cls Q (hr.deeper _) hz hf hsp
  have I := L2H.inv_startH (CX := L2.CX P w) (E := E0) (cd := cdv) (f := f) (qual := qual) S hpin e0 (vs := [.ref p.1]) (us := [.ref p.1]) rfl (.cons rfl .nil) x
  refine wpAny_mono (ht.run [] s1 _ H _ I hq) (fun fl s' hs => ?_) fun e s' hs => hs
  cases fl with
  | ret u =>
    obtain ⟨v, σ', H', J, rv, q⟩ := hs
    exact ⟨v, H', J.os, J.bare, J.base, J.hok, rv, q⟩
  | next =>
    obtain ⟨σ', H', J, q⟩ := hs
    exact ⟨V.non, H', J.os, J.bare, J.base, J.hok, rfl, q⟩
  | brk =>
    obtain ⟨_, _, _, q⟩ := hs
    exact False.elim q
  | cont =>
    obtain ⟨_, _, _, q⟩ := hs
    exact False.elim q
end
section
variable {X : Cx} {pos : Pos}
theorem isE_at {D : Addr} {p : Addr × Obj} (hp : p ∈ X.pn) (C : ExcC X.K D) (hz : Zc (.ref D) none p.2) (hf : ∃ vs, p.2.data = .fields vs) : CallR X (.builtin "isinstance") (rIsE X.K D p.1) := by
  intro pins s σ H xs us Q I r h
  obtain ⟨c, cv, b, rfl, hcv, e, q⟩ := h
  cases r with
  | cons rx rr =>
    cases rr with
    | cons rt rr =>
      cases rr
      cases rx
      have ec := hcv _ rt
      subst ec
      obtain ⟨hget, _⟩ := I.pin p (List.mem_append.mpr (.inl hp))
      obtain ⟨a, oe⟩ := p
      obtain ⟨vs, hv⟩ := hf
      have J : PySem.W.InstAt s.heap a oe D none := by
        obtain ⟨oc, od, oda, osl⟩ := oe
        obtain ⟨h1, h2⟩ := hz
        dsimp only at h1 h2 hv
        subst h1 h2 hv
        exact ⟨hget, rfl, rfl, trivial⟩
      exact PySem.W.kia_one (PySem.W.handS_kitx_exc C.hg C.hk C.hs C.hd C.ha C.hn C.ht C.hm) I.kIn J e (fun z => nomatch z) fun tk => ⟨.bl b, H, I.kept (t' := tk) fun _ _ z => z, rfl, q⟩
/-- f(e), e the exception that the suite holds -/
theorem pe_callE {k : Nat} {f : Addr} {fd : FuncData} {m x : Str} {q : Pos} {e : Expr} {te : TE} {cls : Value} {p : Addr × Obj} {sp : Value → Hp → VK → Prop} (F : FnE X.prog X.w X.K X.mg X.base k f fd m sp) (hr : L2H.RoomH k X.A) (hp : p ∈ X.pn) (hz : Zc cls none p.2) (hf : ∃ vs, p.2.data = .fields vs)
    (hg : Gl X x) (hm : X.mg x = some (.ref f)) (hk : PySem.W.keepIn X.K (.ref f) = true) (hb : Binds X.K fd [m] []) (ha : PE X e te)
    (hdb : (x == ("__debug__" : Str)) = false := by decide) (he : starEach [e] X.env = (false, eval e X.env) :: starEach [] X.env := by rfl) (hpl : (backTo pos (starEach [] X.env)).any (·.1) = false := by rfl) :
    PE X (.Call (.Name x q) [e] [] pos) (fun σ H Q => tCons te tNil σ H fun vs H1 => vs = [.ref p.1] ∧ sp cls H1 Q) := by
  refine ⟨fun pins s σ H Q I h => ?_⟩
  refine wpAny_Call_Name_kw (ld_glob I hg hm ?_ hdb)
  refine PySem.W.callWith_K (h₀ := X.base) I.ok.mod.kin hk (thn ((pa_cons ha pa_nil he).run pos pins s σ H (fun vs H1 => vs = [.ref p.1] ∧ sp cls H1 Q) I h) fun us s1 ⟨vs, H1, I1, r, e1, q⟩ => ⟨I1.kIn, ?_⟩) he hpl
  subst e1
  cases r with
  | cons r1 r2 =>
    cases r2
    cases r1
    have b := hb s1 [.ref p.1] I1.kIn rfl
    rw [List.append_nil] at b
    have P1 := I1.pin p (List.mem_append_left _ hp)
    have hpin : L2H.PinOk X.stack H1 s1 p := ⟨P1.1, P1.2.1, fun hm => (List.mem_cons.mp (I1.stkSub p.1 hm)).elim P1.2.2.1 P1.2.2.2.1, P1.2.2.2.2⟩
    refine wpAny_call (codeAny_mono (F.run X.A X.stack s1 H1 ⟨[.ref p.1], []⟩ p cls Q hr hpin I1.env0 b hz hf q) fun r s' hq => ?_)
    cases r with
    | error e => exact passL _ _ _ _ _ _ I1 hq
    | ok fl =>
      cases fl with
      | ret u => exact I1.after hq
      | next => exact False.elim hq
      | brk => exact False.elim hq
      | cont => exact False.elim hq
end
/-! ### [isinstance(e, C), ..] -/
def Kits (K : PySem.W.Frag) (mg : Str → Option Value) (D : Addr) : List Str → List Bool → Prop
  | [], [] => True
  | h :: hs, b :: bs => (∃ C : Addr, mg h = some (.ref C) ∧ PySem.W.kitOne K (.ref D) (.ref C) = some b) ∧ Kits K mg D hs bs
  | _, _ => False
theorem Kits.length {K : PySem.W.Frag} {mg : Str → Option Value} {D : Addr} : ∀ {hs : List Str} {bs : List Bool}, Kits K mg D hs bs → bs.length = hs.length
  | [], [], _ => rfl
  | _ :: _, _ :: _, h => congrArg (· + 1) (Kits.length h.2)
  | [], _ :: _, h => h.elim
  | _ :: _, [], h => h.elim
inductive IsEs (G : Str → Prop) (n : Str) : List Expr → List Str → Prop
  | nil : IsEs G n [] []
  | cons {h : Str} {sp p1 p2 cp : Pos} {es : List Expr} {hs : List Str} (g : G h) (d : (h == ("__debug__" : Str)) = false) (r : IsEs G n es hs) : IsEs G n (.Call (.Name "isinstance" sp) [.Name n p1, .Name h p2] [] cp :: es) (h :: hs)
section
variable {X : Cx} {pos : Pos}
theorem pa_isE {G : Str → Prop} {D : Addr} {p : Addr × Obj} {n : Str} {i : Nat} (hp : p ∈ X.pn) (C : ExcC X.K D) (hz : Zc (.ref D) none p.2) (hf : ∃ vs, p.2.data = .fields vs) (hG : ∀ h, G h → Gl X h) (hgs : Gl X "isinstance") (hms : X.mg "isinstance" = none)
    (hN : X.N[i]? = some n) (hv : Vis X.env.scope n) (hdn : (n == ("__debug__" : Str)) = false) (hcn : (n == ("__classdict__" : Str)) = false) : ∀ {es : List Expr} {hs : List Str}, IsEs G n es hs →
    PA X es (fun σ H Q => ∃ bs, Kits X.K X.mg D hs bs ∧ σ[i]? = some (some (.ref p.1)) ∧ Q (bs.map V.bl) H)
  | _, _, .nil => (pa_nil (X := X)).imp fun σ H Q ⟨bs, h, _, q⟩ => by
    cases bs with
    | nil => exact q
    | cons b bs => exact h.elim
  | _, _, .cons (h := h) (p1 := p1) (p2 := p2) (sp := sp) (cp := cp) g d r => by
    refine ⟨fun pos pins s σ H Q I q => ?_⟩
    obtain ⟨bs, k, hσ, q⟩ := q
    cases bs with
    | nil => exact k.elim
    | cons b bs =>
      obtain ⟨⟨C', m1, m2⟩, k⟩ := k
      have a1 := pa_cons (X := X) (pe_var (pos := p1) (i := i) hN hv hdn hcn) (pa_cons (X := X) (pe_glob (pos := p2) (v := .ref C') (hG _ g) m1 rfl d) (pa_nil (X := X)))
      have a2 := pe_callB (X := X) (p := sp) (pos := cp) (isE_at hp C hz hf) hgs hms (by decide +kernel) a1
      refine (pa_cons a2 (pa_isE hp C hz hf hG hgs hms hN hv hdn hcn r)).run pos pins s σ H Q I ?_
      exact ⟨.ref p.1, hσ, .ref C', .ref C', b, rfl, fun u r => r, m2, bs, k, hσ, q⟩
end
/-- what is wanted of such a def -/
def spFl (K : PySem.W.Frag) (mg : Str → Option Value) (hs : List Str) : Value → Hp → VK → Prop := fun cls H Q => ∃ (D : Addr) (bs : List Bool), cls = .ref D ∧ ExcC K D ∧ Kits K mg D hs bs ∧ ∀ q, H q = none → Q (.ref q) (upd H q (.lst (bs.map V.bl)))
def CallE (P : Program) (w : World) (K : PySem.W.Frag) (mg : Str → Option Value) (base : Heap) (k : Nat) (x : Str) (hs : List Str) : Prop :=
  ∃ (fa : Addr) (fd : FuncData) (m : Str), FnE P w K mg base k fa fd m (spFl K mg hs) ∧ PySem.W.keepIn K (.ref fa) = true ∧ Binds K fd [m] [] ∧ mg x = some (.ref fa)
section
variable {P : Program} {w : World} {K : PySem.W.Frag} {mg : Str → Option Value} {base : Heap}
theorem ok_Fl {x qual m : Str} {st : Stmt} {f : Addr} {fd : FuncData} {es : List Expr} {hs : List Str} {rp lp : Pos} (F : Fun K x qual st f fd) (S : FnScope [m] [m] (defScope st)) (hb : defBody st = [.Return (some (.List es lp)) rp])
    (hv : (defScope st).names.lookup m = some .local) (hdn : (m == ("__debug__" : Str)) = false) (hcn : (m == ("__classdict__" : Str)) = false) (hms : mg "isinstance" = none) (hgs : ∀ a f cd, (envOfC qual (defScope st) a f cd).kindOf "isinstance" = some .globalImplicit) (hl : hs.length ≤ 100)
    (he : IsEs (fun h => ∀ a f cd, (envOfC qual (defScope st) a f cd).kindOf h = some .globalImplicit) m es hs) : FnE P w K mg base 1 f fd m (spFl K mg hs) := by
  refine ok_E (k := 0) F S fun cdv A outer s H p cls Q hr hz hf hsp => ?_
  obtain ⟨D, bs, rfl, C, k, q⟩ := hsp
  have a1 := pa_isE (X := L2H.cxH (L2.CX P w) P w K mg base [m] qual (defScope st) f cdv A outer s H E0 p) (i := 0) (n := m) List.mem_cons_self C hz hf (fun h g => g _ _ _) (hgs _ _ _) hms rfl (.inl hv) hdn hcn he
  rw [hb]
  refine ⟨_, pss_one (ps_ret (pos := rp) (pe_lst (pos := lp) a1)), bs, k, rfl, ?_, q⟩
  rw [List.length_map, k.length, ← lim_eq]
  exact Nat.le_trans hl (by decide)
end
/-! ### except X as e: return f(e) -/
def sTryF (sub : Str → Str → Option Bool) (g : FS) (x : Str) (i : Nat) (pick : Str → Option (List Bool)) : FS := fun e => match g e with
  | .exc c e1 => (match sub c x with
    | some true => (match pick c with
      | some bs => if i < e1.length then .ok (.rn (bs.map D.bl) (e1.set i .un)) else .err
      | none => .err)
    | some false => .exc c e1
    | none => .err)
  | r => r
def FlOk (K : PySem.W.Frag) (mg : Str → Option Value) (hs : List Str) (pick : Str → Option (List Bool)) : Prop := ∀ c bs, pick c = some bs → ∃ D : Addr, mg c = some (.ref D) ∧ ExcC K D ∧ Kits K mg D hs bs
theorem denL_bls {K : PySem.W.Frag} {H : Hp} : ∀ bs : List Bool, DenL K H (bs.map D.bl) (bs.map V.bl)
  | [] => by simp only [List.map_nil, DenL]
  | b :: bs => by
    simp only [List.map_cons, DenL, Den]
    exact ⟨_, _, rfl, rfl, denL_bls bs⟩
section
variable {X : Cx} {W : WX} {pos : Pos}
def tsF (i : Nat) (sp : Value → Hp → VK → Prop) (a : Addr) (cls : Value) (d : Option Addr) : TS := fun D σ H => d = none ∧ σ[i]? = some (some (.ref a)) ∧ sp cls H D.rt
theorem vs_tryF {x n fx : Str} {i k : Nat} {np pos' fp p1 cp rp : Pos} {cs : List Str} {body : List Stmt} {g : FS} {sub : Str → Str → Option Bool} {pick : Str → Option (List Bool)} (hsb : SubOk X.K X.mg sub) (hk : FlOk X.K X.mg cs pick) (hc : CallE X.prog X.w X.K X.mg X.base k fx cs) (hr : Room k X.A)
    (hgf : Gl X fx) (hdf : (fx == ("__debug__" : Str)) = false)
    (hs : X.stack = X.env :: X.outer) (hf : X.env.frame = some X.env.locals) (hN : X.N.Nodup) (hi : X.N[i]? = some n) (hln : X.env.kindOf n = some .local) (hv : Vis X.env.scope n) (hdn : (n == ("__debug__" : Str)) = false) (hcn : (n == ("__classdict__" : Str)) = false) (hg : Gl X x) (hd : (x == ("__debug__" : Str)) = false) (hm : ∃ v, X.mg x = some v)
    (tk : Takes X W) (hb : ∀ (W' : WX) (pn : List (Addr × Obj)) (xe : Value → Shared → Prop), Takes (X.tr pn xe) W' → PassesOwn (model X.prog X.w) X.A X.env xe → PSs (X.tr pn xe) body (rdS X.K X.mg W' g)) :
    PS X (.Try body [.ExceptHandler (some (.Name x np)) (some n) [.Return (some (.Call (.Name fx fp) [.Name n p1] [] cp)) rp] pos'] [] [] pos) (rdS X.K X.mg W (sTryF sub g x i pick)) := by
  obtain ⟨v, hvx⟩ := hm
  obtain ⟨fa, fd, m, F, kp, hbd, hmf⟩ := hc
  refine (ps_try_as (tb := fun W' => rdS X.K X.mg W' g) (ts := tsF i (spFl X.K X.mg cs)) (c := v) hs hf hN hi hln ⟨hg, hd, .inl hvx⟩ tk hb fun a oe cls d pn hz hfl => ⟨fun pins s σ H D I hh => ?_⟩).imp fun D σ H ⟨A, e, r, p⟩ => ?_
  · obtain ⟨rfl, hσ, sp⟩ := hh
    have a1 := pe_callE (X := X.suite a ((a, oe) :: pn)) (q := fp) (pos := cp) (p := (a, oe)) F (L2H.roomH_of hr |> fun r => ⟨r.dp, r.un⟩) List.mem_cons_self hz hfl hgf hmf kp hbd (pe_var (X := X.suite a ((a, oe) :: pn)) (pos := p1) (i := i) hi hv hdn hcn) hdf
    have a2 := pss_one (X := X.suite a ((a, oe) :: pn)) (ps_ret (pos := rp) a1)
    exact a2.run pins s σ H D I ⟨.ref a, hσ, rfl, sp⟩
  · refine ⟨A, e, r, ?_⟩
    unfold sTryF at p
    cases q : g e with
    | ok fl =>
      rw [q] at p
      cases fl <;> exact p
    | err => rw [q] at p; exact p
    | exc c e1 =>
      rw [q] at p
      intro σ' H' r' s'
      cases k : sub c x with
      | none => simp only [k] at p; exact p.elim
      | some b =>
        obtain ⟨u, v', hu, hv', hx⟩ := hsb c x b k
        rw [hvx] at hv'
        cases hv'
        refine ⟨u, hu, b, hx, fun hb a ha => ?_, fun hb => ?_⟩
        · subst hb
          simp only [k] at p
          cases k2 : pick c with
          | none => simp only [k2] at p; exact p.elim
          | some bs =>
            simp only [k2] at p
            obtain ⟨D0, hD, hC, hK⟩ := hk c bs k2
            rw [hu] at hD
            cases hD
            by_cases li' : i < e1.length
            case neg => rw [if_neg li'] at p; exact p.elim
            rw [if_pos li'] at p
            have li : i < σ'.length := by rw [r'.len]; exact li'
            have hh := r'.vals (σ' := σ'.set i (some (.ref a))) (e' := e1.set i .un) (by rw [List.length_set, List.length_set]; exact r'.len) (fun j s hj => by
              by_cases c : j = i
              · subst c
                rw [List.getElem?_set_self (by rw [← r'.len]; exact li)] at hj
                cases hj
                exact .inl rfl
              · rw [List.getElem?_set_ne (Ne.symm c)] at hj
                exact .inr (.inl ⟨hj, List.getElem?_set_ne (Ne.symm c)⟩))
            refine ⟨rfl, List.getElem?_set_self li, D0, bs, rfl, hC, hK, fun q hq => ?_⟩
            have e2 := hid_build (vs := bs.map V.bl) (o := .lst (bs.map V.bl)) hh.1 hq
            refine p q (bs.map V.bl) _ _ (hh.1.old hq) (hh.1.build (bs.map V.bl) hq) ?_ (denL_bls bs)
            rw [e2]
            exact s'.trans hh.2
        · subst hb
          simp only [k] at p
          obtain ⟨u', hu', w⟩ := p σ' H' r' s'
          rw [hu] at hu'
          cases hu'
          exact w
end
end Mi
namespace Mi
open PySem PySem.Spec PyProof.Rows L2
/-! ### the law's own def, where no repr is under way -/
/-- as FnOk, at the surroundings in which nothing is being shown -/
structure FnG (P : Program) (w : World) (K : PySem.W.Frag) (mg : Str → Option Value) (base : Heap) (k : Nat) (f : Addr) (fd : FuncData) (ps : List Str) (sp : Sp) : Prop where
  len : ∀ vs H Q E, sp vs H Q E → vs.length = ps.length
  run : ∀ (A : Around) (outer : List Env) (s : Shared) (H : Hp) (args : Args) (us : List Value) (vs : List V) (Q : VK) (E : XK), A.guards = some [] → Room k A → Env0 P w K mg base A outer s H → BindsTo s fd args (ps.zip us) → Vals vs us → sp vs H Q E →
    codeAny (model P w) A (.call (.ref f) args) (CR (L2.CX P w) outer P w H s Q E) s
/-- no repr is under way -/
def Calm0 (X : Cx) : Prop := X.A.guards = some []
theorem guards_deeper {A : Around} {env : Env} (h : A.guards = some []) : (A.deeper env).guards = some [] := by
  first
    | exact h
    | (show PySem.pushGuards _ _ = _; rw [h]; rfl)
    | simp [Around.deeper, h]
section
variable {P : Program} {w : World} {K : PySem.W.Frag} {mg : Str → Option Value} {base : Heap}
theorem fnG_of {x qual : Str} {st : Stmt} {f : Addr} {fd : FuncData} {N ps : List Str} {k : Nat} {sp : Sp} (F : Fun K x qual st f fd) (S : FnScope N ps (defScope st)) (len : ∀ vs H Q E, sp vs H Q E → vs.length = ps.length)
    (hbody : ∀ (cdv : Value) (A : Around) (outer : List Env) (s : Shared) (H : Hp) (vs : List V) (Q : VK) (E : XK), A.guards = some [] → Room k (A.deeper (envOfC qual (defScope st) s.heap.objs.size f cdv)) → sp vs H Q E →
      ∃ t, PSs (cxOf (L2.CX P w) P w K mg base N qual (defScope st) f cdv A outer s H E) (defBody st) t ∧ t { nx := fun _ H' => Q .non H', rt := Q } (L2.start N vs) H) : FnG P w K mg base (k + 1) f fd ps sp := by
  obtain ⟨oc, od, kV, doc, pm, an, cdv, ct, osl, rfl, lk, hcd⟩ := F.ex
  refine ⟨len, fun A outer s H args us vs Q E hgd hr e0 hb r hsp => ?_⟩
  have KX : K.In s.heap := e0.mod.kin.keeps fun b o e => (e0.bs b o e).1
  refine codeAny_call_function hr.depth (KX _ _ lk) rfl S.co S.gen rfl (PySem.W.codeRec_of KX hcd) (hb _ _ _ _ ?_)
  refine wpAny_newFunctionEnv_cells S.kind (fun ⟨n, v⟩ hy => (S.par n (List.of_mem_zip hy).1).imp id fun q => ⟨q, PySem.W.cellsFrom_some _ _ _ (.inl q)⟩) fun env he s1 x => ?_
  subst he
  refine ⟨(e0.mod.nolimit.keeps fun b o e => (e0.bs b o e).1).keeps x.toInCall.keep, codeAny_func ?_⟩
  obtain ⟨t, ht, hq⟩ := hbody cdv A outer s H vs Q E hgd (hr.deeper _) hsp
  have I := inv_start (CX := L2.CX P w) (E := E) (cd := cdv) (f := f) (qual := qual) S hr.hd e0 (len _ _ _ _ hsp) r x
  refine wpAny_mono (ht.run [] s1 _ H _ I hq) (fun fl s' hs => ?_) fun e s' hs => hs
  cases fl with
  | ret u => exact let ⟨v, σ', H', J, rv, q⟩ := hs; ⟨v, H', J.os, J.bare, J.base, J.hok, rv, q⟩
  | next => exact let ⟨σ', H', J, q⟩ := hs; ⟨V.non, H', J.os, J.bare, J.base, J.hok, rfl, q⟩
  | brk => exact let ⟨_, _, _, q⟩ := hs; False.elim q
  | cont => exact let ⟨_, _, _, q⟩ := hs; False.elim q
theorem ok_G {x qual : Str} {st : Stmt} {f : Addr} {fd : FuncData} {N ps : List Str} {k n : Nat} {g : FS} (fr : Bool) (F : Fun K x qual st f fd) (S : FnScope N ps (defScope st)) (hn : n = ps.length) (hN : ps.length ≤ N.length)
    (hbody : ∀ (cdv : Value) (A : Around) (outer : List Env) (s : Shared) (H : Hp) (E : XK), A.guards = some [] → Room k (A.deeper (envOfC qual (defScope st) s.heap.objs.size f cdv)) →
      PSs (cxOf (L2.CX P w) P w K mg base N qual (defScope st) f cdv A outer s H E) (defBody st) (rdS K mg (fun cls d _ H => E cls d H) g)) : FnG P w K mg base (k + 1) f fd ps (spA K mg n fr (runA N.length fr g)) := by
  refine fnG_of F S (fun vs H Q E h => ?_) fun cdv A outer s H vs Q E hgd hr h => ⟨_, hbody cdv A outer s H E hgd hr, spA_start (by rw [hn]; exact hN) h⟩
  obtain ⟨ds, Hv, _, hd, hl, _⟩ := h
  rw [← hd.length, hl, hn]
end
/-! ### the law's call -/
theorem lawG {P : Program} {w : World} {K : PySem.W.Frag} {mg mb : Str → Option Value} {k : Nat} {fa a : Addr} {fd : FuncData} {x : Str} {sp : Sp} {s₁ : Shared} {vs : List Value} {ns : List Int}
    (KX : K.In s₁.heap) (hns : s₁.heap.Ns mainGlobals mg) (hb : s₁.heap.Ns builtinsNs mb) (hbb : ∀ x : Str, x ≠ "__name__" → mb x = bootBuiltins x) (hlim : s₁.heap.NoLimit) (hg : s₁.gens = #[])
    (ha : s₁.heap.get? a = some { cls := .type "list", data := .seq vs.toArray }) (hi : IntsAre vs ns) (hl : ns.length ≤ sizeLine) (hr : Room k callerA)
    (F : ∀ base : Heap, K.In base → base.Ns mainGlobals mg → FnG P w K mg base k fa fd [x] sp) (hbind : ∀ (s : Shared) (u : Value), BindsTo s fd ⟨[u], []⟩ [(x, u)])
    (hsp : ∀ H : Hp, SqL K H a (ns.map V.int) → sp [.ref a] H (fun v _ => v = .bl true) fun _ _ _ => False) :
    codeAny (model P w) callerA (.call (.ref fa) ⟨[.ref a], []⟩) (fun r s' => r = .ok (.ret (.bool true)) ∧ OldK s₁.heap s'.heap ∧ s'.os = s₁.os ∧ AllBare s'.gens) s₁ := by
  -- the script is tracked, or it is one of the module's own objects: T tells which
  have go : ∀ (T : Bool) (H : Hp), (∀ b, H b = if T = true ∧ b = a then some (.frz { cls := .type "list", data := .seq vs.toArray } (.lst (ns.map V.int))) else none) → SqL K H a (ns.map V.int) → (T = true → K.lookup a = none) →
      codeAny (model P w) callerA (.call (.ref fa) ⟨[.ref a], []⟩) (fun r s' => r = .ok (.ret (.bool true)) ∧ OldK s₁.heap s'.heap ∧ s'.os = s₁.os ∧ AllBare s'.gens) s₁ := by
    intro T H hH hS hT
    have off : ∀ {b : Addr} {o : Obj}, s₁.heap.get? b = some o → (b ≠ a ∨ T = false) → (hidT s₁.heap H).get? b = some o := fun {b o} e n => hidT_get e (by
      rw [hH]
      exact if_neg fun z => n.elim (fun q => q z.2) fun q => by rw [q] at z; cases z.1)
    have dic : ∀ {b : Addr} {m : Str → Option Value}, s₁.heap.Ns b m → (hidT s₁.heap H).Ns b m := fun {b m} ⟨o, es, ep, e, d, r⟩ => ⟨o, es, ep, off e (.inl fun q => by
      rw [q, ha] at e
      cases e
      cases d), d, r⟩
    have inK : K.In (hidT s₁.heap H) := fun b o e => off (KX b o e) (by
      cases T with
      | false => exact .inr rfl
      | true => exact .inl fun q => by rw [q, hT rfl] at e; cases e)
    have hok : HOk P w H s₁.heap := fun b u z => by
      rw [hH] at z
      by_cases c : T = true ∧ b = a
      · rw [if_pos c] at z
        cases z
        rw [c.2]
        exact ⟨ha, by rw [List.length_map]; exact hl, vs, _, vals_ints hi, ha⟩
      · rw [if_neg c] at z
        cases z
    have e0 : Env0 P w K mg (hidT s₁.heap H) callerA [] s₁ H :=
      ⟨rfl, ⟨inK, dic hns, ⟨mb, dic hb, hbb⟩, hlim.imp fun mc h => ⟨dic h.1, h.2⟩⟩, fun b o e => of_hidT e, Nat.le_of_eq (hidT_size _ _), trivial, fun b z => (nomatch z), hok, .of_eq hg⟩
    refine codeAny_mono ((F _ inK (dic hns)).run callerA [] s₁ H ⟨[.ref a], []⟩ [.ref a] [.ref a] _ _ rfl hr e0 (hbind s₁ (.ref a)) (.cons rfl .nil) (hsp H hS)) fun r s' h => ?_
    match r, h with
    | .error e, h => exact absurd h fun ⟨_, _, _, _, _, _, _, _, _, _, _, _, z⟩ => z
    | .ok .next, h => exact h.elim
    | .ok .brk, h => exact h.elim
    | .ok .cont, h => exact h.elim
    | .ok (.ret u), ⟨v, H', os, bare, un, hok', rv, q⟩ =>
      subst q
      refine ⟨congrArg (fun u => Except.ok (Flow.ret u)) rv, OldK.of_keep fun b o e => ?_, os, bare⟩
      by_cases c : T = true ∧ b = a
      · have z : H b = some (.frz { cls := .type "list", data := .seq vs.toArray } (.lst (ns.map V.int))) := by rw [hH, if_pos c]
        rw [c.2] at e ⊢
        rw [ha] at e
        rw [← e]
        exact (hok' a _ (un.frzs a _ _ (c.2 ▸ z))).1
      · exact un.keep b o e (by rw [hH, if_neg c]) (fun z => nomatch z) (by simp)
  cases hk : K.lookup a with
  | some o =>
    have e := KX a o hk
    rw [ha] at e
    cases e
    exact go false (fun _ => none) (fun b => by simp) (.inr ⟨_, vs.toArray, _, hk, rfl, rfl, rfl, by rw [List.size_toArray, hi.length]; exact hl, by simpa using vals_ints hi⟩) fun z => nomatch z
  | none => exact go true (fun b => if true = true ∧ b = a then some (.frz { cls := .type "list", data := .seq vs.toArray } (.lst (ns.map V.int))) else none) (fun b => rfl) (.inl (.inr ⟨{ cls := .type "list", data := .seq vs.toArray }, if_pos ⟨rfl, rfl⟩⟩)) fun _ => hk
theorem walk_ofG {l : PySem.W.OpenLaw} {n k : Nat} {q : Program} {loose : List Str} {XP : (Str → Option Value) → Heap → Prop} {YP : World → Heap → Prop} {d : DefRec} {x : Str}
    (hn : l.most = some n) (hn2 : n ≤ sizeLine) (hdf : d.params.defaults = []) (hr : Room k callerA)
    (F : ∀ (w : World) (mg : Str → Option Value) (fa : Addr) (h : Heap), YP w h → h.Ns mainGlobals mg → mg d.name = some (.ref fa) → ∃ (K : PySem.W.Frag) (fd : FuncData) (sp : Sp), K.In h ∧ (∀ (s : Shared) (u : Value), BindsTo s fd ⟨[u], []⟩ [(x, u)]) ∧
      (∀ (H : Hp) (a : Addr) (ns : List Int), ns.length ≤ n → (∀ z ∈ ns, Builtin.Int.intBits z ≤ 1048576) → SqL K H a (ns.map V.int) → sp [.ref a] H (fun v _ => v = .bl true) fun _ _ _ => False) ∧
      ∀ base : Heap, K.In base → base.Ns mainGlobals mg → FnG l.prog w K mg base k fa fd [x] sp) :
    PySem.W.WalkO q loose XP YP l.row.toRowW d [] (fun f vs => PySem.call f vs) := by
  refine Att.attach_callB hn hdf fun w s₀ s₁ mg mb fa o pm cd doc a vs ns G Y ho hd hcd hmg hobj hints hlen hbits hg => ?_
  obtain ⟨K, fd, sp, KX, hb, hsp, hF⟩ := F w mg fa _ Y G.T.g hmg
  exact lawG KX G.T.g G.T.b G.T.builtins G.T.nolimit hg hobj hints (Nat.le_trans hlen hn2) hr hF hb fun H hS => hsp H a ns hlen hbits hS
end Mi
namespace Mi
open PySem PySem.Spec PyProof.Rows L2
section
variable {K : PySem.W.Frag}
/-! ### str(i) -/
def fStr : List D → Option D
  | [.int i] => if i.natAbs.log2 < 1920 then some (.str (toString i : String)) else none
  | _ => none
theorem rc_str : RC K (fun xs H Q => ∃ i : Int, xs = [.int i] ∧ i.natAbs.log2 < 1920 ∧ Q (.str (toString i : String)) H) fStr := fun Hh H ds vs d Q s h e q => by
  match ds, e with
  | [.int i], e =>
    simp only [fStr] at e
    by_cases c : i.natAbs.log2 < 1920
    · rw [if_pos c] at e
      cases e
      obtain ⟨v, rfl, hv⟩ := den1 h
      rw [den_int hv]
      exact ⟨i, rfl, c, flatQ (fun _ => by simp only [Den]) q⟩
    · rw [if_neg c] at e; cases e
/-! ### repr -/
def fRepr : List D → Option D
  | [d] => (pd d).bind fun x => if isDisplay x = true ∧ x.showable = true ∧ x.hasDict = false ∧ x.depth ≤ 60 ∧ x.shown.length ≤ lim then some (.str x.shown) else none
  | _ => none
def rReprD (K : PySem.W.Frag) : List V → Hp → VK → Prop := fun xs H Q => ∃ v x, xs = [v] ∧ Dp K H v x ∧ isDisplay x = true ∧ x.showable = true ∧ x.hasDict = false ∧ x.depth ≤ 60 ∧ x.shown.length ≤ sizeLine ∧ Q (.str x.shown) H
theorem rc_repr : RC K (rReprD K) fRepr := fun Hh H ds vs d Q s h e q => by
  match ds, e with
  | [d0], e =>
    simp only [fRepr] at e
    obtain ⟨v, rfl, hv⟩ := den1 h
    cases k : pd d0 with
    | none => rw [k] at e; cases e
    | some x =>
      rw [k, Option.bind_some] at e
      by_cases c : isDisplay x = true ∧ x.showable = true ∧ x.hasDict = false ∧ x.depth ≤ 60 ∧ x.shown.length ≤ lim
      · rw [if_pos c] at e
        cases e
        exact ⟨v, x, rfl, pd_dp _ _ _ (Den.mono s _ _ hv) k, c.1, c.2.1, c.2.2.1, c.2.2.2.1, by rw [← lim_eq]; exact c.2.2.2.2, flatQ (fun _ => by simp only [Den]) q⟩
      · rw [if_neg c] at e; cases e
theorem call_repr {X : Cx} (hg : Calm0 X) (hu : X.A.units + 64 < cLine) : CallR X (.builtin "repr") (rReprD X.K) := by
  intro pins s σ H xs us Q I r h
  obtain ⟨v, x, rfl, hd, hi, hs, hn, hp, hz, q⟩ := h
  cases r with
  | cons r1 r2 =>
    cases r2
    obtain ⟨as, rd⟩ := Dp.reads I x v _ hd r1
    obtain ⟨a, rfl⟩ := isRef_of_reads rd hi
    exact repr_of_reads' rd hs (PyData.noDict_hsm hn) hg (by omega) (fun _ _ e => e) (fun h' u tk hk => ⟨.str x.shown, H, I.kept (t' := tk) hk, ⟨_, rfl⟩, q⟩) hz
/-! ### in -/
def flatE : D → Bool
  | .non => true
  | .bl _ => true
  | .int _ => true
  | .str _ => true
  | _ => false
def eqE : D → D → Bool
  | .non, .non => true
  | .bl a, .bl b => a == b
  | .bl a, .int b => (if a then 1 else 0) == b
  | .int a, .bl b => a == (if b then 1 else 0)
  | .int a, .int b => a == b
  | .str a, .str b => a == b
  | _, _ => false
theorem flatE_V {H : Hp} {d : D} {v : V} (h : Den K H d v) (e : flatE d = true) : flatV v = true := by
  cases d with
  | non => rw [den_non h]; rfl
  | bl b => rw [den_bl h]; rfl
  | int b => rw [den_int h]; rfl
  | str b => rw [den_str h]; rfl
  | _ => cases e
theorem eqE_V {H : Hp} {d1 d2 : D} {v1 v2 : V} (h1 : Den K H d1 v1) (h2 : Den K H d2 v2) (e1 : flatE d1 = true) (e2 : flatE d2 = true) : eqV v1 v2 = eqE d1 d2 := by
  cases d1 with
  | non => rw [den_non h1]; cases d2 with
    | non => rw [den_non h2]; rfl
    | bl b => rw [den_bl h2]; rfl
    | int b => rw [den_int h2]; rfl
    | str b => rw [den_str h2]; rfl
    | _ => cases e2
  | bl b => rw [den_bl h1]; cases d2 with
    | non => rw [den_non h2]; rfl
    | bl b => rw [den_bl h2]; rfl
    | int b => rw [den_int h2]; rfl
    | str b => rw [den_str h2]; rfl
    | _ => cases e2
  | int b => rw [den_int h1]; cases d2 with
    | non => rw [den_non h2]; rfl
    | bl b => rw [den_bl h2]; rfl
    | int b => rw [den_int h2]; rfl
    | str b => rw [den_str h2]; rfl
    | _ => cases e2
  | str b => rw [den_str h1]; cases d2 with
    | non => rw [den_non h2]; rfl
    | bl b => rw [den_bl h2]; rfl
    | int b => rw [den_int h2]; rfl
    | str b => rw [den_str h2]; rfl
    | _ => cases e2
  | _ => cases e1
theorem flatE_all {H : Hp} : ∀ {ds : List D} {vs : List V}, DenL K H ds vs → ds.all flatE = true → vs.all flatV = true
  | [], vs, h, _ => by simp only [DenL] at h; subst h; rfl
  | d :: ds, vs, h, e => by
    simp only [DenL] at h
    obtain ⟨v, r, rfl, h1, h2⟩ := h
    rw [List.all_cons, Bool.and_eq_true] at e ⊢
    exact ⟨flatE_V h1 e.1, flatE_all h2 e.2⟩
theorem inE_V {H : Hp} {d : D} {v : V} (h0 : Den K H d v) (e0 : flatE d = true) : ∀ {ds : List D} {vs : List V}, DenL K H ds vs → ds.all flatE = true → inV v vs = ds.any fun y => eqE y d
  | [], vs, h, _ => by simp only [DenL] at h; subst h; rfl
  | d1 :: ds, vs, h, e => by
    simp only [DenL] at h
    obtain ⟨v1, r, rfl, h1, h2⟩ := h
    rw [List.all_cons, Bool.and_eq_true] at e
    unfold inV
    rw [List.any_cons, List.any_cons, eqE_V h1 h0 e.1 e0]
    exact congrArg _ (inE_V h0 e0 h2 e.2)
def items? : D → Option (List D)
  | .lst ds => some ds
  | .tup ds => some ds
  | _ => none
def inD (x : D) (b : D) : Option Bool := (items? b).bind fun ds => if flatE x = true ∧ ds.all flatE = true then some (ds.any fun y => eqE y x)
  else match b with
    | .lst _ => (pd x).bind fun u => (pdL ds).bind fun us => if SeqAt.shaped u = true ∧ SeqAt.shaped (.list us) = true then some (us.any fun z => PyData.eqv z u) else none
    | _ => none
def gIn (a b : D) : Option D := (inD a b).map .bl
def gNotIn (a b : D) : Option D := (inD a b).map fun k => .bl (!k)
def rInA (K : PySem.W.Frag) : R2 := fun x y H Q => rIn K false x y H Q ∨ rInD K x y H Q
def rNotInA (K : PySem.W.Frag) : R2 := fun x y H Q => rIn K true x y H Q ∨ rNotInD K x y H Q
theorem op_inA {X : Cx} {k : Nat} (hr : Room k X.A) : OpR X (compareOp .In) (rInA X.K) := OpR.or op_in_seq (op_inD (by have := hr.un; omega))
theorem op_notInA {X : Cx} {k : Nat} (hr : Room k X.A) : OpR X (compareOp .NotIn) (rNotInA X.K) := OpR.or op_notIn_seq (op_notInD (by have := hr.un; omega))
theorem inD_cases {Hh H : Hp} {a b : D} {x y : V} {k : Bool} (s : Same Hh H) (ha : Den K Hh a x) (hb : Den K Hh b y) (h : inD a b = some k) :
    (∃ p xs, y = .ref p ∧ (SqL K H p xs ∨ SqT K H p xs) ∧ flatV x = true ∧ xs.all flatV = true ∧ inV x xs = k) ∨ (∃ d ds, Dp K H x d ∧ Dp K H y (.list ds) ∧ SeqAt.shaped d = true ∧ SeqAt.shaped (.list ds) = true ∧ (ds.any fun z => PyData.eqv z d) = k) := by
  unfold inD at h
  cases b with
  | lst ds =>
    simp only [items?, Option.bind_some] at h
    by_cases c : flatE a = true ∧ ds.all flatE = true
    · rw [if_pos c] at h
      cases h
      obtain ⟨p, vs, rfl, h1, h2⟩ := den_lst hb
      exact .inl ⟨p, vs, rfl, .inl (s.seq (.inl (.inl h1))), flatE_V ha c.1, flatE_all h2 c.2, inE_V ha c.1 h2 c.2⟩
    · rw [if_neg c] at h
      cases k1 : pd a with
      | none => rw [k1] at h; cases h
      | some u =>
        cases k2 : pdL ds with
        | none => rw [k1, k2] at h; cases h
        | some us =>
          rw [k1, k2, Option.bind_some, Option.bind_some] at h
          by_cases c2 : SeqAt.shaped u = true ∧ SeqAt.shaped (.list us) = true
          · rw [if_pos c2] at h
            cases h
            exact .inr ⟨u, us, pd_dp _ _ _ (Den.mono s _ _ ha) k1, pd_dp _ _ _ (Den.mono s _ _ hb) (by simp only [pd, k2, Option.map_some]), c2.1, c2.2, rfl⟩
          · rw [if_neg c2] at h; cases h
  | tup ds =>
    simp only [items?, Option.bind_some] at h
    by_cases c : flatE a = true ∧ ds.all flatE = true
    · rw [if_pos c] at h
      cases h
      obtain ⟨p, vs, rfl, h1, h2⟩ := den_tup hb
      exact .inl ⟨p, vs, rfl, .inr (Same.seqT s h1), flatE_V ha c.1, flatE_all h2 c.2, inE_V ha c.1 h2 c.2⟩
    · rw [if_neg c] at h; cases h
  | _ => cases h
theorem rb_in : RB K (rInA K) gIn := fun Hh H a b x y d Q s ha hb h q => by
  unfold gIn at h
  cases k : inD a b with
  | none => rw [k] at h; cases h
  | some r =>
    rw [k] at h
    cases h
    have fl : Q (.bl r) H := flatQ (fun _ => by simp only [Den]) q
    rcases inD_cases s ha hb k with ⟨p, xs, rfl, h1, h2, h3, e⟩ | ⟨u, us, h1, h2, h3, h4, e⟩
    · exact .inl ⟨p, xs, rfl, h1, h2, h3, by rw [if_neg (by simp), e]; exact fl⟩
    · exact .inr ⟨u, us, h1, h2, h3, h4, by rw [e]; exact fl⟩
theorem rb_notIn : RB K (rNotInA K) gNotIn := fun Hh H a b x y d Q s ha hb h q => by
  unfold gNotIn at h
  cases k : inD a b with
  | none => rw [k] at h; cases h
  | some r =>
    rw [k] at h
    cases h
    have fl : Q (.bl (!r)) H := flatQ (fun _ => by simp only [Den]) q
    rcases inD_cases s ha hb k with ⟨p, xs, rfl, h1, h2, h3, e⟩ | ⟨u, us, h1, h2, h3, h4, e⟩
    · exact .inl ⟨p, xs, rfl, h1, h2, h3, by rw [if_pos rfl, e]; exact fl⟩
    · exact .inr ⟨u, us, h1, h2, h3, h4, by rw [e]; exact fl⟩
end
section
variable {X : Cx} {W : WX} {pos : Pos} {a : Expr} {fa : FE}
/-! ### [*xs, e] -/
def aS (f : FE) (g : FA) : FA := fun e => (f e).bind fun p => (items? p.1).elim .err fun ds => (g p.2).bind fun q => .ok (ds ++ q.1, q.2)
theorem va_star {es : List Expr} {f : FE} {g : FA} {p : Pos} (ha : PE X a (rE X.K X.mg W f)) (hr : PA X es (rA X.K X.mg W g)) (hs : starEach (.Starred a p :: es) X.env = (true, eval a X.env) :: starEach es X.env := by rfl) : PA X (.Starred a p :: es) (rA X.K X.mg W (aS f g)) :=
  (StX.pa_star ha hr hs).imp fun σ H Q ⟨A, e, r, p⟩ => by
    refine rd_seq r p fun da e1 x H1 _ r1 s1 d1 p1 => ?_
    have go : ∀ (q : Addr) (xs : List V) (ds : List D), items? da = some ds → x = .ref q → (∀ H2, Same (hid A σ e1 H1) H2 → SqT X.K H2 q xs ∨ SqL X.K H2 q xs) → DenL X.K (hid A σ e1 H1) ds xs → ∃ p xs, x = V.ref p ∧ (SqT X.K H1 p xs ∨ SqL X.K H1 p xs) ∧ rA X.K X.mg W g σ H1 fun ys H2 => Q (xs ++ ys) H2 := by
      intro q xs ds hds hx hq hd
      rw [hds] at p1
      refine ⟨q, xs, hx, hq _ hid_sub, ?_⟩
      exact rd_seq r1 p1 fun es e2 ys H2 _ r2 s2 d2 p2 => p2 _ _ r2 (Same.refl _) (DenL.append (DenL.mono s2 _ _ hd) d2)
    cases da with
    | lst ds =>
      obtain ⟨q, vs, hx, h1, h2⟩ := den_lst d1
      exact go q vs ds rfl hx (fun H2 s => .inr (s.seq (.inl (.inl h1)))) h2
    | tup ds =>
      obtain ⟨q, vs, hx, h1, h2⟩ := den_tup d1
      exact go q vs ds rfl hx (fun H2 s => .inl (Same.seqT s h1)) h2
    | _ => exact p1.elim
/-! ### x.extend(e) -/
def sExt (i : Nat) (f : FE) : FS := fun e => match e[i]? with
  | some (.own _) => (f e).bind fun p => match p.2[i]? with
    | some (.own ds) => (match p.1 with
      | .lst es => if ds.length + es.length ≤ lim then .ok (.nx (p.2.set i (.own (ds ++ es)))) else .err
      | _ => .err)
    | _ => .err
  | _ => .err
theorem vs_extend (i : Nat) {x : Str} {p1 p2 p3 : Pos} (ha : PE X a (rE X.K X.mg W fa)) (hN : X.N[i]? = some x := by rfl) (hv : Vis X.env.scope x := by first | exact Or.inl rfl | exact Or.inr (Or.inl rfl) | exact Or.inr (Or.inr rfl))
    (hd : (x == ("__debug__" : Str)) = false := by decide) (hcd : (x == ("__classdict__" : Str)) = false := by decide)
    (hbase : attributeBase (.Name x p1) "extend" X.env (eval (.Name x p1) X.env) = eval (.Name x p1) X.env := by rfl)
    (hfew : ((backTo p3 (starEach [a] X.env)).all (fun x => !x.1) && (backToKw p3 (keywordEach [] X.env)).all (fun x => x.1.isSome)
      && decide ([a].length + ([] : List Keyword).length + (if ([] : List Keyword).isEmpty then 0 else 1) < 30)) = true := by rfl)
    (hline : (p2.endLine == p3.line) = true := by rfl) (hs : starEach [a] X.env = (false, eval a X.env) :: starEach [] X.env := by rfl) (hplain : (backTo p3 (starEach [] X.env)).any (·.1) = false := by rfl)
    (hsw : swapsWith (.Call (.Attribute (.Name x p1) "extend" p2) [a] [] p3) none pos.line X.env = pure false := by rfl) :
    PS X (.Expr (.Call (.Attribute (.Name x p1) "extend" p2) [a] [] p3) pos) (rdS X.K X.mg W (sExt i fa)) :=
  (ps_expr (pe_bm PySem.F.plainAttrs_list PySem.F.slot_list_extend PySem.F.type_list_extend mt_extend (pe_var hN hv hd hcd) (pa_cons ha pa_nil hs) hbase hfew hline hs hplain) hsw).imp fun D σ H ⟨A, e, r, p⟩ => by
    unfold sExt at p
    cases h : e[i]? with
    | none => rw [h] at p; exact p.elim
    | some s =>
      rw [h] at p
      cases s with
      | own ds0 =>
        obtain ⟨l, vs0, h1, h2, h3, h4⟩ := r.own i ds0 h
        refine ⟨.ref l, h1, .inl ⟨rfl, vs0, .inl (.inl h2)⟩, ?_⟩
        refine rd_seqS r p fun d e1 y H1 _ r1 s1 d1 p1 => ?_
        cases h' : e1[i]? with
        | none => simp only [h'] at p1; exact p1.elim
        | some s' =>
          simp only [h'] at p1
          cases s' with
          | own ds =>
            cases d with
            | lst es =>
              dsimp only at p1
              by_cases hl : ds.length + es.length ≤ lim
              · simp only [hl, if_true] at p1
                obtain ⟨l', vs, k1, k2, k3, k4⟩ := r1.own i ds h'
                rw [h1] at k1
                cases k1
                obtain ⟨b, zs, rfl, z1, z2⟩ := den_lst d1
                obtain ⟨rp, hp⟩ := r1.put h' ⟨ds, .inl h'⟩ h1 (DenL.append k3 z2)
                have hp' : hid A σ (e1.set i (.own (ds ++ es))) (upd H1 l (.lst (vs ++ zs))) = hid A σ e1 H1 := hp
                refine ⟨l, b, vs, zs, rfl, rfl, k2, hid_sub _ _ z1, by rw [← k3.length, ← z2.length, ← lim_eq]; exact hl, p1 σ _ rp ?_⟩
                rw [hp']
                exact Same.refl _
              · simp only [hl, if_false] at p1
                exact p1.elim
            | _ => exact p1.elim
          | _ => exact p1.elim
      | _ => exact p.elim
end
end Mi
namespace Mi
open PySem PySem.Spec PyProof.Rows L2
theorem kit_at {K : PySem.W.Frag} {mg : Str → Option Value} {c h : Str} {b : Bool} {D : Addr} (k : KitA K mg c h b) (hD : mg c = some (.ref D)) : ∃ C : Addr, mg h = some (.ref C) ∧ PySem.W.kitOne K (.ref D) (.ref C) = some b := by
  obtain ⟨D', C, h1, h2, h3⟩ := k
  rw [hD] at h1
  cases h1
  exact ⟨C, h2, h3⟩
/-! ### a list of one's own is handed back -/
section
variable {K : PySem.W.Frag} {A : Act} {H : Hp} {σ : L2.St} {e : En}
theorem Rep.release {i : Nat} {ds : List D} (r : Rep K A H σ e) (h : e[i]? = some (.own ds)) :
    ∃ a vs, σ[i]? = some (some (.ref a)) ∧ Old A a ∧ Rep K (A.build a vs) H σ (e.set i .un) ∧ Same (hid A σ e H) (hid (A.build a vs) σ (e.set i .un) H) ∧ DenL K (hid A σ e H) ds vs := by
  obtain ⟨a, vs, h1, h2, h3, h4⟩ := r.own i ds h
  have hi : i < e.length := (List.getElem?_eq_some_iff.mp h).1
  have oa : OwnAt σ e a := ⟨i, ⟨ds, .inl h⟩, h1⟩
  have nbor : ¬ A.bor a := fun z => r.bhr a z h4
  have nbld : A.bld a = none := by
    cases q : A.bld a with
    | none => rfl
    | some o => exact absurd h4 (r.nbld a o q).1
  have old : Old A a := ⟨h4, r.sub, fun b o q => (r.nbld b o q).1, fun z => z.elim nbor fun z => z nbld⟩
  have hl : ∀ j, j ≠ i → (e.set i Sl.un)[j]? = e[j]? := fun j hj => List.getElem?_set_ne fun x => hj x.symm
  have hii : (e.set i Sl.un)[i]? = some .un := List.getElem?_set_self hi
  have ne_of : ∀ {j : Nat} {s : Sl}, (e.set i Sl.un)[j]? = some s → s ≠ .un → j ≠ i ∧ e[j]? = some s := fun {j s} q n => by
    by_cases hj : j = i
    · rw [hj, hii] at q
      cases q
      exact absurd rfl n
    · exact ⟨hj, by rw [← hl j hj]; exact q⟩
  have held : ∀ j, Held (e.set i Sl.un) j → j ≠ i ∧ Held e j := fun j ⟨es, z⟩ => by
    rcases z with z | z
    · obtain ⟨n, z⟩ := ne_of z (fun q => nomatch q)
      exact ⟨n, es, .inl z⟩
    · obtain ⟨n, z⟩ := ne_of z (fun q => nomatch q)
      exact ⟨n, es, .inr z⟩
  have sm : Same (hid A σ e H) (hid (A.build a vs) σ (e.set i .un) H) := fun b o q => by
    obtain ⟨n, m, q⟩ := hid_not q
    rw [hid_in (fun ⟨j, hj, z⟩ => n ⟨j, (held j hj).2, z⟩) fun z => ((off_build h4).1 z).elim m fun z => n (z.1 ▸ oa)]
    exact q
  have up : ∀ b, b ≠ a → (A.build a vs).Hr b = A.Hr b := fun b hb => upd_ne hb
  refine ⟨a, vs, h1, old, {
    len := by rw [List.length_set]; exact r.len
    sub := fun b x hx => by
      have q : b ≠ a := fun q => by
        have hx' : A.He b = some x := hx
        rw [q, r.heNone h4] at hx'
        cases hx'
      rw [up b q]
      exact r.sub b x hx
    bhr := fun b hb => by
      have q : b ≠ a := fun q => nbor (q ▸ hb)
      rw [up b q]
      exact r.bhr b hb
    nbor := fun b hb => by
      by_cases q : b = a
      · rw [q]
        exact ⟨r.heNone h4, by rw [h2]; exact fun z => nomatch z⟩
      · exact r.nbor b (hb.imp id fun z => by rw [bld_neO q] at z; exact z)
    nbld := fun b o hb => by
      by_cases q : b = a
      · subst q
        rw [bld_self] at hb
        cases hb
        exact ⟨(by show upd A.Hr b (.lst []) b ≠ none; rw [upd_same]; exact fun z => (nomatch z)), nbor, h2⟩
      · rw [bld_neO q] at hb
        rw [up b q]
        exact r.nbld b o hb
    keep := fun b x hx nb => by
      have q : b ≠ a := fun q => nb (.inr (by rw [q, bld_self]; exact fun z => nomatch z))
      rw [up b q] at hx
      exact r.keep b x hx fun z => nb (z.imp id fun y => by rw [bld_neO q]; exact y)
    val := fun j d q => by
      obtain ⟨_, q⟩ := ne_of q (fun z => nomatch z)
      obtain ⟨v, k1, k2⟩ := r.val j d q
      exact ⟨v, k1, Den.mono sm _ _ k2⟩
    own := fun j es q => by
      obtain ⟨n, q⟩ := ne_of q (fun z => nomatch z)
      obtain ⟨b, xs, k1, k2, k3, k4⟩ := r.own j es q
      have nb : b ≠ a := fun z => n (r.inj j i a ⟨es, .inl q⟩ ⟨ds, .inl h⟩ (by rw [k1, z]) h1)
      exact ⟨b, xs, k1, k2, DenL.mono sm _ _ k3, by rw [up b nb]; exact k4⟩
    brw := fun j es q => by
      obtain ⟨_, q⟩ := ne_of q (fun z => nomatch z)
      obtain ⟨b, xs, k1, k2, k3, k4⟩ := r.brw j es q
      exact ⟨b, xs, k1, k2, DenL.mono sm _ _ k3, k4⟩
    inj := fun j k b hj hk => r.inj j k b (held j hj).2 (held k hk).2 }, sm, h3⟩
end
def nMv (i : Nat) : FA := fun e => match e[i]? with
  | some (.own ds) => .ok (ds, e.set i .un)
  | _ => .err
section
variable {X : Cx} {W : WX} {pos : Pos}
theorem n_mv (i : Nat) {x : Str} (hN : X.N[i]? = some x := by rfl) (hv : Vis X.env.scope x := by first | exact Or.inl rfl | exact Or.inr (Or.inl rfl) | exact Or.inr (Or.inr rfl)) (hd : (x == ("__debug__" : Str)) = false := by decide)
    (hcd : (x == ("__classdict__" : Str)) = false := by decide) : PE X (.Name x pos) (rN X.K X.mg W (nMv i)) :=
  (pe_var hN hv hd hcd).imp fun σ H Q ⟨A, e, r, p⟩ => by
    unfold nMv at p
    cases h : e[i]? with
    | none => rw [h] at p; exact p.elim
    | some s =>
      rw [h] at p
      cases s with
      | own ds =>
        obtain ⟨a, vs, h1, o, r', s', d⟩ := r.release h
        exact ⟨.ref a, h1, p a vs H o r' s' (DenL.mono s' _ _ d)⟩
      | _ => exact p.elim
end
end Mi
namespace Mi
open PySem PySem.Spec PyProof.Rows L2 PySem.W
/-! ### sorted of data -/
def pd0 (d : D) : PyData := (pd d).getD .none
def alikeB (us : List PyData) : Bool := us.all fun d => us.all fun d' => alike d d'
def tupB : PyData → Bool
  | .tuple (_ :: _) => true
  | _ => false
def atomB : PyData → Bool
  | .none => false
  | .tuple _ => false
  | _ => true
def sortB (us : List PyData) : Bool := us.all tupB || us.all atomB
theorem alikeB_ok {us : List PyData} (h : alikeB us = true) : AllAlike us := fun d hd d' hd' => List.all_eq_true.1 (List.all_eq_true.1 h d hd) d' hd'
theorem sortB_ok {us : List PyData} (h : sortB us = true) : Sortable us := by
  unfold sortB at h
  rw [Bool.or_eq_true] at h
  refine h.imp (fun h d hd => ?_) fun h d hd => ?_
  · have h := List.all_eq_true.1 h d hd
    cases d with
    | tuple xs =>
      cases xs with
      | nil => cases h
      | cons x r => exact ⟨x, r, rfl⟩
    | _ => cases h
  · have h := List.all_eq_true.1 h d hd
    cases d with
    | none => cases h
    | tuple xs => cases h
    | _ => exact ⟨(fun z => nomatch z), (fun xs z => nomatch z)⟩
def leD : D → D → Bool := dataLe false pd0
def fSortG : List D → Option D
  | [.lst ds] => if (ds.all fun d => (pd d).isSome) = true ∧ alikeB (ds.map pd0) = true ∧ sortB (ds.map pd0) = true ∧ (ds.all fun d => decide ((pd0 d).depth ≤ 60)) = true ∧ ds.length ≤ lim then some (.lst (ds.mergeSort leD)) else none
  | _ => none
def rSortG (K : PySem.W.Frag) : List V → Hp → VK → Prop := fun vs H Q => ∃ (a : Addr) (ps : List (V × PyData)), vs = [.ref a] ∧ SqL K H a (ps.map (·.1)) ∧ (∀ p ∈ ps, Dp K H p.1 p.2) ∧ AllAlike (ps.map (·.2)) ∧ Sortable (ps.map (·.2)) ∧ (∀ p ∈ ps, p.2.depth ≤ 60) ∧ ps.length ≤ sizeLine ∧
  ∀ q, H q = none → Q (.ref q) (upd H q (.lst ((ps.mergeSort (dataLe false (·.2))).map (·.1))))
theorem vals_each : ∀ {ps : List (V × PyData)} {us : List Value}, Vals (ps.map (·.1)) us → EachIs (fun v (p : V × PyData) => RelV p.1 v) us ps
  | [], _, .nil => .nil
  | _ :: _, _, .cons r t => .cons r (vals_each t)
theorem each_vals : ∀ {ps : List (V × PyData)} {us : List Value}, EachIs (fun v (p : V × PyData) => RelV p.1 v) us ps → Vals (ps.map (·.1)) us
  | [], _, .nil => .nil
  | _ :: _, _, .cons r t => .cons r (each_vals t)
theorem each_reads {X : Cx} {pins : List (Addr × Obj)} {σ : L2.St} {H : Hp} {s : Shared} (I : L2.Inv X pins σ H s) : ∀ {ps : List (V × PyData)} {us : List Value}, (∀ p ∈ ps, Dp X.K H p.1 p.2) → Vals (ps.map (·.1)) us → EachIs (fun v (p : V × PyData) => ∃ as, Reads s.heap v p.2 as) us ps
  | [], _, _, .nil => .nil
  | p :: ps, _, h, .cons r t => .cons (Dp.reads I p.2 p.1 _ (h p (List.mem_cons_self ..)) r) (each_reads I (fun q hq => h q (List.mem_cons_of_mem _ hq)) t)
theorem call_sortG {X : Cx} (hu : X.A.units + 64 < cLine) : CallR X (.builtin "sorted") (rSortG X.K) := by
  intro pins s σ H xs us Q I r h
  obtain ⟨a, ps, rfl, hs, hd, hal, hk, hp, hl, q⟩ := h
  rw [Vals.ref1 r]
  obtain ⟨its, rv, pl, hz⟩ := I.list hs
  refine sorted_data (bs := ps) (enc := (·.2)) (R := fun v p => RelV p.1 v) pl.isList (vals_each rv) (each_reads I hd rv) hal hk hl (fun p hp' => by have := hp p hp'; omega) fun out ho eo => ?_
  obtain ⟨c, hc⟩ := sortedAll_at s.heap its out.toArray
  refine ⟨.ref (s.heap.objs.size + 1), upd H (s.heap.objs.size + 1) (.lst ((ps.mergeSort (dataLe false (·.2))).map (·.1))), I.laid (t' := s.toks) (fun b u e => sortedAll_old e) (Nat.le_succ _) ⟨?_, out, c, each_vals eo, ?_⟩, rfl, q _ (I.hok.fresh (Nat.le_succ _))⟩
  · rw [List.length_map, List.length_mergeSort]; exact hl
  · exact hc
section
variable {K : PySem.W.Frag}
theorem den_zip {H : Hp} : ∀ {ds : List D} {vs : List V}, DenL K H ds vs → (ds.all fun d => (pd d).isSome) = true → ∃ zs : List (D × (V × PyData)), zs.map (·.1) = ds ∧ zs.map (·.2.1) = vs ∧ ∀ z ∈ zs, Den K H z.1 z.2.1 ∧ pd z.1 = some z.2.2 ∧ z.2.2 = pd0 z.1
  | [], vs, h, _ => by
    simp only [DenL] at h
    subst h
    exact ⟨[], rfl, rfl, fun z hz => nomatch hz⟩
  | d :: ds, vs, h, e => by
    simp only [DenL] at h
    obtain ⟨v, r, rfl, h1, h2⟩ := h
    rw [List.all_cons, Bool.and_eq_true] at e
    obtain ⟨zs, k1, k2, k3⟩ := den_zip h2 e.2
    cases k : pd d with
    | none => rw [k] at e; cases e.1
    | some x =>
      refine ⟨(d, v, x) :: zs, by rw [List.map_cons, k1], by rw [List.map_cons, k2], fun z hz => ?_⟩
      rcases List.mem_cons.1 hz with rfl | hz
      · exact ⟨h1, k, by unfold pd0; rw [k]; rfl⟩
      · exact k3 z hz
theorem denL_map {H : Hp} : ∀ {zs : List (D × (V × PyData))}, (∀ z ∈ zs, Den K H z.1 z.2.1) → DenL K H (zs.map (·.1)) (zs.map (·.2.1))
  | [], _ => DenL.nil
  | z :: zs, h => DenL.cons (h z (List.mem_cons_self ..)) (denL_map fun y hy => h y (List.mem_cons_of_mem _ hy))
theorem rc_sortG : RC K (rSortG K) fSortG := fun Hh H ds vs d Q s h e q => by
  match ds, e with
  | [.lst es], e =>
    simp only [fSortG] at e
    by_cases c : (es.all fun d => (pd d).isSome) = true ∧ alikeB (es.map pd0) = true ∧ sortB (es.map pd0) = true ∧ (es.all fun d => decide ((pd0 d).depth ≤ 60)) = true ∧ es.length ≤ lim
    · rw [if_pos c] at e
      cases e
      obtain ⟨c1, c2, c3, c4, c5⟩ := c
      obtain ⟨v, rfl, hv⟩ := den1 h
      obtain ⟨a, us, rfl, h1, h2⟩ := den_lst hv
      obtain ⟨zs, k1, k2, k3⟩ := den_zip h2 c1
      have e2 : (zs.map (·.2)).map (·.2) = es.map pd0 := by
        rw [← k1, List.map_map, List.map_map]
        exact List.map_congr_left fun z hz => (k3 z hz).2.2
      have e1 : (zs.map (·.2)).map (·.1) = us := by
        rw [← k2, List.map_map]
        rfl
      refine ⟨a, zs.map (·.2), rfl, ?_, fun p hp => ?_, by rw [e2]; exact alikeB_ok c2, by rw [e2]; exact sortB_ok c3, fun p hp => ?_, ?_, fun r hr => ?_⟩
      · rw [e1]
        exact s.seq (.inl (.inl h1))
      · obtain ⟨z, hz, rfl⟩ := List.mem_map.1 hp
        obtain ⟨z1, z2, _⟩ := k3 z hz
        exact pd_dp _ _ _ (Den.mono s _ _ z1) z2
      · obtain ⟨z, hz, rfl⟩ := List.mem_map.1 hp
        rw [(k3 z hz).2.2]
        exact of_decide_eq_true (List.all_eq_true.1 c4 z.1 (by rw [← k1]; exact List.mem_map.2 ⟨z, hz, rfl⟩))
      · rw [List.length_map, ← List.length_map (f := (·.1)), k1, ← lim_eq]
        exact c5
      · have m1 : (zs.mergeSort fun x y => dataLe false pd0 x.1 y.1).map (·.1) = es.mergeSort leD := by
          rw [← k1]
          exact List.map_mergeSort fun x _ y _ => rfl
        have m2 : (zs.mergeSort fun x y => dataLe false pd0 x.1 y.1).map (·.2) = (zs.map (·.2)).mergeSort (dataLe false (·.2)) := List.map_mergeSort fun x hx y hy => by
          show sortLe _ _ _ _ _ = sortLe _ _ _ _ _
          unfold sortLe
          dsimp only
          rw [(k3 x hx).2.2, (k3 y hy).2.2]
        rw [← m2, List.map_map]
        refine q _ _ (same_upd hr) (Fresh.lst hr ?_)
        rw [← m1]
        exact denL_map fun z hz => (k3 z ((List.mergeSort_perm _ _).mem_iff.1 hz)).1
    · rw [if_neg c] at e; cases e
end
end Mi
namespace Mi
open PySem PySem.Spec PyProof.Rows L2
/-! ### a list of one's own is lent to a reading that keeps nothing of it -/
def HeldFlat (e : En) (i : Nat) : Prop := ∀ (j : Nat) (ds : List D), j ≠ i → (e[j]? = some (.own ds) ∨ e[j]? = some (.brw ds)) → ds.all flatE = true
section
variable {K : PySem.W.Frag} {A : Act} {H H' : Hp} {σ : L2.St} {e : En}
theorem den_flatE {H1 H2 : Hp} {d : D} {v : V} (f : flatE d = true) (h : Den K H1 d v) : Den K H2 d v := by
  cases d with
  | non => rw [den_non h]; simp only [Den]
  | bl b => rw [den_bl h]; simp only [Den]
  | int b => rw [den_int h]; simp only [Den]
  | str b => rw [den_str h]; simp only [Den]
  | _ => cases f
theorem denL_flatE {H1 H2 : Hp} : ∀ {ds : List D} {vs : List V}, ds.all flatE = true → DenL K H1 ds vs → DenL K H2 ds vs
  | [], vs, _, h => by simp only [DenL] at h; subst h; exact DenL.nil
  | d :: ds, vs, f, h => by
    simp only [DenL] at h
    obtain ⟨v, r, rfl, h1, h2⟩ := h
    rw [List.all_cons, Bool.and_eq_true] at f
    exact DenL.cons (den_flatE f.1 h1) (denL_flatE f.2 h2)
theorem Rep.thaw {i : Nat} {ds : List D} (r : Rep K A H σ e) (h : e[i]? = some (.own ds)) (hf : HeldFlat e i) (r' : Rep K A H' σ (e.set i (.val (.lst ds)))) (s : Same (hid A σ (e.set i (.val (.lst ds))) H) (hid A σ (e.set i (.val (.lst ds))) H')) :
    Rep K A H' σ e ∧ Same (hid A σ e H) (hid A σ e H') := by
  obtain ⟨a, vs, h1, h2, h3, h4⟩ := r.own i ds h
  have hi : i < e.length := (List.getElem?_eq_some_iff.mp h).1
  have hl : ∀ j, j ≠ i → (e.set i (Sl.val (.lst ds)))[j]? = e[j]? := fun j hj => List.getElem?_set_ne fun x => hj x.symm
  have hii : (e.set i (Sl.val (.lst ds)))[i]? = some (.val (.lst ds)) := List.getElem?_set_self hi
  have held : ∀ j, Held (e.set i (Sl.val (.lst ds))) j → j ≠ i ∧ Held e j := fun j ⟨es, z⟩ => by
    by_cases hj : j = i
    · rw [hj, hii] at z
      rcases z with z | z <;> cases z
    · rw [hl j hj] at z
      exact ⟨hj, es, z⟩
  have own_sub : ∀ b, OwnAt σ (e.set i (Sl.val (.lst ds))) b → OwnAt σ e b := fun b ⟨j, hj, z⟩ => ⟨j, (held j hj).2, z⟩
  have na : ¬ OwnAt σ (e.set i (Sl.val (.lst ds))) a := fun ⟨j, hj, z⟩ => (held j hj).1 (r.inj j i a (held j hj).2 ⟨ds, .inl h⟩ z h1)
  have ha : H' a = some (.lst vs) := (hid_not (s a _ (by rw [hid_in na fun z => z.1 h4]; exact h2))).2.2
  have sm : Same (hid A σ e H) (hid A σ e H') := fun b o q => by
    obtain ⟨n, m, q⟩ := hid_not q
    rw [hid_in n m]
    exact (hid_not (s b o (by rw [hid_in (fun z => n (own_sub b z)) m]; exact q))).2.2
  refine ⟨{
    len := r.len
    sub := r.sub
    bhr := r.bhr
    nbor := r'.nbor
    nbld := r'.nbld
    keep := r'.keep
    val := fun j d q => by
      obtain ⟨v, k1, k2⟩ := r.val j d q
      exact ⟨v, k1, Den.mono sm _ _ k2⟩
    own := fun j es q => by
      by_cases hj : j = i
      · subst hj
        rw [h] at q
        cases q
        exact ⟨a, vs, h1, ha, DenL.mono sm _ _ h3, h4⟩
      · obtain ⟨b, xs, k1, k2, k3, k4⟩ := r'.own j es (by rw [hl j hj]; exact q)
        exact ⟨b, xs, k1, k2, denL_flatE (hf j es hj (.inl q)) k3, k4⟩
    brw := fun j es q => by
      by_cases hj : j = i
      · subst hj
        rw [h] at q
        cases q
      · obtain ⟨b, xs, k1, k2, k3, k4⟩ := r'.brw j es (by rw [hl j hj]; exact q)
        exact ⟨b, xs, k1, k2, denL_flatE (hf j es hj (.inr q)) k3, k4⟩
    inj := r.inj }, sm⟩
end
open Classical in
noncomputable def eThaw (i : Nat) (f : FE) : FE := fun e => match e[i]? with
  | some (.own ds) => (f (e.set i (.val (.lst ds)))).bind fun p => if flatE p.1 = true ∧ p.2 = e.set i (.val (.lst ds)) ∧ HeldFlat e i then .ok (p.1, e) else .err
  | _ => .err
open Classical in
theorem v_thaw {X : Cx} {W : WX} {a : Expr} {f : FE} (i : Nat) (ha : PE X a (rE X.K X.mg W f)) : PE X a (rE X.K X.mg W (eThaw i f)) :=
  ha.imp fun σ H Q ⟨A, e, r, p⟩ => by
    unfold eThaw at p
    cases h : e[i]? with
    | none => rw [h] at p; exact p.elim
    | some s =>
      rw [h] at p
      cases s with
      | own ds =>
        obtain ⟨a, h1, rf, sf, df⟩ := r.freeze h
        refine ⟨A, e.set i (.val (.lst ds)), rf, ?_⟩
        revert p
        dsimp only
        cases q : f (e.set i (.val (.lst ds))) with
        | ok z =>
          obtain ⟨d, e2⟩ := z
          intro p b H' r' s' d'
          have p2 : Post X.K X.mg W (Den X.K) A σ e H Q (if flatE d = true ∧ e2 = e.set i (.val (.lst ds)) ∧ HeldFlat e i then .ok (d, e) else .err) := p
          by_cases c : flatE d = true ∧ e2 = e.set i (.val (.lst ds)) ∧ HeldFlat e i
          · rw [if_pos c] at p2
            obtain ⟨c1, c2, c3⟩ := c
            subst c2
            obtain ⟨rt, st⟩ := r.thaw h c3 r' s'
            exact p2 b H' rt st (den_flatE c1 d')
          · rw [if_neg c] at p2
            exact p2.elim
        | exc c e1 =>
          exact fun p H' r' s' => p H' r' (sf.trans s')
        | err => exact fun p => p
      | _ => exact p.elim
end Mi
namespace Mi
open PySem PySem.Spec PyProof.Rows L2
open Classical in
theorem mi10 : (∀ (i : Int), fStr [.int i] = if i.natAbs.log2 < 1920 then some (.str (toString i : String)) else none) ∧
  (∀ (f : FE) (g : FA) (e : En), aS f g e = (f e).bind fun p => (items? p.1).elim .err fun ds => (g p.2).bind fun q => .ok (ds ++ q.1, q.2)) ∧
  (∀ (ds : List D), items? (.lst ds) = some ds) ∧ (∀ (ds : List D), items? (.tup ds) = some ds) ∧
  (∀ (i : Nat) (f : FE) (e : En), sExt i f e = match e[i]? with
    | some (.own _) => (f e).bind fun p => (match p.2[i]? with
      | some (.own ds) => (match p.1 with
        | .lst es => if ds.length + es.length ≤ lim then .ok (.nx (p.2.set i (.own (ds ++ es)))) else .err
        | _ => .err)
      | _ => .err)
    | _ => .err) ∧
  (∀ (sub : Str → Str → Option Bool) (g : FS) (x : Str) (i : Nat) (pick : Str → Option (List Bool)) (e : En), sTryF sub g x i pick e = match g e with
    | .exc c e1 => (match sub c x with
      | some true => (match pick c with
        | some bs => if i < e1.length then .ok (.rn (bs.map D.bl) (e1.set i .un)) else .err
        | none => .err)
      | some false => .exc c e1
      | none => .err)
    | r => r) ∧
  (∀ (i : Nat) (e : En), nMv i e = match e[i]? with
    | some (.own ds) => .ok (ds, e.set i .un)
    | _ => .err) ∧
  (∀ (z : Str) (lo hi : Option Int), gSl (.str z) lo hi = if z.length ≤ lim then some (.str (cutS z lo hi)) else none) ∧
  (∀ (i : Nat) (f : FE) (e : En), eThaw i f e = match e[i]? with
    | some (.own ds) => (f (e.set i (.val (.lst ds)))).bind fun p => if flatE p.1 = true ∧ p.2 = e.set i (.val (.lst ds)) ∧ HeldFlat e i then .ok (p.1, e) else .err
    | _ => .err) ∧
  (∀ b : Bool, flatE (.bl b) = true) ∧ (∀ b : Int, flatE (.int b) = true) ∧ (flatE .non = true) ∧ (∀ b : Str, flatE (.str b) = true) ∧
  (∀ a b : D, gIn a b = (inD a b).map .bl) ∧ (∀ a b : D, gNotIn a b = (inD a b).map fun k => .bl (!k)) :=
  ⟨by intros; rfl, by intros; rfl, by intros; rfl, by intros; rfl, by intros; rfl, by intros; rfl, by intros; rfl, by intros; rfl, by intros; rfl, by intros; rfl, by intros; rfl, by intros; rfl, by intros; rfl, by intros; rfl, by intros; rfl⟩
end Mi
namespace Mi
open PySem PySem.Spec PyProof.Rows L2 PySem.W
/-! ### sets of keys (ints and texts), their order left open; len(set(xs)), sorted(set(xs)) -/
def kOf : Value → Key
  | .int k _ => .inl k
  | .str x _ => .inr x
  | _ => .inl 0
theorem kOf_of {k : Key} {v : Value} (h : keyIs k v = true) : kOf v = k := by
  rcases keyIs_shape h with ⟨i, t, rfl, rfl⟩ | ⟨x, t, rfl, rfl⟩ <;> rfl
theorem scan_of {k : Key} {v : Value} (h : keyIs k v = true) : v.scannable = true := by
  rcases keyIs_shape h with ⟨i, t, rfl, rfl⟩ | ⟨x, t, rfl, rfl⟩ <;> rfl
def eK (e : Int × Value) : Key := kOf e.2
def GoodM (w : World) (e : Int × Value) : Prop := ∃ k : Key, keyIs k e.2 = true ∧ e.1 = keyH w k
structure SetMR (w : World) (es : Array (Int × Value)) (t : SetTable) (ks : List Key) : Prop where
  good : ∀ e ∈ es.toList, GoodM w e
  perm : (es.toList.map eK).Perm ks
  nd : ks.Nodup
  few : es.size < scanBound
  fits : t.fits es.size = true
  ris : Ris t.place.toList
  led : w.params.followText "set-order" = true ∨ t.led = true
def SetM (w : World) (h : Heap) (a : Addr) (ks : List Key) : Prop :=
  ∃ o es ep t, h.get? a = some o ∧ o.ExactSet ∧ o.data = .set es ep t ∧ SetMR w es t ks
section
variable {P : Program} {w : World} {A : Around} {E : Value → Shared → Prop} {s : Shared} {a : Addr} {ks : List Key}
theorem good_elemsM {l : List (Int × Value)} (g : ∀ e ∈ l, GoodM w e) : ElemsOf (mixKind P w) l := fun e he => by
  obtain ⟨k, h1, h2⟩ := g e he
  exact ⟨⟨k, h1, h2⟩, scan_of h1⟩
theorem good_isM {e : Int × Value} (g : GoodM w e) (k : Key) : (mixKind P w).is k e.2 = true ↔ eK e = k := by
  obtain ⟨k0, h1, _⟩ := g
  constructor
  · intro h
    exact kOf_of h
  · rintro rfl
    unfold eK
    rw [kOf_of h1]
    exact h1
theorem SetMR.size {es : Array (Int × Value)} {t : SetTable} (R : SetMR w es t ks) : es.size = ks.length := by
  rw [← R.perm.length_eq, List.length_map, Array.length_toList]
def hasK (ks : List Key) (k : Key) : Bool := ks.any fun x => decide (x = k)
theorem hasK_iff {ks : List Key} {k : Key} : hasK ks k = true ↔ k ∈ ks := by
  unfold hasK
  rw [List.any_eq_true]
  constructor
  · rintro ⟨x, hx, e⟩
    rw [← of_decide_eq_true e]
    exact hx
  · exact fun h => ⟨k, h, decide_eq_true rfl⟩
def addK (ks : List Key) (k : Key) : List Key := if hasK ks k = true then ks else ks ++ [k]
theorem addM_tail {g : Bool → Sem Unit} (hg : ∀ (b : Bool) (s₁ : Shared) (Q' : Unit → Shared → Prop), Q' () s₁ → wpAny (model P w) A (g b) Q' E s₁)
    {o : Obj} {es es1 : Array (Int × Value)} {ep : Nat} {t t2 : SetTable} (ho : s.heap.get? a = some o) (hex : o.ExactSet) (hd : o.data = .set es ep t) (R : SetMR w es1 t2 ks) {wasDummy : Bool} {Z : Option Bool → Shared → Prop}
    (hR : ∀ h', Heap.SameBut a s.heap h' → SetM w h' a ks → Z (some true) { s with heap := h' }) :
    wpAny (model P w) A (do
        storeSet a es1 t2
        if (!wasDummy && t2.tooFull) = true then do
            g (relayAll t2 es1 (SetTable.grown es1.size)).2.2
            storeSet a (relayAll t2 es1 (SetTable.grown es1.size)).1 (relayAll t2 es1 (SetTable.grown es1.size)).2.1
            pure (some true)
          else pure (some true)) Z E s := by
  refine wpAny_bind (wpAny_storeSet_of ho hd ?_ (fits_of_scanBound R.few))
  have k1 := store_at (es' := es1) (t' := t2) ho hd
  have b1 := Heap.SameBut.update s.heap a (Obj.putSet es1 t2)
  split
  · have p1 := relayAll_perm t2 es1 (SetTable.grown es1.size)
    have p2 := relayAll_fits t2 es1 (SetTable.grown es1.size)
    have p3 := relayAll_ris t2 es1 (SetTable.grown es1.size)
    have p4 := relayAll_led t2 es1 (SetTable.grown es1.size)
    generalize relayAll t2 es1 (SetTable.grown es1.size) = y at p1 p2 p3 p4 ⊢
    obtain ⟨es2, t3, gv⟩ := y
    dsimp only at p1 p2 p3 p4 ⊢
    have z : es2.size = es1.size := by rw [← Array.length_toList, p1.length_eq, Array.length_toList]
    have z2 : es2.size < scanBound := z ▸ R.few
    refine wpAny_bind (hg _ _ _ (wpAny_bind (wpAny_storeSet_of k1 rfl ?_ (fits_of_scanBound z2))))
    have k2 := store_at (es' := es2) (t' := t3) k1 rfl
    exact wpAny_pure (hR _ (b1.trans (Heap.SameBut.update _ a _)) ⟨_, es2, _, t3, k2, hex, rfl, fun e he => R.good e (p1.mem_iff.mp he), (p1.map eK).trans R.perm, R.nd, z2, p2, p3, R.led.imp id fun q => by rw [p4]; exact q⟩)
  · exact wpAny_pure (hR _ b1 ⟨_, es1, _, t2, k1, hex, rfl, R⟩)
theorem addM_hashed {k : Key} {x : Value} {Q : Bool → Shared → Prop} (hx : keyIs k x = true) (R : SetM w s.heap a ks) (room : ks.length + 1 < scanBound)
    (hQ : ∀ b h', Heap.SameBut a s.heap h' → SetM w h' a (addK ks k) → Q b { s with heap := h' }) :
    wpAny (model P w) A (setAddHashed a x ((mixKind P w).hash k)) Q E s := by
  obtain ⟨o, es, ep, t, ho, hex, hd, R⟩ := R
  have hkey : (mixKind P w).is k x = true := hx
  have hsc : x.scannable = true := scan_of hx
  have hel : ElemsOf (mixKind P w) es.toList := good_elemsM R.good
  unfold setAddHashed setAddHashedIn
  refine wpAny_holding (wpAny_bind (wpAny_setState_of ho hd R.fits ?_))
  dsimp only
  rw [byScan_of hsc R.few hel]
  simp only [↓reduceIte]
  unfold setAddByScan
  refine wpAny_bind (wpAny_bind (wpAny_rule (wpAny_bind (wpAny_setScan_of hkey ho hd R.fits hel ?_))))
  cases hfi : List.findIdx? (fun e => (mixKind P w).is k e.2) es.toList with
  | some j =>
    dsimp only
    obtain ⟨hj, pj, _⟩ := List.findIdx?_eq_some_iff_getElem.mp hfi
    have hm : k ∈ ks := R.perm.mem_iff.1 (List.mem_map.2 ⟨es.toList[j], List.getElem_mem hj, (good_isM (P := P) (R.good _ (List.getElem_mem hj)) k).1 pj⟩)
    refine wpAny_pure (wpAny_pure (hQ _ s.heap (Heap.SameBut.refl a s.heap) ?_))
    unfold addK
    rw [if_pos (hasK_iff.2 hm)]
    exact ⟨o, es, ep, t, ho, hex, hd, R⟩
  | none =>
    dsimp only
    have hnk : k ∉ ks := fun z => by
      obtain ⟨e, he, q⟩ := List.mem_map.1 (R.perm.mem_iff.2 z)
      have c := List.findIdx?_eq_none_iff.mp hfi e he
      rw [(good_isM (P := P) (R.good e he) k).2 q] at c
      cases c
    have gw : ∀ (b : Bool) {s₁ : Shared} {Q' : Unit → Shared → Prop}, Q' () s₁ → wpAny (model P w) A (match b with | true => rule "set.scan.the-table-gave-way" | false => pure ()) Q' E s₁ :=
      fun b s₁ Q' q => by cases b <;> first | exact wpAny_pure q | exact wpAny_rule q
    have l1 := layNew_perm t es ((mixKind P w).hash k) x
    have l2 := layNew_fits t es ((mixKind P w).hash k) x
    have l3 := layNew_ris t es ((mixKind P w).hash k) x R.ris
    have l4 := layNew_led t es ((mixKind P w).hash k) x
    generalize layNew t es ((mixKind P w).hash k) x = y at l1 l2 l3 l4 ⊢
    obtain ⟨es1, t1, wasDummy, gave⟩ := y
    dsimp only at l1 l2 l3 l4 ⊢
    rw [Array.toList_push] at l1
    have pc : es1.toList.Perm (((mixKind P w).hash k, x) :: es.toList) := l1.trans (List.perm_append_singleton _ _)
    have ak : addK ks k = ks ++ [k] := if_neg fun z => hnk (hasK_iff.1 z)
    have pk : (es1.toList.map eK).Perm (addK ks k) := by
      rw [ak]
      refine (pc.map eK).trans ?_
      rw [List.map_cons, show eK ((mixKind P w).hash k, x) = k from kOf_of hx]
      exact (List.Perm.cons _ R.perm).trans (List.perm_append_singleton _ _).symm
    have nd : (addK ks k).Nodup := by
      rw [ak]
      exact (List.perm_append_singleton k ks).nodup_iff.2 (List.nodup_cons.2 ⟨hnk, R.nd⟩)
    have sz : es1.size < scanBound := by
      have := pk.length_eq
      rw [List.length_map, Array.length_toList, ak, List.length_append, List.length_singleton] at this
      omega
    have RR : ∀ t2 : SetTable, t2.fits es1.size = true → Ris t2.place.toList → t2.led = t1.led → SetMR w es1 t2 (addK ks k) := fun t2 f r l =>
      ⟨fun e he => by
        rcases List.mem_cons.mp (pc.mem_iff.mp he) with z | z
        · rw [z]; exact ⟨k, hx, rfl⟩
        · exact R.good e z, pk, nd, sz, f, r, R.led.imp id fun z => by rw [l, l4]; exact z⟩
    refine wpAny_bind (gw _ ?_)
    split
    · refine wpAny_bind ?_
      rw [hashByValue_scannable 8 hsc]
      refine wpAny_pure ?_
      refine addM_tail (ks := addK ks k) ?_ ho hex hd ?_ ?_
      · intro b s₁ Q' q; cases b <;> first | exact wpAny_pure q | exact wpAny_rule q
      · first
          | exact RR _ l2 l3 rfl
          | (split <;> first | exact RR _ l2 l3 rfl | exact RR _ (SetTable.fits_plain_off l2) l3 rfl)
      · intro h' sb r; dsimp only; exact wpAny_pure (hQ _ _ sb r)
    · refine wpAny_bind (wpAny_pure ?_)
      simp only [↓reduceIte]
      refine addM_tail (ks := addK ks k) ?_ ho hex hd (RR _ l2 l3 rfl) ?_
      · intro b s₁ Q' q; cases b <;> first | exact wpAny_pure q | exact wpAny_rule q
      · intro h' sb r; dsimp only; exact wpAny_pure (hQ _ _ sb r)
/-- the keys met first, of a row -/
def metK : List Key → List Key → List Key
  | ks, [] => ks
  | ks, k :: r => metK (addK ks k) r
theorem addK_len (ks : List Key) (k : Key) : (addK ks k).length ≤ ks.length + 1 := by
  unfold addK
  split
  · omega
  · rw [List.length_append, List.length_singleton]
    exact Nat.le_refl _
theorem metK_snoc : ∀ (r ks : List Key) (k : Key), metK ks (r ++ [k]) = addK (metK ks r) k
  | [], _, _ => rfl
  | x :: r, ks, k => metK_snoc r (addK ks x) k
theorem metK_len : ∀ (r ks : List Key), (metK ks r).length ≤ ks.length + r.length
  | [], ks => Nat.le_refl _
  | k :: r, ks => by
    have h1 := metK_len r (addK ks k)
    have h2 := addK_len ks k
    rw [List.length_cons]
    show (metK (addK ks k) r).length ≤ _
    omega

/-! set(xs), xs a list of keys -/
variable {R : Result → Shared → Prop} {J : Addr} {fp wr : List Addr} {G : Array GenState → Array GenState → Prop} {n : Nat} {B : Nat → Value → Prop} {St : Nat → Shared → Prop}
theorem updM_loop (Wk : WalksS P w A.in1 J fp wr G n B St) (S : Addr) (hSf : S ∉ fp) {qs : List Key} (hq : qs.length = n) (hval : ∀ i v, B i v → ∃ k, qs[i]? = some k ∧ keyIs k v = true) (hb : n + 1 < scanBound) :
    ∀ (m i : Nat) (s : Shared), n - i = m → i ≤ n → St i s → SetM w s.heap S (metK [] (qs.take i)) →
      (∀ s', Moved (S :: wr) G s s' → SetM w s'.heap S (metK [] qs) → R (.ok (.ret .none)) s') →
      codeAny (model P w) A (.builtin "set.update.loop" ⟨[.ref S, .ref J], []⟩) R s := by
  have nw : S ∉ wr := fun h => hSf (Wk.sub _ h)
  have up : ∀ b ∈ wr, b ∈ S :: wr := fun b hb => List.mem_cons_of_mem _ hb
  intro m
  induction m with
  | zero =>
    intro i s hm hi hst hS hR
    obtain rfl : i = n := by omega
    refine codeAny_builtin PyProof.Rows.F.entry_set_update_loop ?_
    rw [Around.under_plainId PyProof.Rows.F.plain_set_update_loop _]
    show wpAny _ A.in1 (pyNext (.ref J) >>= _) _ _ s
    refine wpAny_bind (Wk.done s _ _ hst fun s' mv => wpAny_pure (hR s' (mv.mono up) ?_))
    obtain ⟨o, es, ep, t, ho, r⟩ := hS
    rw [List.take_of_length_le (Nat.le_of_eq hq)] at r
    exact ⟨o, es, ep, t, mv.heap S _ nw ho, r⟩
  | succ m ih =>
    intro i s hm hi hst hS hR
    have lt : i < n := by omega
    refine codeAny_builtin PyProof.Rows.F.entry_set_update_loop ?_
    rw [Around.under_plainId PyProof.Rows.F.plain_set_update_loop _]
    show wpAny _ A.in1 (pyNext (.ref J) >>= _) _ _ s
    refine wpAny_bind (Wk.item i s _ _ lt hst fun v s' hP hst' mv => ?_)
    obtain ⟨k, hk, hkv⟩ := hval i v hP
    have hS1 : SetM w s'.heap S (metK [] (qs.take i)) := by
      obtain ⟨o, es, ep, t, ho, r⟩ := hS
      exact ⟨o, es, ep, t, mv.heap S _ nw ho, r⟩
    show wpAny _ A.in1 (holding [v] (setAdd S v) >>= _) _ _ s'
    refine wpAny_bind (wpAny_holding ?_)
    unfold setAdd
    refine wpAny_holding (wpAny_bind ((mixKind P w).pyHash (k := k) hkv ?_))
    have le := metK_len (qs.take i) []
    rw [List.length_take, List.length_nil, Nat.zero_add] at le
    refine addM_hashed (s := { s' with toks := s'.toks + 1 }) hkv hS1 (by omega) fun b h' sb hS2 => ?_
    have e : qs.take (i + 1) = qs.take i ++ [k] := by rw [List.take_succ, hk]; rfl
    refine wpAny_pure ⟨plainId_quiet PyProof.Rows.F.plain_set_update_loop _, ih (i + 1) _ (by omega) lt (Wk.frame _ s' _ _ hst' (Nat.le_succ _) fun b hb o q => ?_) (by rw [e, metK_snoc]; exact hS2) fun s2 mv2 hS3 => ?_⟩
    · rw [sb.2 b (fun h : b = S => hSf (by rw [← h]; exact hb))]
      exact q
    · refine hR s2 (Moved.trans Wk.gtrans ((mv.mono up).then_heap (Nat.le_succ _) fun b o hb q => ?_) mv2) hS3
      rw [sb.2 b (fun h : b = S => hb (by rw [h]; exact List.mem_cons_self))]
      exact q
theorem metK_nodup : ∀ (r ks : List Key), ks.Nodup → (metK ks r).Nodup
  | [], _, h => h
  | k :: r, ks, h => metK_nodup r (addK ks k) (by
    unfold addK
    split
    · exact h
    · rename_i c
      exact (List.perm_append_singleton k ks).nodup_iff.2 (List.nodup_cons.2 ⟨fun z => c (hasK_iff.2 z), h⟩))
theorem metK_mem {x : Key} : ∀ (r ks : List Key), x ∈ metK ks r ↔ x ∈ ks ∨ x ∈ r
  | [], ks => by simp [metK]
  | k :: r, ks => by
    show x ∈ metK (addK ks k) r ↔ _
    rw [metK_mem r (addK ks k), List.mem_cons]
    unfold addK
    by_cases c : k ∈ ks
    · rw [if_pos (hasK_iff.2 c)]
      constructor
      · rintro (h | h)
        · exact .inl h
        · exact .inr (.inr h)
      · rintro (h | rfl | h)
        · exact .inl h
        · exact .inl c
        · exact .inr h
    · rw [if_neg fun z => c (hasK_iff.1 z), List.mem_append, List.mem_singleton, or_assoc]
theorem setM_new (led : Bool) {h : Heap} (hl : w.params.followText "set-order" = true ∨ led = true) (q : h.get? a = some { cls := .type "set", dict := none, data := .set #[] 0 (.fresh 0 0 led) }) : SetM w h a [] :=
  ⟨_, #[], 0, _, q, ⟨rfl, rfl, rfl⟩, rfl, ⟨fun e he => (by simp at he), List.Perm.nil, List.nodup_nil, by decide, by rfl, List.Pairwise.nil, hl⟩⟩
theorem SetM.keep {h h' : Heap} (k : ∀ o, h.get? a = some o → h'.get? a = some o) (S : SetM w h a ks) : SetM w h' a ks := by
  obtain ⟨o, es, ep, t, ho, r⟩ := S
  exact ⟨o, es, ep, t, k o ho, r⟩
end
section
variable {P : Program} {w : World} {A : Around} {E : Value → Shared → Prop} {s : Shared}
theorem call_setM {l : Addr} {items : Array Value} {qs : List Key} {Q : Value → Shared → Prop} (hh : A.handled = none) (hl : s.heap.IsList l items) (hq : qs.length = items.size) (hv : ∀ (i : Nat) v, items[i]? = some v → ∃ k, qs[i]? = some k ∧ keyIs k v = true) (hb : items.size + 1 < scanBound)
    (h : ∀ (h' : Heap) (tk : Nat), SetM w h' s.heap.objs.size (metK [] qs) → (∀ b o, s.heap.get? b = some o → h'.get? b = some o) → Q (.ref s.heap.objs.size) { s with heap := h', toks := tk }) :
    wpAny (model P w) A (call (.type "set") [.ref l]) Q E s := by
  obtain ⟨c0, tl0, mro0⟩ := F.called_set.mro
  have q1 := F.called_set.made
  have q2 := F.called_set.sub
  have q3 := F.called_set.notType
  have q4 := F.called_set.canCreate
  have q5 := F.typeCall_set_1 (.ref l)
  refine wpAny_call (codeAny_of_tree ?_)
  show wpAny _ _ (callAny (.type "set") _) _ _ _
  refine wpAny_pure ⟨Code.quiet_builtin _ (by decide +kernel), codeAny_builtin F.entry_type_call ?_⟩
  rw [Around.under_plain (weight_type_call_type "set" [.ref l] []) rfl]
  repeat (any_goals (first | assumption | wp_step))
  refine codeAny_mono (code_set_led1 (.ref l) (E := E) (Q₁ := fun obj s₁ => obj = .ref s.heap.objs.size ∧ s₁ = { s with heap := s.heap.push { cls := .type "set", dict := none, data := .set #[] 0 (.fresh 0 0 (!w.params.followText "set-order")) } }) ⟨rfl, rfl⟩) fun r s₁ hr => ?_
  cases r with
  | error e => exact hr
  | ok fl =>
    cases fl with
    | ret obj =>
      obtain ⟨rfl, rfl⟩ := hr
      have gS : (s.heap.push { cls := .type "set", dict := none, data := .set #[] 0 (.fresh 0 0 (!w.params.followText "set-order")) }).get? s.heap.objs.size = some { cls := .type "set", dict := none, data := .set #[] 0 (.fresh 0 0 (!w.params.followText "set-order")) } := Heap.get?_push_size _ rfl
      have hT : Shared.TypeIs { s with heap := s.heap.push { cls := .type "set", dict := none, data := .set #[] 0 (.fresh 0 0 (!w.params.followText "set-order")) } } (.ref s.heap.objs.size) "set" := ⟨_, gS, rfl⟩
      have q6 := F.called_set.init.lookup
      have q7 := F.called_set.init.bind (.ref s.heap.objs.size)
      repeat (any_goals (first | assumption | wp_step))
      refine codeAny_mono (codeAny_call_builtin (R := wants (fun r s₂ => r = .none ∧ ∃ h' tk, s₂ = { s with heap := h', toks := tk } ∧ SetM w h' s.heap.objs.size (metK [] qs) ∧
          (∀ b o, s.heap.get? b = some o → h'.get? b = some o)) E) F.called_set.init.plain F.entry_set_init (check_set_init_1 hT ?_)) fun r₂ s₂ hr₂ => ?_
      · obtain ⟨ol, hol, hcl, nl, hdl⟩ := hl
        obtain ⟨ocls, odict, odata, oslots⟩ := ol
        simp only at hcl hdl
        subst hcl; subst hdl
        have gL : (s.heap.push { cls := .type "set", dict := none, data := .set #[] 0 (.fresh 0 0 (!w.params.followText "set-order")) }).get? l = some { cls := .type "list", dict := odict, data := .seq items nl, slots := oslots } := Heap.get?_push_of_some _ hol
        have q8 := F.sub_list_set
        have q9 := F.sub_list_frozenset
        have ne : (Value.type "list" == Value.type "dict") = false := by decide
        have iL : (s.heap.push { cls := .type "set", dict := none, data := .set #[] 0 (.fresh 0 0 (!w.params.followText "set-order")) }).IsList l items := ⟨_, gL, rfl, nl, rfl⟩
        unfold Builtin.«set.__init__» noKeywords Builtin.Frozenset.updateFrom
        generalize hPI : pyIter = PI
        wp_walk
        subst hPI
        refine wpAny_pyIter_list iL (wpAny_bind (wpAny_runValue ?_))
        have lS : l < s.heap.objs.size := Heap.lt_size hol
        have h3 : A.in1.in1.in1.handled = none := by simp [hh]
        have nI : l ≠ (s.heap.push { cls := .type "set", dict := none, data := .set #[] 0 (.fresh 0 0 (!w.params.followText "set-order")) }).objs.size := by
          rw [Heap.size_push]; exact Nat.ne_of_lt (Nat.lt_succ_of_lt lS)
        have nS : s.heap.objs.size ∉ [(s.heap.push { cls := .type "set", dict := none, data := .set #[] 0 (.fresh 0 0 (!w.params.followText "set-order")) }).objs.size, l] := by
          rw [Heap.size_push]
          intro z
          rcases List.mem_cons.1 z with z | z
          · exact absurd z (Nat.ne_of_lt (Nat.lt_succ_self _))
          · exact absurd (List.mem_singleton.1 z) (Nat.ne_of_gt lS)
        refine updM_loop (qs := qs) ((Walks.list h3 _ l nI items).toS) s.heap.objs.size nS hq (fun i v e => hv i v e) hb (items.size - 0) 0 _ (by omega) (Nat.zero_le _) ⟨⟨_, Heap.get?_push_size _ rfl, rfl, rfl⟩, (iL.push _)⟩ ?hS0 ?hR
        case hS0 =>
          refine setM_new (!w.params.followText "set-order") ?_ (Heap.get?_push_of_some _ gS)
          cases w.params.followText "set-order"
          · exact .inr rfl
          · exact .inl rfl
        case hR =>
          intro s' mv hS'
          obtain ⟨h', g', d', tk', os'⟩ := s'
          have eg : g' = s.gens := mv.gens
          have ed : d' = s.drawn := mv.drawn
          have eo : os' = s.os := mv.os
          subst eg; subst ed; subst eo
          show wpAny _ _ _ _ _ _
          refine wpAny_pure ?_
          show wpAny _ _ (ret Value.none) _ _ _
          refine wpAny_pure ⟨rfl, h', tk', rfl, hS', fun b o e => ?_⟩
          have lb := Heap.lt_size e
          refine mv.heap b o (fun z => ?_) (Heap.get?_push_of_some _ (Heap.get?_push_of_some _ e))
          rcases List.mem_cons.1 z with z | z
          · exact absurd z (Nat.ne_of_lt lb)
          · have := List.mem_singleton.1 z
            rw [Heap.size_push] at this
            exact absurd this (Nat.ne_of_lt (Nat.lt_succ_of_lt lb))
      · cases r₂ with
        | error e => exact hr₂
        | ok fl₂ =>
          cases fl₂ with
          | ret r =>
            obtain ⟨rfl, h', tk, rfl, hS', hk'⟩ := hr₂
            repeat (any_goals (first | assumption | wp_step))
            exact h _ _ hS' hk'
          | _ => exact hr₂.elim
    | _ => exact hr.elim
/-! sorted of keys that were collected -/
def encK : Key → PyData
  | .inl i => .int i
  | .inr x => .str x
theorem reads_key {h : Heap} {k : Key} {v : Value} (e : keyIs k v = true) : Reads h v (encK k) [] := by
  rcases keyIs_shape e with ⟨i, t, rfl, rfl⟩ | ⟨x, t, rfl, rfl⟩
  · exact .int i t
  · exact .str x t
theorem each_keys {vs : List Value} {ks : List Key} (hl : vs.length = ks.length) (h : ∀ (i : Nat) v, vs[i]? = some v → ∃ k, ks[i]? = some k ∧ keyIs k v = true) : EachIs (fun v k => keyIs k v = true) vs ks := by
  induction vs generalizing ks with
  | nil =>
    cases ks with
    | nil => exact .nil
    | cons k ks => simp at hl
  | cons v vs ih =>
    cases ks with
    | nil => simp at hl
    | cons k ks =>
      obtain ⟨k', e1, e2⟩ := h 0 v rfl
      cases e1
      exact .cons e2 (ih (by simpa using hl) fun i u e => h (i + 1) u e)
theorem each_map_of {α β : Type} {R : Value → β → Prop} {f : Value → β} : ∀ {vs : List Value}, (∀ v ∈ vs, R v (f v)) → EachIs R vs (vs.map f)
  | [], _ => .nil
  | v :: vs, h => .cons (h v (List.mem_cons_self ..)) (each_map_of (α := α) fun u hu => h u (List.mem_cons_of_mem _ hu))
/-- the rest of sorted(x), x's values collected -/
theorem sort_tail {vs : List Value} {ks : List Key} {Z : PySem.Fin → Shared → Prop} {kw : List (Str × Value)} (ek : kw = []) (e : EachIs (fun v k => keyIs k v = true) vs ks) (hal : AllAlike (ks.map encK)) (hL : ks.length ≤ sizeLine) (hu : A.units + 1 < cLine)
    (h : ∀ (out : List Value) (c : Nat) (h' : Heap), (∀ b o, s.heap.get? b = some o → h'.get? b = some o) → EachIs (fun v k => keyIs k v = true) out (ks.mergeSort (dataLe false encK)) → h'.get? s.heap.objs.size = some (seqObj "list" out.toArray c) → Z (.done (.ret (.ref s.heap.objs.size))) { s with heap := h' }) :
    wpAny (model P w) A (newList vs >>= fun l => holding [l] (call (.builtin "list.sort") [l] kw) >>= fun _ => ret l) Z E s := by
  subst ek
  have hl : vs.length = ks.length := e.length
  refine wpAny_bind (wpAny_newList ?_ (by rw [hl]; exact hL))
  have hoL : (s.heap.push (seqObj "list" vs.toArray 0)).get? s.heap.objs.size = some (seqObj "list" vs.toArray 0) := Heap.get?_push_size _ rfl
  refine wpAny_bind (wpAny_holding (list_sort_data (s := { s with heap := s.heap.push (seqObj "list" vs.toArray 0) }) (enc := encK) (bs := ks) hoL e (e.mono fun v k q => ⟨[], reads_key q, fun z => nomatch z⟩) hal ?_ hL (fun k _ => ?_) fun out ho eo => ?_))
  · refine Sortable.others fun k => ?_
    cases k <;> exact ⟨(fun z => nomatch z), fun xs z => nomatch z⟩
  · have : (encK k).depth = 0 := by cases k <;> simp [encK, PyData.depth]
    rw [this]
    exact hu
  · obtain ⟨c, hc⟩ := sortedHeap_at (vs := vs) (out := List.toArray out) hoL
    refine wpAny_pure (h out c _ (fun b o q => ?_) eo hc)
    have lb := Heap.lt_size q
    rw [sortedHeap_old (Nat.ne_of_lt lb) (by rw [size_push']; exact Nat.lt_succ_of_lt lb)]
    exact Heap.get?_push_of_some _ q
theorem sorted_setM {a : Addr} {ks : List Key} {Q : Value → Shared → Prop} (S : SetM w s.heap a ks) (hh : A.handled = none) (hal : AllAlike (ks.map encK)) (hu : A.units + 2 < cLine)
    (hQ : ∀ s' (out : List Value) (c : Nat) (ps : List Key) p, (∀ b o, s.heap.get? b = some o → s'.heap.get? b = some o) → s'.gens = s.gens → s'.os = s.os → ps.Perm ks →
      EachIs (fun v k => keyIs k v = true) out (ps.mergeSort (dataLe false encK)) → s.heap.objs.size ≤ p → s'.heap.get? p = some (seqObj "list" out.toArray c) → Q (.ref p) s') :
    wpAny (model P w) A (call (.builtin "sorted") [.ref a]) Q E s := by
  obtain ⟨o, es, ep, t, ho, hex, hd, R⟩ := S
  refine Calls.call_function_entry kind_sorted plain_sorted entry_sorted (args_sorted1 _) ?_
  unfold Builtin.«sorted»
  refine wpAny_bind (m := checkCount "sorted" 1 1 _) (wpAny_pure (wpAny_bind (collect_set (A := A.in1) hh ⟨o, ho, hex.1, hd⟩ R.fits R.few R.ris R.led fun s1 vs k1 hz g1 o1 pm => ?_)))
  have hv : ∀ v ∈ vs, keyIs (kOf v) v = true := fun v m => by
    obtain ⟨e, he, rfl⟩ := List.mem_map.1 (pm.mem_iff.1 m)
    obtain ⟨k, hk, _⟩ := R.good e he
    rw [kOf_of hk]
    exact hk
  have pk : (vs.map kOf).Perm ks := by
    have q := pm.map kOf
    rw [List.map_map] at q
    exact q.trans R.perm
  have hal' : AllAlike ((vs.map kOf).map encK) := fun d hd d' hd' => hal d ((pk.map encK).mem_iff.1 hd) d' ((pk.map encK).mem_iff.1 hd')
  have hn : (vs.map kOf).length ≤ sizeLine := by
    rw [pk.length_eq, ← R.size]
    exact fits_of_scanBound R.few
  exact sort_tail (s := s1) (ks := vs.map kOf) rfl (each_map_of (α := Unit) hv) hal' hn (by show A.units + 1 + 1 < cLine; omega) fun out c h' k2 eo gq => ⟨_, rfl, hQ _ out c (vs.map kOf) _ (fun b u q => k2 b u (k1 b u q)) g1 o1 pk eo hz gq⟩
end
end Mi
namespace Mi
open PySem PySem.Spec PyProof.Rows L2 PySem.W
/-! ### dicts as keys and values apart -/
def keyD : D → Option Key
  | .int i => some (.inl i)
  | .str x => some (.inr x)
  | _ => none
def kD : Key → D
  | .inl i => .int i
  | .inr x => .str x
theorem keyD_some {d : D} {k : Key} (h : keyD d = some k) : d = kD k := by
  cases d <;> simp only [keyD, Option.some.injEq] at h <;> first | (subst h; rfl) | cases h
theorem keyD_kD (k : Key) : keyD (kD k) = some k := by cases k <;> rfl
theorem den_key {K : PySem.W.Frag} {H : Hp} {k : Key} {v : V} (h : Den K H (kD k) v) : v = kV k := by
  cases k with
  | inl i => exact den_int h
  | inr x => exact den_str h
theorem key_den {K : PySem.W.Frag} {H : Hp} (k : Key) : Den K H (kD k) (kV k) := by
  cases k <;> simp only [kD, kV, Den]
def putG {α : Type} (ks : List Key) (xs : List α) (k : Key) (x : α) : List α :=
  if hasK ks k = true then List.zipWith (fun k' x' => if k' = k then x else x') ks xs else xs ++ [x]
theorem putG_len {α : Type} {ks : List Key} {xs : List α} (k : Key) (x : α) (h : ks.length = xs.length) : (addK ks k).length = (putG ks xs k x).length := by
  unfold addK putG
  split
  · rw [List.length_zipWith, h, Nat.min_self]
  · rw [List.length_append, List.length_append, h]; rfl
theorem zip_any {α : Type} (k : Key) : ∀ {ks : List Key} {xs : List α}, ks.length = xs.length → ((ks.zip xs).any fun p => decide (p.1 = k)) = hasK ks k
  | [], _, _ => rfl
  | _ :: _, [], h => by simp at h
  | a :: ks, x :: xs, h => by
    rw [List.zip_cons_cons, List.any_cons]
    unfold hasK
    rw [List.any_cons, zip_any k (by simpa using h)]
    rfl
theorem zip_map_put {α : Type} (k : Key) (x : α) : ∀ {ks : List Key} {xs : List α}, ks.length = xs.length → (ks.zip xs).map (fun p => if p.1 = k then (p.1, x) else p) = ks.zip (List.zipWith (fun k' x' => if k' = k then x else x') ks xs)
  | [], _, _ => rfl
  | _ :: _, [], h => by simp at h
  | a :: ks, y :: xs, h => by
    rw [List.zip_cons_cons, List.map_cons, List.zipWith_cons_cons, List.zip_cons_cons, zip_map_put k x (by simpa using h)]
    congr 1
    split <;> rfl
theorem putK_zip {ks : List Key} {xs : List V} (k : Key) (x : V) (h : ks.length = xs.length) : putK (ks.zip xs) k x = (addK ks k).zip (putG ks xs k x) := by
  unfold putK addK putG
  rw [zip_any k h]
  split
  · exact zip_map_put k x h
  · rw [List.zip_append h]; rfl
theorem DenL.putG {K : PySem.W.Frag} {H : Hp} {k : Key} {d : D} {v : V} (hd : Den K H d v) : ∀ {ks : List Key} {ds : List D} {vs : List V}, DenL K H ds vs → DenL K H (putG ks ds k d) (putG ks vs k v) := by
  intro ks ds vs h
  unfold Mi.putG
  split
  · rename_i c
    clear c
    induction ks generalizing ds vs with
    | nil => exact DenL.nil
    | cons a ks ih =>
      cases ds with
      | nil =>
        simp only [DenL] at h
        subst h
        exact DenL.nil
      | cons e ds =>
        simp only [DenL] at h
        obtain ⟨u, r, rfl, h1, h2⟩ := h
        rw [List.zipWith_cons_cons, List.zipWith_cons_cons]
        refine DenL.cons ?_ (ih h2)
        split
        · exact hd
        · exact h1
  · exact DenL.append h (DenL.cons hd DenL.nil)
/-! {k: v for x in xs} -/
def dcF (vs : List Nat) (G : TD) (c : FT) (fk fv : FE) : List D → List Key → List D → En → R ((List Key × List D) × En)
  | [], ks, us, e => .ok ((ks, us), e)
  | d :: ds, ks, us, e => match G d e with
    | none => .err
    | some e1 => match c e1 with
      | .ok (true, e2) => (match fk e2 with
        | .ok (y, e3) => (match fv e3 with
          | .ok (z, e4) => (match keyD y with
            | some k => dcF vs G c fk fv ds (addK ks k) (putG ks us k z) (wipeE e4 vs)
            | none => .err)
          | _ => .err)
        | _ => .err)
      | .ok (false, e2) => dcF vs G c fk fv ds ks us (wipeE e2 vs)
      | _ => .err
def eDc (it : FA) (vs : List Nat) (G : TD) (c : FT) (fk fv : FE) : FE := fun e => (it e).bind fun p => match dcF vs G c fk fv p.1 [] [] (wipeE p.2 vs) with
  | .ok q => if p.1.length ≤ lim ∧ okW p.2 vs = true then .ok (.dct q.1.1 q.1.2, resE p.2 q.2 vs) else .err
  | _ => .err
section
variable {X : Cx} {W : WX} {pos : Pos}
theorem rDc_of {it : FA} {G : TD} {js : List Nat} {c : FT} {fk fv : FE} {vs : List Nat} (hj : ∀ j ∈ js, j ∈ vs) : ∀ (σ : L2.St) (H : Hp) (Q : VK), rE X.K X.mg W (eDc it vs G c fk fv) σ H Q →
    tDc (rI X.K X.mg W it) (rdG X.K G js) (rT X.K X.mg W0 c) (rE X.K X.mg W0 fk) (rE X.K X.mg W0 fv) vs σ H Q := fun σ H Q ⟨A, e, r, p⟩ => by
  refine rd_seq r p fun items e1 J H1 _ r1 s1 jd p1 => ?_
  intro D hD
  cases q : dcF vs G c fk fv items [] [] (wipeE e1 vs) with
  | err => simp only [q] at p1; exact p1.elim
  | exc _ _ => simp only [q] at p1; exact p1.elim
  | ok z =>
    obtain ⟨⟨fk', fi⟩, ef⟩ := z
    simp only [q] at p1
    by_cases hc : items.length ≤ lim ∧ okW e1 vs = true
    case neg =>
      rw [if_neg hc] at p1
      exact p1.elim
    rw [if_pos hc] at p1
    have od := r1.old hD
    refine ⟨fun i m H' => m = items.length - i ∧ ∃ e' ks us xs, Rep X.K (A.buildO D (.dK (ks.zip xs))) H' (wipe σ vs) e' ∧ DenL X.K (hid (A.buildO D (.dK (ks.zip xs))) (wipe σ vs) e' H') us xs ∧ ks.length = xs.length ∧ ks.length ≤ i ∧
        Same (hid A σ e1 H1) (hid (A.buildO D (.dK (ks.zip xs))) (wipe σ vs) e' H') ∧ dcF vs G c fk fv (items.drop i) ks us e' = .ok ((fk', fi), ef), ⟨items.length, by simp, wipeE e1 vs, [], [], [], ?_, DenL.nil, rfl, Nat.zero_le _, ?_, q⟩, ?_⟩
    · exact (r1.buildO (.dK []) hD).part (sub_wipe r1.len)
    · have := (sub_wipe (vs := vs) r1.len).hid (A := A.buildO D (.dK [])) (H := upd H1 D (.dK []))
      rw [hid_buildO r1 hD] at this
      exact this
    rintro i m H' ⟨rfl, e', ks, us, xs, r', da, kl, ki, s', hl⟩
    obtain ⟨j1, j2, j3⟩ := jd _ H' s' hid_sub i
    by_cases hi : i < items.length
    · refine .inr ⟨j1 hi, fun H2 => ∃ e2 ks us xs, Rep X.K (A.buildO D (.dK (ks.zip xs))) H2 (wipe σ vs) e2 ∧ DenL X.K (hid (A.buildO D (.dK (ks.zip xs))) (wipe σ vs) e2 H2) us xs ∧ ks.length = xs.length ∧ ks.length ≤ i + 1 ∧
        Same (hid A σ e1 H1) (hid (A.buildO D (.dK (ks.zip xs))) (wipe σ vs) e2 H2) ∧ dcF vs G c fk fv (items.drop (i + 1)) ks us e2 = .ok ((fk', fi), ef), fun H2 h => ⟨items.length - (i + 1), by omega, rfl, h⟩, fun x H2 y => ?_⟩
      have hd : items[i]? = some items[i] := List.getElem?_eq_getElem hi
      obtain ⟨sy, fy⟩ := j2 _ hd x H2 y
      have r2 := r'.grow sy
      have dx := fy (hid (A.buildO D (.dK (ks.zip xs))) (wipe σ vs) e' H2) (hid_same sy) fun _ _ a b => r'.seen a b
      rw [List.drop_eq_getElem_cons hi] at hl
      unfold dcF at hl
      cases hG : G items[i] e' with
      | none => rw [hG] at hl; cases hl
      | some e2 =>
        rw [hG] at hl
        dsimp only at hl
        refine ⟨A.buildO D (.dK (ks.zip xs)), e', items[i], r2, dx, e2, hG, fun σ2 r3 s3 l3 k3 => ?_⟩
        have we : wipe σ2 vs = wipe σ vs := wipe_eq (l3.trans (wipe_length σ vs)) fun j h => k3 j fun z => h (hj j z)
        refine ⟨we, A.buildO D (.dK (ks.zip xs)), e2, r3, ?_⟩
        have s13 : Same (hid A σ e1 H1) (hid (A.buildO D (.dK (ks.zip xs))) σ2 e2 H2) := s'.trans ((hid_same sy).trans s3)
        have da3 := DenL.mono ((hid_same sy).trans s3) _ _ da
        revert hl
        cases c e2 with
        | err => exact fun hl => nomatch hl
        | exc _ _ => exact fun hl => nomatch hl
        | ok z =>
          obtain ⟨k, e4⟩ := z
          intro hl b H4 r4 s4 hb
          subst hb
          cases b with
          | false =>
            refine iteF ⟨wipeE e4 vs, ks, us, xs, ?_, ?_, kl, by omega, ?_, hl⟩
            · rw [← we]; exact r4.part (sub_wipe r4.len)
            · rw [← we]; exact DenL.mono (s4.trans (sub_wipe r4.len).hid) _ _ da3
            · rw [← we]; exact s13.trans (s4.trans (sub_wipe r4.len).hid)
          | true =>
            refine iteT ⟨A.buildO D (.dK (ks.zip xs)), e4, r4, ?_⟩
            revert hl
            dsimp only
            cases fk e4 with
            | err => exact fun hl => nomatch hl
            | exc _ _ => exact fun hl => nomatch hl
            | ok z =>
              obtain ⟨y1, e5⟩ := z
              dsimp only
              intro hl yv H5 r5 s5 dy
              refine ⟨A.buildO D (.dK (ks.zip xs)), e5, r5, ?_⟩
              revert hl
              cases fv e5 with
              | err => exact fun hl => nomatch hl
              | exc _ _ => exact fun hl => nomatch hl
              | ok z =>
                obtain ⟨z1, e6⟩ := z
                dsimp only
                cases hk : keyD y1 with
                | none => exact fun hl => nomatch hl
                | some k1 =>
                  dsimp only
                  intro hl zv H6 r6 s6 dz
                  have da6 := DenL.mono (s4.trans (s5.trans s6)) _ _ da3
                  rw [keyD_some hk] at dy
                  have hz : (ks.zip xs).length < sizeLine := by
                    rw [List.length_zip, kl, Nat.min_self, ← lim_eq]
                    omega
                  have hb := hid_bputO (ws := .dK ((addK ks k1).zip (putG ks xs k1 zv))) (o := .dK ((addK ks k1).zip (putG ks xs k1 zv))) r6
                  have pz := putK_zip k1 zv kl
                  refine ⟨ks.zip xs, k1, den_key dy, r6.notOwnO.2.2, hz, wipeE e6 vs, addK ks k1, putG ks us k1 z1, putG ks xs k1 zv, ?_, ?_, putG_len k1 zv kl, by have := addK_len ks k1; omega, ?_, hl⟩
                  · rw [← we, pz]; exact (r6.bputO _).part (sub_wipe r6.len)
                  · rw [← we, pz]
                    refine DenL.mono (sub_wipe r6.len).hid _ _ ?_
                    rw [hb]
                    exact DenL.putG dz da6
                  · rw [← we, pz]
                    refine (s13.trans (s4.trans (s5.trans s6))).trans ?_
                    rw [← hb]
                    exact (sub_wipe r6.len).hid
    · refine .inl ⟨j3 (by omega), ?_⟩
      rw [List.drop_eq_nil_of_le (by omega)] at hl
      unfold dcF at hl
      injection hl with hl3
      injection hl3 with hy hee
      injection hy with hy1 hy2
      subst hy1 hy2
      rw [← hee] at p1
      have hlen : e'.length = e1.length := by rw [← r'.len, wipe_length, r1.len]
      obtain ⟨rv, sv⟩ := r'.vals (σ' := σ) (e' := resE e1 e' vs) (by rw [resE_length, hlen, ← r1.len]) fun j s hs => by
        by_cases hv : j ∈ vs
        · have es := resE_in hv hs
          cases h1 : e1[j]? with
          | none => rw [h1] at es; exact .inl es
          | some s1 =>
            rw [h1] at es
            have ok := (List.all_eq_true.mp hc.2) j hv
            rw [h1] at ok
            cases s1 with
            | un => exact .inl es
            | val d =>
              obtain ⟨v, k1, k2⟩ := r1.val j d h1
              exact .inr (.inr ⟨d, v, es, k1, Den.mono s' _ _ k2⟩)
            | own ds => cases ok
            | brw ds => cases ok
        · rw [resE_out hv] at hs
          exact .inr (.inl ⟨hs, (wipe_get hv).symm⟩)
      obtain ⟨rb, sb, hb⟩ := rv.builtO od
      refine p1 _ H' rb ((s'.trans sv).trans sb) ?_
      simp only [Den]
      exact ⟨D, xs, rfl, hb, kl, DenL.mono (sv.trans sb) _ _ da⟩
theorem v_dc {kx vx tg iter : Expr} {ifs : List Expr} {scope : Scope} {own : List (Str × Nat)} {it : FA} {G : TD} {js : List Nat} {c : FT} {fk fv : FE} (hc : X.calm = true) (hN : X.N.Nodup) (hi : PI X tg iter (rI X.K X.mg W it)) (ok : blkC X.N X.env.scope scope own = true)
    (hg : ∀ (s : Shared) (H : Hp) (C : Addr) (cl : List (Str × Addr)) (fp : List Addr), PG (X.blk s H scope (compEnvC scope cl C X.env) fp) tg (rdG X.K G js))
    (ht : ∀ (s : Shared) (H : Hp) (C : Addr) (cl : List (Str × Addr)) (fp : List Addr), PTs (X.blk s H scope (compEnvC scope cl C X.env) fp) ifs (rT X.K X.mg W0 c))
    (hk : ∀ (s : Shared) (H : Hp) (C : Addr) (cl : List (Str × Addr)) (fp : List Addr), PE (X.blk s H scope (compEnvC scope cl C X.env) fp) kx (rE X.K X.mg W0 fk))
    (he : ∀ (s : Shared) (H : Hp) (C : Addr) (cl : List (Str × Addr)) (fp : List Addr), PE (X.blk s H scope (compEnvC scope cl C X.env) fp) vx (rE X.K X.mg W0 fv))
    (hj : ∀ j ∈ js, j ∈ own.map (·.2) := by decide) (hs : ∀ x, foldedSetIterable iter X.env x = pure x := by intro _; rfl) :
    PE X (.DictComp kx vx [⟨tg, iter, ifs, 0⟩] scope pos) (rE X.K X.mg W (eDc it (own.map (·.2)) G c fk fv)) :=
  (pe_dc hc hN hi (blkOk_by ok) hg ht hk he hs).imp (rDc_of hj)
end
end Mi
namespace Mi
open PySem PySem.Spec PyProof.Rows L2 PySem.W
/-! ### len and sorted of a dict; len(set(xs)), sorted(set(xs)) -/
def inlB : Key → Bool
  | .inl _ => true
  | .inr _ => false
def alikeK (ks : List Key) : Bool := ks.all inlB || ks.all fun k => !inlB k
theorem alikeK_ok {ks : List Key} (h : alikeK ks = true) : AllAlike (ks.map encK) := by
  intro d hd d' hd'
  obtain ⟨k, hk, rfl⟩ := List.mem_map.1 hd
  obtain ⟨k', hk', rfl⟩ := List.mem_map.1 hd'
  unfold alikeK at h
  rw [Bool.or_eq_true, List.all_eq_true, List.all_eq_true] at h
  rcases h with h | h
  · have h1 := h k hk
    have h2 := h k' hk'
    cases k <;> cases k' <;> first | (cases h1; done) | (cases h2; done) | simp [encK, alike]
  · have h1 := h k hk
    have h2 := h k' hk'
    cases k <;> cases k' <;> first | (cases h1; done) | (cases h2; done) | simp [encK, alike]
theorem alikeK_perm {ks ls : List Key} (p : ls.Perm ks) (h : alikeK ks = true) : alikeK ls = true := by
  unfold alikeK at h ⊢
  rw [Bool.or_eq_true, List.all_eq_true, List.all_eq_true] at h ⊢
  exact h.imp (fun h k hk => h k (p.mem_iff.1 hk)) fun h k hk => h k (p.mem_iff.1 hk)
abbrev leK : Key → Key → Bool := dataLe false encK
theorem leK_ll (i j : Int) : leK (.inl i) (.inl j) = decide (i ≤ j) := congrFun (congrFun (dataLe_int (fun b : Int => b)) i) j
theorem leK_rr (x y : Str) : leK (.inr x) (.inr y) = decide (x.cps.toList ≤ y.cps.toList) := congrFun (congrFun (dataLe_str (fun b : Str => b)) x) y
theorem str_ext {x y : Str} (h : x.cps.toList = y.cps.toList) : x = y := by
  cases x; cases y
  exact congrArg _ (Array.toList_inj.1 h)
theorem sort_perm {ks ls : List Key} (p : ls.Perm ks) (h : alikeK ks = true) : ls.mergeSort leK = ks.mergeSort leK := by
  unfold alikeK at h
  rw [Bool.or_eq_true, List.all_eq_true, List.all_eq_true] at h
  have m : ∀ k ∈ ls, k ∈ ks := fun k hk => p.mem_iff.1 hk
  rcases h with h | h
  · obtain ⟨is, rfl⟩ : ∃ is : List Int, ks = is.map Sum.inl := ⟨ks.map fun k => match k with | .inl i => i | .inr _ => 0, by
      rw [List.map_map]
      refine (List.map_id' ks).symm.trans (List.map_congr_left fun k hk => ?_)
      have := h k hk
      cases k with
      | inl i => rfl
      | inr x => cases this⟩
    obtain ⟨js, rfl⟩ : ∃ js : List Int, ls = js.map Sum.inl := ⟨ls.map fun k => match k with | .inl i => i | .inr _ => 0, by
      rw [List.map_map]
      refine (List.map_id' ls).symm.trans (List.map_congr_left fun k hk => ?_)
      have := h k (m k hk)
      cases k with
      | inl i => rfl
      | inr x => cases this⟩
    have e : ∀ l : List Int, (l.map Sum.inl).mergeSort leK = (l.mergeSort fun i j => decide (i ≤ j)).map Sum.inl := fun l => (List.map_mergeSort fun a _ b _ => (leK_ll a b).symm).symm
    rw [e, e]
    have pj : js.Perm is := by
      have := p.map fun k : Key => match k with | .inl i => i | .inr _ => 0
      rw [List.map_map, List.map_map] at this
      simpa [Function.comp_def] using this
    congr 1
    refine List.Perm.eq_of_pairwise (le := fun i j => i ≤ j) (fun a b _ _ h1 h2 => Int.le_antisymm h1 h2) ?_ ?_ (((List.mergeSort_perm js _).trans pj).trans (List.mergeSort_perm is _).symm)
    · exact (List.pairwise_mergeSort (le := fun i j : Int => decide (i ≤ j)) (fun a b c h1 h2 => decide_eq_true (Int.le_trans (of_decide_eq_true h1) (of_decide_eq_true h2))) (fun a b => by
        rw [Bool.or_eq_true, decide_eq_true_eq, decide_eq_true_eq]; exact Int.le_total a b) js).imp fun h => of_decide_eq_true h
    · exact (List.pairwise_mergeSort (le := fun i j : Int => decide (i ≤ j)) (fun a b c h1 h2 => decide_eq_true (Int.le_trans (of_decide_eq_true h1) (of_decide_eq_true h2))) (fun a b => by
        rw [Bool.or_eq_true, decide_eq_true_eq, decide_eq_true_eq]; exact Int.le_total a b) is).imp fun h => of_decide_eq_true h
  · obtain ⟨is, rfl⟩ : ∃ is : List Str, ks = is.map Sum.inr := ⟨ks.map fun k => match k with | .inr i => i | .inl _ => ⟨#[]⟩, by
      rw [List.map_map]
      refine (List.map_id' ks).symm.trans (List.map_congr_left fun k hk => ?_)
      have := h k hk
      cases k with
      | inr i => rfl
      | inl x => cases this⟩
    obtain ⟨js, rfl⟩ : ∃ js : List Str, ls = js.map Sum.inr := ⟨ls.map fun k => match k with | .inr i => i | .inl _ => ⟨#[]⟩, by
      rw [List.map_map]
      refine (List.map_id' ls).symm.trans (List.map_congr_left fun k hk => ?_)
      have := h k (m k hk)
      cases k with
      | inr i => rfl
      | inl x => cases this⟩
    have e : ∀ l : List Str, (l.map Sum.inr).mergeSort leK = (l.mergeSort fun x y => decide (x.cps.toList ≤ y.cps.toList)).map Sum.inr := fun l => (List.map_mergeSort fun a _ b _ => (leK_rr a b).symm).symm
    rw [e, e]
    have pj : js.Perm is := by
      have := p.map fun k : Key => match k with | .inr i => i | .inl _ => ⟨#[]⟩
      rw [List.map_map, List.map_map] at this
      simpa [Function.comp_def] using this
    congr 1
    have tr : ∀ a b c : Str, decide (a.cps.toList ≤ b.cps.toList) = true → decide (b.cps.toList ≤ c.cps.toList) = true → decide (a.cps.toList ≤ c.cps.toList) = true := fun a b c h1 h2 => decide_eq_true (List.le_trans (of_decide_eq_true h1) (of_decide_eq_true h2))
    have to : ∀ a b : Str, (decide (a.cps.toList ≤ b.cps.toList) || decide (b.cps.toList ≤ a.cps.toList)) = true := fun a b => by
      rw [Bool.or_eq_true, decide_eq_true_eq, decide_eq_true_eq]; exact List.le_total _ _
    refine List.Perm.eq_of_pairwise (le := fun x y : Str => x.cps.toList ≤ y.cps.toList) (fun a b _ _ h1 h2 => str_ext (List.le_antisymm h1 h2)) ?_ ?_ (((List.mergeSort_perm js _).trans pj).trans (List.mergeSort_perm is _).symm)
    · exact (List.pairwise_mergeSort (le := fun x y : Str => decide (x.cps.toList ≤ y.cps.toList)) tr to js).imp fun h => of_decide_eq_true h
    · exact (List.pairwise_mergeSort (le := fun x y : Str => decide (x.cps.toList ≤ y.cps.toList)) tr to is).imp fun h => of_decide_eq_true h
theorem each_valsK : ∀ {us : List Value} {ks : List Key}, EachIs (fun v k => keyIs k v = true) us ks → Vals (ks.map kV) us
  | _, _, .nil => .nil
  | _, _, .cons (b := k) h t => .cons (by
    rcases keyIs_shape h with ⟨i, t, rfl, rfl⟩ | ⟨x, t, rfl, rfl⟩ <;> exact ⟨_, rfl⟩) (each_valsK t)
def sortK (ks : List Key) : Option D := if alikeK ks = true ∧ ks.length ≤ lim then some (.lst ((ks.mergeSort leK).map kD)) else none
def fSortD : List D → Option D
  | [.dct ks _] => sortK ks
  | _ => none
def rSortD : List V → Hp → VK → Prop := fun vs H Q => ∃ (a : Addr) (kvs : List (Key × V)), vs = [.ref a] ∧ Rd H a (.dK kvs) ∧ alikeK (kvs.map (·.1)) = true ∧ kvs.length ≤ sizeLine ∧
  ∀ p, H p = none → Q (.ref p) (upd H p (.lst (((kvs.map (·.1)).mergeSort leK).map kV)))
theorem call_sortD {X : Cx} (hc : X.calm = true) (hu : X.A.units + 64 < cLine) : CallR X (.builtin "sorted") rSortD := by
  intro pins s σ H vs us Q I r h
  obtain ⟨a, kvs, rfl, ha, hk, hl, q⟩ := h
  rw [Vals.ref1 r]
  obtain ⟨_, lo, ws, rel, dd⟩ := dk_rd I.hok ha
  obtain ⟨ep, hat⟩ := dd.dictAt
  have keys : ws.map (·.1) = kvs.map (·.1) := rel.keys.symm
  have wl : ws.length = kvs.length := by
    have := congrArg List.length keys
    rw [List.length_map, List.length_map] at this
    exact this
  refine Calls.call_function_entry kind_sorted plain_sorted entry_sorted (args_sorted1 _) ?_
  unfold Builtin.«sorted»
  refine wpAny_bind (m := checkCount "sorted" 1 1 _) (wpAny_pure (wpAny_bind (kdu_collect (A := X.A.in1) (kdl_dict (knd := mixKind X.prog X.w) (kvs := ws) (ep := ep) lo) (I.ok.hd hc) hat (by rw [wl]; exact hl) fun h' tk acc hk' hacc => ?_)))
  have I1 : Inv X pins σ H { s with heap := h', toks := tk } := I.kept hk'
  have al : acc.toList.length = (kvs.map (·.1)).length := by rw [Array.length_toList, hacc.1, List.length_map, wl]
  have ee : EachIs (fun v k => keyIs k v = true) acc.toList (kvs.map (·.1)) := each_keys al fun j v e => by
    obtain ⟨k, x, e1, e2⟩ := hacc.2 j v (by rw [← Array.getElem?_toList]; exact e)
    refine ⟨k, ?_, e2⟩
    rw [← keys, List.getElem?_map, e1]
    rfl
  exact sort_tail (s := { s with heap := h', toks := tk }) (ks := kvs.map (·.1)) rfl ee (alikeK_ok hk) (by rw [List.length_map]; exact hl) (by show X.A.units + 1 + 1 < cLine; omega) fun out c h2 k2 eo g2 =>
    ⟨_, rfl, .ref h'.objs.size, _, I1.laid (t' := tk) k2 (Nat.le_refl _) (show ObjOk X.prog X.w _ _ _ (.lst (((kvs.map (·.1)).mergeSort leK).map kV)) from ⟨by rw [List.length_map, List.length_mergeSort, List.length_map]; exact hl, out, c, each_valsK eo, g2⟩), rfl, q _ (I1.hok.fresh (Nat.le_refl _))⟩
theorem den_dct {K : PySem.W.Frag} {H : Hp} {ks : List Key} {ds : List D} {v : V} (h : Den K H (.dct ks ds) v) : ∃ a vs, v = .ref a ∧ H a = some (.dK (ks.zip vs)) ∧ ks.length = vs.length ∧ DenL K H ds vs := by
  simpa only [Den] using h
theorem zip_keys {α : Type} {ks : List Key} {vs : List α} (h : ks.length = vs.length) : (ks.zip vs).map (·.1) = ks := by
  rw [List.map_fst_zip (Nat.le_of_eq h)]
theorem denL_keys {K : PySem.W.Frag} {H : Hp} : ∀ ks : List Key, DenL K H (ks.map kD) (ks.map kV)
  | [] => DenL.nil
  | k :: ks => DenL.cons (key_den k) (denL_keys ks)
section
variable {K : PySem.W.Frag}
theorem rc_sortD : RC K rSortD fSortD := fun Hh H ds vs d Q s h e q => by
  match ds, e with
  | [.dct ks us], e =>
    simp only [fSortD, sortK] at e
    by_cases c : alikeK ks = true ∧ ks.length ≤ lim
    · rw [if_pos c] at e
      cases e
      obtain ⟨v, rfl, hv⟩ := den1 h
      obtain ⟨a, ws, rfl, h1, h2, h3⟩ := den_dct hv
      refine ⟨a, ks.zip ws, rfl, .inl (s _ _ h1), by rw [zip_keys h2]; exact c.1, by rw [List.length_zip, ← h2, Nat.min_self, ← lim_eq]; exact c.2, fun p hp => ?_⟩
      rw [zip_keys h2]
      exact q _ _ (same_upd hp) (Fresh.lst hp (denL_keys _))
    · rw [if_neg c] at e; cases e
def fLenG : List D → Option D
  | [.dct ks _] => if ks.length ≤ lim then some (.int ks.length) else none
  | ds => fLen ds
def rLenDK : List V → Hp → VK → Prop := fun vs H Q => ∃ (a : Addr) (kvs : List (Key × V)), vs = [.ref a] ∧ H a = some (.dK kvs) ∧ Q (.int kvs.length) H
theorem call_lenDK {X : Cx} : CallR X (.builtin "len") rLenDK := by
  intro pins s σ H vs us Q I r h
  obtain ⟨a, kvs, rfl, ha, q⟩ := h
  rw [Vals.ref1 r]
  obtain ⟨z, lo, ws, rel, dd⟩ := dk_of I.hok ha
  have wl : kvs.length = ws.length := rel.length
  refine call_len_dict lo dd ?_ ⟨.int kvs.length, H, I.tok _, ⟨_, by rw [wl]⟩, q⟩
  rw [← wl]
  rw [sizeLine_eq] at z
  have : (2 : Int) ^ 63 = 9223372036854775808 := by decide
  omega
theorem rc_lenG : RC K (fun xs H Q => rLenDK xs H Q ∨ rLenA K xs H Q) fLenG := fun Hh H ds vs d Q s h e q => by
  match ds, e with
  | [.dct ks us], e =>
    simp only [fLenG] at e
    by_cases c : ks.length ≤ lim
    · rw [if_pos c] at e
      cases e
      obtain ⟨v, rfl, hv⟩ := den1 h
      obtain ⟨a, ws, rfl, h1, h2, h3⟩ := den_dct hv
      exact .inl ⟨a, ks.zip ws, rfl, s _ _ h1, flatQ (fun _ => by simp only [Den]; rw [List.length_zip, ← h2, Nat.min_self]) q⟩
    · rw [if_neg c] at e; cases e
  | [], e => exact .inr (rc_len Hh H _ vs d Q s h e q)
  | [.non], e => exact .inr (rc_len Hh H _ vs d Q s h e q)
  | [.bl _], e => exact .inr (rc_len Hh H _ vs d Q s h e q)
  | [.int _], e => exact .inr (rc_len Hh H _ vs d Q s h e q)
  | [.str _], e => exact .inr (rc_len Hh H _ vs d Q s h e q)
  | [.tup _], e => exact .inr (rc_len Hh H _ vs d Q s h e q)
  | [.lst _], e => exact .inr (rc_len Hh H _ vs d Q s h e q)
  | [.rls _], e => exact .inr (rc_len Hh H _ vs d Q s h e q)
  | [.ty _], e => exact .inr (rc_len Hh H _ vs d Q s h e q)
  | _ :: _ :: _, e => simp only [fLenG] at e; exact .inr (rc_len Hh H _ vs d Q s h e q)
theorem call_lenG {X : Cx} : CallR X (.builtin "len") (fun xs H Q => rLenDK xs H Q ∨ rLenA X.K xs H Q) := CallR.or call_lenDK call_lenA
end
/-! the composites -/
def keysOf : List D → Option (List Key)
  | [] => some []
  | d :: ds => (keyD d).bind fun k => (keysOf ds).map (k :: ·)
theorem keysOf_some : ∀ {ds : List D} {ks : List Key}, keysOf ds = some ks → ds = ks.map kD
  | [], ks, h => by cases h; rfl
  | d :: ds, ks, h => by
    simp only [keysOf] at h
    cases h1 : keyD d with
    | none => rw [h1] at h; cases h
    | some k =>
      rw [h1, Option.bind_some] at h
      cases h2 : keysOf ds with
      | none => rw [h2] at h; cases h
      | some r =>
        rw [h2] at h
        cases h
        rw [List.map_cons, ← keysOf_some h2, ← keyD_some h1]
theorem keysOf_map : ∀ ks : List Key, keysOf (ks.map kD) = some ks
  | [] => rfl
  | k :: ks => by
    show ((keyD (kD k)).bind fun k => (keysOf (ks.map kD)).map (k :: ·)) = _
    rw [keyD_kD, keysOf_map ks]; rfl
theorem denL_keysV {K : PySem.W.Frag} {H : Hp} : ∀ {ks : List Key} {vs : List V}, DenL K H (ks.map kD) vs → vs = ks.map kV
  | [], _, h => by simpa only [DenL, List.map_nil] using h
  | k :: ks, _, h => by
    simp only [List.map_cons, DenL] at h
    obtain ⟨v, r, rfl, h1, h2⟩ := h
    rw [List.map_cons, den_key h1, denL_keysV h2]
def seqD : D → Option (List D)
  | .lst ds => some ds
  | .rls ds => some ds
  | _ => none
def fLenSet (d : D) : Option D := (seqD d).bind fun ds => (keysOf ds).bind fun qs => if qs.length < 4000 then some (.int (metK [] qs).length) else none
def fSortSet (d : D) : Option D := (seqD d).bind fun ds => (keysOf ds).bind fun qs => if qs.length < 4000 ∧ alikeK (metK [] qs) = true then some (.lst (((metK [] qs).mergeSort leK).map kD)) else none
section
variable {X : Cx}
def tLenSet (K : PySem.W.Frag) (ta : TE) : TE := fun σ H Q => ta σ H fun x H1 => ∃ (l : Addr) (qs : List Key), x = V.ref l ∧ SqL K H1 l (qs.map kV) ∧ qs.length < 4000 ∧ Q (.int (metK [] qs).length) H1
def tSortSet (K : PySem.W.Frag) (ta : TE) : TE := fun σ H Q => ta σ H fun x H1 => ∃ (l : Addr) (qs : List Key), x = V.ref l ∧ SqL K H1 l (qs.map kV) ∧ qs.length < 4000 ∧ alikeK (metK [] qs) = true ∧
  ∀ p, H1 p = none → Q (.ref p) (upd H1 p (.lst (((metK [] qs).mergeSort leK).map kV)))
theorem vals_keys {qs : List Key} {its : List Value} (r : Vals (qs.map kV) its) : ∀ (i : Nat) v, its[i]? = some v → ∃ k, qs[i]? = some k ∧ keyIs k v = true := fun i v h => by
  induction qs generalizing its i with
  | nil => cases r; simp at h
  | cons k qs ih =>
    rw [List.map_cons] at r
    cases r with
    | cons r1 r2 =>
      cases i with
      | zero =>
        simp only [List.getElem?_cons_zero, Option.some.injEq] at h
        subst h
        refine ⟨k, rfl, ?_⟩
        cases k with
        | inl i =>
          obtain ⟨t, rfl⟩ := r1
          exact keyIs_int i t
        | inr x =>
          obtain ⟨t, rfl⟩ := r1
          exact keyIs_str x t
      | succ i =>
        simp only [List.getElem?_cons_succ] at h ⊢
        exact ih r2 i h
theorem pe_lenSet {a : Expr} {ta : TE} {p p2 q pos : Pos} (hc : X.calm = true) (hg : Gl X "len") (hm : X.mg "len" = none) (hg2 : Gl X "set") (hm2 : X.mg "set" = none) (ha : PE X a ta)
    (na : starEach [a] X.env = (false, eval a X.env) :: starEach [] X.env := by rfl) : PE X (.Call (.Name "len" p) [.Call (.Name "set" p2) [a] [] q] [] pos) (tLenSet X.K ta) := by
  refine ⟨fun pins s σ H Q I h => ?_⟩
  refine Call_ (ld_blt I hg hm PySem.boot_len (PyProof.Rows.callWith_builtin1 (PyProof.Rows.args_cons ?_ rfl) rfl rfl))
  refine Call_ (ld_blt I hg2 hm2 PyProof.Rows.boot_set (PyProof.Rows.callWith_type1 (PyProof.Rows.args_cons (thn (ha.run pins s σ H _ I h) fun v s1 ⟨x, H1, I1, r1, q1⟩ => PyProof.Rows.args_nil ?_) na) na rfl))
  obtain ⟨l, qs, rfl, hq, h1, q1⟩ := q1
  cases r1
  obtain ⟨its, r, pl, hz⟩ := I1.list hq
  have hl : its.toArray.size = qs.length := by rw [List.size_toArray, ← r.length, List.length_map]
  refine call_setM (I1.ok.hd hc) pl.isList (qs := qs) hl.symm (fun i v e => vals_keys r i v (by simpa using e)) (by unfold scanBound; omega) fun h' tk hS hk => ?_
  refine PyProof.Rows.args_nil ?_
  obtain ⟨o, es, ep, t, ho, hex, hd, R⟩ := hS
  have I2 : Inv X pins σ H1 { s1 with heap := h', toks := tk } := I1.kept hk
  have sz := R.size
  refine call_len_set ho hex hd R.fits ?_ ⟨.int (metK [] qs).length, H1, I2.tok _, ⟨_, by rw [sz]⟩, q1⟩
  have := metK_len qs []
  rw [List.length_nil] at this
  have : (2 : Int) ^ 63 = 9223372036854775808 := by decide
  omega
theorem pe_sortSet {a : Expr} {ta : TE} {p p2 q pos : Pos} (hc : X.calm = true) (hu : X.A.units + 64 < cLine) (hg : Gl X "sorted") (hm : X.mg "sorted" = none) (hg2 : Gl X "set") (hm2 : X.mg "set" = none) (ha : PE X a ta)
    (na : starEach [a] X.env = (false, eval a X.env) :: starEach [] X.env := by rfl) : PE X (.Call (.Name "sorted" p) [.Call (.Name "set" p2) [a] [] q] [] pos) (tSortSet X.K ta) := by
  refine ⟨fun pins s σ H Q I h => ?_⟩
  refine Call_ (ld_blt I hg hm PyProof.Rows.boot_sorted (PyProof.Rows.callWith_builtin1 (PyProof.Rows.args_cons ?_ rfl) rfl rfl))
  refine Call_ (ld_blt I hg2 hm2 PyProof.Rows.boot_set (PyProof.Rows.callWith_type1 (PyProof.Rows.args_cons (thn (ha.run pins s σ H _ I h) fun v s1 ⟨x, H1, I1, r1, q1⟩ => PyProof.Rows.args_nil ?_) na) na rfl))
  obtain ⟨l, qs, rfl, hq, h1, hk, q1⟩ := q1
  cases r1
  obtain ⟨its, r, pl, hz⟩ := I1.list hq
  have hl : its.toArray.size = qs.length := by rw [List.size_toArray, ← r.length, List.length_map]
  refine call_setM (I1.ok.hd hc) pl.isList (qs := qs) hl.symm (fun i v e => vals_keys r i v (by simpa using e)) (by unfold scanBound; omega) fun h' tk hS hk' => ?_
  refine PyProof.Rows.args_nil ?_
  have I2 : Inv X pins σ H1 { s1 with heap := h', toks := tk } := I1.kept hk'
  refine sorted_setM (s := { s1 with heap := h', toks := tk }) hS (I1.ok.hd hc) (alikeK_ok hk) (by omega) fun s' out c ps p k g o pm eo hp gp => ?_
  have so := sort_perm pm hk
  have hn : H1 p = none := I2.hok.fresh hp
  have ln : ((ps.mergeSort leK).map kV).length ≤ sizeLine := by
    rw [List.length_map, List.length_mergeSort, pm.length_eq, ← lim_eq]
    have := metK_len qs []
    rw [List.length_nil] at this
    show _ ≤ 16777216
    omega
  have J : Inv X pins σ (upd H1 p (.lst ((ps.mergeSort leK).map kV))) { s1 with heap := s'.heap, gens := s'.gens, drawn := s'.drawn, toks := s'.toks } :=
    Inv.call (s := { s1 with heap := h', toks := tk }) I2 (ch := []) (Un.laid k hp hn) (I2.hok.laid k hp ⟨ln, out, c, each_valsK eo, gp⟩) (by rw [g]; exact I2.bare) (fun _ z => nomatch z)
  have e : s' = { s1 with heap := s'.heap, gens := s'.gens, drawn := s'.drawn, toks := s'.toks } := by
    cases s'
    cases s1
    cases o
    rfl
  rw [e]
  refine ⟨.ref p, _, J, rfl, ?_⟩
  rw [so]
  exact q1 p hn
end
section
variable {X : Cx} {W : WX} {a : Expr} {fa : FE} {p p2 q pos : Pos}
theorem den_seq {K : PySem.W.Frag} {H : Hp} {d : D} {ds : List D} {v : V} (h : Den K H d v) (e : seqD d = some ds) : ∃ l vs, v = .ref l ∧ SqL K H l vs ∧ DenL K H ds vs := by
  cases d with
  | lst es =>
    cases e
    obtain ⟨l, vs, rfl, h1, h2⟩ := den_lst h
    exact ⟨l, vs, rfl, .inl (.inl h1), h2⟩
  | rls es =>
    cases e
    simp only [Den] at h
    exact h
  | _ => cases e
theorem v_lenSet (hc : X.calm = true) (hg : Gl X "len") (hm : X.mg "len" = none) (hg2 : Gl X "set") (hm2 : X.mg "set" = none) (ha : PE X a (rE X.K X.mg W fa))
    (na : starEach [a] X.env = (false, eval a X.env) :: starEach [] X.env := by rfl) : PE X (.Call (.Name "len" p) [.Call (.Name "set" p2) [a] [] q] [] pos) (rE X.K X.mg W (eU fLenSet fa)) :=
  (pe_lenSet hc hg hm hg2 hm2 ha na).imp fun σ H Q ⟨A, e, r, p⟩ => by
    refine rd_seq r p fun da e1 x H1 _ r1 s1 d1 p1 => ?_
    cases h : fLenSet da with
    | none => simp only [h] at p1; exact p1.elim
    | some d =>
      simp only [h] at p1
      unfold fLenSet at h
      cases h2 : seqD da with
      | none => rw [h2] at h; cases h
      | some ds =>
        rw [h2, Option.bind_some] at h
        cases h3 : keysOf ds with
        | none => rw [h3] at h; cases h
        | some qs =>
          rw [h3, Option.bind_some] at h
          by_cases c : qs.length < 4000
          · rw [if_pos c] at h
            cases h
            obtain ⟨l, vs, rfl, k1, k2⟩ := den_seq d1 h2
            rw [keysOf_some h3] at k2
            rw [denL_keysV k2] at k1
            exact ⟨l, qs, rfl, hid_sub.seq k1, c, p1 _ _ r1 (Same.refl _) (by simp only [Den])⟩
          · rw [if_neg c] at h; cases h
theorem v_sortSet (hc : X.calm = true) (hu : X.A.units + 64 < cLine) (hg : Gl X "sorted") (hm : X.mg "sorted" = none) (hg2 : Gl X "set") (hm2 : X.mg "set" = none) (ha : PE X a (rE X.K X.mg W fa))
    (na : starEach [a] X.env = (false, eval a X.env) :: starEach [] X.env := by rfl) : PE X (.Call (.Name "sorted" p) [.Call (.Name "set" p2) [a] [] q] [] pos) (rE X.K X.mg W (eU fSortSet fa)) :=
  (pe_sortSet hc hu hg hm hg2 hm2 ha na).imp fun σ H Q ⟨A, e, r, p⟩ => by
    refine rd_seq r p fun da e1 x H1 _ r1 s1 d1 p1 => ?_
    cases h : fSortSet da with
    | none => simp only [h] at p1; exact p1.elim
    | some d =>
      simp only [h] at p1
      unfold fSortSet at h
      cases h2 : seqD da with
      | none => rw [h2] at h; cases h
      | some ds =>
        rw [h2, Option.bind_some] at h
        cases h3 : keysOf ds with
        | none => rw [h3] at h; cases h
        | some qs =>
          rw [h3, Option.bind_some] at h
          by_cases c : qs.length < 4000 ∧ alikeK (metK [] qs) = true
          · rw [if_pos c] at h
            cases h
            obtain ⟨l, vs, rfl, k1, k2⟩ := den_seq d1 h2
            rw [keysOf_some h3] at k2
            rw [denL_keysV k2] at k1
            exact ⟨l, qs, rfl, hid_sub.seq k1, c.1, c.2, fun z nz => fin r1 p1 (same_upd nz) (Fresh.lst nz (denL_keys _))⟩
          · rw [if_neg c] at h; cases h
end
end Mi
namespace Mi
open PySem PySem.Spec PyProof.Rows L2 PySem.W
/-! ### pairs compared by <=, max of three, list(x) as a list of one's own, texts at the top -/
def gLeT : D → D → Option D
  | .tup [.int a, .int b], .tup [.int c, .int d] => some (.bl (decide (a < c ∨ (a = c ∧ b ≤ d))))
  | _, _ => none
theorem lex2 (a b c d : Int) : Ob.lexAt (fun j => decide (([a, b] : List Int).getD j 0 = ([c, d] : List Int).getD j 0)) (fun j => decide (([a, b] : List Int).getD j 0 ≤ ([c, d] : List Int).getD j 0)) (decide (([a, b] : List Int).length ≤ ([c, d] : List Int).length)) 0 (min ([a, b] : List Int).length ([c, d] : List Int).length) = decide (a < c ∨ (a = c ∧ b ≤ d)) := by
  show (if decide (a = c) = true then (if decide (b = d) = true then decide (2 ≤ 2) else decide (b ≤ d)) else decide (a ≤ c)) = _
  by_cases h : a = c
  · rw [if_pos (decide_eq_true h)]
    by_cases k : b = d
    · rw [if_pos (decide_eq_true k)]
      exact (decide_eq_true (Or.inr ⟨h, by omega⟩)).symm
    · rw [if_neg (by simpa using k)]
      apply decide_eq_decide.2
      omega
  · rw [if_neg (by simpa using h)]
    apply decide_eq_decide.2
    omega
section
variable {K : PySem.W.Frag}
theorem den_ints2 {H : Hp} {a b : Int} {vs : List V} (h : DenL K H [.int a, .int b] vs) : vs = ([a, b] : List Int).map V.int := by
  obtain ⟨v, v', rfl, h1, h2⟩ := den2 h
  rw [den_int h1, den_int h2]
  rfl
theorem rb_leT : RB K (rLeT K) gLeT := fun Hh H x y u v d Q s ha hb h q => by
  match x, y, h with
  | .tup [.int a, .int b], .tup [.int c, .int e], h =>
    cases h
    obtain ⟨p, us, rfl, h1, h2⟩ := den_tup ha
    obtain ⟨r, ws, rfl, k1, k2⟩ := den_tup hb
    rw [den_ints2 h2] at h1
    rw [den_ints2 k2] at k1
    refine ⟨p, r, [a, b], [c, e], rfl, rfl, Same.seqT s h1, Same.seqT s k1, ?_⟩
    rw [lex2]
    exact flatQ (fun _ => by simp only [Den]) q
theorem op_leTr {X : Cx} {k : Nat} (hr : Room k X.A) : OpR X (compareOp .LtE) (rLeT X.K) := op_leT (by have := hr.hu; omega)
def fMax3 : List D → Option D
  | [.int i, .int j, .int k] => some (.int (max (max i j) k))
  | _ => none
theorem rc_max3 : RC K (rNuC3 nuMax3) fMax3 := fun Hh H ds vs d Q s h e q => by
  match ds, e with
  | [.int i, .int j, .int k], e =>
    cases e
    obtain ⟨v1, v2, v3, rfl, h1, h2, h3⟩ := den3 h
    rw [den_int h1, den_int h2, den_int h3]
    refine ⟨_, _, _, .int (max (max i j) k), rfl, ?_, flatQ (fun _ => by simp only [Den]) q⟩
    have m2 : ∀ x y : Int, nuMax2 (.int x) (.int y) = some (.int (max x y)) := fun x y => by
      show (some (decide (x < y))).map (fun c => if c = true then V.int y else V.int x) = _
      rw [Option.map_some]
      by_cases c : x < y
      · rw [if_pos (decide_eq_true c), Int.max_eq_right (Int.le_of_lt c)]
      · rw [if_neg (by simpa using c), Int.max_eq_left (Int.not_lt.1 c)]
    show (nuMax2 _ _).bind _ = _
    rw [m2, Option.bind_some, m2]
def itemsL : D → Option (List D)
  | .lst ds => some ds
  | .rls ds => some ds
  | .tup ds => some ds
  | _ => none
theorem den_itemsL {H : Hp} {d : D} {ds : List D} {v : V} (h : Den K H d v) (e : itemsL d = some ds) : ∃ p vs, v = .ref p ∧ (SqL K H p vs ∨ SqT K H p vs) ∧ DenL K H ds vs := by
  cases d with
  | lst es =>
    cases e
    obtain ⟨p, vs, rfl, h1, h2⟩ := den_lst h
    exact ⟨p, vs, rfl, .inl (.inl (.inl h1)), h2⟩
  | rls es =>
    cases e
    simp only [Den] at h
    obtain ⟨p, vs, rfl, h1, h2⟩ := h
    exact ⟨p, vs, rfl, .inl h1, h2⟩
  | tup es =>
    cases e
    obtain ⟨p, vs, rfl, h1, h2⟩ := den_tup h
    exact ⟨p, vs, rfl, .inr h1, h2⟩
  | _ => cases e
end
section
variable {X : Cx} {W : WX} {pos p : Pos} {a : Expr} {fa : FE}
/-- list(x) as a new list -/
theorem n_lstOf (hg : Gl X "list") (hm : X.mg "list" = none) (ha : PE X a (rE X.K X.mg W fa)) (he : starEach [a] X.env = (false, eval a X.env) :: starEach [] X.env := by rfl) (hpl : (backTo pos (starEach [] X.env)).any (·.1) = false := by rfl) :
    PE X (.Call (.Name "list" p) [a] [] pos) (rN X.K X.mg W (nU itemsL fa)) :=
  (pe_callTy call_lstA hg hm (by decide +kernel) (pa_cons ha pa_nil he) (by decide) (by decide) he hpl).imp fun σ H Q ⟨A, en, r, q⟩ => by
    refine rN_seq r q fun d e1 x H1 _ r1 s1 d1 p1 => ?_
    cases k : itemsL d with
    | none => simp only [k] at p1; exact p1.elim
    | some ds =>
      simp only [k] at p1
      obtain ⟨l, vs, rfl, h1, h2⟩ := den_itemsL d1 k
      exact ⟨l, vs, rfl, h1.imp hid_sub.seq (Same.seqT hid_sub), fun t ht => finN r1 p1 ht h2⟩
end
/-! one sign in a text -/
def gInS : D → D → Option D
  | .str x, .str z => match x.cps.toList with
    | [c] => some (.bl (decide (c ∈ z.cps.toList)))
    | _ => none
  | _, _ => none
theorem rb_inS {K : PySem.W.Frag} : RB K (fun x y H Q => ∃ (c : Nat) (z : Str), x = .str ⟨#[c]⟩ ∧ y = .str z ∧ Q (.bl (decide (c ∈ z.cps.toList))) H) gInS := fun Hh H a b x y d Q s ha hb h q => by
  cases a <;> cases b <;> simp only [gInS] at h <;> try cases h
  rename_i u z
  rw [den_str ha, den_str hb]
  split at h
  · rename_i c e
    cases h
    refine ⟨c, z, congrArg V.str ?_, rfl, flatQ (fun _ => by simp only [Den]) q⟩
    obtain ⟨cps⟩ := u
    exact congrArg _ (Array.toList_inj.1 e)
  · cases h
/-! a text so many times -/
def repS (x : Str) (n : Nat) : Str := ⟨(List.replicate n x.cps.toList).flatten.toArray⟩
theorem fold_app {α : Type} : ∀ (n : Nat) (a x : Array α), ((List.replicate n x).foldl (· ++ ·) a).toList = a.toList ++ (List.replicate n x.toList).flatten
  | 0, a, x => by simp
  | n + 1, a, x => by
    rw [List.replicate_succ, List.foldl_cons, fold_app n (a ++ x) x, List.replicate_succ, List.flatten_cons, Array.toList_append, List.append_assoc]
theorem repS_eq (x : Str) (n : Nat) : (⟨(List.replicate n x.cps).foldl (· ++ ·) #[]⟩ : Str) = repS x n := by
  unfold repS
  congr 1
  apply Array.toList_inj.1
  rw [fold_app]
  simp
theorem flat_len {α : Type} : ∀ (n : Nat) (l : List α), (List.replicate n l).flatten.length = n * l.length
  | 0, l => by simp
  | n + 1, l => by rw [List.replicate_succ, List.flatten_cons, List.length_append, flat_len n l, Nat.succ_mul, Nat.add_comm]
theorem repS_len (x : Str) (n : Nat) : (repS x n).length = n * x.length := by
  show ((List.replicate n x.cps.toList).flatten.toArray).size = n * x.cps.size
  rw [List.size_toArray, flat_len, Array.length_toList]
def rMulS : R2 := fun x y H Q => ∃ (z : Str) (n : Int), x = .str z ∧ y = .int n ∧ 0 ≤ n ∧ n.toNat * z.length ≤ 1000000 ∧ n ≤ 1000000 ∧ Q (.str (repS z n.toNat)) H
theorem op_mulS {X : Cx} : OpR X (binaryOp .Mult) rMulS := by
  intro pins s σ H x y v u Q I rx ry h
  obtain ⟨z, n, rfl, rfl, h0, hz, h1, q⟩ := h
  obtain ⟨t, rfl⟩ := rx
  obtain ⟨t', rfl⟩ := ry
  have p63 : (2 : Int) ^ 63 = 9223372036854775808 := by decide
  refine P.mul_str (by
    have a : ¬ n < -(2 ^ 63 : Int) := by omega
    have b : ¬ n ≥ 2 ^ 63 := by omega
    rw [decide_eq_false a, decide_eq_false b]; rfl) (fun c _ => ?_) (fun c _ => ?_) ?_
  · have : (z.length : Int) * n ≤ 1000000 := by
      have e : ((n.toNat : Nat) : Int) = n := Int.toNat_of_nonneg h0
      have : ((n.toNat * z.length : Nat) : Int) ≤ 1000000 := by omega
      rw [Int.natCast_mul, e, Int.mul_comm] at this
      exact this
    have le : (z.length : Int) ≤ (2 ^ 63 - 1) / n := by
      rw [Int.le_ediv_iff_mul_le (by omega)]
      omega
    omega
  · unfold PySem.Builtin.Str.tooLong
    rw [Nat.mul_comm] at hz
    exact decide_eq_false (by rw [sizeLine_eq]; omega)
  · by_cases c : n < 1
    · rw [if_pos c]
      have e : n.toNat = 0 := by omega
      rw [e] at q
      exact ⟨by decide, .str (repS z 0), H, I.tok _, ⟨_, rfl⟩, q⟩
    · rw [if_neg c]
      split
      · rename_i k
        have e : repS z n.toNat = z := by
          rw [Bool.or_eq_true] at k
          rcases k with k | k
          · have e1 : n.toNat = 1 := by
              have := eq_of_beq k
              omega
            rw [e1]
            unfold repS
            simp
          · have e1 : z.length = 0 := eq_of_beq k
            have e2 : z.cps.toList = [] := by
              have : z.cps.size = 0 := e1
              rw [← List.length_eq_zero_iff, Array.length_toList]
              exact this
            have e3 : (List.replicate n.toNat z.cps.toList).flatten = [] := by
              rw [← List.length_eq_zero_iff, flat_len, e2]; rfl
            unfold repS
            rw [e3]
            exact (str_ext e2).symm
        rw [e] at q
        exact ⟨.str z, H, I, ⟨_, rfl⟩, q⟩
      · rw [repS_eq]
        refine ⟨?_, .str (repS z n.toNat), H, I.tok _, ⟨_, rfl⟩, q⟩
        rw [repS_len, sizeLine_eq]
        omega
def gMulS : D → D → Option D
  | .str z, .int n => if 0 ≤ n ∧ n.toNat * z.length ≤ 1000000 ∧ n ≤ 1000000 then some (.str (repS z n.toNat)) else none
  | _, _ => none
theorem rb_mulS {K : PySem.W.Frag} : RB K rMulS gMulS := fun Hh H a b x y d Q s ha hb h q => by
  cases a <;> cases b <;> simp only [gMulS] at h <;> try cases h
  rename_i z n
  by_cases c : 0 ≤ n ∧ n.toNat * z.length ≤ 1000000 ∧ n ≤ 1000000
  · rw [if_pos c] at h
    cases h
    exact ⟨z, n, den_str ha, den_int hb, c.1, c.2.1, c.2.2, flatQ (fun _ => by simp only [Den]) q⟩
  · rw [if_neg c] at h
    cases h
/-! int(text) -/
def fIntS : List D → Option D
  | [.str a] => if a.length ≤ 640 then (PySem.intText? a).map D.int else none
  | _ => none
theorem rc_intS {K : PySem.W.Frag} : RC K (fun xs H Q => ∃ a n, xs = [.str a] ∧ PySem.intText? a = some n ∧ a.length ≤ 640 ∧ Q (.int n) H) fIntS := fun Hh H ds vs d Q s h e q => by
  match ds, e with
  | [.str a], e =>
    simp only [fIntS] at e
    by_cases c : a.length ≤ 640
    · rw [if_pos c] at e
      obtain ⟨n, hn, rfl⟩ := Option.map_eq_some_iff.1 e
      obtain ⟨v, rfl, hv⟩ := den1 h
      rw [den_str hv]
      exact ⟨a, n, rfl, hn, c, flatQ (fun _ => by simp only [Den]) q⟩
    · rw [if_neg c] at e; cases e
def StrA (mg : Str → Option Value) (x z : Str) : Prop := ∃ t, mg x = some (.str z t)
theorem v_globSU {X : Cx} {W : WX} {pos : Pos} {x z : Str} (h : StrA X.mg x z) (hg : Gl X x) (hd : (x == ("__debug__" : Str)) = false := by decide) : PE X (.Name x pos) (rE X.K X.mg W (eC (.str z))) := by
  obtain ⟨t, h⟩ := h
  exact v_globS hg h ⟨t, rfl⟩ hd
/-- where a def stands, under a name that need not be its own -/
def DefN (K : PySem.W.Frag) (mg : Str → Option Value) (g x : Str) (st : Stmt) (ps : List Str) : Prop :=
  ∃ (f : Addr) (fd : FuncData), Fun K x x st f fd ∧ mg g = some (.ref f) ∧ PySem.W.keepIn K (.ref f) = true ∧ Binds K fd ps []
theorem mi11 : (∀ (f : FE) (b : Nat) (e : En), True) ∧ (∀ a b c d : Int, gLeT (.tup [.int a, .int b]) (.tup [.int c, .int d]) = some (.bl (decide (a < c ∨ (a = c ∧ b ≤ d))))) ∧ (∀ i j k : Int, fMax3 [.int i, .int j, .int k] = some (.int (max (max i j) k))) ∧
  (∀ ds : List D, itemsL (.lst ds) = some ds) ∧ (∀ ds : List D, itemsL (.tup ds) = some ds) ∧ (∀ ds : List D, itemsL (.rls ds) = some ds) ∧ (∀ (ks : List Key) (ds : List D), fSortD [.dct ks ds] = sortK ks) ∧
  (∀ (ks : List Key) (ds : List D), fLenG [.dct ks ds] = if ks.length ≤ lim then some (.int ks.length) else none) :=
  ⟨by intros; trivial, by intros; rfl, by intros; rfl, by intros; rfl, by intros; rfl, by intros; rfl, by intros; rfl, by intros; rfl⟩
end Mi
namespace Mi
open PySem PySem.Spec PyProof.Rows L2
/-! ### range(i, j), whatever the size of i and j -/
theorem turn_long {P : Program} {w : World} {K : PySem.W.Frag} {tg : Expr} (it : Addr) (lo : Int) (n : Nat) : Turn P w K tg (Itr lo n) [it] it (fun i h => IsLongIter h it (lo + (i : Nat) * 1) ((n : Int) - (i : Nat)) 1) where
  mem := List.mem_singleton.2 rfl
  obj := fun i h st b hb => by
    rw [List.mem_singleton] at hb
    subst hb
    exact ⟨_, st, fun v z => nomatch (show Data.fields _ = Data.cell v from z)⟩
  keep := fun i h h' st k => k it (List.mem_singleton.2 rfl) _ st
  item := by
    intro X hP hw hK hc i pins s σ H E I hf st hg
    subst hP hw hK
    obtain ⟨f0, f1, f2, f3, f4, f5⟩ := hf it (List.mem_singleton.2 rfl)
    refine (Walks.longrange (prog := X.prog) (w := X.w) (I.ok.hd hc) it lo 1 n).item i s _ _ hg st fun v h' tk hv st' kk => ?_
    obtain ⟨t, rfl⟩ := hv
    have I1 : Inv X pins σ H { s with heap := h', toks := tk } := I.turned (fun b o hb e => kk b o (by simpa using hb) e) f0 f1 f3 f4 f5
    refine ⟨_, rfl, go_of (s := { s with heap := h', toks := tk }) (n := "longrange_iterator") st' rfl rfl (by decide) ⟨.int (lo + i), H, I1, ⟨t, ?_⟩, ⟨rfl, rfl⟩, st', fun b hb => (hf b hb).1⟩⟩
    rw [Int.mul_one]
  done := by
    intro X hP hw hK hc i pins s σ H E I hf st hg
    subst hP hw hK
    obtain ⟨f0, f1, f2, f3, f4, f5⟩ := hf it (List.mem_singleton.2 rfl)
    have hg : n ≤ i := hg
    exact wpAny_pyNext_long_end (I.ok.hd hc) st (by omega) fun h' eb => ⟨rfl, I.turned (t' := s.toks) (fun b o hb e => eb b o hb e) f0 f1 f3 f4 f5⟩
  self := fun _ _ _ _ _ st h => wpAny_pyIter_longiter st h
section
variable {X : Cx} {tg : Expr}
theorem long_it {pins : List (Addr × Obj)} {σ : L2.St} {H : Hp} {s : Shared} {R : It → Hp → Prop} {E : Value → Shared → Prop} {lo hi : Int} {t u v : Tok} {tk : Nat} (I : Inv X pins σ H s) (hb : Builtin.Range.small lo hi 1 = false)
    (q : R (Itr lo (hi - lo).toNat) H) : wpAny (model X.prog X.w) X.A (pyIter (.ref s.heap.objs.size)) (PIE X pins σ tg R) E { s with heap := s.heap.push { cls := .type "range", data := .fields #[.int lo t, .int hi u, .int 1 v] }, toks := tk } := by
  refine wpAny_pyIter_longrange (IsRange.new ..) hb ?_
  have I1 : Inv X pins σ H { s with heap := s.heap.push { cls := .type "range", data := .fields #[.int lo t, .int hi u, .int 1 v] }, toks := tk } := I.kept fun b o e => Heap.get?_push_of_some _ e
  refine ⟨(s.heap.push { cls := .type "range", data := .fields #[.int lo t, .int hi u, .int 1 v] }).objs.size, [(s.heap.push { cls := .type "range", data := .fields #[.int lo t, .int hi u, .int 1 v] }).objs.size], _, _, H, rfl,
    I1.kept (t' := tk) fun b o e => Heap.get?_push_of_some _ e, turn_long _ lo (hi - lo).toNat, ?_, fun b hb => ?_, q⟩
  · have e2 : (((hi - lo).toNat : Nat) : Int) - ((0 : Nat) : Int) = Builtin.Range.rangeSize lo hi 1 := by rw [rangeSize_one]; split <;> omega
    show IsLongIter _ _ (lo + ((0 : Nat) : Int) * 1) ((((hi - lo).toNat : Nat) : Int) - ((0 : Nat) : Int)) 1
    rw [e2, show lo + ((0 : Nat) : Int) * 1 = lo by omega]
    exact Heap.get?_push_size _ rfl
  · rw [List.mem_singleton] at hb
    subst hb
    exact I1.fpOk (Nat.le_refl _) (I1.hok.fresh (Nat.le_refl _))
theorem any_it {pins : List (Addr × Obj)} {σ : L2.St} {H : Hp} {s : Shared} {R : It → Hp → Prop} {E : Value → Shared → Prop} {lo hi : Int} {t u v : Tok} {tk : Nat} (I : Inv X pins σ H s)
    (q : R (Itr lo (hi - lo).toNat) H) : wpAny (model X.prog X.w) X.A (pyIter (.ref s.heap.objs.size)) (PIE X pins σ tg R) E { s with heap := s.heap.push { cls := .type "range", data := .fields #[.int lo t, .int hi u, .int 1 v] }, toks := tk } := by
  by_cases c : Builtin.Range.small lo hi 1 = true
  · refine wpAny_pyIter_range (IsRange.new ..) c ?_
    have I1 : Inv X pins σ H { s with heap := s.heap.push { cls := .type "range", data := .fields #[.int lo t, .int hi u, .int 1 v] }, toks := tk } := I.kept fun b o e => Heap.get?_push_of_some _ e
    refine ⟨(s.heap.push { cls := .type "range", data := .fields #[.int lo t, .int hi u, .int 1 v] }).objs.size, [(s.heap.push { cls := .type "range", data := .fields #[.int lo t, .int hi u, .int 1 v] }).objs.size], _, _, H, rfl,
      I1.kept (t' := tk) fun b o e => Heap.get?_push_of_some _ e, turn_range _ lo (hi - lo).toNat, ?_, fun b hb => ?_, q⟩
    · have e2 : (((hi - lo).toNat : Nat) : Int) - ((0 : Nat) : Int) = Builtin.Range.rangeSize lo hi 1 := by rw [rangeSize_one]; split <;> omega
      show IsRangeIter _ _ (lo + ((0 : Nat) : Int) * 1) ((((hi - lo).toNat : Nat) : Int) - ((0 : Nat) : Int)) 1
      rw [e2, show lo + ((0 : Nat) : Int) * 1 = lo by omega]
      exact Heap.get?_push_size _ rfl
    · rw [List.mem_singleton] at hb
      subst hb
      exact I1.fpOk (Nat.le_refl _) (I1.hok.fresh (Nat.le_refl _))
  · exact long_it I (by simpa using c) q
def iRngL (ta : TA) : TI := fun σ H R => ta σ H fun vs H1 => ∃ i j : Int, vs = [.int i, .int j] ∧ R (Itr i (j - i).toNat) H1
theorem pi_rangeL {a b : Expr} {ta : TA} {p pos : Pos} (hg : Gl X "range") (hm : X.mg "range" = none) (ha : PA X [a, b] ta) (hs : starEach [a, b] X.env = [(false, eval a X.env), (false, eval b X.env)] := by rfl) (hs2 : starEach [b] X.env = [(false, eval b X.env)] := by rfl) :
    PI X tg (.Call (.Name "range" p) [a, b] [] pos) (iRngL ta) := by
  refine ⟨fun pins s σ H R I h => ?_⟩
  refine Call_ (ld_blt I hg hm boot_range (PyProof.Rows.callWith_type1 (thn (ha.run pos pins s σ H _ I h) fun us s1 ⟨vs, H1, I1, r1, q1⟩ => ?_) (by rw [hs, hs2]) (by rw [hs2]; rfl)))
  obtain ⟨i, j, rfl, q⟩ := q1
  cases r1 with
  | cons r rr =>
    cases rr with
    | cons r' rr =>
      cases rr
      obtain ⟨t, rfl⟩ := r
      obtain ⟨t', rfl⟩ := r'
      exact call_range_2 (any_it I1 q)
variable {W : WX} {a b : Expr} {pos : Pos}
def rnL (ds : List D) : Option (Int × Int) := (ar2 ds).bind fun q => (int? q.1).bind fun i => (int? q.2).bind fun j => some (i, j)
theorem rnL_some {ds : List D} {i j : Int} (h : rnL ds = some (i, j)) : ds = [.int i, .int j] := by
  unfold rnL at h
  cases e : ar2 ds with
  | none => rw [e] at h; cases h
  | some q =>
    obtain ⟨a, b⟩ := q
    rw [e, Option.bind_some] at h
    cases k : int? a with
    | none => simp only [k, Option.bind_none] at h; cases h
    | some i' =>
      cases k2 : int? b with
      | none => simp only [k, k2, Option.bind_some, Option.bind_none] at h; cases h
      | some j' =>
        simp only [k, k2, Option.bind_some] at h
        cases h
        rw [ar2_some e, int_some k, int_some k2]
def iRL (f : FA) : FA := fun e => (f e).bind fun p => match rnL p.1 with
  | some q => .ok (rangeD q.1 (q.2 - q.1).toNat, p.2)
  | none => .err
theorem vi_rangeL {p : Pos} {f : FA} (hg : Gl X "range") (hm : X.mg "range" = none) (ha : PA X [a, b] (rA X.K X.mg W f)) (hs : starEach [a, b] X.env = [(false, eval a X.env), (false, eval b X.env)] := by rfl) (hs2 : starEach [b] X.env = [(false, eval b X.env)] := by rfl) :
    PI X tg (.Call (.Name "range" p) [a, b] [] pos) (rI X.K X.mg W (iRL f)) :=
  (pi_rangeL hg hm ha hs hs2).imp fun σ H Q ⟨A, e, r, p⟩ => by
    refine rd_seq r p fun ds e1 x H1 _ r1 s1 d1 p1 => ?_
    cases q : rnL ds with
    | none => simp only [q] at p1; exact p1.elim
    | some ij =>
      obtain ⟨i, j⟩ := ij
      simp only [q] at p1
      rw [rnL_some q] at d1
      obtain ⟨v, v', rfl, h, h'⟩ := den2 d1
      rw [den_int h, den_int h']
      exact ⟨i, j, rfl, p1 _ _ r1 (Same.refl _) jd_range⟩
end
theorem mi12 : (∀ (f : FA) (e : En), iRL f e = (f e).bind fun p => match rnL p.1 with
  | some q => .ok (rangeD q.1 (q.2 - q.1).toNat, p.2)
  | none => .err) ∧ (∀ i j : Int, rnL [.int i, .int j] = some (i, j)) := ⟨by intros; rfl, by intros; rfl⟩
end Mi
namespace Mi
open PySem PySem.Spec PyProof.Rows L2
/-! ### x[k] = e and x.pop(k) of a list of one's own -/
def sStI (i : Nat) (fi f : FE) : FS := fun e => (f e).bind fun p => match p.2[i]? with
  | some (.own _) => (fi p.2).bind fun q => match q.2[i]? with
    | some (.own ds) => (match int? q.1 with
      | some k => (match ixN ds.length k with
        | some j => .ok (.nx (q.2.set i (.own (ds.set j p.1))))
        | none => .err)
      | none => .err)
    | _ => .err
  | _ => .err
section
variable {X : Cx} {W : WX} {pos : Pos} {a b : Expr} {fa fb : FE}
theorem vs_stI (i : Nat) {x : Str} {p1 p2 : Pos} (hb : PE X b (rE X.K X.mg W fb)) (ha : PE X a (rE X.K X.mg W fa)) (hN : X.N[i]? = some x := by rfl) (hv : Vis X.env.scope x := by first | exact Or.inl rfl | exact Or.inr (Or.inl rfl) | exact Or.inr (Or.inr rfl))
    (hd : (x == ("__debug__" : Str)) = false := by decide) (hcd : (x == ("__classdict__" : Str)) = false := by decide)
    (hs : swapsWithSole [.Subscript (.Name x p1) b p2] a pos.line X.env = pure false := by rfl) (hw : swappedStores [.Subscript (.Name x p1) b p2] a X.env = pure none := by rfl)
    (h1 : (assignEach [.Subscript (.Name x p1) b p2] X.env).map (·.2) = [assign (.Subscript (.Name x p1) b p2) X.env] := by rfl)
    (h2 : ∀ v, assign (.Subscript (.Name x p1) b p2) X.env v = (do
      let ov ← holding [v] (eval (.Name x p1) X.env)
      let iv ← holding [v, ov] (eval b X.env)
      standAt p2
      holding [v, ov, iv] (setItem ov iv v)
      release [v, ov, iv] []) := by intro _; rfl) : PS X (.Assign [.Subscript (.Name x p1) b p2] a pos) (rdS X.K X.mg W (sStI i fb fa)) :=
  (ps_asg ha (pg_sub (pe_var hN hv hd hcd) hb set_list h2) hs hw h1).imp fun D σ H ⟨A, e, r, p⟩ => by
    refine rd_seqS r p fun d e1 x H1 _ r1 s1 d1 p1 => ?_
    cases h : e1[i]? with
    | none => simp only [h] at p1; exact p1.elim
    | some s =>
      simp only [h] at p1
      cases s with
      | own ds0 =>
        obtain ⟨l, vs0, k1, k2, k3, k4⟩ := r1.own i ds0 h
        refine ⟨.ref l, k1, ?_⟩
        refine rd_seqS r1 p1 fun dk e2 y H2 _ r2 s2 d2 p2 => ?_
        cases h' : e2[i]? with
        | none => simp only [h'] at p2; exact p2.elim
        | some s' =>
          simp only [h'] at p2
          cases s' with
          | own ds =>
            obtain ⟨l', vs, j1, j2, j3, j4⟩ := r2.own i ds h'
            rw [k1] at j1
            cases j1
            cases hk : int? dk with
            | none => simp only [hk] at p2; exact p2.elim
            | some k =>
              simp only [hk] at p2
              cases hj : ixN ds.length k with
              | none => simp only [hj] at p2; exact p2.elim
              | some j =>
                simp only [hj] at p2
                rw [int_some hk] at d2
                obtain ⟨rp, hp⟩ := r2.put h' ⟨ds, .inl h'⟩ k1 (DenL.set j j3 (Den.mono s2 _ _ d1))
                have hp' : hid A σ (e2.set i (.own (ds.set j d))) (upd H2 l (.lst (vs.set j x))) = hid A σ e2 H2 := hp
                refine ⟨l, vs, k, j, rfl, den_int d2, j2, by rw [← j3.length]; exact hj, p2 σ _ rp ?_⟩
                rw [hp']
                exact Same.refl _
          | _ => exact p2.elim
      | _ => exact p1.elim
/-- x.pop(k) -/
def ePopAt (i : Nat) (fi : FE) : FE := fun e => match e[i]? with
  | some (.own _) => (fi e).bind fun q => match q.2[i]? with
    | some (.own ds) => (match int? q.1 with
      | some k => if 0 ≤ k ∧ k < (ds.length : Int) ∧ k < 1000000 then (match ds[k.toNat]? with
        | some d => .ok (d, q.2.set i (.own (ds.eraseIdx k.toNat)))
        | none => .err) else .err
      | none => .err)
    | _ => .err
  | _ => .err
theorem v_popAt (i : Nat) {x : Str} {p1 p2 : Pos} (hb : PE X b (rE X.K X.mg W fb)) (hN : X.N[i]? = some x := by rfl) (hv : Vis X.env.scope x := by first | exact Or.inl rfl | exact Or.inr (Or.inl rfl) | exact Or.inr (Or.inr rfl))
    (hd : (x == ("__debug__" : Str)) = false := by decide) (hcd : (x == ("__classdict__" : Str)) = false := by decide)
    (hbase : attributeBase (.Name x p1) "pop" X.env (eval (.Name x p1) X.env) = eval (.Name x p1) X.env := by rfl)
    (hfew : ((backTo pos (starEach [b] X.env)).all (fun x => !x.1) && (backToKw pos (keywordEach [] X.env)).all (fun x => x.1.isSome)
      && decide ([b].length + ([] : List Keyword).length + (if ([] : List Keyword).isEmpty then 0 else 1) < 30)) = true := by rfl)
    (hline : (p2.endLine == pos.line) = true := by rfl) (hs : starEach [b] X.env = (false, eval b X.env) :: starEach [] X.env := by rfl) (hplain : (backTo pos (starEach [] X.env)).any (·.1) = false := by rfl) :
    PE X (.Call (.Attribute (.Name x p1) "pop" p2) [b] [] pos) (rE X.K X.mg W (ePopAt i fb)) :=
  (pe_bm PySem.F.plainAttrs_list PySem.F.slot_list_pop PySem.F.type_list_pop mt_popAt (pe_var hN hv hd hcd) (pa_cons hb pa_nil hs) hbase hfew hline hs hplain).imp fun σ H Q ⟨A, e, r, p⟩ => by
    unfold ePopAt at p
    cases h : e[i]? with
    | none => rw [h] at p; exact p.elim
    | some s =>
      rw [h] at p
      cases s with
      | own ds0 =>
        obtain ⟨l, vs0, h1, h2, h3, h4⟩ := r.own i ds0 h
        refine ⟨.ref l, h1, .inl ⟨rfl, vs0, .inl (.inl h2)⟩, ?_⟩
        refine rd_seq r p fun d e1 y H1 _ r1 s1 d1 p1 => ?_
        cases h' : e1[i]? with
        | none => simp only [h'] at p1; exact p1.elim
        | some s' =>
          simp only [h'] at p1
          cases s' with
          | own ds =>
            cases hk : int? d with
            | none => simp only [hk] at p1; exact p1.elim
            | some k =>
              simp only [hk] at p1
              by_cases hc : 0 ≤ k ∧ k < (ds.length : Int) ∧ k < 1000000
              · rw [if_pos hc] at p1
                obtain ⟨l', vs, k1, k2, k3, k4⟩ := r1.own i ds h'
                rw [h1] at k1
                cases k1
                have hlt : k.toNat < ds.length := by omega
                have eg : ds[k.toNat]? = some ds[k.toNat] := List.getElem?_eq_getElem hlt
                rw [eg] at p1
                simp only at p1
                obtain ⟨v, hv', dv⟩ := k3.get eg
                rw [int_some hk] at d1
                obtain ⟨rp, hp⟩ := r1.put h' ⟨ds, .inl h'⟩ h1 (DenL.eraseIdx k.toNat k3)
                have hp' : hid A σ (e1.set i (.own (ds.eraseIdx k.toNat))) (upd H1 l (.lst (vs.eraseIdx k.toNat))) = hid A σ e1 H1 := hp
                have p63 : (2 : Int) ^ 63 = 9223372036854775808 := by decide
                refine ⟨l, vs, k, k.toNat, v, rfl, by rw [den_int d1], k2, by omega, by omega, ?_, hv', p1 v _ rp ?_ ?_⟩
                · rw [← k3.length]
                  unfold seqIndex?
                  have c1 : ¬ k < 0 := by omega
                  simp only [c1, if_false]
                  rw [if_pos]
                  rw [decide_eq_true (show 0 ≤ k by omega), decide_eq_true (show k < (ds.length : Int) by omega)]
                  rfl
                · rw [hp']; exact Same.refl _
                · rw [hp']; exact dv
              · rw [if_neg hc] at p1; exact p1.elim
          | _ => exact p1.elim
      | _ => exact p.elim
end
theorem mi13 : (∀ (i : Nat) (fi f : FE) (e : En), sStI i fi f e = (f e).bind fun p => match p.2[i]? with
  | some (.own _) => (fi p.2).bind (fun q => match q.2[i]? with
    | some (.own ds) => (match int? q.1 with
      | some k => (match ixN ds.length k with
        | some j => .ok (.nx (q.2.set i (.own (ds.set j p.1))))
        | none => .err)
      | none => .err)
    | _ => .err)
  | _ => .err) ∧ (∀ i : Int, int? (.int i) = some i) ∧ (∀ (i : Nat) (fi : FE) (e : En), ePopAt i fi e = match e[i]? with
  | some (.own _) => (fi e).bind (fun q => match q.2[i]? with
    | some (.own ds) => (match int? q.1 with
      | some k => if 0 ≤ k ∧ k < (ds.length : Int) ∧ k < 1000000 then (match ds[k.toNat]? with
        | some d => .ok (d, q.2.set i (.own (ds.eraseIdx k.toNat)))
        | none => .err) else .err
      | none => .err)
    | _ => .err)
  | _ => .err) := ⟨by intros; rfl, by intros; rfl, by intros; rfl⟩
end Mi
namespace Mi
open PySem PySem.Spec PyProof.Rows L2
/-! ### handing on what another def hands back: a new list, if it is a list -/
def PostM (K : PySem.W.Frag) (mg : Str → Option Value) (W : WX) (A : Act) (σ : L2.St) (e : En) (H : Hp) (Q : VK) : R (D × En) → Prop
  | .ok p => (match lstOf true p.1 with
    | some ds => PostN K mg W A σ e H Q (.ok (ds, p.2))
    | none => Post K mg W (Den K) A σ e H Q (.ok p))
  | .exc c e' => ∀ H', Rep K A H' σ e' → Same (hid A σ e H) (hid A σ e' H') → WX1 mg W c σ H'
  | .err => False
def rM (K : PySem.W.Frag) (mg : Str → Option Value) (W : WX) (f : FE) : TE := fun σ H Q => ∃ A e, Rep K A H σ e ∧ PostM K mg W A σ e H Q (f e)
section
variable {K : PySem.W.Frag} {mg : Str → Option Value} {W : WX} {A : Act} {σ : L2.St} {e e1 : En} {H H1 : Hp} {Q : VK}
theorem PostM.shift {r : R (D × En)} (s : Same (hid A σ e H) (hid A σ e1 H1)) (h : PostM K mg W A σ e H Q r) : PostM K mg W A σ e1 H1 Q r := by
  cases r with
  | ok p =>
    unfold PostM at h ⊢
    dsimp only at h ⊢
    cases k : lstOf true p.1 with
    | none => rw [k] at h; exact Post.shift s h
    | some ds => rw [k] at h; exact fun q vs H' o r' s' d' => h q vs H' o r' (s.trans s') d'
  | exc c e' => exact fun H' r' s' => h H' r' (s.trans s')
  | err => exact h
theorem rM_seq {α β : Type} {den : Hp → α → β → Prop} {f : En → R (α × En)} {k : α × En → R (D × En)} {G : β → Hp → Prop} (r : Rep K A H σ e) (p : PostM K mg W A σ e H Q ((f e).bind k))
    (hG : ∀ a e1 b H1, f e = .ok (a, e1) → Rep K A H1 σ e1 → Same (hid A σ e H) (hid A σ e1 H1) → den (hid A σ e1 H1) a b → PostM K mg W A σ e1 H1 Q (k (a, e1)) → G b H1) : rd K mg W den f σ H G := by
  refine ⟨A, e, r, ?_⟩
  cases h : f e with
  | ok q =>
    obtain ⟨a, e1⟩ := q
    rw [h] at p
    exact fun b H1 r1 s1 d1 => hG a e1 b H1 h r1 s1 d1 (PostM.shift s1 p)
  | exc c e' => rw [h] at p; exact p
  | err => rw [h] at p; exact p
/-- what a def hands back meets what is wanted -/
theorem callM {fn : R D} (r : Rep K A H σ e) (p : PostM K mg W A σ e H Q (match fn with
    | .ok d => .ok (d, e)
    | .exc c _ => .exc c e
    | .err => .err)) : CallP K mg true (hid A σ e H) H Q (WE W σ) fn := by
  cases fn with
  | ok d =>
    unfold PostM at p
    dsimp only at p
    cases k : lstOf true d with
    | none =>
      rw [k] at p
      simp only [CallP, k]
      exact fun v H' s fr => fin r p s fr
    | some es =>
      rw [k] at p
      simp only [CallP, k]
      intro q us H' s hq hq' hd
      have s2 : Same H (fun b => if b = q then none else H' b) := fun b o h => by
        show (if b = q then none else H' b) = some o
        rw [if_neg (ne_of_none h hq)]
        exact s b o h
      have r2 := r.grow s2
      have hn2 : (fun b => if b = q then none else H' b : Hp) q = none := if_pos rfl
      have eH : upd (fun b => if b = q then none else H' b) q (.lst us) = H' := by
        funext b
        by_cases hb : b = q
        · subst hb; rw [upd_same, hq']
        · rw [upd_ne hb]
          exact if_neg hb
      have rb := r2.build us hn2
      have hb := hid_build (vs := us) (o := .lst us) r2 hn2
      rw [eH] at rb hb
      refine p q us H' (r.old hq) rb ?_ ?_
      · rw [hb]; exact hid_same s2
      · rw [hb]
        exact hd _ (hid_same s2) fun a o ha h1 h2 => r.seen (H' := fun b => if b = q then none else H' b) ((if_neg ha).trans h1) h2
  | exc c z => exact fun H' s => p H' (r.grow s) (hid_same s)
  | err => exact p
end
def sRetM (f : FE) : FS := fun e => (f e).bind fun p => match lstOf true p.1 with
  | some ds => .ok (.rn ds p.2)
  | none => .ok (.rt p.1 p.2)
section
variable {X : Cx} {W : WX} {pos p : Pos} {a b : Expr} {es as : List Expr} {f fi fa : FE} {k n : Nat} {fns : List (List D → R D)} {x : Str} {lp sp : Pos}
theorem vs_retM (ha : PE X a (rM X.K X.mg W f)) : PS X (.Return (some a) pos) (rdS X.K X.mg W (sRetM f)) :=
  (ps_ret ha).imp fun D σ H ⟨A, e, r, p⟩ => by
    refine ⟨A, e, r, ?_⟩
    unfold sRetM at p
    cases q : f e with
    | ok z =>
      rw [q] at p
      have p2 : PostS X.K X.mg W D A σ e H (match lstOf true z.1 with
        | some ds => .ok (.rn ds z.2)
        | none => .ok (.rt z.1 z.2)) := p
      unfold PostM
      dsimp only
      cases k : lstOf true z.1 with
      | none => rw [k] at p2; exact fun b H' r' s' d' => p2 b σ H' r' s' d'
      | some ds => rw [k] at p2; exact fun a vs H' o r' s' d' => p2 a vs σ H' o r' s' d'
    | exc c e1 =>
      rw [q] at p
      exact fun H' r' => p σ H' r'
    | err => rw [q] at p; exact p
theorem v_callM {fn : List D → R D} {fA : FA} (h : CallA X.prog X.w X.K X.mg X.base k x n true fn) (hr : Room k X.A) (tk : Takes X W) (hg : Gl X x) (ha : PA X (a :: es) (rA X.K X.mg W fA)) (hdb : (x == ("__debug__" : Str)) = false := by decide)
    (he : starEach (a :: es) X.env = (false, eval a X.env) :: starEach es X.env := by rfl) (hpl : (backTo pos (starEach es X.env)).any (·.1) = false := by rfl) : PE X (.Call (.Name x p) (a :: es) [] pos) (rM X.K X.mg W (eCall n fn fA)) := by
  obtain ⟨ad, fd, ps, F, hk, hb, hm⟩ := h
  refine (pe_callS (E := WE W) F hr hg hm hk hb (fun σ => passAt tk σ) ha hdb he hpl).imp fun σ H Q ⟨A, e, r, q⟩ => ?_
  refine rM_seq r q fun ds e1 vs H1 _ r1 s1 d1 p1 => ?_
  by_cases hl : ds.length = n
  · rw [if_pos hl] at p1
    exact ⟨ds, hid A σ e1 H1, hid_sub, d1, hl, callM r1 p1⟩
  · rw [if_neg hl] at p1
    exact p1.elim
/-! [f, g, ..][k](..), each of which hands back new lists -/
inductive FnsM (X : Cx) (k n : Nat) : List Expr → List (List D → R D) → Prop
  | nil : FnsM X k n [] []
  | cons {x : Str} {p : Pos} {fn : List D → R D} {es : List Expr} {fns : List (List D → R D)} {j : Nat} (h : CallA X.prog X.w X.K X.mg X.base j x n true fn) (hj : j ≤ k) (hg : Gl X x) (hd : (x == ("__debug__" : Str)) = false) (hs : starEach (.Name x p :: es) X.env = (false, eval (.Name x p) X.env) :: starEach es X.env) (r : FnsM X k n es fns) :
      FnsM X k n (.Name x p :: es) (fn :: fns)
def FnM1 (X : Cx) (k n : Nat) (fn : List D → R D) (fa : Addr) : Prop := ∃ (fd : FuncData) (ps : List Str) (j : Nat), FnOk X.prog X.w X.K X.mg X.base (L2.CX X.prog X.w) j fa fd ps (spA X.K X.mg n true fn) ∧ PySem.W.keepIn X.K (.ref fa) = true ∧ Binds X.K fd ps [] ∧ j ≤ k
theorem FnsM.get : ∀ {es : List Expr} {fns : List (List D → R D)}, FnsM X k n es fns → ∃ fas : List Addr, fas.length = fns.length ∧ PA X es (fun _ H Q => Q (fas.map V.ref) H) ∧ ∀ (i : Nat) (fn : List D → R D), fns[i]? = some fn → ∃ fa, fas[i]? = some fa ∧ FnM1 X k n fn fa
  | _, _, .nil => ⟨[], rfl, pa_nil, fun i fn h => by simp at h⟩
  | _, _, .cons (fn := fn) h hj hg hd hs r => by
    obtain ⟨fas, l, ha, hf⟩ := FnsM.get r
    obtain ⟨fa, fd, ps, F, kp, b, m⟩ := h
    refine ⟨fa :: fas, by rw [List.length_cons, List.length_cons, l], ?_, fun i fn' hi => ?_⟩
    · exact (pa_cons (pe_glob (v := .ref fa) hg m rfl hd) ha hs).imp fun σ H Q q => q
    · cases i with
      | zero =>
        simp only [List.getElem?_cons_zero, Option.some.injEq] at hi
        subst hi
        exact ⟨fa, rfl, fd, ps, _, F, kp, b, hj⟩
      | succ i => exact hf i fn' (by simpa using hi)
theorem v_callIxM {f : FA} (hF : FnsM X k n es fns) (hr : Room k X.A) (tk : Takes X W) (hb : PE X b (rE X.K X.mg W fi)) (ha : PA X (a :: as) (rA X.K X.mg W f)) (hn : fns.length ≤ 16777216) (hs : PlainIx b := by exact fun _ _ => rfl)
    (he : starEach (a :: as) X.env = (false, eval a X.env) :: starEach as X.env := by rfl) (hpl : (backTo pos (starEach as X.env)).any (·.1) = false := by rfl) :
    PE X (.Call (.Subscript (.List es lp) b sp) (a :: as) [] pos) (rM X.K X.mg W (eCallIx n fns fi f)) := by
  obtain ⟨fas, hlen, hfa, hget⟩ := hF.get
  refine ⟨fun pins s σ H Q I h => ?_⟩
  obtain ⟨A, e, r, p⟩ := h
  have ev : eval (.Call (.Subscript (.List es lp) b sp) (a :: as) [] pos) X.env = (do callWith pos (← eval (.Subscript (.List es lp) b sp) X.env) [] (backTo pos (starEach (a :: as) X.env)) (backToKw pos (keywordEach [] X.env))) := rfl
  rw [ev]
  refine wpAny_bind ?_
  refine thn ((pe_ix ix_seq (pe_lst hfa) hb hs).run pins s σ H (fun v H2 => ∃ (fn : List D → R D) (fa : Addr), v = .ref fa ∧ FnM1 X k n fn fa ∧ rA X.K X.mg W f σ H2 fun vs H3 => spA X.K X.mg n true fn vs H3 Q (WE W σ)) I ?_) fun u s1 ⟨v, H1, I1, r1, q1⟩ => ?_
  · refine ⟨by rw [List.length_map, hlen, ← lim_eq]; exact hn, fun pp hp => ?_⟩
    have su := same_upd (o := .lst (fas.map V.ref)) hp
    refine rM_seq (r.grow su) (PostM.shift (hid_same su) p) fun di e1 y H2 _ r2 s2 d2 p2 => ?_
    cases q : int? di with
    | none => simp only [q, Option.bind_none] at p2; exact p2.elim
    | some i =>
      simp only [q, Option.bind_some] at p2
      cases q2 : atI fns i with
      | none => simp only [q2] at p2; exact p2.elim
      | some fn =>
        simp only [q2] at p2
        rw [int_some q] at d2
        have at1 : ∃ j : Nat, ixN fns.length i = some j ∧ fns[j]? = some fn := by
          unfold atI at q2
          cases z : ixN fns.length i with
          | none => rw [z] at q2; cases q2
          | some j => rw [z] at q2; exact ⟨j, rfl, q2⟩
        obtain ⟨j, hj1, hj2⟩ := at1
        obtain ⟨fa, hfa1, hF1⟩ := hget j fn hj2
        have at2 : atI (fas.map V.ref) i = some (.ref fa) := by
          unfold atI
          rw [List.length_map, hlen, hj1, Option.bind_some, List.getElem?_map, hfa1]
          rfl
        have hl : H2 pp = some (.lst (fas.map V.ref)) := hid_sub _ _ (s2 _ _ (r.seen upd_same hp))
        refine .inl ⟨pp, _, i, _, rfl, den_int d2, .inl (.inl hl), at2, fn, fa, rfl, hF1, ?_⟩
        refine rM_seq r2 p2 fun ds e3 vs H3 _ r3 s3 d3 p3 => ?_
        by_cases hl : ds.length = n
        · rw [if_pos hl] at p3
          exact ⟨ds, hid A σ e3 H3, hid_sub, d3, hl, callM r3 p3⟩
        · rw [if_neg hl] at p3
          exact p3.elim
  · obtain ⟨fn, fa, rfl, ⟨fd, ps, j, F, hk, hbd, hj⟩, q⟩ := q1
    cases r1
    refine PySem.W.callWith_K (h₀ := X.base) I1.ok.mod.kin hk (thn (ha.run pos pins s1 σ _ _ I1 q) fun us s2 ⟨vs, H2, I2, r, q⟩ => ⟨I2.kIn, ?_⟩) he hpl
    refine run_fnSD (dvs := []) (ds := []) F (hr.mono hj) hbd .nil (E := fun σ => WE W σ) (passAt tk σ) I2 r ?_
    rw [List.append_nil]
    exact q
/-! sorted of a dict as a new list -/
def sortKL (ks : List Key) : Option (List D) := if alikeK ks = true ∧ ks.length ≤ lim then some ((ks.mergeSort leK).map kD) else none
def fSortDL : D → Option (List D)
  | .dct ks _ => sortKL ks
  | _ => none
theorem n_sortD (hc : X.calm = true) (hu : X.A.units + 64 < cLine) (hg : Gl X "sorted") (hm : X.mg "sorted" = none) (ha : PE X a (rE X.K X.mg W fa)) (he : starEach [a] X.env = (false, eval a X.env) :: starEach [] X.env := by rfl) (hpl : (backTo pos (starEach [] X.env)).any (·.1) = false := by rfl) :
    PE X (.Call (.Name "sorted" p) [a] [] pos) (rN X.K X.mg W (nU fSortDL fa)) :=
  (pe_callB (call_sortD hc hu) hg hm (by decide +kernel) (pa_cons ha pa_nil he) (by decide) (by decide) he hpl).imp fun σ H Q ⟨A, en, r, q⟩ => by
    refine rN_seq r q fun d e1 x H1 _ r1 s1 d1 p1 => ?_
    cases d with
    | dct ks us =>
      simp only [fSortDL, sortKL] at p1
      by_cases c : alikeK ks = true ∧ ks.length ≤ lim
      · rw [if_pos c] at p1
        simp only at p1
        obtain ⟨a, ws, rfl, h1, h2, h3⟩ := den_dct d1
        refine ⟨a, ks.zip ws, rfl, .inl (hid_sub _ _ h1), by rw [zip_keys h2]; exact c.1, by rw [List.length_zip, ← h2, Nat.min_self, ← lim_eq]; exact c.2, fun t ht => ?_⟩
        rw [zip_keys h2]
        exact finN r1 p1 ht (denL_keys _)
      · rw [if_neg c] at p1; exact p1.elim
    | _ => exact p1.elim
end
/-! len of a list that may be held or a value -/
def eLenX (i : Nat) : FE := fun e => match e[i]? with
  | some (.val d) => (match fLen [d] with
    | some x => .ok (x, e)
    | none => .err)
  | some (.own ds) => .ok (.int ds.length, e)
  | some (.brw ds) => .ok (.int ds.length, e)
  | _ => .err
section
variable {X : Cx} {W : WX} {pos : Pos}
theorem v_lenX (i : Nat) {x : Str} {p p1 : Pos} (hg : Gl X "len") (hm : X.mg "len" = none) (hN : X.N[i]? = some x := by rfl) (hv : Vis X.env.scope x := by first | exact Or.inl rfl | exact Or.inr (Or.inl rfl) | exact Or.inr (Or.inr rfl))
    (hd : (x == ("__debug__" : Str)) = false := by decide) (hcd : (x == ("__classdict__" : Str)) = false := by decide) :
    PE X (.Call (.Name "len" p) [.Name x p1] [] pos) (rE X.K X.mg W (eLenX i)) := by
  refine ⟨fun pins s σ H Q I h => ?_⟩
  obtain ⟨A, e, r, q⟩ := h
  unfold eLenX at q
  cases k : e[i]? with
  | none => rw [k] at q; exact q.elim
  | some sl =>
    rw [k] at q
    cases sl with
    | un => exact q.elim
    | val d =>
      refine (v_blt (p := p) (pos := pos) rc_len call_lenA hg hm (va_cons (v_var (X := X) (W := W) (pos := p1) i hN hv hd hcd) va_nil rfl)).run pins s σ H Q I ⟨A, e, r, ?_⟩
      have e0 : aC (eV i) aN e = .ok ([d], e) := by
        unfold aC eV aN
        simp only [k, R.bind]
      unfold eF
      rw [e0]
      exact q
    | own ds =>
      refine (v_lenHeld (W := W) (p := p) (p1 := p1) (pos := pos) i hg hm hN hv hd hcd).run pins s σ H Q I ⟨A, e, r, ?_⟩
      unfold ePeek
      rw [k]
      exact q
    | brw ds =>
      refine (v_lenHeld (W := W) (p := p) (p1 := p1) (pos := pos) i hg hm hN hv hd hcd).run pins s σ H Q I ⟨A, e, r, ?_⟩
      unfold ePeek
      rw [k]
      exact q
end
theorem mi14 : (∀ (f : FE) (e : En), sRetM f e = (f e).bind fun p => match lstOf true p.1 with
  | some ds => .ok (.rn ds p.2)
  | none => .ok (.rt p.1 p.2)) ∧ (∀ (ks : List Key) (ds : List D), fSortDL (.dct ks ds) = sortKL ks) ∧
  (∀ (i : Nat) (e : En), eLenX i e = match e[i]? with
  | some (.val d) => (match fLen [d] with
    | some x => .ok (x, e)
    | none => .err)
  | some (.own ds) => .ok (.int ds.length, e)
  | some (.brw ds) => .ok (.int ds.length, e)
  | _ => .err) ∧
  lstOf true .non = none ∧ (∀ i, lstOf true (.int i) = none) ∧ (∀ i, lstOf true (.bl i) = none) ∧ (∀ i, lstOf true (.str i) = none) ∧ (∀ ds, lstOf true (.tup ds) = none) ∧ (∀ ds, lstOf true (.lst ds) = some ds) :=
  ⟨by intros; rfl, by intros; rfl, by intros; rfl, rfl, fun _ => rfl, fun _ => rfl, fun _ => rfl, fun _ => rfl, fun _ => rfl⟩
end Mi
namespace Mi
open PySem PySem.Spec PyProof.Rows L2
/-! ### a list within what a def hands back: it is new where the def was handed no lists but new ones -/
mutual
def lf : D → Bool
  | .tup ds => lfL ds
  | .lst _ => false
  | .rls _ => false
  | .dct _ _ => false
  | _ => true
def lfL : List D → Bool
  | [] => true
  | d :: ds => lf d && lfL ds
end
/-- a heap without its lists -/
def nol (H : Hp) : Hp := fun b => match H b with
  | some (.lst _) => none
  | o => o
section
variable {K : PySem.W.Frag} {H H' : Hp}
theorem nol_sub : Same (nol H) H := fun b o h => by
  unfold nol at h
  cases k : H b with
  | none => rw [k] at h; cases h
  | some x =>
    rw [k] at h
    cases x <;> first | cases h; done | exact h
theorem nol_of {b : Addr} {o : HO} (h : H b = some o) (n : ∀ xs, o ≠ .lst xs) : nol H b = some o := by
  unfold nol
  rw [h]
  cases o <;> first | rfl | exact absurd rfl (n _)
theorem nol_not {b : Addr} {o : HO} (h : nol H b = some o) : H b = some o ∧ ∀ xs, o ≠ .lst xs := by
  refine ⟨nol_sub _ _ h, fun xs e => ?_⟩
  subst e
  unfold nol at h
  rw [nol_sub _ _ h] at h
  cases h
theorem nol_same (s : Same H H') : Same (nol H) (nol H') := fun b o h => nol_of (s _ _ (nol_not h).1) (nol_not h).2
theorem nol_tup {a : Addr} {vs : List V} (h : SqT K H a vs) : SqT K (nol H) a vs := by
  rcases h with (h | ⟨o, h⟩) | h
  · exact .inl (.inl (nol_of h fun xs e => nomatch e))
  · exact .inl (.inr ⟨o, nol_of h fun xs e => nomatch e⟩)
  · exact .inr h
mutual
theorem den_nol : ∀ (d : D) (v : V), lf d = true → Den K H d v → Den K (nol H) d v
  | .non, _, _, h => h
  | .bl _, _, _, h => h
  | .int _, _, _, h => h
  | .str _, _, _, h => h
  | .tup ds, v, f, h => by
    simp only [Den] at h ⊢
    obtain ⟨a, vs, e, q, l⟩ := h
    exact ⟨a, vs, e, nol_tup q, denL_nol ds vs (by simpa only [lf] using f) l⟩
  | .lst ds, v, f, h => by simp only [lf] at f; cases f
  | .rls ds, v, f, h => by simp only [lf] at f; cases f
  | .dct ks ds, v, f, h => by simp only [lf] at f; cases f
  | .ty _, _, _, h => h
theorem denL_nol : ∀ (ds : List D) (vs : List V), lfL ds = true → DenL K H ds vs → DenL K (nol H) ds vs
  | [], _, _, h => h
  | d :: ds, vs, f, h => by
    simp only [lfL, Bool.and_eq_true] at f
    simp only [DenL] at h ⊢
    obtain ⟨v, r, e, h1, h2⟩ := h
    exact ⟨v, r, e, den_nol d v f.1 h1, denL_nol ds r f.2 h2⟩
end
end
/-- a list that came since, and that nothing looks at -/
def Hid (K : PySem.W.Frag) (A : Act) (H0 H : Hp) (σ : L2.St) (e : En) (b : Addr) (xs : List V) : Prop := hid A σ e H0 b = none ∧ Old A b ∧ Rep K (A.build b xs) H σ e
open Classical in
noncomputable def hv (K : PySem.W.Frag) (A : Act) (H0 H : Hp) (σ : L2.St) (e : En) : Hp := fun b => match hid A σ e H b with
  | some (.lst xs) => if Hid K A H0 H σ e b xs then some (.lst xs) else none
  | o => o
section
variable {K : PySem.W.Frag} {A : Act} {H0 H H' : Hp} {σ : L2.St} {e : En}
theorem hv_lst {b : Addr} {xs : List V} (h : hv K A H0 H σ e b = some (.lst xs)) : hid A σ e H b = some (.lst xs) ∧ Hid K A H0 H σ e b xs := by
  unfold hv at h
  cases k : hid A σ e H b with
  | none => rw [k] at h; cases h
  | some x =>
    rw [k] at h
    cases x with
    | lst ys =>
      dsimp only at h
      by_cases c : Hid K A H0 H σ e b ys
      · rw [if_pos c] at h
        cases h
        exact ⟨rfl, c⟩
      · rw [if_neg c] at h; cases h
    | _ => cases h
theorem hv_in {b : Addr} {xs : List V} (h : hid A σ e H b = some (.lst xs)) (c : Hid K A H0 H σ e b xs) : hv K A H0 H σ e b = some (.lst xs) := by
  unfold hv
  rw [h]
  exact if_pos c
theorem hv_nl {b : Addr} {o : HO} (h : hid A σ e H b = some o) (n : ∀ xs, o ≠ .lst xs) : hv K A H0 H σ e b = some o := by
  unfold hv
  rw [h]
  cases o <;> first | rfl | exact absurd rfl (n _)
theorem hv_sub : Same (hv K A H0 H σ e) (hid A σ e H) := fun b o h => by
  cases k : hid A σ e H b with
  | none => unfold hv at h; rw [k] at h; cases h
  | some x =>
    by_cases c : ∃ xs, x = .lst xs
    · obtain ⟨xs, rfl⟩ := c
      have h2 := h
      unfold hv at h2
      rw [k] at h2
      dsimp only at h2
      split at h2
      · exact h2
      · cases h2
    · rw [hv_nl k fun xs z => c ⟨xs, z⟩] at h
      exact h
theorem nol_hv : Same (nol (hid A σ e H)) (hv K A H0 H σ e) := fun b o h => hv_nl (nol_not h).1 (nol_not h).2
theorem Hid.grow {b : Addr} {xs : List V} (s : Same H H') (h : Hid K A H0 H σ e b xs) : Hid K A H0 H' σ e b xs := ⟨h.1, h.2.1, h.2.2.grow s⟩
theorem hv_grow (s : Same H H') : Same (hv K A H0 H σ e) (hv K A H0 H' σ e) := fun b o h => by
  have hh := hid_same s _ _ (hv_sub _ _ h)
  by_cases c : ∃ xs, o = .lst xs
  · obtain ⟨xs, rfl⟩ := c
    exact hv_in hh ((hv_lst h).2.grow s)
  · exact hv_nl hh fun xs z => c ⟨xs, z⟩
/-- what is new can be kept apart -/
theorem Rep.apart {b : Addr} {us : List V} (r : Rep K A H σ e) (s : Same H H') (hb : H b = none) (hb' : H' b = some (.lst us)) : Rep K (A.build b us) H' σ e := by
  have s2 : Same H (fun c => if c = b then none else H' c) := fun c o h => by
    show (if c = b then none else H' c) = some o
    rw [if_neg (ne_of_none h hb)]
    exact s c o h
  have r2 := r.grow s2
  have hn2 : (fun c => if c = b then none else H' c : Hp) b = none := if_pos rfl
  have eH : upd (fun c => if c = b then none else H' c) b (.lst us) = H' := by
    funext c
    by_cases hc : c = b
    · subst hc; rw [upd_same, hb']
    · rw [upd_ne hc]
      exact if_neg hc
  have rb := r2.build us hn2
  rw [eH] at rb
  exact rb
theorem hv_new {b : Addr} {o : HO} (r : Rep K A H σ e) (s0 : Same (hid A σ e H0) (hid A σ e H)) (s : Same H H') (h : H' b = some o) (n : H b = none) : hv K A H0 H' σ e b = some o := by
  have hh := r.seen h n
  by_cases c : ∃ xs, o = .lst xs
  · obtain ⟨xs, rfl⟩ := c
    refine hv_in hh ⟨?_, r.old n, r.apart s n h⟩
    cases k : hid A σ e H0 b with
    | none => rfl
    | some x =>
      have := hid_sub _ _ (s0 _ _ k)
      rw [n] at this
      cases this
  · exact hv_nl hh fun xs z => c ⟨xs, z⟩
end
/-! readings whose value looks at no list but new ones -/
def PostF {α β : Type} (K : PySem.W.Frag) (den : Hp → α → β → Prop) (A : Act) (σ : L2.St) (e : En) (H : Hp) (Q : β → Hp → Prop) : R (α × En) → Prop
  | .ok p => p.2 = e ∧ ∀ b H', Rep K A H' σ e → Same (hid A σ e H) (hid A σ e H') → den (hv K A H H' σ e) p.1 b → Q b H'
  | _ => False
def rF (K : PySem.W.Frag) (f : FE) : TE := fun σ H Q => ∃ A e, Rep K A H σ e ∧ PostF K (Den K) A σ e H Q (f e)
def rAF (K : PySem.W.Frag) (f : FA) : TA := fun σ H Q => ∃ A e, Rep K A H σ e ∧ PostF K (DenL K) A σ e H Q (f e)
/-- as rAF, the later part: the heap has moved since H0 -/
def rAF2 (K : PySem.W.Frag) (A : Act) (e : En) (H0 : Hp) (f : FA) : TA := fun σ H Q => Rep K A H σ e ∧ Same (hid A σ e H0) (hid A σ e H) ∧ match f e with
  | .ok p => p.2 = e ∧ ∀ vs H', Rep K A H' σ e → Same (hid A σ e H) (hid A σ e H') → DenL K (hv K A H0 H' σ e) p.1 vs → Q vs H'
  | _ => False
structure VF (X : Cx) (es : List Expr) (f : FA) : Prop where
  go : ∀ (A : Act) (e : En) (H0 : Hp), PA X es (rAF2 X.K A e H0 f)
def aFN0 : FA := fun e => .ok ([], e)
open Classical in
noncomputable def aFV (f : FE) (g : FA) : FA := fun e => (f e).bind fun p => if lf p.1 = true ∧ p.2 = e then (g e).bind fun q => .ok (p.1 :: q.1, q.2) else .err
open Classical in
noncomputable def aFL (f : FA) : FA := fun e => (f e).bind fun p => if p.1.all flatE = true ∧ p.2 = e then .ok ([.lst p.1], e) else .err
section
variable {X : Cx} {W : WX} {pos p : Pos} {a : Expr} {es : List Expr} {f : FE} {g : FA} {k n : Nat} {x : Str}
theorem vf_nil : VF X [] aFN0 := ⟨fun A e H0 => pa_nil.imp fun σ H Q ⟨r, s, q⟩ => q.2 [] H r (Same.refl _) DenL.nil⟩
theorem vf_val (ha : ∀ W, PE X a (rE X.K X.mg W f)) (hr : VF X es g) (hs : starEach (a :: es) X.env = (false, eval a X.env) :: starEach es X.env := by rfl) : VF X (a :: es) (aFV f g) :=
  ⟨fun A e H0 => (pa_cons (ha W0) (hr.go A e H0) hs).imp fun σ H Q ⟨r, s, q⟩ => by
    unfold aFV at q
    refine ⟨A, e, r, ?_⟩
    cases h : f e with
    | ok z =>
      rw [h] at q
      obtain ⟨d, e1⟩ := z
      simp only [R.bind] at q
      by_cases c : lf d = true ∧ e1 = e
      · rw [if_pos c] at q
        obtain ⟨c1, rfl⟩ := c
        intro v H1 r1 s1 d1
        refine ⟨r1, s.trans s1, ?_⟩
        cases h2 : g e1 with
        | ok z =>
          rw [h2] at q
          simp only at q
          refine ⟨q.1, fun vs H2 r2 s2 d2 => q.2 (v :: vs) H2 r2 (s1.trans s2) (DenL.cons ?_ d2)⟩
          exact Den.mono nol_hv _ _ (Den.mono (nol_same s2) _ _ (den_nol d v c1 d1))
        | exc _ _ => rw [h2] at q; exact q.elim
        | err => rw [h2] at q; exact q.elim
      · rw [if_neg c] at q; exact q.elim
    | exc c e1 => rw [h] at q; exact q.elim
    | err => rw [h] at q; exact q.elim⟩
theorem vf_new (ha : ∀ W, PE X a (rN X.K X.mg W g)) (hs : starEach [a] X.env = (false, eval a X.env) :: starEach [] X.env := by rfl) : VF X [a] (aFL g) :=
  ⟨fun A e H0 => (pa_cons (ha W0) pa_nil hs).imp fun σ H Q ⟨r, s, q⟩ => by
    unfold aFL at q
    refine ⟨A, e, r, ?_⟩
    cases h : g e with
    | ok z =>
      rw [h] at q
      obtain ⟨ds, e1⟩ := z
      simp only [R.bind] at q
      by_cases c : ds.all flatE = true ∧ e1 = e
      · rw [if_pos c] at q
        obtain ⟨c1, rfl⟩ := c
        intro b us H1 o rb sb d1
        obtain ⟨r1, sv, hb⟩ := rb.built o
        refine q.2 [.ref b] H1 r1 (sb.trans sv) (DenL.cons ?_ DenL.nil)
        simp only [Den]
        refine ⟨b, us, rfl, hv_in hb ⟨?_, o, rb⟩, denL_flatE c1 d1⟩
        cases k : hid A σ e1 H0 b with
        | none => rfl
        | some y =>
          have h3 := sb _ _ (s _ _ k)
          exact absurd (rb.notOwn.2.1) (hid_not h3).2.1
      · rw [if_neg c] at q; exact q.elim
    | exc c e1 => rw [h] at q; exact q.elim
    | err => rw [h] at q; exact q.elim⟩
/-- a call -/
def eCallF (n : Nat) (fn : List D → R D) (f : FA) : FE := fun e => (f e).bind fun p => if p.1.length = n then (match fn p.1 with
  | .ok d => .ok (d, p.2)
  | _ => .err) else .err
theorem v_callF {fr : Bool} {fn : List D → R D} {fA : FA} (h : CallA X.prog X.w X.K X.mg X.base k x n fr fn) (hr : Room k X.A) (tk : Takes X W) (hg : Gl X x) (ha : VF X (a :: es) fA) (hdb : (x == ("__debug__" : Str)) = false := by decide)
    (he : starEach (a :: es) X.env = (false, eval a X.env) :: starEach es X.env := by rfl) (hpl : (backTo pos (starEach es X.env)).any (·.1) = false := by rfl) : PE X (.Call (.Name x p) (a :: es) [] pos) (rF X.K (eCallF n fn fA)) := by
  obtain ⟨ad, fd, ps, F, hk, hb, hm⟩ := h
  have ha' : PA X (a :: es) (fun σ H Q => ∃ A e H0, rAF2 X.K A e H0 fA σ H Q) := ⟨fun pos pins s σ H Q I ⟨A, e, H0, q⟩ => (ha.go A e H0).run pos pins s σ H Q I q⟩
  refine (pe_callS (E := WE W) F hr hg hm hk hb (fun σ => passAt tk σ) ha' hdb he hpl).imp fun σ H Q ⟨A, e, r, q⟩ => ?_
  refine ⟨A, e, H, r, Same.refl _, ?_⟩
  unfold eCallF at q
  cases h : fA e with
  | ok z =>
    rw [h] at q
    obtain ⟨ds, e1⟩ := z
    simp only [R.bind] at q ⊢
    by_cases hl : ds.length = n
    · rw [if_pos hl] at q
      cases hf : fn ds with
      | ok d =>
        rw [hf] at q
        obtain ⟨q1, q2⟩ := q
        refine ⟨q1, fun vs H1 r1 s1 d1 => ⟨ds, hv X.K A H H1 σ e, fun b o z => hid_sub _ _ (hv_sub _ _ z), d1, hl, ?_⟩⟩
        rw [hf]
        refine CallP.of fun v H2 s fr => q2 v H2 (r1.grow s) (s1.trans (hid_same s)) (fr _ (hv_grow s) fun b o y n => hv_new r1 s1 s y n)
      | exc c z => rw [hf] at q; exact q.elim
      | err => rw [hf] at q; exact q.elim
    · rw [if_neg hl] at q; exact q.elim
  | exc c z => rw [h] at q; exact q.elim
  | err => rw [h] at q; exact q.elim
end
/-! x = f(..); if test: return ..; x[k].append(c) -/
def innerL (d : D) (k : Nat) : Option (List D) := match (match d with
  | .tup ds => ds[k]?
  | .lst ds => ds[k]?
  | _ => none) with
  | some (.lst xs) => if xs.all flatE = true ∧ xs.length < lim then some xs else none
  | _ => none
def FlatAll (e : En) : Prop := ∀ (j : Nat) (ds : List D), (e[j]? = some (.own ds) ∨ e[j]? = some (.brw ds)) → ds.all flatE = true
open Classical in
noncomputable def sLend (i k : Nat) (f : FE) (c : FT) (g : FS) : FS := fun e => match f e with
  | .ok (d, e1) => if e1 = e ∧ (innerL d k).isSome = true ∧ i < e.length ∧ FlatAll (e.set i (.val d)) then (match c (e.set i (.val d)) with
    | .ok (true, e2) => (match g e2 with
      | .ok (.rt z e3) => .ok (.rt z e3)
      | _ => .err)
    | .ok (false, e2) => if e2 = e.set i (.val d) then .ok (.nx (e.set i .un)) else .err
    | _ => .err) else .err
  | _ => .err
section
variable {K : PySem.W.Frag} {A : Act} {H H2 : Hp} {σ : L2.St} {e : En}
theorem inner_den {d : D} {v : V} {k : Nat} {xs : List D} (hi : innerL d k = some xs) (h : Den K H d v) : ∃ t a vs us, v = .ref t ∧ (SqL K H t vs ∨ SqT K H t vs) ∧ vs[k]? = some (.ref a) ∧ H a = some (.lst us) ∧ DenL K H xs us ∧ xs.all flatE = true ∧ xs.length < lim := by
  have inner : ∀ {ds : List D} {vs : List V}, DenL K H ds vs → (match ds[k]? with
      | some (.lst xs) => if xs.all flatE = true ∧ xs.length < lim then some xs else none
      | _ => none) = some xs → ∃ a us, vs[k]? = some (.ref a) ∧ H a = some (.lst us) ∧ DenL K H xs us ∧ xs.all flatE = true ∧ xs.length < lim := fun {ds vs} hd he => by
    cases q : ds[k]? with
    | none => rw [q] at he; cases he
    | some y =>
      rw [q] at he
      obtain ⟨u, hu, du⟩ := hd.get q
      cases y with
      | lst ys =>
        dsimp only at he
        by_cases c : ys.all flatE = true ∧ ys.length < lim
        · rw [if_pos c] at he
          cases he
          simp only [Den] at du
          obtain ⟨a, us, rfl, h1, h2⟩ := du
          exact ⟨a, us, hu, h1, h2, c.1, c.2⟩
        · rw [if_neg c] at he; cases he
      | _ => cases he
  cases d with
  | tup ds =>
    simp only [Den] at h
    obtain ⟨t, vs, rfl, h1, h2⟩ := h
    obtain ⟨a, us, q⟩ := inner h2 hi
    exact ⟨t, a, vs, us, rfl, .inr h1, q⟩
  | lst ds =>
    simp only [Den] at h
    obtain ⟨t, vs, rfl, h1, h2⟩ := h
    obtain ⟨a, us, q⟩ := inner h2 hi
    exact ⟨t, a, vs, us, rfl, .inl (.inl (.inl h1)), q⟩
  | _ => simp only [innerL] at hi; cases hi
/-- the inner list stays apart while the whole is looked at -/
theorem Rep.lent {i : Nat} {d : D} {a : Addr} {us : List V} (o : Old A a) (r3 : Rep K (A.build a us) H σ (e.set i .un)) (r2 : Rep K A H2 σ (e.set i (.val d))) (s : Same (hid A σ (e.set i (.val d)) H) (hid A σ (e.set i (.val d)) H2))
    (ha : hid A σ (e.set i (.val d)) H a = some (.lst us)) (hi : i < e.length) (hf : FlatAll (e.set i (.val d))) : Rep K (A.build a us) H2 σ (e.set i .un) := by
  have hl : ∀ j, j ≠ i → (e.set i (Sl.val d))[j]? = (e.set i Sl.un)[j]? := fun j hj => by rw [List.getElem?_set_ne fun x => hj x.symm, List.getElem?_set_ne fun x => hj x.symm]
  have hu : (e.set i Sl.un)[i]? = some .un := List.getElem?_set_self hi
  have ne_of : ∀ {j : Nat} {s : Sl}, (e.set i Sl.un)[j]? = some s → s ≠ .un → j ≠ i ∧ (e.set i (Sl.val d))[j]? = some s := fun {j s} q n => by
    by_cases hj : j = i
    · rw [hj, hu] at q
      cases q
      exact absurd rfl n
    · exact ⟨hj, by rw [hl j hj]; exact q⟩
  have heldU : ∀ j, Held (e.set i Sl.un) j → Held (e.set i (Sl.val d)) j := fun j ⟨es, z⟩ => by
    rcases z with z | z
    · exact ⟨es, .inl (ne_of z (fun q => nomatch q)).2⟩
    · exact ⟨es, .inr (ne_of z (fun q => nomatch q)).2⟩
  have heldV : ∀ j, Held (e.set i (Sl.val d)) j → Held (e.set i Sl.un) j := fun j ⟨es, z⟩ => by
    have hj : j ≠ i := fun q => by
      subst q
      rw [List.getElem?_set_self hi] at z
      rcases z with z | z <;> cases z
    exact ⟨es, by rw [← hl j hj]; exact z⟩
  have sm : Same (hid (A.build a us) σ (e.set i .un) H) (hid (A.build a us) σ (e.set i .un) H2) := fun b x q => by
    obtain ⟨n, m, q⟩ := hid_not q
    rw [hid_in n m]
    have n' : ¬ OwnAt σ (e.set i (.val d)) b := fun ⟨j, hj, z⟩ => n ⟨j, heldV j hj, z⟩
    have m' : ¬ off A b := fun z => m ((off_build o.hr).2 (.inl z))
    exact hid_sub _ _ (s _ _ (by rw [hid_in n' m']; exact q))
  have ha2 := hid_sub _ _ (s _ _ ha)
  have nbA : ∀ b, b ≠ a → ((A.build a us).bor b ∨ (A.build a us).bld b ≠ none) → (A.bor b ∨ A.bld b ≠ none) := fun b hb z => z.imp id fun z => by rw [bld_neO hb] at z; exact z
  exact {
    len := r3.len
    sub := r3.sub
    bhr := r3.bhr
    nbor := fun b hb => by
      refine ⟨(r3.nbor b hb).1, ?_⟩
      by_cases q : b = a
      · rw [q, ha2]; exact fun z => nomatch z
      · exact (r2.nbor b (nbA b q hb)).2
    nbld := fun b x hb => by
      by_cases q : b = a
      · subst q
        obtain ⟨h1, h2, _⟩ := r3.nbld b x hb
        rw [bld_self] at hb
        cases hb
        exact ⟨h1, h2, ha2⟩
      · obtain ⟨h1, h2, _⟩ := r3.nbld b x hb
        rw [bld_neO q] at hb
        exact ⟨h1, h2, (r2.nbld b x hb).2.2⟩
    keep := fun b x hx nb => by
      by_cases q : b = a
      · exact absurd (Or.inr (by rw [q, bld_self]; exact fun z => nomatch z)) nb
      · have hx' : A.Hr b = some x := by
          have : (A.build a us).Hr b = A.Hr b := upd_ne q
          rw [← this]; exact hx
        exact r2.keep b x hx' fun z => nb (z.imp id fun z => by rw [bld_neO q]; exact z)
    val := fun j d' q => by
      obtain ⟨v, k1, k2⟩ := r3.val j d' q
      exact ⟨v, k1, Den.mono sm _ _ k2⟩
    own := fun j es q => by
      obtain ⟨_, q'⟩ := ne_of q (fun z => nomatch z)
      obtain ⟨b, xs, k1, k2, k3, k4⟩ := r2.own j es q'
      obtain ⟨b', xs', l1, l2, l3, l4⟩ := r3.own j es q
      rw [k1] at l1
      cases l1
      exact ⟨b, xs, k1, k2, denL_flatE (hf j es (.inl q')) k3, l4⟩
    brw := fun j es q => by
      obtain ⟨_, q'⟩ := ne_of q (fun z => nomatch z)
      obtain ⟨b, xs, k1, k2, k3, k4⟩ := r2.brw j es q'
      exact ⟨b, xs, k1, k2, denL_flatE (hf j es (.inr q')) k3, k4⟩
    inj := r3.inj }
end
section
variable {X : Cx} {W : WX} {pos ps1 ps2 p1 p2 p3 p4 p5 p6 p7 : Pos} {a ct : Expr} {f : FE} {fc : FT} {g h : FS} {x m : Str} {body rest : List Stmt} {j1 j2 : Nat}
theorem vss_lend {s1 : Stmt} (i k : Nat) (h1 : L2.PS X s1 (tAsg (rF X.K f) (gName i))) (hc : PT X ct (rT X.K X.mg W fc)) (hb : PSs X body (rdS X.K X.mg W g)) (hr : PSs X rest (rdS X.K X.mg W h))
    (hi : X.N[i]? = some x := by rfl)
    (hv : Vis X.env.scope x := by first | exact Or.inl rfl | exact Or.inr (Or.inl rfl) | exact Or.inr (Or.inr rfl)) (hd : (x == ("__debug__" : Str)) = false := by decide) (hcd : (x == ("__classdict__" : Str)) = false := by decide)
    (hbase : attributeBase (.Subscript (.Name x p2) (.Constant (.int k) j1 p3) p4) "append" X.env (eval (.Subscript (.Name x p2) (.Constant (.int k) j1 p3) p4) X.env) = eval (.Subscript (.Name x p2) (.Constant (.int k) j1 p3) p4) X.env := by rfl)
    (hfew : ((backTo p7 (starEach [.Constant (.str m) j2 p6] X.env)).all (fun x => !x.1) && (backToKw p7 (keywordEach [] X.env)).all (fun x => x.1.isSome)
      && decide ([Expr.Constant (.str m) j2 p6].length + ([] : List Keyword).length + (if ([] : List Keyword).isEmpty then 0 else 1) < 30)) = true := by rfl)
    (hline : (p5.endLine == p7.line) = true := by rfl) (hst : starEach [.Constant (.str m) j2 p6] X.env = (false, eval (.Constant (.str m) j2 p6) X.env) :: starEach [] X.env := by rfl) (hplain : (backTo p7 (starEach [] X.env)).any (·.1) = false := by rfl)
    (hsw : swapsWith (.Call (.Attribute (.Subscript (.Name x p2) (.Constant (.int k) j1 p3) p4) "append" p5) [.Constant (.str m) j2 p6] [] p7) none pos.line X.env = pure false := by rfl) (hpi : PlainIx (.Constant (.int k) j1 p3) := by exact fun _ _ => rfl) :
    PSs X (s1 :: .If ct body [] ps2 :: .Expr (.Call (.Attribute (.Subscript (.Name x p2) (.Constant (.int k) j1 p3) p4) "append" p5) [.Constant (.str m) j2 p6] [] p7) pos :: rest) (rdS X.K X.mg W (sSeq (sLend i k f fc g) h)) := by
  have e3 := ps_expr (pos := pos) (pe_bm (apos := p5) (cpos := p7) PySem.F.plainAttrs_list PySem.F.slot_list_append PySem.F.type_list_append mt_append (pe_ix (pos := p4) ix_seq (pe_var (pos := p2) hi hv hd hcd) (pe_int (i := k) (j := j1) (pos := p3)) hpi) (pa_cons (pe_str (x := m) (j := j2) (pos := p6)) pa_nil hst) hbase hfew hline hst hplain) hsw
  refine (pss_cons h1 (pss_cons (ps_if (pos := ps2) hc hb pss_nil) (pss_cons e3 hr))).imp fun D σ H ⟨A, e, r, p⟩ => ?_
  unfold sSeq sLend at p
  refine ⟨A, e, r, ?_⟩
  cases qf : f e with
  | exc _ _ => rw [qf] at p; exact p.elim
  | err => rw [qf] at p; exact p.elim
  | ok z =>
    obtain ⟨d, e1⟩ := z
    rw [qf] at p
    dsimp only at p
    by_cases c0 : e1 = e ∧ (innerL d k).isSome = true ∧ i < e.length ∧ FlatAll (e.set i (.val d))
    case neg => rw [if_neg c0] at p; exact p.elim
    rw [if_pos c0] at p
    obtain ⟨c1, c2, c3, c4⟩ := c0
    refine ⟨c1, fun v H1 r1 s1 d1 => ?_⟩
    obtain ⟨xs, hxs⟩ := Option.isSome_iff_exists.1 c2
    obtain ⟨t, b, vs, us, rfl, ht, hk, hb1, dx, fx, lx⟩ := inner_den hxs d1
    obtain ⟨hb2, n0, ob, rb⟩ := hv_lst hb1
    have R2 := r1.set (i := i) (Den.mono hv_sub _ _ d1)
    obtain ⟨R3, _⟩ := rb.vals (σ' := σ.set i (some (.ref t))) (e' := e.set i .un) (by rw [List.length_set, List.length_set]; exact rb.len) fun j s hj => by
      by_cases q : j = i
      · subst q
        rw [List.getElem?_set_self c3] at hj
        cases hj
        exact .inl rfl
      · rw [List.getElem?_set_ne fun x => q x.symm] at hj
        exact .inr (.inl ⟨hj, by rw [List.getElem?_set_ne fun x => q x.symm]⟩)
    have sv : Same (hid A σ e H1) (hid A (σ.set i (some (.ref t))) (e.set i (.val d)) H1) := hid_set
    -- the test
    refine ⟨A, e.set i (.val d), R2, ?_⟩
    cases qc : fc (e.set i (.val d)) with
    | exc _ _ => rw [qc] at p; exact p.elim
    | err => rw [qc] at p; exact p.elim
    | ok z =>
      obtain ⟨kb, e2⟩ := z
      rw [qc] at p
      intro bb H2 r2 s2 hbb
      subst hbb
      dsimp only at p r2 s2
      cases bb with
      | true =>
        dsimp only at p
        refine iteT ⟨A, e2, r2, ?_⟩
        cases qg : g e2 with
        | exc _ _ => rw [qg] at p; exact p.elim
        | err => rw [qg] at p; exact p.elim
        | ok fl =>
          rw [qg] at p
          cases fl with
          | rt z e3 =>
            have p' : PostS X.K X.mg W D A σ e H (.ok (.rt z e3)) := p
            exact fun v' σ' H' r' s' d' => p' v' σ' H' r' (s1.trans (sv.trans (s2.trans s'))) d'
          | _ => exact p.elim
      | false =>
        dsimp only at p
        by_cases ce : e2 = e.set i (.val d)
        case neg => rw [if_neg ce] at p; exact p.elim
        rw [if_pos ce] at p
        subst ce
        have p' : PostS X.K X.mg W D A σ e H (h (e.set i .un)) := p
        have hb3 := sv _ _ hb2
        have R4 := Rep.lent ob R3 r2 s2 hb3 c3 c4
        have hb4 := hid_sub _ _ (s2 _ _ hb3)
        have it : (σ.set i (some (V.ref t)))[i]? = some (some (.ref t)) := List.getElem?_set_self (by rw [r1.len]; exact c3)
        have a1 : atI vs (k : Int) = some (.ref b) := L2.atI_nat hk
        have sa : Same (Mi.hv X.K A H H1 σ e) H2 := fun y o z => hid_sub _ _ (s2 _ _ (sv _ _ (hv_sub _ _ z)))
        have fin : tyV X.K "list" (.ref b) H2 ∧ rAppend (.ref b) [.str m] H2 fun _ H5 => rdS X.K X.mg W h D (σ.set i (some (.ref t))) H5 := by
          refine ⟨.inl ⟨rfl, us, .inl (.inl hb4)⟩, b, us, .str m, rfl, rfl, hb4, by rw [← dx.length, ← lim_eq]; exact lx, ?_⟩
          have R5 := R4.bput (us ++ [.str m])
          obtain ⟨R6, _, _⟩ := R5.built ob
          refine ⟨A, e.set i .un, R6, PostS.shift (fun y o z => ?_) p'⟩
          have ny : y ≠ b := fun q => by rw [q, n0] at z; cases z
          have z2 := s2 _ _ (sv _ _ (s1 _ _ z))
          obtain ⟨q1, q2, q3⟩ := hid_not z2
          have q4 : ¬ OwnAt (σ.set i (some (.ref t))) (e.set i .un) y := fun ⟨j, ⟨es, hj⟩, hz⟩ => by
            have hji : j ≠ i := fun q => by
              subst q
              rw [List.getElem?_set_self c3] at hj
              rcases hj with hj | hj <;> cases hj
            rw [List.getElem?_set_ne fun x => hji x.symm] at hj
            exact q1 ⟨j, ⟨es, by rw [List.getElem?_set_ne fun x => hji x.symm]; exact hj⟩, hz⟩
          rw [hid_in q4 q2, upd_ne ny]
          exact q3
        refine iteF ⟨.ref t, it, ?_⟩
        rcases ht with ht | ht
        · exact .inl ⟨t, vs, (k : Int), .ref b, rfl, rfl, sa.seq ht, a1, fin⟩
        · exact .inr (.inl ⟨t, vs, (k : Int), .ref b, rfl, rfl, Same.seqT sa ht, a1, fin⟩)
end
theorem lend_go {i k : Nat} {f : FE} {c : FT} {g : FS} {e : En} {d : D} (hf : f e = .ok (d, e)) (hin : (innerL d k).isSome = true) (hi : i < e.length) (hfl : FlatAll (e.set i (.val d))) (hc : c (e.set i (.val d)) = .ok (false, e.set i (.val d))) : sLend i k f c g e = .ok (.nx (e.set i .un)) := by
  unfold sLend
  rw [hf]
  dsimp only
  rw [if_pos ⟨rfl, hin, hi, hfl⟩, hc]
  dsimp only
  rw [if_pos rfl]
theorem mi15 : (∀ (n : Nat) (fn : List D → R D) (f : FA) (e : En), eCallF n fn f e = (f e).bind fun p => if p.1.length = n then (match fn p.1 with
  | .ok d => .ok (d, p.2)
  | _ => .err) else .err) ∧ (∀ e : En, aFN0 e = .ok ([], e)) := ⟨by intros; rfl, by intros; rfl⟩
theorem aFV_go {f : FE} {g : FA} {e : En} {d : D} {ds : List D} (hf : f e = .ok (d, e)) (hl : lf d = true) (hg : g e = .ok (ds, e)) : aFV f g e = .ok (d :: ds, e) := by
  unfold aFV
  rw [hf]
  simp only [R.bind]
  rw [if_pos ⟨hl, trivial⟩, hg]
theorem aFL_go {f : FA} {e : En} {ds : List D} (hf : f e = .ok (ds, e)) (hl : ds.all flatE = true) : aFL f e = .ok ([.lst ds], e) := by
  unfold aFL
  rw [hf]
  simp only [R.bind]
  rw [if_pos ⟨hl, trivial⟩]
/-! a reading that looks at no list: its value holds new lists alone -/
def freeS : Sl → Sl
  | .val d => if lf d = true then .val d else .un
  | _ => .un
def freeE (e : En) : En := e.map freeS
open Classical in
noncomputable def eFree (f : FE) : FE := fun e => match f (freeE e) with
  | .ok (d, e2) => if e2 = freeE e then .ok (d, e) else .err
  | _ => .err
section
variable {K : PySem.W.Frag} {A : Act} {H H' : Hp} {σ : L2.St} {e : En}
theorem free_val {i : Nat} {s : Sl} (h : (freeE e)[i]? = some s) : s = .un ∨ ∃ d, s = .val d ∧ lf d = true ∧ e[i]? = some (.val d) := by
  unfold freeE at h
  rw [List.getElem?_map] at h
  cases k : e[i]? with
  | none => rw [k] at h; cases h
  | some s0 =>
    rw [k] at h
    simp only [Option.map_some, Option.some.injEq] at h
    subst h
    cases s0 with
    | val d =>
      simp only [freeS]
      by_cases c : lf d = true
      · rw [if_pos c]; exact .inr ⟨d, rfl, c, rfl⟩
      · rw [if_neg c]; exact .inl rfl
    | _ => exact .inl rfl
theorem free_held {i : Nat} : ¬ Held (freeE e) i := fun ⟨ds, h⟩ => by
  rcases h with h | h <;> rcases free_val h with q | ⟨d, q, _⟩ <;> cases q
noncomputable def Act.free (A : Act) (σ : L2.St) (e : En) (H : Hp) : Act := ⟨H, nol (hid A σ e H), fun _ => False, fun _ => none⟩
theorem free_sub : Same (nol (hid A σ e H)) (hid (A.free σ e H) σ (freeE e) H) := fun b o h => by
  rw [hid_in (fun ⟨i, hi, _⟩ => free_held hi) (fun z => by
    have : nol (hid A σ e H) b = none := z.2
    rw [h] at this; cases this)]
  exact hid_sub _ _ (nol_sub _ _ h)
theorem Rep.free (r : Rep K A H σ e) : Rep K (A.free σ e H) H σ (freeE e) where
  len := by unfold freeE; rw [List.length_map]; exact r.len
  sub := fun b o h => hid_sub _ _ (nol_sub _ _ h)
  bhr := fun a h => h.elim
  nbor := fun a h => h.elim (fun z => z.elim) fun z => absurd rfl z
  nbld := fun a vs h => nomatch h
  keep := fun b x h _ => h
  val := fun i d h => by
    rcases free_val h with q | ⟨d', q, l, hi⟩
    · cases q
    · cases q
      obtain ⟨v, h1, h2⟩ := r.val i d hi
      exact ⟨v, h1, Den.mono free_sub _ _ (den_nol d v l h2)⟩
  own := fun i ds h => absurd ⟨ds, .inl h⟩ free_held
  brw := fun i ds h => absurd ⟨ds, .inr h⟩ free_held
  inj := fun i j a h => absurd h free_held
theorem free_keep (r : Rep K (A.free σ e H) H' σ (freeE e)) : Same H H' := fun b x h => r.keep b x h fun z => z.elim id fun z => z rfl
theorem free_hv (r0 : Rep K A H σ e) (r : Rep K (A.free σ e H) H' σ (freeE e)) : Same (hid (A.free σ e H) σ (freeE e) H') (hv K A H H' σ e) := fun b o h => by
  have s := free_keep r
  obtain ⟨n1, n2, h3⟩ := hid_not h
  by_cases q : H b = none
  · exact hv_new r0 (Same.refl _) s h3 q
  · have hz : nol (hid A σ e H) b ≠ none := fun z => n2 ⟨q, z⟩
    cases k : nol (hid A σ e H) b with
    | none => exact absurd k hz
    | some o' =>
      obtain ⟨k1, k2⟩ := nol_not k
      have k3 := hid_same s _ _ k1
      have k4 := hid_sub _ _ k3
      rw [h3] at k4
      cases k4
      exact hv_nl k3 k2
end
theorem free_rE {K : PySem.W.Frag} {mg : Str → Option Value} {f : FE} : ∀ σ H Q, rF K (eFree f) σ H Q → rE K mg W0 f σ H Q := fun σ H Q ⟨A, e, r, q⟩ => by
    unfold eFree at q
    refine ⟨A.free σ e H, freeE e, r.free, ?_⟩
    cases h : f (freeE e) with
    | ok z =>
      obtain ⟨d, e2⟩ := z
      rw [h] at q
      dsimp only at q
      by_cases c : e2 = freeE e
      · rw [if_pos c] at q
        subst c
        intro b H' r' s' d'
        exact q.2 b H' (r.grow (free_keep r')) (hid_same (free_keep r')) (Den.mono (free_hv r r') _ _ d')
      · rw [if_neg c] at q; exact q.elim
    | exc c e1 => rw [h] at q; exact q.elim
    | err => rw [h] at q; exact q.elim
theorem ofN_imp {K : PySem.W.Frag} {mg : Str → Option Value} {W : WX} {f : FA} : ∀ σ H Q, rE K mg W (eL f) σ H Q → rN K mg W f σ H Q := fun σ H Q ⟨A, e, r, p⟩ => by
  refine ⟨A, e, r, ?_⟩
  unfold eL at p
  cases q : f e with
  | ok z =>
    rw [q] at p
    have p' : Post K mg W (Den K) A σ e H Q (.ok (.lst z.1, z.2)) := p
    intro b us H' o rb sb d
    obtain ⟨r1, sv, hb⟩ := rb.built o
    refine p' (.ref b) H' r1 (sb.trans sv) ?_
    simp only [Den]
    exact ⟨b, us, rfl, hb, DenL.mono sv _ _ d⟩
  | exc c e1 => rw [q] at p; exact p
  | err => rw [q] at p; exact p
section
variable {X : Cx} {pos : Pos} {a : Expr} {f : FE} {x : Str} {p1 ps1 : Pos}
theorem set_lend (i : Nat) (hN : X.N.Nodup) (ha : PE X a (rF X.K f)) (hi : X.N[i]? = some x := by rfl) (hx : Loc X.env.scope x := by first | exact .inl rfl | exact .inr rfl) (hs : swapsWith a (some (.Name x p1)) ps1.line X.env = pure false := by rfl)
    (hf : X.fn x = true ∨ X.env.scope.names.lookup x = some .local := by first | exact .inl rfl | exact .inr rfl) : L2.PS X (.Assign [.Name x p1] a ps1) (tAsg (rF X.K f) (gName i)) := ps_set hN hi hx ha hs hf
end
section
variable {X : Cx} {pos : Pos} {y : Str} {py spos : Pos} {elt tg iter : Expr} {ifs : List Expr} {scope : Scope} {own : List (Str × Nat)} {it : FA} {G : TD} {js : List Nat} {c : FT} {f : FE}
theorem set_lendLc (i : Nat) (hc : X.calm = true) (hN : X.N.Nodup) (hi : PI X tg iter (rI X.K X.mg W0 it)) (ok : blkC X.N X.env.scope scope own = true)
    (hg : ∀ (s : Shared) (H : Hp) (C : Addr) (cl : List (Str × Addr)) (fp : List Addr), PG (X.blk s H scope (compEnvC scope cl C X.env) fp) tg (rdG X.K G js))
    (ht : ∀ (s : Shared) (H : Hp) (C : Addr) (cl : List (Str × Addr)) (fp : List Addr), PTs (X.blk s H scope (compEnvC scope cl C X.env) fp) ifs (rT X.K X.mg W0 c))
    (he : ∀ (s : Shared) (H : Hp) (C : Addr) (cl : List (Str × Addr)) (fp : List Addr), PE (X.blk s H scope (compEnvC scope cl C X.env) fp) elt (rE X.K X.mg W0 f))
    (hsw : swapsWith (.ListComp elt [⟨tg, iter, ifs, 0⟩] scope pos) (some (.Name y py)) spos.line X.env = pure true) (hy : X.N[i]? = some y := by rfl) (hyl : X.env.scope.names.lookup y = some .local := by rfl)
    (hj : ∀ j ∈ js, j ∈ own.map (·.2) := by decide) (hs : ∀ x, foldedSetIterable iter X.env x = pure x := by intro _; rfl) :
    L2.PS X (.Assign [.Name y py] (.ListComp elt [⟨tg, iter, ifs, 0⟩] scope pos) spos) (tAsg (rF X.K (eFree (eL (nLc it (own.map (·.2)) G c f)))) (gName i)) :=
  (ps_setLc hc hN hy hyl hsw hi (blkOk_by ok) hg ht he hs).imp fun D σ H h => rLc_of hj σ H _ (ofN_imp σ H _ (free_rE σ H _ h))
end
theorem free_go {f : FE} {e : En} {d : D} (h : f (freeE e) = .ok (d, freeE e)) : eFree f e = .ok (d, e) := by
  unfold eFree
  rw [h]
  dsimp only
  rw [if_pos rfl]
end Mi
namespace Lw
open PySem PySem.Spec PyProof.Rows L2 Mi
def topS (i : Nat) : Stmt := PySem.Challenge.pw_oncecodes_k03_whole_judges_by_clocks.main.body.getD i (.Pass ⟨0, 0, 0, 0⟩)
def pk_is_integer : {s : Stmt // topS 7 = s} := ⟨_, by conv => lhs; whnf⟩
def st_is_integer : Stmt := pk_is_integer.1
def pk_is_within : {s : Stmt // topS 8 = s} := ⟨_, by conv => lhs; whnf⟩
def st_is_within : Stmt := pk_is_within.1
def pk_is_key : {s : Stmt // topS 15 = s} := ⟨_, by conv => lhs; whnf⟩
def st_is_key : Stmt := pk_is_key.1
def pk_is_clock_judge : {s : Stmt // topS 25 = s} := ⟨_, by conv => lhs; whnf⟩
def st_is_clock_judge : Stmt := pk_is_clock_judge.1
def pk_is_clock : {s : Stmt // topS 26 = s} := ⟨_, by conv => lhs; whnf⟩
def st_is_clock : Stmt := pk_is_clock.1
def pk__law_draws : {s : Stmt // topS 41 = s} := ⟨_, by conv => lhs; whnf⟩
def st__law_draws : Stmt := pk__law_draws.1
def pk__law_take : {s : Stmt // topS 42 = s} := ⟨_, by conv => lhs; whnf⟩
def st__law_take : Stmt := pk__law_take.1
def pk__law_pick : {s : Stmt // topS 43 = s} := ⟨_, by conv => lhs; whnf⟩
def st__law_pick : Stmt := pk__law_pick.1
def pk__law_same : {s : Stmt // topS 44 = s} := ⟨_, by conv => lhs; whnf⟩
def st__law_same : Stmt := pk__law_same.1
def pk__law_code : {s : Stmt // topS 47 = s} := ⟨_, by conv => lhs; whnf⟩
def st__law_code : Stmt := pk__law_code.1
def pk__law_key : {s : Stmt // topS 46 = s} := ⟨_, by conv => lhs; whnf⟩
def st__law_key : Stmt := pk__law_key.1
def pk__law_judge : {s : Stmt // topS 48 = s} := ⟨_, by conv => lhs; whnf⟩
def st__law_judge : Stmt := pk__law_judge.1
def pk__law_looked : {s : Stmt // topS 49 = s} := ⟨_, by conv => lhs; whnf⟩
def st__law_looked : Stmt := pk__law_looked.1
def pk_check : {s : Stmt // topS 9 = s} := ⟨_, by conv => lhs; whnf⟩
def st_check : Stmt := pk_check.1
def pk_is_count : {s : Stmt // topS 10 = s} := ⟨_, by conv => lhs; whnf⟩
def st_is_count : Stmt := pk_is_count.1
def pk_check_judge : {s : Stmt // topS 27 = s} := ⟨_, by conv => lhs; whnf⟩
def st_check_judge : Stmt := pk_check_judge.1
def pk_due_by : {s : Stmt // topS 28 = s} := ⟨_, by conv => lhs; whnf⟩
def st_due_by : Stmt := pk_due_by.1
def pk_due_count : {s : Stmt // topS 29 = s} := ⟨_, by conv => lhs; whnf⟩
def st_due_count : Stmt := pk_due_count.1
def pk_looked_by : {s : Stmt // topS 30 = s} := ⟨_, by conv => lhs; whnf⟩
def st_looked_by : Stmt := pk_looked_by.1
def pk_looked_at : {s : Stmt // topS 31 = s} := ⟨_, by conv => lhs; whnf⟩
def st_looked_at : Stmt := pk_looked_at.1
def pk_value_by : {s : Stmt // topS 17 = s} := ⟨_, by conv => lhs; whnf⟩
def st_value_by : Stmt := pk_value_by.1
def pk_power : {s : Stmt // topS 11 = s} := ⟨_, by conv => lhs; whnf⟩
def st_power : Stmt := pk_power.1
def pk_told : {s : Stmt // topS 18 = s} := ⟨_, by conv => lhs; whnf⟩
def st_told : Stmt := pk_told.1
def pk_code_by : {s : Stmt // topS 19 = s} := ⟨_, by conv => lhs; whnf⟩
def st_code_by : Stmt := pk_code_by.1
def pk_met_by : {s : Stmt // topS 32 = s} := ⟨_, by conv => lhs; whnf⟩
def st_met_by : Stmt := pk_met_by.1
def pk_are_figures : {s : Stmt // topS 16 = s} := ⟨_, by conv => lhs; whnf⟩
def st_are_figures : Stmt := pk_are_figures.1
def pk_check_code : {s : Stmt // topS 33 = s} := ⟨_, by conv => lhs; whnf⟩
def st_check_code : Stmt := pk_check_code.1
def pk_clock_met : {s : Stmt // topS 34 = s} := ⟨_, by conv => lhs; whnf⟩
def st_clock_met : Stmt := pk_clock_met.1
def pk_judged_by : {s : Stmt // topS 35 = s} := ⟨_, by conv => lhs; whnf⟩
def st_judged_by : Stmt := pk_judged_by.1
def pk_clock_judged : {s : Stmt // topS 36 = s} := ⟨_, by conv => lhs; whnf⟩
def st_clock_judged : Stmt := pk_clock_judged.1
def pk_count_by : {s : Stmt // topS 37 = s} := ⟨_, by conv => lhs; whnf⟩
def st_count_by : Stmt := pk_count_by.1
def pk_clock_count : {s : Stmt // topS 38 = s} := ⟨_, by conv => lhs; whnf⟩
def st_clock_count : Stmt := pk_clock_count.1
def pk_taken_at : {s : Stmt // topS 39 = s} := ⟨_, by conv => lhs; whnf⟩
def st_taken_at : Stmt := pk_taken_at.1
def pk__law_flags : {s : Stmt // topS 45 = s} := ⟨_, by conv => lhs; whnf⟩
def st__law_flags : Stmt := pk__law_flags.1
def pk__law_told : {s : Stmt // topS 50 = s} := ⟨_, by conv => lhs; whnf⟩
def st__law_told : Stmt := pk__law_told.1
def pk_law : {s : Stmt // topS 51 = s} := ⟨_, by conv => lhs; whnf⟩
def st_law : Stmt := pk_law.1
/-- what the top has written -/
structure Tx (K : PySem.W.Frag) (mg : Str → Option Value) : Prop where
  d_is_integer : DefN K mg "is_integer" "is_integer" st_is_integer ["value"]
  d_is_within : DefN K mg "is_within" "is_within" st_is_within ["value", "low", "high"]
  d_is_key : DefN K mg "is_key" "is_key" st_is_key ["value"]
  d_is_clock_judge : DefN K mg "is_clock_judge" "is_clock_judge" st_is_clock_judge ["value"]
  d_is_clock : DefN K mg "is_clock" "is_clock" st_is_clock ["value"]
  d__law_draws : DefN K mg "_law_draws" "_law_draws" st__law_draws ["script"]
  d__law_take : DefN K mg "_law_take" "_law_take" st__law_take ["draws", "bound"]
  d__law_pick : DefN K mg "_law_pick" "_law_pick" st__law_pick ["draws", "some"]
  d__law_same : DefN K mg "_law_same" "_law_same" st__law_same ["actual", "due"]
  d__law_code : DefN K mg "_law_code" "_law_code" st__law_code ["key", "n"]
  d__law_key : DefN K mg "_law_key" "_law_key" st__law_key ["draws"]
  d__law_judge : DefN K mg "_law_judge" "_law_judge" st__law_judge ["draws", "t"]
  d__law_looked : DefN K mg "_law_looked" "_law_looked" st__law_looked ["judge", "t"]
  d_check : DefN K mg "check" "check" st_check ["is_right"]
  d_is_count : DefN K mg "is_count" "is_count" st_is_count ["value"]
  d_check_judge : DefN K mg "check_judge" "check_judge" st_check_judge ["judge"]
  d_due_by : DefN K mg "due_by" "due_by" st_due_by ["judge", "t"]
  d_due_count : DefN K mg "due_count" "due_count" st_due_count ["judge", "t"]
  d_looked_by : DefN K mg "looked_by" "looked_by" st_looked_by ["judge", "t"]
  d_looked_at : DefN K mg "looked_at" "looked_at" st_looked_at ["judge", "t"]
  d_value_by : DefN K mg "value_by" "value_by" st_value_by ["key", "n"]
  d_power : DefN K mg "power" "power" st_power ["number", "times"]
  d_told : DefN K mg "told" "told" st_told ["value", "digits"]
  d_code_by : DefN K mg "code_by" "code_by" st_code_by ["key", "n"]
  d_met_by : DefN K mg "met_by" "met_by" st_met_by ["judge", "code", "t"]
  d_are_figures : DefN K mg "are_figures" "are_figures" st_are_figures ["value", "length"]
  d_check_code : DefN K mg "check_code" "check_code" st_check_code ["judge", "code", "t"]
  d_clock_met : DefN K mg "clock_met" "clock_met" st_clock_met ["judge", "code", "t"]
  d_judged_by : DefN K mg "judged_by" "judged_by" st_judged_by ["judge", "code", "t"]
  d_clock_judged : DefN K mg "clock_judged" "clock_judged" st_clock_judged ["judge", "code", "t"]
  d_count_by : DefN K mg "count_by" "count_by" st_count_by ["clock", "step", "t"]
  d_clock_count : DefN K mg "clock_count" "clock_count" st_clock_count ["clock", "step", "t"]
  d_taken_at : DefN K mg "taken_at" "taken_at" st_taken_at ["judge", "t"]
  d__law_flags : DefN K mg "_law_flags" "_law_flags" st__law_flags ["e"]
  d__law_told : DefN K mg "_law_told" "_law_told" st__law_told ["which", "judge", "one", "two"]
  d_law : DefN K mg "law" "law" st_law ["script"]
  h_CodeError : ∃ v, mg "CodeError" = some v
  p_NotRight_CodeError : ∃ u v, mg "NotRight" = some u ∧ mg "CodeError" = some v ∧ PySem.W.exmOne K u v = some true
  k_NotRight_Malformed : KitA K mg "NotRight" "Malformed" false
  k_NotRight_NoAnswer : KitA K mg "NotRight" "NoAnswer" false
  k_NotRight_NotRight : KitA K mg "NotRight" "NotRight" true
  k_NotRight_NotThere : KitA K mg "NotRight" "NotThere" false
  k_NotRight_TooLarge : KitA K mg "NotRight" "TooLarge" false
  a_NotRight : ExA K mg "NotRight"
  b_abs : mg "abs" = none
  b_all : mg "all" = none
  b_bool : mg "bool" = none
  b_dict : mg "dict" = none
  b_int : mg "int" = none
  b_isinstance : mg "isinstance" = none
  b_len : mg "len" = none
  b_list : mg "list" = none
  b_max : mg "max" = none
  b_range : mg "range" = none
  b_reversed : mg "reversed" = none
  b_set : mg "set" = none
  b_sorted : mg "sorted" = none
  b_str : mg "str" = none
  b_tuple : mg "tuple" = none
  i_LONGEST_STEP : IntA mg "LONGEST_STEP" 600
  i_MILLION : IntA mg "MILLION" 1000000
  i_MOST_DIGITS : IntA mg "MOST_DIGITS" 6
  i_MOST_RATE : IntA mg "MOST_RATE" 500000
  i_MOST_SLACK : IntA mg "MOST_SLACK" 20
  i_PRIME : IntA mg "PRIME" 1000003
  e_NotRight : ExcA K mg "NotRight"
def exSub : Str → Str → Option Bool := fun c h => if c = "NotRight" ∧ h = "CodeError" then some true else none
theorem sub_ok {K : PySem.W.Frag} {mg : Str → Option Value} (T : Tx K mg) : SubOk K mg exSub := by
  intro c h b e
  unfold exSub at e
  by_cases q0 : c = "NotRight" ∧ h = "CodeError"
  · rw [if_pos q0] at e
    cases e
    obtain ⟨rfl, rfl⟩ := q0
    exact T.p_NotRight_CodeError
  rw [if_neg q0] at e
  cases e
def exKit_Malformed : Str → Option Bool := fun c => if c = "NotRight" then some false else none
theorem kit_Malformed_ok {K : PySem.W.Frag} {mg : Str → Option Value} (T : Tx K mg) : ∀ c b, exKit_Malformed c = some b → KitA K mg c "Malformed" b ∧ ExA K mg c := by
  intro c b e
  unfold exKit_Malformed at e
  by_cases q0 : c = "NotRight"
  · rw [if_pos q0] at e
    cases e
    subst q0
    exact ⟨T.k_NotRight_Malformed, T.a_NotRight⟩
  rw [if_neg q0] at e
  cases e
def exKit_NoAnswer : Str → Option Bool := fun c => if c = "NotRight" then some false else none
theorem kit_NoAnswer_ok {K : PySem.W.Frag} {mg : Str → Option Value} (T : Tx K mg) : ∀ c b, exKit_NoAnswer c = some b → KitA K mg c "NoAnswer" b ∧ ExA K mg c := by
  intro c b e
  unfold exKit_NoAnswer at e
  by_cases q0 : c = "NotRight"
  · rw [if_pos q0] at e
    cases e
    subst q0
    exact ⟨T.k_NotRight_NoAnswer, T.a_NotRight⟩
  rw [if_neg q0] at e
  cases e
def exKit_NotRight : Str → Option Bool := fun c => if c = "NotRight" then some true else none
theorem kit_NotRight_ok {K : PySem.W.Frag} {mg : Str → Option Value} (T : Tx K mg) : ∀ c b, exKit_NotRight c = some b → KitA K mg c "NotRight" b ∧ ExA K mg c := by
  intro c b e
  unfold exKit_NotRight at e
  by_cases q0 : c = "NotRight"
  · rw [if_pos q0] at e
    cases e
    subst q0
    exact ⟨T.k_NotRight_NotRight, T.a_NotRight⟩
  rw [if_neg q0] at e
  cases e
def exKit_NotThere : Str → Option Bool := fun c => if c = "NotRight" then some false else none
theorem kit_NotThere_ok {K : PySem.W.Frag} {mg : Str → Option Value} (T : Tx K mg) : ∀ c b, exKit_NotThere c = some b → KitA K mg c "NotThere" b ∧ ExA K mg c := by
  intro c b e
  unfold exKit_NotThere at e
  by_cases q0 : c = "NotRight"
  · rw [if_pos q0] at e
    cases e
    subst q0
    exact ⟨T.k_NotRight_NotThere, T.a_NotRight⟩
  rw [if_neg q0] at e
  cases e
def exKit_TooLarge : Str → Option Bool := fun c => if c = "NotRight" then some false else none
theorem kit_TooLarge_ok {K : PySem.W.Frag} {mg : Str → Option Value} (T : Tx K mg) : ∀ c b, exKit_TooLarge c = some b → KitA K mg c "TooLarge" b ∧ ExA K mg c := by
  intro c b e
  unfold exKit_TooLarge at e
  by_cases q0 : c = "NotRight"
  · rw [if_pos q0] at e
    cases e
    subst q0
    exact ⟨T.k_NotRight_TooLarge, T.a_NotRight⟩
  rw [if_neg q0] at e
  cases e
def exFl__law_flags : Str → Option (List Bool) := fun c => if c = "NotRight" then some [true, false, false, false, false] else none
theorem fl__law_flags_ok {K : PySem.W.Frag} {mg : Str → Option Value} (T : Tx K mg) : FlOk K mg ["NotRight", "NotThere", "NoAnswer", "TooLarge", "Malformed"] exFl__law_flags := by
  intro c bs e
  unfold exFl__law_flags at e
  by_cases q0 : c = "NotRight"
  · rw [if_pos q0] at e
    cases e
    subst q0
    obtain ⟨D, hD, hC⟩ := T.a_NotRight
    exact ⟨D, hD, hC, kit_at T.k_NotRight_NotRight hD, kit_at T.k_NotRight_NotThere hD, kit_at T.k_NotRight_NoAnswer hD, kit_at T.k_NotRight_TooLarge hD, kit_at T.k_NotRight_Malformed hD, trivial⟩
  rw [if_neg q0] at e
  cases e
noncomputable section
variable {P : Program} {w : World} {K : PySem.W.Frag} {mg : Str → Option Value} {base : Heap}
/-! ### is_integer -/
theorem S_is_integer : FnScope ["value"] ["value"] (defScope st_is_integer) := ⟨rfl, rfl, rfl, by decide +kernel, rfl, by decide +kernel, by decide +kernel⟩
def m_is_integer : FS := sRet (eAnd (eF fIs (aC (eV 0) (aC (eC (.ty "int")) (aN)))) (eNot (eF fIs (aC (eV 0) (aC (eC (.ty "bool")) (aN))))))
@[irreducible] def F_is_integer : List D → R D := runA 1 false m_is_integer
theorem c_is_integer (T : Tx K mg) : CallA P w K mg base 1 "is_integer" 1 false F_is_integer := by
  unfold F_is_integer
  obtain ⟨f, fd, F, g, kp, b⟩ := T.d_is_integer
  have h1 : FnOk P w K mg base (L2.CX P w) (0 + 1) f fd ["value"] (spA K mg 1 false (runA 1 false m_is_integer)) := ok_A (n := 1) (N := ["value"]) (k := 0) (g := m_is_integer) false F S_is_integer rfl (by decide) (fun cdv A outer s H E hr => vss_one (vs_ret (v_and (v_blt rc_is call_isi rfl T.b_isinstance (va_cons (v_var 0) (va_cons (v_ty rfl T.b_int) (va_nil)))) (v_one (v_not (v_blt rc_is call_isi rfl T.b_isinstance (va_cons (v_var 0) (va_cons (v_ty rfl T.b_bool) (va_nil)))))))))
  exact ⟨f, fd, _, h1, kp, b, g⟩
/-! ### is_within -/
theorem S_is_within : FnScope ["value", "low", "high"] ["value", "low", "high"] (defScope st_is_within) := ⟨rfl, rfl, rfl, by decide +kernel, rfl, by decide +kernel, by decide +kernel⟩
def m_is_within : FS := sRet (eAnd (eCall 1 F_is_integer (aC (eV 0) (aN))) (eCh gLe gLe (eV 1) (eV 0) (eV 2)))
@[irreducible] def F_is_within : List D → R D := runA 3 false m_is_within
theorem c_is_within (T : Tx K mg) : CallA P w K mg base 2 "is_within" 3 false F_is_within := by
  unfold F_is_within
  obtain ⟨f, fd, F, g, kp, b⟩ := T.d_is_within
  have h1 : FnOk P w K mg base (L2.CX P w) (1 + 1) f fd ["value", "low", "high"] (spA K mg 3 false (runA 3 false m_is_within)) := ok_A (n := 3) (N := ["value", "low", "high"]) (k := 1) (g := m_is_within) false F S_is_within rfl (by decide) (fun cdv A outer s H E hr => vss_one (vs_ret (v_and (v_callU (c_is_integer T) (hr.mono (by decide)) (takes_of rfl rfl rfl rfl) rfl (va_cons (v_var 0) (va_nil))) (v_one (v_chain rb_le rb_le op_leA op_leA (v_var 1) (v_var 0) (v_var 2))))))
  exact ⟨f, fd, _, h1, kp, b, g⟩
/-! ### is_key -/
theorem S_is_key : FnScope ["value", "one"] ["value"] (defScope st_is_key) := ⟨rfl, rfl, rfl, by decide +kernel, rfl, by decide +kernel, by decide +kernel⟩
def f_is_key_0 : FE := eCall 3 F_is_within (aC (eV 1) (aC (eC (.int 0)) (aC (eB gSub (eC (.int 1000003)) (eC (.int 1))) (aN))))
def m_is_key : FS := sSeq (sIf (tOr1 (tNot1 (tE (eF fIs (aC (eV 0) (aC (eC (.ty "tuple")) (aN)))))) (tOr1 (tC1 (eB gNe (eF fLen (aC (eV 0) (aN))) (eC (.int 4)))) (tNot1 (tE (eCall 3 F_is_within (aC (eB gIx (eV 0) (eC (.int 3))) (aC (eC (.int 1)) (aC (eC (.int 6)) (aN))))))))) (sRet (eC (.bl false))) (sNx))
    (sRet (eF fAll (aC (eL (nLc (iT (eSl gSl (eV 0) (oN) (oS (eC (.int 3))))) [1] (gN 1) (tYes1) (f_is_key_0))) (aN))))
@[irreducible] def F_is_key : List D → R D := runA 2 false m_is_key
theorem c_is_key (T : Tx K mg) : CallA P w K mg base 3 "is_key" 1 false F_is_key := by
  unfold F_is_key
  obtain ⟨f, fd, F, g, kp, b⟩ := T.d_is_key
  have h1 : FnOk P w K mg base (L2.CX P w) (2 + 1) f fd ["value"] (spA K mg 1 false (runA 2 false m_is_key)) := ok_A (n := 1) (N := ["value", "one"]) (k := 2) (g := m_is_key) false F S_is_key rfl (by decide) (fun cdv A outer s H E hr => vss_cons (vs_if (PW.pt (vw_or (vt_not (vt_val (v_blt rc_is call_isi rfl T.b_isinstance (va_cons (v_var 0) (va_cons (v_ty rfl T.b_tuple) (va_nil)))))) (vw_or (vt_cmp rb_ne (op_neA hr.hu) (nomark _) (v_blt rc_len call_lenA rfl T.b_len (va_cons (v_var 0) (va_nil))) (v_int)) (vw_or1 (vt_not (vt_val (v_callU (c_is_within T) (hr.mono (by decide)) (takes_of rfl rfl rfl rfl) rfl (va_cons (v_ix rb_ix ix_seq (v_var 0) (v_int)) (va_cons (v_int) (va_cons (v_globIU T.i_MOST_DIGITS rfl) (va_nil))))))))))) (vss_one (vs_ret (v_bl))) (vss_nil))
    (vss_one (vs_ret (v_blt rc_all (cr_all rfl) rfl T.b_all (va_cons (v_ofN (n_lc (own := [("one", 1)]) (c := tYes1) (f := f_is_key_0) rfl S_is_key.nd (vi_tup (v_slice rsl_all sl_all (v_var 0) (vo_none) (vo_some (v_int)))) rfl (fun _ _ _ _ _ => vg_name 1 S_is_key.nd) (fun _ _ _ _ _ => vts_nil) (fun _ _ _ _ _ => v_callU (c_is_within T) (hr.mono (by decide)) takes0 rfl (va_cons (v_var 1) (va_cons (v_int) (va_cons (v_op rb_sub op_sub (v_globIU T.i_PRIME rfl) (v_int)) (va_nil))))))) (va_nil))))))
  exact ⟨f, fd, _, h1, kp, b, g⟩
/-! ### is_clock_judge -/
theorem S_is_clock_judge : FnScope ["value", "_", "step", "slack", "drift", "last"] ["value"] (defScope st_is_clock_judge) := ⟨rfl, rfl, rfl, by decide +kernel, rfl, by decide +kernel, by decide +kernel⟩
def m_is_clock_judge : FS := sSeq (sIf (tOr1 (tNot1 (tE (eF fIs (aC (eV 0) (aC (eC (.ty "tuple")) (aN)))))) (tOr1 (tC1 (eB gNe (eF fLen (aC (eV 0) (aN))) (eC (.int 5)))) (tNot1 (tE (eCall 1 F_is_key (aC (eB gIx (eV 0) (eC (.int 0))) (aN))))))) (sRet (eC (.bl false))) (sNx))
    (sSeq (sAsg (gT 5 (gsC (gN 1) (gsC (gN 2) (gsC (gN 3) (gsC (gN 4) (gsC (gN 5) (gsN))))))) (eV 0))
    (sSeq (sIf (tOr1 (tNot1 (tE (eCall 3 F_is_within (aC (eV 2) (aC (eC (.int 1)) (aC (eC (.int 600)) (aN))))))) (tNot1 (tE (eCall 3 F_is_within (aC (eV 3) (aC (eC (.int 0)) (aC (eC (.int 20)) (aN)))))))) (sRet (eC (.bl false))) (sNx))
    (sRet (eAnd (eCall 1 F_is_integer (aC (eV 4) (aN))) (eAnd (eCall 1 F_is_integer (aC (eV 5) (aN))) (eB gGeI (eV 5) (eU gNeg (eC (.int 1)))))))))
@[irreducible] def F_is_clock_judge : List D → R D := runA 6 false m_is_clock_judge
theorem c_is_clock_judge (T : Tx K mg) : CallA P w K mg base 4 "is_clock_judge" 1 false F_is_clock_judge := by
  unfold F_is_clock_judge
  obtain ⟨f, fd, F, g, kp, b⟩ := T.d_is_clock_judge
  have h1 : FnOk P w K mg base (L2.CX P w) (3 + 1) f fd ["value"] (spA K mg 1 false (runA 6 false m_is_clock_judge)) := ok_A (n := 1) (N := ["value", "_", "step", "slack", "drift", "last"]) (k := 3) (g := m_is_clock_judge) false F S_is_clock_judge rfl (by decide) (fun cdv A outer s H E hr => vss_cons (vs_if (PW.pt (vw_or (vt_not (vt_val (v_blt rc_is call_isi rfl T.b_isinstance (va_cons (v_var 0) (va_cons (v_ty rfl T.b_tuple) (va_nil)))))) (vw_or (vt_cmp rb_ne (op_neA hr.hu) (nomark _) (v_blt rc_len call_lenA rfl T.b_len (va_cons (v_var 0) (va_nil))) (v_int)) (vw_or1 (vt_not (vt_val (v_callU (c_is_key T) (hr.mono (by decide)) (takes_of rfl rfl rfl rfl) rfl (va_cons (v_ix rb_ix ix_seq (v_var 0) (v_int)) (va_nil))))))))) (vss_one (vs_ret (v_bl))) (vss_nil))
    (vss_cons (vs_asg (v_var 0) (vg_tup rfl (vgs_cons (vg_name 1 S_is_clock_judge.nd) (vgs_cons (vg_name 2 S_is_clock_judge.nd) (vgs_cons (vg_name 3 S_is_clock_judge.nd) (vgs_cons (vg_name 4 S_is_clock_judge.nd) (vgs_cons (vg_name 5 S_is_clock_judge.nd) (vgs_nil))))))))
    (vss_cons (vs_if (PW.pt (vw_or (vt_not (vt_val (v_callU (c_is_within T) (hr.mono (by decide)) (takes_of rfl rfl rfl rfl) rfl (va_cons (v_var 2) (va_cons (v_int) (va_cons (v_globIU T.i_LONGEST_STEP rfl) (va_nil))))))) (vw_or1 (vt_not (vt_val (v_callU (c_is_within T) (hr.mono (by decide)) (takes_of rfl rfl rfl rfl) rfl (va_cons (v_var 3) (va_cons (v_int) (va_cons (v_globIU T.i_MOST_SLACK rfl) (va_nil)))))))))) (vss_one (vs_ret (v_bl))) (vss_nil))
    (vss_one (vs_ret (v_and (v_callU (c_is_integer T) (hr.mono (by decide)) (takes_of rfl rfl rfl rfl) rfl (va_cons (v_var 4) (va_nil))) (v_and (v_callU (c_is_integer T) (hr.mono (by decide)) (takes_of rfl rfl rfl rfl) rfl (va_cons (v_var 5) (va_nil))) (v_one (v_cmp rb_geI op_ge (nomark _) (v_var 5) (v_un ru_neg un_neg (v_int)))))))))))
  exact ⟨f, fd, _, h1, kp, b, g⟩
/-! ### is_clock -/
theorem S_is_clock : FnScope ["value"] ["value"] (defScope st_is_clock) := ⟨rfl, rfl, rfl, by decide +kernel, rfl, by decide +kernel, by decide +kernel⟩
def m_is_clock : FS := sSeq (sIf (tOr1 (tNot1 (tE (eF fIs (aC (eV 0) (aC (eC (.ty "tuple")) (aN)))))) (tOr1 (tC1 (eB gNe (eF fLen (aC (eV 0) (aN))) (eC (.int 2)))) (tNot1 (tE (eCall 1 F_is_integer (aC (eB gIx (eV 0) (eC (.int 0))) (aN))))))) (sRet (eC (.bl false))) (sNx))
    (sRet (eCall 3 F_is_within (aC (eB gIx (eV 0) (eC (.int 1))) (aC (eU gNeg (eC (.int 500000))) (aC (eC (.int 500000)) (aN))))))
@[irreducible] def F_is_clock : List D → R D := runA 1 false m_is_clock
theorem c_is_clock (T : Tx K mg) : CallA P w K mg base 3 "is_clock" 1 false F_is_clock := by
  unfold F_is_clock
  obtain ⟨f, fd, F, g, kp, b⟩ := T.d_is_clock
  have h1 : FnOk P w K mg base (L2.CX P w) (2 + 1) f fd ["value"] (spA K mg 1 false (runA 1 false m_is_clock)) := ok_A (n := 1) (N := ["value"]) (k := 2) (g := m_is_clock) false F S_is_clock rfl (by decide) (fun cdv A outer s H E hr => vss_cons (vs_if (PW.pt (vw_or (vt_not (vt_val (v_blt rc_is call_isi rfl T.b_isinstance (va_cons (v_var 0) (va_cons (v_ty rfl T.b_tuple) (va_nil)))))) (vw_or (vt_cmp rb_ne (op_neA hr.hu) (nomark _) (v_blt rc_len call_lenA rfl T.b_len (va_cons (v_var 0) (va_nil))) (v_int)) (vw_or1 (vt_not (vt_val (v_callU (c_is_integer T) (hr.mono (by decide)) (takes_of rfl rfl rfl rfl) rfl (va_cons (v_ix rb_ix ix_seq (v_var 0) (v_int)) (va_nil))))))))) (vss_one (vs_ret (v_bl))) (vss_nil))
    (vss_one (vs_ret (v_callU (c_is_within T) (hr.mono (by decide)) (takes_of rfl rfl rfl rfl) rfl (va_cons (v_ix rb_ix ix_seq (v_var 0) (v_int)) (va_cons (v_un ru_neg un_neg (v_globIU T.i_MOST_RATE rfl)) (va_cons (v_globIU T.i_MOST_RATE rfl) (va_nil))))))))
  exact ⟨f, fd, _, h1, kp, b, g⟩
/-! ### _law_draws -/
theorem S__law_draws : FnScope ["script", "draws", "seed", "cell", "k", "number"] ["script"] (defScope st__law_draws) := ⟨rfl, rfl, rfl, by decide +kernel, rfl, by decide +kernel, by decide +kernel⟩
def b__law_draws_0 : FS := sIf (tC1 (eB gGtI (eV 5) (eC (.int 0)))) (sSeq (sApp 1 (eB gMod (eF fInt (aC (eV 5) (aN))) (eC (.int 997))))
    (sSet 5 (eB gDivX (eV 5) (eC (.int 997))))) (sNx)
def b__law_draws_1 : FS := sSeq (sSet 5 (eF fAbs (aC (eF fInt (aC (eV 3) (aN))) (aN))))
    (sSeq (sSet 2 (eB gMod (eF fInt (aC (eB gAdd (eB gAdd (eB gMul (eV 2) (eC (.int 48271))) (eV 5)) (eC (.int 1))) (aN))) (eC (.int 2147483647))))
    (sSeq (sIf (tC1 (eB gLt (eV 5) (eB gPow (eC (.int 10)) (eC (.int 18))))) (sSeq (sApp 1 (eB gMod (eF fInt (aC (eV 5) (aN))) (eC (.int 997))))
    (sSeq (sApp 1 (eB gMod (eF fInt (aC (eV 2) (aN))) (eC (.int 65521))))
    (sSet 5 (eC (.int 0))))) (sNx))
    (sFor (iR1 (aC (eC (.int 60)) (aN))) (gN 4) b__law_draws_0)))
def b__law_draws_2 : FS := sSeq (sSet 2 (eB gMod (eF fInt (aC (eB gAdd (eB gMul (eV 2) (eC (.int 48271))) (eC (.int 69621))) (aN))) (eC (.int 2147483647))))
    (sApp 1 (eB gDivX (eV 2) (eC (.int 5))))
def m__law_draws : FS := sSeq (sNew 1 (nLst (aN)))
    (sSeq (sSet 2 (eC (.int 11)))
    (sSeq (sFor (iL (eV 0)) (gN 3) b__law_draws_1)
    (sSeq (sFor (iR1 (aC (eC (.int 800)) (aN))) (gN 4) b__law_draws_2)
    (sRetN (nU gRevL (eV 1))))))
@[irreducible] def F__law_draws : List D → R D := runA 6 true m__law_draws
theorem c__law_draws (T : Tx K mg) : CallA P w K mg base 1 "_law_draws" 1 true F__law_draws := by
  unfold F__law_draws
  obtain ⟨f, fd, F, g, kp, b⟩ := T.d__law_draws
  have h1 : FnOk P w K mg base (L2.CX P w) (0 + 1) f fd ["script"] (spA K mg 1 true (runA 6 true m__law_draws)) := ok_A (n := 1) (N := ["script", "draws", "seed", "cell", "k", "number"]) (k := 0) (g := m__law_draws) true F S__law_draws rfl (by decide) (fun cdv A outer s H E hr => vss_cons (vs_new 1 S__law_draws.nd (n_lst (va_nil)))
    (vss_cons (vs_set 2 S__law_draws.nd (v_int))
    (vss_cons (vs_for (b := b__law_draws_1) (passes_of rfl) rfl (vi_list (v_var 0)) (vg_name 3 S__law_draws.nd) (vss_cons (vs_set 5 S__law_draws.nd (v_blt rc_abs call_abs rfl T.b_abs (va_cons (v_bty rc_int call_int1 rfl T.b_int (va_cons (v_var 3) (va_nil))) (va_nil))))
    (vss_cons (vs_set 2 S__law_draws.nd (v_op rb_mod op_mod (v_bty rc_int call_int1 rfl T.b_int (va_cons (v_op rb_add op_addA (v_op rb_add op_addA (v_op rb_mul op_mulA (v_var 2) (v_int)) (v_var 5)) (v_int)) (va_nil))) (v_int)))
    (vss_cons (vs_if (vt_cmp rb_lt op_ltA (nomark _) (v_var 5) (v_op rb_pow op_pow (v_int) (v_int))) (vss_cons (vs_append 1 (v_op rb_mod op_mod (v_bty rc_int call_int1 rfl T.b_int (va_cons (v_var 5) (va_nil))) (v_int)))
    (vss_cons (vs_append 1 (v_op rb_mod op_mod (v_bty rc_int call_int1 rfl T.b_int (va_cons (v_var 2) (va_nil))) (v_int)))
    (vss_one (vs_set 5 S__law_draws.nd (v_int))))) (vss_nil))
    (vss_one (vs_for (b := b__law_draws_0) (passes_of rfl) rfl (vi_range1 rfl T.b_range (va_cons (v_int) (va_nil))) (vg_name 4 S__law_draws.nd) (vss_one (vs_if (vt_cmp rb_gtI op_gt (nomark _) (v_var 5) (v_int)) (vss_cons (vs_append 1 (v_op rb_mod op_mod (v_bty rc_int call_int1 rfl T.b_int (va_cons (v_var 5) (va_nil))) (v_int)))
    (vss_one (vs_set 5 S__law_draws.nd (v_op rb_divX op_fdivX (v_var 5) (v_int))))) (vss_nil)))))))))
    (vss_cons (vs_for (b := b__law_draws_2) (passes_of rfl) rfl (vi_range1 rfl T.b_range (va_cons (v_int) (va_nil))) (vg_name 4 S__law_draws.nd) (vss_cons (vs_set 2 S__law_draws.nd (v_op rb_mod op_mod (v_bty rc_int call_int1 rfl T.b_int (va_cons (v_op rb_add op_addA (v_op rb_mul op_mulA (v_var 2) (v_int)) (v_int)) (va_nil))) (v_int)))
    (vss_one (vs_append 1 (v_op rb_divX op_fdivX (v_var 2) (v_int))))))
    (vss_one (vs_retN (n_lstRev rfl rfl T.b_list rfl T.b_reversed (v_var 1))))))))
  exact ⟨f, fd, _, h1, kp, b, g⟩
/-! ### _law_take -/
theorem S__law_take : FnScope ["draws", "bound"] ["draws", "bound"] (defScope st__law_take) := ⟨rfl, rfl, rfl, by decide +kernel, rfl, by decide +kernel, by decide +kernel⟩
def m__law_take : FS := sSeq (sIf (tC1 (eB gEq (ePeek 0 lenOf) (eC (.int 0)))) (sRet (eC (.int 0))) (sNx))
    (sRet (eB gMod (eF fInt (aC (ePop 0) (aN))) (eV 1)))
@[irreducible] def F__law_take : List Int → List D → R (D × List Int) := runB 2 m__law_take
theorem c__law_take (T : Tx K mg) : CallB P w K mg base 1 "_law_take" 2 F__law_take := by
  unfold F__law_take
  obtain ⟨f, fd, F, g, kp, b⟩ := T.d__law_take
  have h1 : FnOk P w K mg base (L2.CX P w) (0 + 1) f fd ["draws", "bound"] (spB K 2 (runB 2 m__law_take)) := ok_B (n := 2) (N := ["draws", "bound"]) (k := 0) (g := m__law_take) F S__law_take rfl (by decide) (fun cdv A outer s H E hr => vss_cons (vs_if (vt_cmp rb_eq (op_eqA hr.hu) (nomark _) (v_lenHeld 0 rfl T.b_len) (v_int)) (vss_one (vs_ret (v_int))) (vss_nil))
    (vss_one (vs_ret (v_op rb_mod op_mod (v_bty rc_int call_int1 rfl T.b_int (va_cons (v_pop 0) (va_nil))) (v_var 1)))))
  exact ⟨f, fd, _, h1, kp, b, g⟩
/-! ### _law_pick -/
theorem S__law_pick : FnScope ["draws", "some"] ["draws", "some"] (defScope st__law_pick) := ⟨rfl, rfl, rfl, by decide +kernel, rfl, by decide +kernel, by decide +kernel⟩
def m__law_pick : FS := sRet (eB gIx (eV 1) (eCallB 2 0 F__law_take (aC (eF fLen (aC (eV 1) (aN))) (aN))))
@[irreducible] def F__law_pick : List Int → List D → R (D × List Int) := runB 2 m__law_pick
theorem c__law_pick (T : Tx K mg) : CallB P w K mg base 2 "_law_pick" 2 F__law_pick := by
  unfold F__law_pick
  obtain ⟨f, fd, F, g, kp, b⟩ := T.d__law_pick
  have h1 : FnOk P w K mg base (L2.CX P w) (1 + 1) f fd ["draws", "some"] (spB K 2 (runB 2 m__law_pick)) := ok_B (n := 2) (N := ["draws", "some"]) (k := 1) (g := m__law_pick) F S__law_pick rfl (by decide) (fun cdv A outer s H E hr => vss_one (vs_ret (v_ix rb_ix ix_seq (v_var 1) (v_callBU 0 (c__law_take T) (hr.mono (by decide)) (takes_of rfl rfl rfl rfl) rfl (va_cons (v_blt rc_len call_lenA rfl T.b_len (va_cons (v_var 1) (va_nil))) (va_nil))))))
  exact ⟨f, fd, _, h1, kp, b, g⟩
/-! ### _law_same -/
theorem S__law_same : FnScope ["actual", "due", "k", "key"] ["actual", "due"] (defScope st__law_same) := ⟨rfl, rfl, rfl, by decide +kernel, rfl, by decide +kernel, by decide +kernel⟩
def b__law_same_0 (r : List D → R D) : FS := sIf (tNot1 (tE (eCall 2 r (aC (eB gIx (eV 0) (eV 2)) (aC (eB gIx (eV 1) (eV 2)) (aN)))))) (sRet (eC (.bl false))) (sNx)
def m__law_same (r : List D → R D) : FS := sSeq (sIf (tC1 (eB gIsN (eV 1) (eC .non))) (sRet (eB gIsN (eV 0) (eC .non))) (sNx))
    (sSeq (sIf (tOr1 (tE (eF fIs (aC (eV 1) (aC (eC (.ty "tuple")) (aN))))) (tE (eF fIs (aC (eV 1) (aC (eC (.ty "list")) (aN)))))) (sSeq (sIf (tOr1 (tC1 (eB gNe (eF fIs (aC (eV 1) (aC (eC (.ty "tuple")) (aN)))) (eF fIs (aC (eV 0) (aC (eC (.ty "tuple")) (aN)))))) (tC1 (eB gNe (eF fIs (aC (eV 1) (aC (eC (.ty "list")) (aN)))) (eF fIs (aC (eV 0) (aC (eC (.ty "list")) (aN))))))) (sRet (eC (.bl false))) (sNx))
    (sSeq (sIf (tC1 (eB gNe (eF fLen (aC (eV 0) (aN))) (eF fLen (aC (eV 1) (aN))))) (sRet (eC (.bl false))) (sNx))
    (sSeq (sFor (iR1 (aC (eF fLen (aC (eV 1) (aN))) (aN))) (gN 2) (b__law_same_0 r))
    (sRet (eC (.bl true)))))) (sNx))
    (sSeq (sIf (tE (eF fIs (aC (eV 1) (aC (eC (.ty "dict")) (aN))))) (sErr) (sNx))
    (sSeq (sIf (tC1 (eB gNe (eF fIs (aC (eV 1) (aC (eC (.ty "bool")) (aN)))) (eF fIs (aC (eV 0) (aC (eC (.ty "bool")) (aN)))))) (sRet (eC (.bl false))) (sNx))
    (sSeq (sIf (tOr1 (tC1 (eB gNe (eF fIs (aC (eV 1) (aC (eC (.ty "int")) (aN)))) (eF fIs (aC (eV 0) (aC (eC (.ty "int")) (aN)))))) (tC1 (eB gNe (eF fIs (aC (eV 1) (aC (eC (.ty "str")) (aN)))) (eF fIs (aC (eV 0) (aC (eC (.ty "str")) (aN))))))) (sRet (eC (.bl false))) (sNx))
    (sRet (eB gEq (eV 0) (eV 1)))))))
def R__law_same : Nat → List D → R D
  | 0 => runA 4 false sErr
  | d + 1 => runA 4 false (m__law_same (R__law_same d))
@[irreducible] def F__law_same (d : Nat) : List D → R D := R__law_same d
theorem F__law_same_0 : F__law_same 0 = runA 4 false sErr := by
  unfold F__law_same
  rfl
theorem F__law_same_s (d : Nat) : F__law_same (d + 1) = runA 4 false (m__law_same (F__law_same d)) := by
  unfold F__law_same
  rfl
theorem c__law_same (T : Tx K mg) : ∀ d : Nat, CallA P w K mg base (1 + d) "_law_same" 2 false (F__law_same d)
  | 0 => by
    rw [F__law_same_0]
    obtain ⟨f, fd, F, g, kp, b⟩ := T.d__law_same
    have h1 : FnOk P w K mg base (L2.CX P w) (0 + 1) f fd ["actual", "due"] (spA K mg 2 false (runA 4 false sErr)) := ok_A (n := 2) (N := ["actual", "due", "k", "key"]) (k := 0) (g := sErr) false F S__law_same rfl (by decide) (fun cdv A outer s H E hr => vss_never)
    exact ⟨f, fd, _, h1, kp, b, g⟩
  | d + 1 => by
    have ih := c__law_same T d
    rw [F__law_same_s]
    obtain ⟨f, fd, F, g, kp, b⟩ := T.d__law_same
    have h1 : FnOk P w K mg base (L2.CX P w) (1 + d + 1) f fd ["actual", "due"] (spA K mg 2 false (runA 4 false (m__law_same (F__law_same d)))) := ok_A (n := 2) (N := ["actual", "due", "k", "key"]) (k := 1 + d) (g := m__law_same (F__law_same d)) false F S__law_same rfl (by decide) (fun cdv A outer s H E hr => vss_cons (vs_if (vt_cmp rb_isN op_isN (nomark _) (v_var 1) (v_non)) (vss_one (vs_ret (v_cmp rb_isN op_isN (nomark _) (v_var 0) (v_non)))) (vss_nil))
    (vss_cons (vs_if (PW.pt (vw_or (vt_val (v_blt rc_is call_isi rfl T.b_isinstance (va_cons (v_var 1) (va_cons (v_ty rfl T.b_tuple) (va_nil))))) (vw_or1 (vt_val (v_blt rc_is call_isi rfl T.b_isinstance (va_cons (v_var 1) (va_cons (v_ty rfl T.b_list) (va_nil)))))))) (vss_cons (vs_if (PW.pt (vw_or (vt_cmp rb_ne (op_neA hr.hu) (nomark _) (v_blt rc_is call_isi rfl T.b_isinstance (va_cons (v_var 1) (va_cons (v_ty rfl T.b_tuple) (va_nil)))) (v_blt rc_is call_isi rfl T.b_isinstance (va_cons (v_var 0) (va_cons (v_ty rfl T.b_tuple) (va_nil))))) (vw_or1 (vt_cmp rb_ne (op_neA hr.hu) (nomark _) (v_blt rc_is call_isi rfl T.b_isinstance (va_cons (v_var 1) (va_cons (v_ty rfl T.b_list) (va_nil)))) (v_blt rc_is call_isi rfl T.b_isinstance (va_cons (v_var 0) (va_cons (v_ty rfl T.b_list) (va_nil)))))))) (vss_one (vs_ret (v_bl))) (vss_nil))
    (vss_cons (vs_if (vt_cmp rb_ne (op_neA hr.hu) (nomark _) (v_blt rc_len call_lenA rfl T.b_len (va_cons (v_var 0) (va_nil))) (v_blt rc_len call_lenA rfl T.b_len (va_cons (v_var 1) (va_nil)))) (vss_one (vs_ret (v_bl))) (vss_nil))
    (vss_cons (vs_for (b := (b__law_same_0 (F__law_same d))) (passes_of rfl) rfl (vi_range1 rfl T.b_range (va_cons (v_blt rc_len call_lenA rfl T.b_len (va_cons (v_var 1) (va_nil))) (va_nil))) (vg_name 2 S__law_same.nd) (vss_one (vs_if (vt_not (vt_val (v_callU ih hr (takes_of rfl rfl rfl rfl) rfl (va_cons (v_ix rb_ix ix_seq (v_var 0) (v_var 2)) (va_cons (v_ix rb_ix ix_seq (v_var 1) (v_var 2)) (va_nil)))))) (vss_one (vs_ret (v_bl))) (vss_nil))))
    (vss_one (vs_ret (v_bl)))))) (vss_nil))
    (vss_cons (vs_if (vt_val (v_blt rc_is call_isi rfl T.b_isinstance (va_cons (v_var 1) (va_cons (v_ty rfl T.b_dict) (va_nil))))) (vss_never) (vss_nil))
    (vss_cons (vs_if (vt_cmp rb_ne (op_neA hr.hu) (nomark _) (v_blt rc_is call_isi rfl T.b_isinstance (va_cons (v_var 1) (va_cons (v_ty rfl T.b_bool) (va_nil)))) (v_blt rc_is call_isi rfl T.b_isinstance (va_cons (v_var 0) (va_cons (v_ty rfl T.b_bool) (va_nil))))) (vss_one (vs_ret (v_bl))) (vss_nil))
    (vss_cons (vs_if (PW.pt (vw_or (vt_cmp rb_ne (op_neA hr.hu) (nomark _) (v_blt rc_is call_isi rfl T.b_isinstance (va_cons (v_var 1) (va_cons (v_ty rfl T.b_int) (va_nil)))) (v_blt rc_is call_isi rfl T.b_isinstance (va_cons (v_var 0) (va_cons (v_ty rfl T.b_int) (va_nil))))) (vw_or1 (vt_cmp rb_ne (op_neA hr.hu) (nomark _) (v_blt rc_is call_isi rfl T.b_isinstance (va_cons (v_var 1) (va_cons (v_ty rfl T.b_str) (va_nil)))) (v_blt rc_is call_isi rfl T.b_isinstance (va_cons (v_var 0) (va_cons (v_ty rfl T.b_str) (va_nil)))))))) (vss_one (vs_ret (v_bl))) (vss_nil))
    (vss_one (vs_ret (v_cmp rb_eq (op_eqA hr.hu) (nomark _) (v_var 0) (v_var 1)))))))))
    exact ⟨f, fd, _, h1, kp, b, g⟩
/-! ### _law_code -/
theorem S__law_code : FnScope ["key", "n", "value", "a", "b", "c", "digits"] ["key", "n"] (defScope st__law_code) := ⟨rfl, rfl, rfl, by decide +kernel, rfl, by decide +kernel, by decide +kernel⟩
def m__law_code : FS := sSeq (sAsg (gT 4 (gsC (gN 3) (gsC (gN 4) (gsC (gN 5) (gsC (gN 6) (gsN)))))) (eV 0))
    (sSeq (sSet 2 (eB gMod (eF fInt (aC (eB gAdd (eB gAdd (eB gMul (eB gMul (eB gMul (eV 3) (eV 1)) (eV 1)) (eV 1)) (eB gMul (eV 4) (eV 1))) (eV 5)) (aN))) (eC (.int 1000003))))
    (sRet (eSl gSl (eB gAdd (eC (.str "000000")) (eF fStr (aC (eV 2) (aN)))) (oS (eB gSub (eB gAdd (eC (.int 6)) (eF fLen (aC (eF fStr (aC (eV 2) (aN))) (aN)))) (eV 6))) (oN))))
@[irreducible] def F__law_code : List D → R D := runA 7 false m__law_code
theorem c__law_code (T : Tx K mg) : CallA P w K mg base 1 "_law_code" 2 false F__law_code := by
  unfold F__law_code
  obtain ⟨f, fd, F, g, kp, b⟩ := T.d__law_code
  have h1 : FnOk P w K mg base (L2.CX P w) (0 + 1) f fd ["key", "n"] (spA K mg 2 false (runA 7 false m__law_code)) := ok_A (n := 2) (N := ["key", "n", "value", "a", "b", "c", "digits"]) (k := 0) (g := m__law_code) false F S__law_code rfl (by decide) (fun cdv A outer s H E hr => vss_cons (vs_asg (v_var 0) (vg_tup rfl (vgs_cons (vg_name 3 S__law_code.nd) (vgs_cons (vg_name 4 S__law_code.nd) (vgs_cons (vg_name 5 S__law_code.nd) (vgs_cons (vg_name 6 S__law_code.nd) (vgs_nil)))))))
    (vss_cons (vs_set 2 S__law_code.nd (v_op rb_mod op_mod (v_bty rc_int call_int1 rfl T.b_int (va_cons (v_op rb_add op_addA (v_op rb_add op_addA (v_op rb_mul op_mulA (v_op rb_mul op_mulA (v_op rb_mul op_mulA (v_var 3) (v_var 1)) (v_var 1)) (v_var 1)) (v_op rb_mul op_mulA (v_var 4) (v_var 1))) (v_var 5)) (va_nil))) (v_int)))
    (vss_one (vs_ret (v_slice rsl_all sl_all (v_op rb_add op_addA (v_str) (v_bty rc_str call_str_int rfl T.b_str (va_cons (v_var 2) (va_nil)))) (vo_some (v_op rb_sub op_sub (v_op rb_add op_addA (v_int) (v_blt rc_len call_lenA rfl T.b_len (va_cons (v_bty rc_str call_str_int rfl T.b_str (va_cons (v_var 2) (va_nil))) (va_nil)))) (v_var 6))) (vo_none))))))
  exact ⟨f, fd, _, h1, kp, b, g⟩
/-! ### _law_key -/
theorem S__law_key : FnScope ["draws", "most"] ["draws"] (defScope st__law_key) := ⟨rfl, rfl, rfl, by decide +kernel, rfl, by decide +kernel, by decide +kernel⟩
def m__law_key : FS := sSeq (sSet 1 (eCallB 2 0 F__law_pick (aC (eLst (aC (eC (.int 3)) (aC (eC (.int 10)) (aC (eC (.int 1000003)) (aN))))) (aN))))
    (sRet (eTup (aC (eCallB 2 0 F__law_take (aC (eV 1) (aN))) (aC (eCallB 2 0 F__law_take (aC (eV 1) (aN))) (aC (eCallB 2 0 F__law_take (aC (eV 1) (aN))) (aC (eCallB 2 0 F__law_pick (aC (eLst (aC (eC (.int 1)) (aC (eC (.int 1)) (aC (eC (.int 2)) (aC (eC (.int 2)) (aC (eC (.int 3)) (aC (eC (.int 6)) (aN)))))))) (aN))) (aN)))))))
@[irreducible] def F__law_key : List Int → List D → R (D × List Int) := runB 2 m__law_key
theorem c__law_key (T : Tx K mg) : CallB P w K mg base 3 "_law_key" 1 F__law_key := by
  unfold F__law_key
  obtain ⟨f, fd, F, g, kp, b⟩ := T.d__law_key
  have h1 : FnOk P w K mg base (L2.CX P w) (2 + 1) f fd ["draws"] (spB K 1 (runB 2 m__law_key)) := ok_B (n := 1) (N := ["draws", "most"]) (k := 2) (g := m__law_key) F S__law_key rfl (by decide) (fun cdv A outer s H E hr => vss_cons (vs_set 1 S__law_key.nd (v_callBU 0 (c__law_pick T) (hr.mono (by decide)) (takes_of rfl rfl rfl rfl) rfl (va_cons (v_lst (va_cons (v_int) (va_cons (v_int) (va_cons (v_int) (va_nil))))) (va_nil))))
    (vss_one (vs_ret (v_tup (va_cons (v_callBU 0 (c__law_take T) (hr.mono (by decide)) (takes_of rfl rfl rfl rfl) rfl (va_cons (v_var 1) (va_nil))) (va_cons (v_callBU 0 (c__law_take T) (hr.mono (by decide)) (takes_of rfl rfl rfl rfl) rfl (va_cons (v_var 1) (va_nil))) (va_cons (v_callBU 0 (c__law_take T) (hr.mono (by decide)) (takes_of rfl rfl rfl rfl) rfl (va_cons (v_var 1) (va_nil))) (va_cons (v_callBU 0 (c__law_pick T) (hr.mono (by decide)) (takes_of rfl rfl rfl rfl) rfl (va_cons (v_lst (va_cons (v_int) (va_cons (v_int) (va_cons (v_int) (va_cons (v_int) (va_cons (v_int) (va_cons (v_int) (va_nil)))))))) (va_nil))) (va_nil)))))))))
  exact ⟨f, fd, _, h1, kp, b, g⟩
/-! ### _law_judge -/
theorem S__law_judge : FnScope ["draws", "t", "drift", "last", "step", "slack"] ["draws", "t"] (defScope st__law_judge) := ⟨rfl, rfl, rfl, by decide +kernel, rfl, by decide +kernel, by decide +kernel⟩
def m__law_judge : FS := sSeq (sPar [4, 5] (bV (eCallB 2 0 F__law_pick (aC (eLst (aC (eC (.int 1)) (aC (eC (.int 30)) (aC (eB gAdd (eC (.int 1)) (eCallB 2 0 F__law_take (aC (eC (.int 90)) (aN)))) (aN))))) (aN))) (bV (eCallB 2 0 F__law_take (aC (eC (.int 5)) (aN))) (bN))))
    (sSeq (sSet 2 (eCallB 2 0 F__law_pick (aC (eLst (aC (eC (.int 0)) (aC (eC (.int 0)) (aC (eC (.int 3)) (aC (eU gNeg (eC (.int 2))) (aC (eU gNeg (eC (.int 900))) (aC (eCallB 2 0 F__law_take (aC (eC (.int 997)) (aN))) (aN)))))))) (aN))))
    (sSeq (sSet 3 (eCallB 2 0 F__law_pick (aC (eLst (aC (eU gNeg (eC (.int 1))) (aC (eU gNeg (eC (.int 1))) (aC (eB gSub (eB gAdd (eB gAdd (eB gDivX (eV 1) (eV 4)) (eV 2)) (eCallB 2 0 F__law_take (aC (eC (.int 9)) (aN)))) (eC (.int 4))) (aN))))) (aN))))
    (sRet (eTup (aC (eCallB 1 0 F__law_key (aN)) (aC (eV 4) (aC (eV 5) (aC (eV 2) (aC (eF fMax2 (aC (eU gNeg (eC (.int 1))) (aC (eV 3) (aN)))) (aN))))))))))
@[irreducible] def F__law_judge : List Int → List D → R (D × List Int) := runB 6 m__law_judge
theorem c__law_judge (T : Tx K mg) : CallB P w K mg base 4 "_law_judge" 2 F__law_judge := by
  unfold F__law_judge
  obtain ⟨f, fd, F, g, kp, b⟩ := T.d__law_judge
  have h1 : FnOk P w K mg base (L2.CX P w) (3 + 1) f fd ["draws", "t"] (spB K 2 (runB 6 m__law_judge)) := ok_B (n := 2) (N := ["draws", "t", "drift", "last", "step", "slack"]) (k := 3) (g := m__law_judge) F S__law_judge rfl (by decide) (fun cdv A outer s H E hr => vss_cons (vs_par 4 5 rfl S__law_judge.nd (vb_v (v_callBU 0 (c__law_pick T) (hr.mono (by decide)) (takes_of rfl rfl rfl rfl) rfl (va_cons (v_lst (va_cons (v_int) (va_cons (v_int) (va_cons (v_op rb_add op_addA (v_int) (v_callBU 0 (c__law_take T) (hr.mono (by decide)) (takes_of rfl rfl rfl rfl) rfl (va_cons (v_int) (va_nil)))) (va_nil))))) (va_nil))) (vb_v (v_callBU 0 (c__law_take T) (hr.mono (by decide)) (takes_of rfl rfl rfl rfl) rfl (va_cons (v_int) (va_nil))) (vb_nil))))
    (vss_cons (vs_set 2 S__law_judge.nd (v_callBU 0 (c__law_pick T) (hr.mono (by decide)) (takes_of rfl rfl rfl rfl) rfl (va_cons (v_lst (va_cons (v_int) (va_cons (v_int) (va_cons (v_int) (va_cons (v_un ru_neg un_neg (v_int)) (va_cons (v_un ru_neg un_neg (v_int)) (va_cons (v_callBU 0 (c__law_take T) (hr.mono (by decide)) (takes_of rfl rfl rfl rfl) rfl (va_cons (v_int) (va_nil))) (va_nil)))))))) (va_nil))))
    (vss_cons (vs_set 3 S__law_judge.nd (v_callBU 0 (c__law_pick T) (hr.mono (by decide)) (takes_of rfl rfl rfl rfl) rfl (va_cons (v_lst (va_cons (v_un ru_neg un_neg (v_int)) (va_cons (v_un ru_neg un_neg (v_int)) (va_cons (v_op rb_sub op_sub (v_op rb_add op_addA (v_op rb_add op_addA (v_op rb_divX op_fdivX (v_var 1) (v_var 4)) (v_var 2)) (v_callBU 0 (c__law_take T) (hr.mono (by decide)) (takes_of rfl rfl rfl rfl) rfl (va_cons (v_int) (va_nil)))) (v_int)) (va_nil))))) (va_nil))))
    (vss_one (vs_ret (v_tup (va_cons (v_callBU 0 (c__law_key T) (hr.mono (by decide)) (takes_of rfl rfl rfl rfl) rfl (va_nil)) (va_cons (v_var 4) (va_cons (v_var 5) (va_cons (v_var 2) (va_cons (v_blt rc_max2 (call_max2 rfl) rfl T.b_max (va_cons (v_un ru_neg un_neg (v_int)) (va_cons (v_var 3) (va_nil)))) (va_nil))))))))))))
  exact ⟨f, fd, _, h1, kp, b, g⟩
/-! ### _law_looked -/
theorem S__law_looked : FnScope ["judge", "t", "due", "rows", "key", "step", "slack", "drift", "last", "n", "far"] ["judge", "t"] (defScope st__law_looked) := ⟨rfl, rfl, rfl, by decide +kernel, rfl, by decide +kernel, by decide +kernel⟩
def t__law_looked_0 : FT := tAnd1 (tC1 (eB gGtI (eV 9) (eV 8))) (tC1 (eB gGeI (eV 9) (eC (.int 0))))
def f__law_looked_1 : FE := eTup (aC (eF fAbs (aC (eB gSub (eV 9) (eV 2)) (aN))) (aC (eV 9) (aN)))
def f__law_looked_2 : FE := eV 9
def m__law_looked : FS := sSeq (sAsg (gT 5 (gsC (gN 4) (gsC (gN 5) (gsC (gN 6) (gsC (gN 7) (gsC (gN 8) (gsN))))))) (eV 0))
    (sSeq (sSet 2 (eB gAdd (eB gDivX (eV 1) (eV 5)) (eV 7)))
    (sSeq (sSet 3 (eF fSortG (aC (eL (nLc (iRL (aC (eB gSub (eV 2) (eV 6)) (aC (eB gAdd (eB gAdd (eV 2) (eV 6)) (eC (.int 1))) (aN)))) [9] (gN 9) (t__law_looked_0) (f__law_looked_1))) (aN))))
    (sRetN (nLc (iL (eV 3)) [10, 9] (gT 2 (gsC (gN 10) (gsC (gN 9) (gsN)))) (tYes1) (f__law_looked_2)))))
@[irreducible] def F__law_looked : List D → R D := runA 11 false m__law_looked
theorem c__law_looked (T : Tx K mg) : CallA P w K mg base 1 "_law_looked" 2 false F__law_looked := by
  unfold F__law_looked
  obtain ⟨f, fd, F, g, kp, b⟩ := T.d__law_looked
  have h1 : FnOk P w K mg base (L2.CX P w) (0 + 1) f fd ["judge", "t"] (spA K mg 2 false (runA 11 false m__law_looked)) := ok_A (n := 2) (N := ["judge", "t", "due", "rows", "key", "step", "slack", "drift", "last", "n", "far"]) (k := 0) (g := m__law_looked) false F S__law_looked rfl (by decide) (fun cdv A outer s H E hr => vss_cons (vs_asg (v_var 0) (vg_tup rfl (vgs_cons (vg_name 4 S__law_looked.nd) (vgs_cons (vg_name 5 S__law_looked.nd) (vgs_cons (vg_name 6 S__law_looked.nd) (vgs_cons (vg_name 7 S__law_looked.nd) (vgs_cons (vg_name 8 S__law_looked.nd) (vgs_nil))))))))
    (vss_cons (vs_set 2 S__law_looked.nd (v_op rb_add op_addA (v_op rb_divX op_fdivX (v_var 1) (v_var 5)) (v_var 7)))
    (vss_cons (vs_set 3 S__law_looked.nd (v_blt rc_sortG (call_sortG hr.hu) rfl T.b_sorted (va_cons (v_ofN (n_lc (own := [("n", 9)]) (c := t__law_looked_0) (f := f__law_looked_1) rfl S__law_looked.nd (vi_rangeL rfl T.b_range (va_cons (v_op rb_sub op_sub (v_var 2) (v_var 6)) (va_cons (v_op rb_add op_addA (v_op rb_add op_addA (v_var 2) (v_var 6)) (v_int)) (va_nil)))) rfl (fun _ _ _ _ _ => vg_name 9 S__law_looked.nd) (fun _ _ _ _ _ => vts_one (PW.pt (vw_and (vt_cmp rb_gtI op_gt (nomark _) (v_var 9) (v_var 8)) (vw_and1 (vt_cmp rb_geI op_ge (nomark _) (v_var 9) (v_int)))))) (fun _ _ _ _ _ => v_tup (va_cons (v_blt rc_abs call_abs rfl T.b_abs (va_cons (v_op rb_sub op_sub (v_var 9) (v_var 2)) (va_nil))) (va_cons (v_var 9) (va_nil)))))) (va_nil))))
    (vss_one (vs_retN (n_lc (own := [("far", 10), ("n", 9)]) (c := tYes1) (f := f__law_looked_2) rfl S__law_looked.nd (vi_list (v_var 3)) rfl (fun _ _ _ _ _ => vg_tup rfl (vgs_cons (vg_name 10 S__law_looked.nd) (vgs_cons (vg_name 9 S__law_looked.nd) (vgs_nil)))) (fun _ _ _ _ _ => vts_nil) (fun _ _ _ _ _ => v_var 9)))))))
  exact ⟨f, fd, _, h1, kp, b, g⟩
/-! ### check -/
theorem S_check : FnScope ["is_right"] ["is_right"] (defScope st_check) := ⟨rfl, rfl, rfl, by decide +kernel, rfl, by decide +kernel, by decide +kernel⟩
def m_check : FS := sIf (tNot1 (tE (eV 0))) (sRaise "NotRight") (sNx)
@[irreducible] def F_check : List D → R D := runA 1 false m_check
theorem c_check (T : Tx K mg) : CallA P w K mg base 1 "check" 1 false F_check := by
  unfold F_check
  obtain ⟨f, fd, F, g, kp, b⟩ := T.d_check
  have h1 : FnOk P w K mg base (L2.CX P w) (0 + 1) f fd ["is_right"] (spA K mg 1 false (runA 1 false m_check)) := ok_A (n := 1) (N := ["is_right"]) (k := 0) (g := m_check) false F S_check rfl (by decide) (fun cdv A outer s H E hr => vss_one (vs_if (vt_not (vt_val (v_var 0))) (vss_one (vs_raiseU T.e_NotRight rfl (takes_of rfl rfl rfl rfl) rfl)) (vss_nil)))
  exact ⟨f, fd, _, h1, kp, b, g⟩
/-! ### is_count -/
theorem S_is_count : FnScope ["value"] ["value"] (defScope st_is_count) := ⟨rfl, rfl, rfl, by decide +kernel, rfl, by decide +kernel, by decide +kernel⟩
def m_is_count : FS := sRet (eAnd (eCall 1 F_is_integer (aC (eV 0) (aN))) (eB gGeI (eV 0) (eC (.int 0))))
@[irreducible] def F_is_count : List D → R D := runA 1 false m_is_count
theorem c_is_count (T : Tx K mg) : CallA P w K mg base 2 "is_count" 1 false F_is_count := by
  unfold F_is_count
  obtain ⟨f, fd, F, g, kp, b⟩ := T.d_is_count
  have h1 : FnOk P w K mg base (L2.CX P w) (1 + 1) f fd ["value"] (spA K mg 1 false (runA 1 false m_is_count)) := ok_A (n := 1) (N := ["value"]) (k := 1) (g := m_is_count) false F S_is_count rfl (by decide) (fun cdv A outer s H E hr => vss_one (vs_ret (v_and (v_callU (c_is_integer T) (hr.mono (by decide)) (takes_of rfl rfl rfl rfl) rfl (va_cons (v_var 0) (va_nil))) (v_one (v_cmp rb_geI op_ge (nomark _) (v_var 0) (v_int))))))
  exact ⟨f, fd, _, h1, kp, b, g⟩
/-! ### check_judge -/
theorem S_check_judge : FnScope ["judge"] ["judge"] (defScope st_check_judge) := ⟨rfl, rfl, rfl, by decide +kernel, rfl, by decide +kernel, by decide +kernel⟩
def m_check_judge : FS := sExp (eCall 1 F_check (aC (eCall 1 F_is_clock_judge (aC (eV 0) (aN))) (aN)))
@[irreducible] def F_check_judge : List D → R D := runA 1 false m_check_judge
theorem c_check_judge (T : Tx K mg) : CallA P w K mg base 5 "check_judge" 1 false F_check_judge := by
  unfold F_check_judge
  obtain ⟨f, fd, F, g, kp, b⟩ := T.d_check_judge
  have h1 : FnOk P w K mg base (L2.CX P w) (4 + 1) f fd ["judge"] (spA K mg 1 false (runA 1 false m_check_judge)) := ok_A (n := 1) (N := ["judge"]) (k := 4) (g := m_check_judge) false F S_check_judge rfl (by decide) (fun cdv A outer s H E hr => vss_one (vs_expr (v_callU (c_check T) (hr.mono (by decide)) (takes_of rfl rfl rfl rfl) rfl (va_cons (v_callU (c_is_clock_judge T) (hr.mono (by decide)) (takes_of rfl rfl rfl rfl) rfl (va_cons (v_var 0) (va_nil))) (va_nil)))))
  exact ⟨f, fd, _, h1, kp, b, g⟩
/-! ### due_by -/
theorem S_due_by : FnScope ["judge", "t"] ["judge", "t"] (defScope st_due_by) := ⟨rfl, rfl, rfl, by decide +kernel, rfl, by decide +kernel, by decide +kernel⟩
def m_due_by : FS := sRet (eB gAdd (eB gDivX (eV 1) (eB gIx (eV 0) (eC (.int 1)))) (eB gIx (eV 0) (eC (.int 3))))
@[irreducible] def F_due_by : List D → R D := runA 2 false m_due_by
theorem c_due_by (T : Tx K mg) : CallA P w K mg base 1 "due_by" 2 false F_due_by := by
  unfold F_due_by
  obtain ⟨f, fd, F, g, kp, b⟩ := T.d_due_by
  have h1 : FnOk P w K mg base (L2.CX P w) (0 + 1) f fd ["judge", "t"] (spA K mg 2 false (runA 2 false m_due_by)) := ok_A (n := 2) (N := ["judge", "t"]) (k := 0) (g := m_due_by) false F S_due_by rfl (by decide) (fun cdv A outer s H E hr => vss_one (vs_ret (v_op rb_add op_addA (v_op rb_divX op_fdivX (v_var 1) (v_ix rb_ix ix_seq (v_var 0) (v_int))) (v_ix rb_ix ix_seq (v_var 0) (v_int)))))
  exact ⟨f, fd, _, h1, kp, b, g⟩
/-! ### due_count -/
theorem S_due_count : FnScope ["judge", "t"] ["judge", "t"] (defScope st_due_count) := ⟨rfl, rfl, rfl, by decide +kernel, rfl, by decide +kernel, by decide +kernel⟩
def m_due_count : FS := sSeq (sExp (eCall 1 F_check_judge (aC (eV 0) (aN))))
    (sSeq (sExp (eCall 1 F_check (aC (eCall 1 F_is_count (aC (eV 1) (aN))) (aN))))
    (sRet (eCall 2 F_due_by (aC (eV 0) (aC (eV 1) (aN))))))
@[irreducible] def F_due_count : List D → R D := runA 2 false m_due_count
theorem c_due_count (T : Tx K mg) : CallA P w K mg base 6 "due_count" 2 false F_due_count := by
  unfold F_due_count
  obtain ⟨f, fd, F, g, kp, b⟩ := T.d_due_count
  have h1 : FnOk P w K mg base (L2.CX P w) (5 + 1) f fd ["judge", "t"] (spA K mg 2 false (runA 2 false m_due_count)) := ok_A (n := 2) (N := ["judge", "t"]) (k := 5) (g := m_due_count) false F S_due_count rfl (by decide) (fun cdv A outer s H E hr => vss_cons (vs_expr (v_callU (c_check_judge T) (hr.mono (by decide)) (takes_of rfl rfl rfl rfl) rfl (va_cons (v_var 0) (va_nil))))
    (vss_cons (vs_expr (v_callU (c_check T) (hr.mono (by decide)) (takes_of rfl rfl rfl rfl) rfl (va_cons (v_callU (c_is_count T) (hr.mono (by decide)) (takes_of rfl rfl rfl rfl) rfl (va_cons (v_var 1) (va_nil))) (va_nil))))
    (vss_one (vs_ret (v_callU (c_due_by T) (hr.mono (by decide)) (takes_of rfl rfl rfl rfl) rfl (va_cons (v_var 0) (va_cons (v_var 1) (va_nil))))))))
  exact ⟨f, fd, _, h1, kp, b, g⟩
/-! ### looked_by -/
theorem S_looked_by : FnScope ["judge", "t", "found", "far", "due", "slack", "last", "n"] ["judge", "t"] (defScope st_looked_by) := ⟨rfl, rfl, rfl, by decide +kernel, rfl, by decide +kernel, by decide +kernel⟩
def t_looked_by_0 : FT := tAnd1 (tC1 (eB gGtI (eV 7) (eV 6))) (tC1 (eB gGeI (eV 7) (eC (.int 0))))
def f_looked_by_1 : FE := eV 7
def b_looked_by_0 : FS := sExt 2 (eLst (aC (eB gSub (eV 4) (eV 3)) (aC (eB gAdd (eV 4) (eV 3)) (aN))))
def m_looked_by : FS := sSeq (sAsg (gT 3 (gsC (gN 4) (gsC (gN 5) (gsC (gN 6) (gsN))))) (eTup (aC (eCall 2 F_due_by (aC (eV 0) (aC (eV 1) (aN)))) (aC (eB gIx (eV 0) (eC (.int 2))) (aC (eB gIx (eV 0) (eC (.int 4))) (aN))))))
    (sSeq (sNew 2 (nLst (aC (eV 4) (aN))))
    (sSeq (sFor (iR2 (aC (eC (.int 1)) (aC (eB gAdd (eV 5) (eC (.int 1))) (aN)))) (gN 3) b_looked_by_0)
    (sRetN (nLc (iL (eV 2)) [7] (gN 7) (t_looked_by_0) (f_looked_by_1)))))
@[irreducible] def F_looked_by : List D → R D := runA 8 false m_looked_by
theorem c_looked_by (T : Tx K mg) : CallA P w K mg base 2 "looked_by" 2 false F_looked_by := by
  unfold F_looked_by
  obtain ⟨f, fd, F, g, kp, b⟩ := T.d_looked_by
  have h1 : FnOk P w K mg base (L2.CX P w) (1 + 1) f fd ["judge", "t"] (spA K mg 2 false (runA 8 false m_looked_by)) := ok_A (n := 2) (N := ["judge", "t", "found", "far", "due", "slack", "last", "n"]) (k := 1) (g := m_looked_by) false F S_looked_by rfl (by decide) (fun cdv A outer s H E hr => vss_cons (vs_asg (v_tup (va_cons (v_callU (c_due_by T) (hr.mono (by decide)) (takes_of rfl rfl rfl rfl) rfl (va_cons (v_var 0) (va_cons (v_var 1) (va_nil)))) (va_cons (v_ix rb_ix ix_seq (v_var 0) (v_int)) (va_cons (v_ix rb_ix ix_seq (v_var 0) (v_int)) (va_nil))))) (vg_tup rfl (vgs_cons (vg_name 4 S_looked_by.nd) (vgs_cons (vg_name 5 S_looked_by.nd) (vgs_cons (vg_name 6 S_looked_by.nd) (vgs_nil))))))
    (vss_cons (vs_new 2 S_looked_by.nd (n_lst (va_cons (v_var 4) (va_nil))))
    (vss_cons (vs_for (b := b_looked_by_0) (passes_of rfl) rfl (vi_range2 rfl T.b_range (va_cons (v_int) (va_cons (v_op rb_add op_addA (v_var 5) (v_int)) (va_nil)))) (vg_name 3 S_looked_by.nd) (vss_one (vs_extend 2 (v_lst (va_cons (v_op rb_sub op_sub (v_var 4) (v_var 3)) (va_cons (v_op rb_add op_addA (v_var 4) (v_var 3)) (va_nil)))))))
    (vss_one (vs_retN (n_lc (own := [("n", 7)]) (c := t_looked_by_0) (f := f_looked_by_1) rfl S_looked_by.nd (vi_list (v_var 2)) rfl (fun _ _ _ _ _ => vg_name 7 S_looked_by.nd) (fun _ _ _ _ _ => vts_one (PW.pt (vw_and (vt_cmp rb_gtI op_gt (nomark _) (v_var 7) (v_var 6)) (vw_and1 (vt_cmp rb_geI op_ge (nomark _) (v_var 7) (v_int)))))) (fun _ _ _ _ _ => v_var 7)))))))
  exact ⟨f, fd, _, h1, kp, b, g⟩
/-! ### looked_at -/
theorem S_looked_at : FnScope ["judge", "t"] ["judge", "t"] (defScope st_looked_at) := ⟨rfl, rfl, rfl, by decide +kernel, rfl, by decide +kernel, by decide +kernel⟩
def m_looked_at : FS := sSeq (sExp (eCall 1 F_check_judge (aC (eV 0) (aN))))
    (sSeq (sExp (eCall 1 F_check (aC (eCall 1 F_is_count (aC (eV 1) (aN))) (aN))))
    (sRet (eCall 2 F_looked_by (aC (eV 0) (aC (eV 1) (aN))))))
@[irreducible] def F_looked_at : List D → R D := runA 2 false m_looked_at
theorem c_looked_at (T : Tx K mg) : CallA P w K mg base 6 "looked_at" 2 false F_looked_at := by
  unfold F_looked_at
  obtain ⟨f, fd, F, g, kp, b⟩ := T.d_looked_at
  have h1 : FnOk P w K mg base (L2.CX P w) (5 + 1) f fd ["judge", "t"] (spA K mg 2 false (runA 2 false m_looked_at)) := ok_A (n := 2) (N := ["judge", "t"]) (k := 5) (g := m_looked_at) false F S_looked_at rfl (by decide) (fun cdv A outer s H E hr => vss_cons (vs_expr (v_callU (c_check_judge T) (hr.mono (by decide)) (takes_of rfl rfl rfl rfl) rfl (va_cons (v_var 0) (va_nil))))
    (vss_cons (vs_expr (v_callU (c_check T) (hr.mono (by decide)) (takes_of rfl rfl rfl rfl) rfl (va_cons (v_callU (c_is_count T) (hr.mono (by decide)) (takes_of rfl rfl rfl rfl) rfl (va_cons (v_var 1) (va_nil))) (va_nil))))
    (vss_one (vs_ret (v_callU (c_looked_by T) (hr.mono (by decide)) (takes_of rfl rfl rfl rfl) rfl (va_cons (v_var 0) (va_cons (v_var 1) (va_nil))))))))
  exact ⟨f, fd, _, h1, kp, b, g⟩
/-! ### value_by -/
theorem S_value_by : FnScope ["key", "n", "a", "b", "c", "_"] ["key", "n"] (defScope st_value_by) := ⟨rfl, rfl, rfl, by decide +kernel, rfl, by decide +kernel, by decide +kernel⟩
def m_value_by : FS := sSeq (sAsg (gT 4 (gsC (gN 2) (gsC (gN 3) (gsC (gN 4) (gsC (gN 5) (gsN)))))) (eV 0))
    (sRet (eB gMod (eB gAdd (eB gAdd (eB gMul (eB gMul (eB gMul (eV 2) (eV 1)) (eV 1)) (eV 1)) (eB gMul (eV 3) (eV 1))) (eV 4)) (eC (.int 1000003))))
@[irreducible] def F_value_by : List D → R D := runA 6 false m_value_by
theorem c_value_by (T : Tx K mg) : CallA P w K mg base 1 "value_by" 2 false F_value_by := by
  unfold F_value_by
  obtain ⟨f, fd, F, g, kp, b⟩ := T.d_value_by
  have h1 : FnOk P w K mg base (L2.CX P w) (0 + 1) f fd ["key", "n"] (spA K mg 2 false (runA 6 false m_value_by)) := ok_A (n := 2) (N := ["key", "n", "a", "b", "c", "_"]) (k := 0) (g := m_value_by) false F S_value_by rfl (by decide) (fun cdv A outer s H E hr => vss_cons (vs_asg (v_var 0) (vg_tup rfl (vgs_cons (vg_name 2 S_value_by.nd) (vgs_cons (vg_name 3 S_value_by.nd) (vgs_cons (vg_name 4 S_value_by.nd) (vgs_cons (vg_name 5 S_value_by.nd) (vgs_nil)))))))
    (vss_one (vs_ret (v_op rb_mod op_mod (v_op rb_add op_addA (v_op rb_add op_addA (v_op rb_mul op_mulA (v_op rb_mul op_mulA (v_op rb_mul op_mulA (v_var 2) (v_var 1)) (v_var 1)) (v_var 1)) (v_op rb_mul op_mulA (v_var 3) (v_var 1))) (v_var 4)) (v_globIU T.i_PRIME rfl)))))
  exact ⟨f, fd, _, h1, kp, b, g⟩
/-! ### power -/
theorem S_power : FnScope ["number", "times", "found", "_"] ["number", "times"] (defScope st_power) := ⟨rfl, rfl, rfl, by decide +kernel, rfl, by decide +kernel, by decide +kernel⟩
def b_power_0 : FS := sAug 2 gMulI (eV 0)
def m_power : FS := sSeq (sSet 2 (eC (.int 1)))
    (sSeq (sFor (iR1 (aC (eV 1) (aN))) (gN 3) b_power_0)
    (sRet (eV 2)))
@[irreducible] def F_power : List D → R D := runA 4 false m_power
theorem c_power (T : Tx K mg) : CallA P w K mg base 1 "power" 2 false F_power := by
  unfold F_power
  obtain ⟨f, fd, F, g, kp, b⟩ := T.d_power
  have h1 : FnOk P w K mg base (L2.CX P w) (0 + 1) f fd ["number", "times"] (spA K mg 2 false (runA 4 false m_power)) := ok_A (n := 2) (N := ["number", "times", "found", "_"]) (k := 0) (g := m_power) false F S_power rfl (by decide) (fun cdv A outer s H E hr => vss_cons (vs_set 2 S_power.nd (v_int))
    (vss_cons (vs_for (b := b_power_0) (passes_of rfl) rfl (vi_range1 rfl T.b_range (va_cons (v_var 1) (va_nil))) (vg_name 3 S_power.nd) (vss_one (vs_aug 2 rb_mulI ip_mulW S_power.nd (v_var 0))))
    (vss_one (vs_ret (v_var 2)))))
  exact ⟨f, fd, _, h1, kp, b, g⟩
/-! ### told -/
theorem S_told : FnScope ["value", "digits"] ["value", "digits"] (defScope st_told) := ⟨rfl, rfl, rfl, by decide +kernel, rfl, by decide +kernel, by decide +kernel⟩
def m_told : FS := sRet (eSl gSl (eF fStr (aC (eB gAdd (eB gMod (eV 0) (eCall 2 F_power (aC (eC (.int 10)) (aC (eV 1) (aN))))) (eCall 2 F_power (aC (eC (.int 10)) (aC (eV 1) (aN))))) (aN))) (oS (eC (.int 1))) (oN))
@[irreducible] def F_told : List D → R D := runA 2 false m_told
theorem c_told (T : Tx K mg) : CallA P w K mg base 2 "told" 2 false F_told := by
  unfold F_told
  obtain ⟨f, fd, F, g, kp, b⟩ := T.d_told
  have h1 : FnOk P w K mg base (L2.CX P w) (1 + 1) f fd ["value", "digits"] (spA K mg 2 false (runA 2 false m_told)) := ok_A (n := 2) (N := ["value", "digits"]) (k := 1) (g := m_told) false F S_told rfl (by decide) (fun cdv A outer s H E hr => vss_one (vs_ret (v_slice rsl_all sl_all (v_bty rc_str call_str_int rfl T.b_str (va_cons (v_op rb_add op_addA (v_op rb_mod op_mod (v_var 0) (v_callU (c_power T) (hr.mono (by decide)) (takes_of rfl rfl rfl rfl) rfl (va_cons (v_int) (va_cons (v_var 1) (va_nil))))) (v_callU (c_power T) (hr.mono (by decide)) (takes_of rfl rfl rfl rfl) rfl (va_cons (v_int) (va_cons (v_var 1) (va_nil))))) (va_nil))) (vo_some (v_int)) (vo_none))))
  exact ⟨f, fd, _, h1, kp, b, g⟩
/-! ### code_by -/
theorem S_code_by : FnScope ["key", "n"] ["key", "n"] (defScope st_code_by) := ⟨rfl, rfl, rfl, by decide +kernel, rfl, by decide +kernel, by decide +kernel⟩
def m_code_by : FS := sRet (eCall 2 F_told (aC (eCall 2 F_value_by (aC (eV 0) (aC (eV 1) (aN)))) (aC (eB gIx (eV 0) (eC (.int 3))) (aN))))
@[irreducible] def F_code_by : List D → R D := runA 2 false m_code_by
theorem c_code_by (T : Tx K mg) : CallA P w K mg base 3 "code_by" 2 false F_code_by := by
  unfold F_code_by
  obtain ⟨f, fd, F, g, kp, b⟩ := T.d_code_by
  have h1 : FnOk P w K mg base (L2.CX P w) (2 + 1) f fd ["key", "n"] (spA K mg 2 false (runA 2 false m_code_by)) := ok_A (n := 2) (N := ["key", "n"]) (k := 2) (g := m_code_by) false F S_code_by rfl (by decide) (fun cdv A outer s H E hr => vss_one (vs_ret (v_callU (c_told T) (hr.mono (by decide)) (takes_of rfl rfl rfl rfl) rfl (va_cons (v_callU (c_value_by T) (hr.mono (by decide)) (takes_of rfl rfl rfl rfl) rfl (va_cons (v_var 0) (va_cons (v_var 1) (va_nil)))) (va_cons (v_ix rb_ix ix_seq (v_var 0) (v_int)) (va_nil))))))
  exact ⟨f, fd, _, h1, kp, b, g⟩
/-! ### met_by -/
theorem S_met_by : FnScope ["judge", "code", "t", "fits", "n"] ["judge", "code", "t"] (defScope st_met_by) := ⟨rfl, rfl, rfl, by decide +kernel, rfl, by decide +kernel, by decide +kernel⟩
def t_met_by_0 : FT := tC1 (eB gEq (eCall 2 F_code_by (aC (eB gIx (eV 0) (eC (.int 0))) (aC (eV 4) (aN)))) (eV 1))
def f_met_by_1 : FE := eV 4
def m_met_by : FS := sSeq (sSet 3 (eL (nLc (iL (eCall 2 F_looked_by (aC (eV 0) (aC (eV 2) (aN))))) [4] (gN 4) (t_met_by_0) (f_met_by_1))))
    (sRet (eIf (tC1 (eB gGtI (eF fLen (aC (eV 3) (aN))) (eC (.int 0)))) (eB gIx (eV 3) (eC (.int 0))) (eC .non)))
@[irreducible] def F_met_by : List D → R D := runA 5 false m_met_by
theorem c_met_by (T : Tx K mg) : CallA P w K mg base 4 "met_by" 3 false F_met_by := by
  unfold F_met_by
  obtain ⟨f, fd, F, g, kp, b⟩ := T.d_met_by
  have h1 : FnOk P w K mg base (L2.CX P w) (3 + 1) f fd ["judge", "code", "t"] (spA K mg 3 false (runA 5 false m_met_by)) := ok_A (n := 3) (N := ["judge", "code", "t", "fits", "n"]) (k := 3) (g := m_met_by) false F S_met_by rfl (by decide) (fun cdv A outer s H E hr => vss_cons (vs_setLc (own := [("n", 4)]) (c := t_met_by_0) (f := f_met_by_1) 3 rfl S_met_by.nd (vi_list (v_callU (c_looked_by T) (hr.mono (by decide)) (takes_of rfl rfl rfl rfl) rfl (va_cons (v_var 0) (va_cons (v_var 2) (va_nil))))) rfl (fun _ _ _ _ _ => vg_name 4 S_met_by.nd) (fun _ _ _ _ _ => vts_one (vt_cmp rb_eq (op_eqA hr.hu) (nomark _) (v_callU (c_code_by T) (hr.mono (by decide)) takes0 rfl (va_cons (v_ix rb_ix ix_seq (v_var 0) (v_int)) (va_cons (v_var 4) (va_nil)))) (v_var 1))) (fun _ _ _ _ _ => v_var 4) (sw_true rfl rfl rfl (by decide +kernel)))
    (vss_one (vs_ret (v_if (vt_cmp rb_gtI op_gt (nomark _) (v_blt rc_len call_lenA rfl T.b_len (va_cons (v_var 3) (va_nil))) (v_int)) (v_ix rb_ix ix_seq (v_var 3) (v_int)) (v_non)))))
  exact ⟨f, fd, _, h1, kp, b, g⟩
/-! ### are_figures -/
theorem S_are_figures : FnScope ["value", "length", "sign"] ["value", "length"] (defScope st_are_figures) := ⟨rfl, rfl, rfl, by decide +kernel, rfl, by decide +kernel, by decide +kernel⟩
def f_are_figures_0 : FE := eCh gLe gLe (eC (.str "0")) (eV 2) (eC (.str "9"))
def m_are_figures : FS := sRet (eAnd (eF fIs (aC (eV 0) (aC (eC (.ty "str")) (aN)))) (eAnd (eB gEq (eF fLen (aC (eV 0) (aN))) (eV 1)) (eF fAll (aC (eL (nLc (iS (eV 0)) [2] (gN 2) (tYes1) (f_are_figures_0))) (aN)))))
@[irreducible] def F_are_figures : List D → R D := runA 3 false m_are_figures
theorem c_are_figures (T : Tx K mg) : CallA P w K mg base 1 "are_figures" 2 false F_are_figures := by
  unfold F_are_figures
  obtain ⟨f, fd, F, g, kp, b⟩ := T.d_are_figures
  have h1 : FnOk P w K mg base (L2.CX P w) (0 + 1) f fd ["value", "length"] (spA K mg 2 false (runA 3 false m_are_figures)) := ok_A (n := 2) (N := ["value", "length", "sign"]) (k := 0) (g := m_are_figures) false F S_are_figures rfl (by decide) (fun cdv A outer s H E hr => vss_one (vs_ret (v_and (v_blt rc_is call_isi rfl T.b_isinstance (va_cons (v_var 0) (va_cons (v_ty rfl T.b_str) (va_nil)))) (v_and (v_cmp rb_eq (op_eqA hr.hu) (nomark _) (v_blt rc_len call_lenA rfl T.b_len (va_cons (v_var 0) (va_nil))) (v_var 1)) (v_one (v_blt rc_all (cr_all rfl) rfl T.b_all (va_cons (v_ofN (n_lc (own := [("sign", 2)]) (c := tYes1) (f := f_are_figures_0) rfl S_are_figures.nd (vi_str (v_var 0)) rfl (fun _ _ _ _ _ => vg_name 2 S_are_figures.nd) (fun _ _ _ _ _ => vts_nil) (fun _ _ _ _ _ => v_chain rb_le rb_le op_leA op_leA (v_str) (v_var 2) (v_str)))) (va_nil))))))))
  exact ⟨f, fd, _, h1, kp, b, g⟩
/-! ### check_code -/
theorem S_check_code : FnScope ["judge", "code", "t"] ["judge", "code", "t"] (defScope st_check_code) := ⟨rfl, rfl, rfl, by decide +kernel, rfl, by decide +kernel, by decide +kernel⟩
def m_check_code : FS := sSeq (sExp (eCall 1 F_check_judge (aC (eV 0) (aN))))
    (sSeq (sExp (eCall 1 F_check (aC (eCall 2 F_are_figures (aC (eV 1) (aC (eB gIx (eB gIx (eV 0) (eC (.int 0))) (eC (.int 3))) (aN)))) (aN))))
    (sExp (eCall 1 F_check (aC (eCall 1 F_is_count (aC (eV 2) (aN))) (aN)))))
@[irreducible] def F_check_code : List D → R D := runA 3 false m_check_code
theorem c_check_code (T : Tx K mg) : CallA P w K mg base 6 "check_code" 3 false F_check_code := by
  unfold F_check_code
  obtain ⟨f, fd, F, g, kp, b⟩ := T.d_check_code
  have h1 : FnOk P w K mg base (L2.CX P w) (5 + 1) f fd ["judge", "code", "t"] (spA K mg 3 false (runA 3 false m_check_code)) := ok_A (n := 3) (N := ["judge", "code", "t"]) (k := 5) (g := m_check_code) false F S_check_code rfl (by decide) (fun cdv A outer s H E hr => vss_cons (vs_expr (v_callU (c_check_judge T) (hr.mono (by decide)) (takes_of rfl rfl rfl rfl) rfl (va_cons (v_var 0) (va_nil))))
    (vss_cons (vs_expr (v_callU (c_check T) (hr.mono (by decide)) (takes_of rfl rfl rfl rfl) rfl (va_cons (v_callU (c_are_figures T) (hr.mono (by decide)) (takes_of rfl rfl rfl rfl) rfl (va_cons (v_var 1) (va_cons (v_ix rb_ix ix_seq (v_ix rb_ix ix_seq (v_var 0) (v_int)) (v_int)) (va_nil)))) (va_nil))))
    (vss_one (vs_expr (v_callU (c_check T) (hr.mono (by decide)) (takes_of rfl rfl rfl rfl) rfl (va_cons (v_callU (c_is_count T) (hr.mono (by decide)) (takes_of rfl rfl rfl rfl) rfl (va_cons (v_var 2) (va_nil))) (va_nil)))))))
  exact ⟨f, fd, _, h1, kp, b, g⟩
/-! ### clock_met -/
theorem S_clock_met : FnScope ["judge", "code", "t"] ["judge", "code", "t"] (defScope st_clock_met) := ⟨rfl, rfl, rfl, by decide +kernel, rfl, by decide +kernel, by decide +kernel⟩
def m_clock_met : FS := sSeq (sExp (eCall 3 F_check_code (aC (eV 0) (aC (eV 1) (aC (eV 2) (aN))))))
    (sRet (eCall 3 F_met_by (aC (eV 0) (aC (eV 1) (aC (eV 2) (aN))))))
@[irreducible] def F_clock_met : List D → R D := runA 3 false m_clock_met
theorem c_clock_met (T : Tx K mg) : CallA P w K mg base 7 "clock_met" 3 false F_clock_met := by
  unfold F_clock_met
  obtain ⟨f, fd, F, g, kp, b⟩ := T.d_clock_met
  have h1 : FnOk P w K mg base (L2.CX P w) (6 + 1) f fd ["judge", "code", "t"] (spA K mg 3 false (runA 3 false m_clock_met)) := ok_A (n := 3) (N := ["judge", "code", "t"]) (k := 6) (g := m_clock_met) false F S_clock_met rfl (by decide) (fun cdv A outer s H E hr => vss_cons (vs_expr (v_callU (c_check_code T) (hr.mono (by decide)) (takes_of rfl rfl rfl rfl) rfl (va_cons (v_var 0) (va_cons (v_var 1) (va_cons (v_var 2) (va_nil))))))
    (vss_one (vs_ret (v_callU (c_met_by T) (hr.mono (by decide)) (takes_of rfl rfl rfl rfl) rfl (va_cons (v_var 0) (va_cons (v_var 1) (va_cons (v_var 2) (va_nil))))))))
  exact ⟨f, fd, _, h1, kp, b, g⟩
/-! ### judged_by -/
theorem S_judged_by : FnScope ["judge", "code", "t", "met", "key", "step", "slack", "_"] ["judge", "code", "t"] (defScope st_judged_by) := ⟨rfl, rfl, rfl, by decide +kernel, rfl, by decide +kernel, by decide +kernel⟩
def m_judged_by : FS := sSeq (sSet 3 (eCall 3 F_met_by (aC (eV 0) (aC (eV 1) (aC (eV 2) (aN))))))
    (sSeq (sIf (tC1 (eB gIsN (eV 3) (eC .non))) (sRet (eTup (aC (eC (.bl false)) (aC (eV 0) (aN))))) (sNx))
    (sSeq (sAsg (gT 5 (gsC (gN 4) (gsC (gN 5) (gsC (gN 6) (gsC (gN 7) (gsC (gN 7) (gsN))))))) (eV 0))
    (sRet (eTup (aC (eC (.bl true)) (aC (eTup (aC (eV 4) (aC (eV 5) (aC (eV 6) (aC (eB gSub (eV 3) (eB gDivX (eV 2) (eV 5))) (aC (eV 3) (aN))))))) (aN)))))))
@[irreducible] def F_judged_by : List D → R D := runA 8 false m_judged_by
theorem c_judged_by (T : Tx K mg) : CallA P w K mg base 5 "judged_by" 3 false F_judged_by := by
  unfold F_judged_by
  obtain ⟨f, fd, F, g, kp, b⟩ := T.d_judged_by
  have h1 : FnOk P w K mg base (L2.CX P w) (4 + 1) f fd ["judge", "code", "t"] (spA K mg 3 false (runA 8 false m_judged_by)) := ok_A (n := 3) (N := ["judge", "code", "t", "met", "key", "step", "slack", "_"]) (k := 4) (g := m_judged_by) false F S_judged_by rfl (by decide) (fun cdv A outer s H E hr => vss_cons (vs_set 3 S_judged_by.nd (v_callU (c_met_by T) (hr.mono (by decide)) (takes_of rfl rfl rfl rfl) rfl (va_cons (v_var 0) (va_cons (v_var 1) (va_cons (v_var 2) (va_nil))))))
    (vss_cons (vs_if (vt_cmp rb_isN op_isN (nomark _) (v_var 3) (v_non)) (vss_one (vs_ret (v_tup (va_cons (v_bl) (va_cons (v_var 0) (va_nil)))))) (vss_nil))
    (vss_cons (vs_asg (v_var 0) (vg_tup rfl (vgs_cons (vg_name 4 S_judged_by.nd) (vgs_cons (vg_name 5 S_judged_by.nd) (vgs_cons (vg_name 6 S_judged_by.nd) (vgs_cons (vg_name 7 S_judged_by.nd) (vgs_cons (vg_name 7 S_judged_by.nd) (vgs_nil))))))))
    (vss_one (vs_ret (v_tup (va_cons (v_bl) (va_cons (v_tup (va_cons (v_var 4) (va_cons (v_var 5) (va_cons (v_var 6) (va_cons (v_op rb_sub op_sub (v_var 3) (v_op rb_divX op_fdivX (v_var 2) (v_var 5))) (va_cons (v_var 3) (va_nil))))))) (va_nil)))))))))
  exact ⟨f, fd, _, h1, kp, b, g⟩
/-! ### clock_judged -/
theorem S_clock_judged : FnScope ["judge", "code", "t"] ["judge", "code", "t"] (defScope st_clock_judged) := ⟨rfl, rfl, rfl, by decide +kernel, rfl, by decide +kernel, by decide +kernel⟩
def m_clock_judged : FS := sSeq (sExp (eCall 3 F_check_code (aC (eV 0) (aC (eV 1) (aC (eV 2) (aN))))))
    (sRet (eCall 3 F_judged_by (aC (eV 0) (aC (eV 1) (aC (eV 2) (aN))))))
@[irreducible] def F_clock_judged : List D → R D := runA 3 false m_clock_judged
theorem c_clock_judged (T : Tx K mg) : CallA P w K mg base 7 "clock_judged" 3 false F_clock_judged := by
  unfold F_clock_judged
  obtain ⟨f, fd, F, g, kp, b⟩ := T.d_clock_judged
  have h1 : FnOk P w K mg base (L2.CX P w) (6 + 1) f fd ["judge", "code", "t"] (spA K mg 3 false (runA 3 false m_clock_judged)) := ok_A (n := 3) (N := ["judge", "code", "t"]) (k := 6) (g := m_clock_judged) false F S_clock_judged rfl (by decide) (fun cdv A outer s H E hr => vss_cons (vs_expr (v_callU (c_check_code T) (hr.mono (by decide)) (takes_of rfl rfl rfl rfl) rfl (va_cons (v_var 0) (va_cons (v_var 1) (va_cons (v_var 2) (va_nil))))))
    (vss_one (vs_ret (v_callU (c_judged_by T) (hr.mono (by decide)) (takes_of rfl rfl rfl rfl) rfl (va_cons (v_var 0) (va_cons (v_var 1) (va_cons (v_var 2) (va_nil))))))))
  exact ⟨f, fd, _, h1, kp, b, g⟩
/-! ### count_by -/
theorem S_count_by : FnScope ["clock", "step", "t", "n", "off", "rate"] ["clock", "step", "t"] (defScope st_count_by) := ⟨rfl, rfl, rfl, by decide +kernel, rfl, by decide +kernel, by decide +kernel⟩
def m_count_by : FS := sSeq (sAsg (gT 2 (gsC (gN 4) (gsC (gN 5) (gsN)))) (eV 0))
    (sSeq (sSet 3 (eB gDivX (eB gAdd (eB gAdd (eV 2) (eV 4)) (eB gDivX (eB gMul (eV 2) (eV 5)) (eC (.int 1000000)))) (eV 1)))
    (sRet (eIf (tC1 (eB gGeI (eV 3) (eC (.int 0)))) (eV 3) (eC .non))))
@[irreducible] def F_count_by : List D → R D := runA 6 false m_count_by
theorem c_count_by (T : Tx K mg) : CallA P w K mg base 1 "count_by" 3 false F_count_by := by
  unfold F_count_by
  obtain ⟨f, fd, F, g, kp, b⟩ := T.d_count_by
  have h1 : FnOk P w K mg base (L2.CX P w) (0 + 1) f fd ["clock", "step", "t"] (spA K mg 3 false (runA 6 false m_count_by)) := ok_A (n := 3) (N := ["clock", "step", "t", "n", "off", "rate"]) (k := 0) (g := m_count_by) false F S_count_by rfl (by decide) (fun cdv A outer s H E hr => vss_cons (vs_asg (v_var 0) (vg_tup rfl (vgs_cons (vg_name 4 S_count_by.nd) (vgs_cons (vg_name 5 S_count_by.nd) (vgs_nil)))))
    (vss_cons (vs_set 3 S_count_by.nd (v_op rb_divX op_fdivX (v_op rb_add op_addA (v_op rb_add op_addA (v_var 2) (v_var 4)) (v_op rb_divX op_fdivX (v_op rb_mul op_mulA (v_var 2) (v_var 5)) (v_globIU T.i_MILLION rfl))) (v_var 1)))
    (vss_one (vs_ret (v_if (vt_cmp rb_geI op_ge (nomark _) (v_var 3) (v_int)) (v_var 3) (v_non))))))
  exact ⟨f, fd, _, h1, kp, b, g⟩
/-! ### clock_count -/
theorem S_clock_count : FnScope ["clock", "step", "t"] ["clock", "step", "t"] (defScope st_clock_count) := ⟨rfl, rfl, rfl, by decide +kernel, rfl, by decide +kernel, by decide +kernel⟩
def m_clock_count : FS := sSeq (sExp (eCall 1 F_check (aC (eCall 1 F_is_clock (aC (eV 0) (aN))) (aN))))
    (sSeq (sExp (eCall 1 F_check (aC (eCall 3 F_is_within (aC (eV 1) (aC (eC (.int 1)) (aC (eC (.int 600)) (aN))))) (aN))))
    (sSeq (sExp (eCall 1 F_check (aC (eCall 1 F_is_count (aC (eV 2) (aN))) (aN))))
    (sRet (eCall 3 F_count_by (aC (eV 0) (aC (eV 1) (aC (eV 2) (aN))))))))
@[irreducible] def F_clock_count : List D → R D := runA 3 false m_clock_count
theorem c_clock_count (T : Tx K mg) : CallA P w K mg base 4 "clock_count" 3 false F_clock_count := by
  unfold F_clock_count
  obtain ⟨f, fd, F, g, kp, b⟩ := T.d_clock_count
  have h1 : FnOk P w K mg base (L2.CX P w) (3 + 1) f fd ["clock", "step", "t"] (spA K mg 3 false (runA 3 false m_clock_count)) := ok_A (n := 3) (N := ["clock", "step", "t"]) (k := 3) (g := m_clock_count) false F S_clock_count rfl (by decide) (fun cdv A outer s H E hr => vss_cons (vs_expr (v_callU (c_check T) (hr.mono (by decide)) (takes_of rfl rfl rfl rfl) rfl (va_cons (v_callU (c_is_clock T) (hr.mono (by decide)) (takes_of rfl rfl rfl rfl) rfl (va_cons (v_var 0) (va_nil))) (va_nil))))
    (vss_cons (vs_expr (v_callU (c_check T) (hr.mono (by decide)) (takes_of rfl rfl rfl rfl) rfl (va_cons (v_callU (c_is_within T) (hr.mono (by decide)) (takes_of rfl rfl rfl rfl) rfl (va_cons (v_var 1) (va_cons (v_int) (va_cons (v_globIU T.i_LONGEST_STEP rfl) (va_nil))))) (va_nil))))
    (vss_cons (vs_expr (v_callU (c_check T) (hr.mono (by decide)) (takes_of rfl rfl rfl rfl) rfl (va_cons (v_callU (c_is_count T) (hr.mono (by decide)) (takes_of rfl rfl rfl rfl) rfl (va_cons (v_var 2) (va_nil))) (va_nil))))
    (vss_one (vs_ret (v_callU (c_count_by T) (hr.mono (by decide)) (takes_of rfl rfl rfl rfl) rfl (va_cons (v_var 0) (va_cons (v_var 1) (va_cons (v_var 2) (va_nil))))))))))
  exact ⟨f, fd, _, h1, kp, b, g⟩
/-! ### taken_at -/
theorem S_taken_at : FnScope ["judge", "t", "n"] ["judge", "t"] (defScope st_taken_at) := ⟨rfl, rfl, rfl, by decide +kernel, rfl, by decide +kernel, by decide +kernel⟩
def k_taken_at_0 : FE := eCall 2 F_code_by (aC (eB gIx (eV 0) (eC (.int 0))) (aC (eV 2) (aN)))
def f_taken_at_1 : FE := eC (.bl true)
def m_taken_at : FS := sSeq (sExp (eCall 1 F_check_judge (aC (eV 0) (aN))))
    (sSeq (sExp (eCall 1 F_check (aC (eCall 1 F_is_count (aC (eV 1) (aN))) (aN))))
    (sRet (eF fSortD (aC (eDc (iL (eCall 2 F_looked_by (aC (eV 0) (aC (eV 1) (aN))))) [2] (gN 2) (tYes1) (k_taken_at_0) (f_taken_at_1)) (aN)))))
@[irreducible] def F_taken_at : List D → R D := runA 3 false m_taken_at
theorem c_taken_at (T : Tx K mg) : CallA P w K mg base 6 "taken_at" 2 false F_taken_at := by
  unfold F_taken_at
  obtain ⟨f, fd, F, g, kp, b⟩ := T.d_taken_at
  have h1 : FnOk P w K mg base (L2.CX P w) (5 + 1) f fd ["judge", "t"] (spA K mg 2 false (runA 3 false m_taken_at)) := ok_A (n := 2) (N := ["judge", "t", "n"]) (k := 5) (g := m_taken_at) false F S_taken_at rfl (by decide) (fun cdv A outer s H E hr => vss_cons (vs_expr (v_callU (c_check_judge T) (hr.mono (by decide)) (takes_of rfl rfl rfl rfl) rfl (va_cons (v_var 0) (va_nil))))
    (vss_cons (vs_expr (v_callU (c_check T) (hr.mono (by decide)) (takes_of rfl rfl rfl rfl) rfl (va_cons (v_callU (c_is_count T) (hr.mono (by decide)) (takes_of rfl rfl rfl rfl) rfl (va_cons (v_var 1) (va_nil))) (va_nil))))
    (vss_one (vs_ret (v_blt rc_sortD (call_sortD rfl hr.hu) rfl T.b_sorted (va_cons (v_dc (own := [("n", 2)]) (c := tYes1) (fk := k_taken_at_0) (fv := f_taken_at_1) rfl S_taken_at.nd (vi_list (v_callU (c_looked_by T) (hr.mono (by decide)) (takes_of rfl rfl rfl rfl) rfl (va_cons (v_var 0) (va_cons (v_var 1) (va_nil))))) rfl (fun _ _ _ _ _ => vg_name 2 S_taken_at.nd) (fun _ _ _ _ _ => vts_nil) (fun _ _ _ _ _ => v_callU (c_code_by T) (hr.mono (by decide)) takes0 rfl (va_cons (v_ix rb_ix ix_seq (v_var 0) (v_int)) (va_cons (v_var 2) (va_nil)))) (fun _ _ _ _ _ => v_bl)) (va_nil)))))))
  exact ⟨f, fd, _, h1, kp, b, g⟩
/-! ### _law_flags -/
theorem S__law_flags : FnScope ["e"] ["e"] (defScope st__law_flags) := ⟨rfl, rfl, rfl, by decide +kernel, rfl, by decide +kernel, by decide +kernel⟩
theorem cE__law_flags (T : Tx K mg) : CallE P w K mg base 1 "_law_flags" ["NotRight", "NotThere", "NoAnswer", "TooLarge", "Malformed"] := by
  obtain ⟨f, fd, F, g, kp, b⟩ := T.d__law_flags
  exact ⟨f, fd, "e", ok_Fl F S__law_flags rfl rfl rfl rfl T.b_isinstance (fun _ _ _ => rfl) (by decide) (.cons (fun _ _ _ => rfl) rfl (.cons (fun _ _ _ => rfl) rfl (.cons (fun _ _ _ => rfl) rfl (.cons (fun _ _ _ => rfl) rfl (.cons (fun _ _ _ => rfl) rfl (.nil)))))), kp, b, g⟩
/-! ### _law_told -/
theorem S__law_told : FnScope ["which", "judge", "one", "two", "e"] ["which", "judge", "one", "two"] (defScope st__law_told) := ⟨rfl, rfl, rfl, by decide +kernel, rfl, by decide +kernel, by decide +kernel⟩
def b__law_told_0 : FS := sSeq (sIf (tC1 (eB gLt (eV 0) (eC (.int 3)))) (sRet (eCallIx 2 [F_due_count, F_looked_at, F_taken_at] (eV 0) (aC (eV 1) (aC (eV 2) (aN))))) (sNx))
    (sRet (eCallIx 3 [F_clock_met, F_clock_judged, F_clock_count] (eB gSub (eV 0) (eC (.int 3))) (aC (eV 1) (aC (eV 2) (aC (eV 3) (aN))))))
def m__law_told : FS := sTryF exSub b__law_told_0 "CodeError" 4 exFl__law_flags
@[irreducible] def F__law_told : List D → R D := runA 5 false m__law_told
theorem c__law_told (T : Tx K mg) : CallA P w K mg base 8 "_law_told" 4 false F__law_told := by
  unfold F__law_told
  obtain ⟨f, fd, F, g, kp, b⟩ := T.d__law_told
  have h1 : FnOk P w K mg base (L2.CX P w) (7 + 1) f fd ["which", "judge", "one", "two"] (spA K mg 4 false (runA 5 false m__law_told)) := ok_A (n := 4) (N := ["which", "judge", "one", "two", "e"]) (k := 7) (g := m__law_told) false F S__law_told rfl (by decide) (fun cdv A outer s H E hr => vss_one (vs_tryF (g := b__law_told_0) (sub_ok T) (fl__law_flags_ok T) (cE__law_flags T) (hr.mono (by decide)) rfl rfl rfl rfl S__law_told.nd rfl rfl (.inl rfl) rfl rfl rfl rfl T.h_CodeError (takes_of rfl rfl rfl rfl) (fun W1 pn xe tk po => vss_cons (vs_if (vt_cmp rb_lt op_ltA (nomark _) (v_var 0) (v_int)) (vss_one (vs_ret (v_callIx (k := 6) (Fns.cons (c_due_count T) (by decide) rfl rfl rfl (Fns.cons (c_looked_at T) (by decide) rfl rfl rfl (Fns.cons (c_taken_at T) (by decide) rfl rfl rfl (Fns.nil)))) (hr.mono (by decide)) tk (v_var 0) (va_cons (v_var 1) (va_cons (v_var 2) (va_nil))) (by decide)))) (vss_nil))
    (vss_one (vs_ret (v_callIx (k := 7) (Fns.cons (c_clock_met T) (by decide) rfl rfl rfl (Fns.cons (c_clock_judged T) (by decide) rfl rfl rfl (Fns.cons (c_clock_count T) (by decide) rfl rfl rfl (Fns.nil)))) (hr.mono (by decide)) tk (v_op rb_sub op_sub (v_var 0) (v_int)) (va_cons (v_var 1) (va_cons (v_var 2) (va_cons (v_var 3) (va_nil)))) (by decide)))))))
  exact ⟨f, fd, _, h1, kp, b, g⟩
/-! ### law -/
theorem S_law : FnScope ["script", "draws", "refused", "turn", "t", "judge", "looked", "told_v", "again", "clock", "count", "bad", "wrong", "due", "rows", "key", "step", "slack", "drift", "last", "n", "code", "fits", "odd", "cell", "which", "one"] ["script"] (defScope st_law) := ⟨rfl, rfl, rfl, by decide +kernel, rfl, by decide +kernel, by decide +kernel⟩
def f_law_0 : FE := eCall 4 F__law_told (aC (eV 25) (aC (eV 5) (aC (eV 4) (aC (eC (.int 0)) (aN)))))
def f_law_1 : FE := eCall 2 F__law_code (aC (eV 15) (aC (eV 20) (aN)))
def t_law_2 : FT := tC1 (eB gEq (eCall 2 F__law_code (aC (eV 15) (aC (eV 26) (aN)))) (eV 21))
def f_law_3 : FE := eV 26
def f_law_4 : FE := eCall 1 F_is_clock_judge (aC (eV 26) (aN))
def f_law_5 : FE := eCall 1 F_is_clock (aC (eV 26) (aN))
def f_law_6 : FE := eTup (aC (eV 25) (aC (eV 23) (aC (eV 4) (aC (eC (.int 0)) (aN)))))
def f_law_7 : FE := eTup (aC (eV 25) (aC (eV 5) (aC (eV 24) (aC (eC (.int 0)) (aN)))))
def f_law_8 : FE := eTup (aC (eV 25) (aC (eV 5) (aC (eCallB 2 1 F__law_pick (aC (eLst (aC (eSl gSl (eV 21) (oS (eC (.int 1))) (oN)) (aC (eB gAdd (eV 21) (eC (.str "0"))) (aC (eC .non) (aC (eB gMulS (eC (.str "x")) (eB gIx (eV 15) (eC (.int 3)))) (aN)))))) (aN))) (aC (eV 24) (aN)))))
def f_law_9 : FE := eCall 4 F__law_told (aC (eB gIx (eV 26) (eC (.int 0))) (aC (eB gIx (eV 26) (eC (.int 1))) (aC (eB gIx (eV 26) (eC (.int 2))) (aC (eB gIx (eV 26) (eC (.int 3))) (aN)))))
def b_law_0 : FS := sSeq (sSet 20 (eF fMax2 (aC (eC (.int 0)) (aC (eB gSub (eB gSub (eB gAdd (eB gAdd (eB gDivX (eV 4) (eV 16)) (eV 18)) (eCallB 2 1 F__law_take (aC (eB gAdd (eB gMul (eC (.int 2)) (eV 17)) (eC (.int 5))) (aN)))) (eV 17)) (eC (.int 2))) (aN)))))
    (sSeq (sSet 21 (eCallB 2 1 F__law_pick (aC (eLst (aC (eCall 2 F__law_code (aC (eV 15) (aC (eV 20) (aN)))) (aC (eCall 2 F__law_code (aC (eV 15) (aC (eV 20) (aN)))) (aC (eB gMulS (eC (.str "0")) (eB gIx (eV 15) (eC (.int 3)))) (aN))))) (aN))))
    (sSeq (sSet 22 (eL (nLc (iL (eV 6)) [26] (gN 26) (t_law_2) (f_law_3))))
    (sSeq (sSet 13 (eLst (aC (eC .non) (aC (eTup (aC (eC (.bl false)) (aC (eV 5) (aN)))) (aN)))))
    (sSeq (sIf (tC1 (eB gNe (eV 22) (eLst (aN)))) (sSet 13 (eLst (aC (eB gIx (eV 22) (eC (.int 0))) (aC (eTup (aC (eC (.bl true)) (aC (eTup (aC (eV 15) (aC (eV 16) (aC (eV 17) (aC (eB gSub (eB gIx (eV 22) (eC (.int 0))) (eB gDivX (eV 4) (eV 16))) (aC (eB gIx (eV 22) (eC (.int 0))) (aN))))))) (aN)))) (aN))))) (sNx))
    (sIf (tNot1 (tE (eCall 2 (F__law_same 6) (aC (eLst (aC (eCall 4 F__law_told (aC (eC (.int 3)) (aC (eV 5) (aC (eV 21) (aC (eV 4) (aN)))))) (aC (eCall 4 F__law_told (aC (eC (.int 4)) (aC (eV 5) (aC (eV 21) (aC (eV 4) (aN)))))) (aN)))) (aC (eV 13) (aN)))))) (sRet (eC (.bl false))) (sNx))))))
def b_law_1 : FS := sSeq (sSet 4 (eCallB 2 1 F__law_pick (aC (eLst (aC (eC (.int 0)) (aC (eC (.int 5)) (aC (eCallB 2 1 F__law_take (aC (eC (.int 997)) (aN))) (aC (eB gAdd (eB gPow (eC (.int 10)) (eC (.int 20))) (eCallB 2 1 F__law_take (aC (eC (.int 997)) (aN)))) (aN)))))) (aN))))
    (sSeq (sSet 5 (eCallB 2 1 F__law_judge (aC (eV 4) (aN))))
    (sSeq (sAsg (gT 5 (gsC (gN 15) (gsC (gN 16) (gsC (gN 17) (gsC (gN 18) (gsC (gN 19) (gsN))))))) (eV 5))
    (sSeq (sSet 6 (eCall 2 F__law_looked (aC (eV 5) (aC (eV 4) (aN)))))
    (sSeq (sLend 7 1 (eFree (eL (nLc (iR1 (aC (eC (.int 3)) (aN))) [25] (gN 25) (tYes1) (f_law_0)))) (tNot1 (tE (eCall 2 (F__law_same 6) (aC (eV 7) (aC (eLst (aC (eB gAdd (eB gDivX (eV 4) (eV 16)) (eV 18)) (aC (eV 6) (aC (eU fSortSet (eL (nLc (iL (eV 6)) [20] (gN 20) (tYes1) (f_law_1)))) (aN))))) (aN)))))) (sRet (eC (.bl false))))
    (sSeq (sFor (iR1 (aC (eC (.int 8)) (aN))) (gN 8) b_law_0)
    (sSeq (sSet 9 (eTup (aC (eCallB 2 1 F__law_pick (aC (eLst (aC (eC (.int 0)) (aC (eC (.int 7)) (aC (eU gNeg (eC (.int 7))) (aC (eU gNeg (eB gPow (eC (.int 10)) (eC (.int 20)))) (aC (eB gSub (eCallB 2 1 F__law_take (aC (eC (.int 997)) (aN))) (eC (.int 500))) (aN))))))) (aN))) (aC (eCallB 2 1 F__law_pick (aC (eLst (aC (eC (.int 0)) (aC (eC (.int 1)) (aC (eU gNeg (eC (.int 1))) (aC (eC (.int 500000)) (aC (eU gNeg (eC (.int 500000))) (aC (eCallB 2 1 F__law_take (aC (eC (.int 997)) (aN))) (aN)))))))) (aN))) (aN)))))
    (sSeq (sSet 10 (eB gDivX (eB gAdd (eB gAdd (eV 4) (eB gIx (eV 9) (eC (.int 0)))) (eB gDivX (eB gMul (eV 4) (eB gIx (eV 9) (eC (.int 1)))) (eC (.int 1000000)))) (eV 16)))
    (sSeq (sIf (tNot1 (tE (eCall 2 (F__law_same 6) (aC (eCall 4 F__law_told (aC (eC (.int 5)) (aC (eV 9) (aC (eV 16) (aC (eV 4) (aN)))))) (aC (eB gIx (eLst (aC (eV 10) (aC (eC .non) (aN)))) (eF fInt (aC (eB gLt (eV 10) (eC (.int 0))) (aN)))) (aN)))))) (sRet (eC (.bl false))) (sNx))
    (sSeq (sSet 11 (eLst (aC (eC .non) (aC (eSl gSl (eV 5) (oN) (oS (eC (.int 4)))) (aC (eF fLst (aC (eV 5) (aN))) (aC (eTup (aC (eSl gSl (eV 15) (oN) (oS (eC (.int 3)))) (aC (eV 16) (aC (eV 17) (aC (eV 18) (aC (eV 19) (aN))))))) (aC (eTup (aC (eV 15) (aC (eC (.int 0)) (aC (eV 17) (aC (eV 18) (aC (eV 19) (aN))))))) (aC (eTup (aC (eV 15) (aC (eC (.int 601)) (aC (eV 17) (aC (eV 18) (aC (eV 19) (aN))))))) (aN)))))))))
    (sSeq (sSet 11 (eB gAdd (eV 11) (eLst (aC (eTup (aC (eV 15) (aC (eV 16) (aC (eU gNeg (eC (.int 1))) (aC (eV 18) (aC (eV 19) (aN))))))) (aC (eTup (aC (eV 15) (aC (eV 16) (aC (eC (.int 21)) (aC (eV 18) (aC (eV 19) (aN))))))) (aC (eTup (aC (eV 15) (aC (eV 16) (aC (eV 17) (aC (eC .non) (aC (eV 19) (aN))))))) (aN)))))))
    (sSeq (sSet 11 (eB gAdd (eV 11) (eLst (aC (eTup (aC (eV 15) (aC (eV 16) (aC (eV 17) (aC (eV 18) (aC (eU gNeg (eC (.int 2))) (aN))))))) (aC (eTup (aC (eV 15) (aC (eC (.bl true)) (aC (eV 17) (aC (eV 18) (aC (eV 19) (aN))))))) (aC (eTup (aC (eV 15) (aC (eV 16) (aC (eV 17) (aC (eC (.str "0")) (aC (eV 19) (aN))))))) (aC (eTup (aC (eV 15) (aC (eV 16) (aC (eV 17) (aC (eV 18) (aC (eC .non) (aN))))))) (aN))))))))
    (sSeq (sSet 12 (eLst (aC (eC .non) (aC (eTup (aC (eC (.int 0)) (aN))) (aC (eLst (aC (eC (.int 0)) (aC (eC (.int 0)) (aN)))) (aC (eTup (aC (eC (.int 0)) (aC (eC (.int 500001)) (aN)))) (aC (eTup (aC (eC (.int 0)) (aC (eU gNeg (eC (.int 500001))) (aN)))) (aC (eTup (aC (eC (.bl true)) (aC (eC (.int 0)) (aN)))) (aC (eTup (aC (eC (.int 0)) (aC (eC (.str "0")) (aN)))) (aC (eTup (aC (eC .non) (aC (eC (.int 0)) (aN)))) (aC (eTup (aC (eC (.int 0)) (aC (eC (.int 0)) (aC (eC (.int 0)) (aN))))) (aN))))))))))))
    (sSeq (sSet 13 (eB gAdd (eB gAdd (eB gAdd (eB gMul (eLst (aC (eC (.bl false)) (aN))) (eC (.int 13))) (eLst (aC (eC (.bl true)) (aC (eC (.bl true)) (aN))))) (eB gMul (eLst (aC (eC (.bl false)) (aN))) (eC (.int 9)))) (eLst (aC (eC (.bl true)) (aN)))))
    (sSeq (sIf (tNot1 (tE (eCall 2 (F__law_same 6) (aC (eB gAdd (eL (nLc (iL (eB gAdd (eV 11) (eLst (aC (eV 5) (aC (eTup (aC (eV 15) (aC (eC (.int 600)) (aC (eC (.int 20)) (aC (eU gNeg (eB gPow (eC (.int 10)) (eC (.int 20)))) (aC (eB gPow (eC (.int 10)) (eC (.int 20))) (aN))))))) (aN)))))) [26] (gN 26) (tYes1) (f_law_4))) (eL (nLc (iL (eB gAdd (eV 12) (eLst (aC (eV 9) (aN))))) [26] (gN 26) (tYes1) (f_law_5)))) (aC (eV 13) (aN)))))) (sRet (eC (.bl false))) (sNx))
    (sSeq (sAsg (gT 2 (gsC (gN 23) (gsC (gN 24) (gsN)))) (eTup (aC (eCallB 2 1 F__law_pick (aC (eV 11) (aN))) (aC (eCallB 2 1 F__law_pick (aC (eLst (aC (eU gNeg (eC (.int 1))) (aC (eC (.bl true)) (aC (eC .non) (aC (eC (.str "1")) (aN)))))) (aN))) (aN)))))
    (sSeq (sSet 14 (eB gAdd (eB gAdd (eL (nLc (iR1 (aC (eC (.int 3)) (aN))) [25] (gN 25) (tYes1) (f_law_6))) (eL (nLc (iR1 (aC (eC (.int 3)) (aN))) [25] (gN 25) (tYes1) (f_law_7)))) (eLst (aC (eTup (aC (eC (.int 3)) (aC (eV 23) (aC (eV 21) (aC (eV 4) (aN)))))) (aC (eTup (aC (eC (.int 4)) (aC (eV 23) (aC (eV 21) (aC (eV 4) (aN)))))) (aC (eTup (aC (eC (.int 3)) (aC (eV 5) (aC (eV 21) (aC (eV 24) (aN)))))) (aC (eTup (aC (eC (.int 4)) (aC (eV 5) (aC (eV 21) (aC (eV 24) (aN)))))) (aN))))))))
    (sSeq (sSet 14 (eB gAdd (eV 14) (eL (nLc (iL (eLst (aC (eC (.int 3)) (aC (eC (.int 4)) (aN))))) [25] (gN 25) (tYes1) (f_law_8)))))
    (sSeq (sSet 14 (eB gAdd (eV 14) (eLst (aC (eTup (aC (eC (.int 5)) (aC (eCallB 2 1 F__law_pick (aC (eV 12) (aN))) (aC (eV 16) (aC (eV 4) (aN)))))) (aC (eTup (aC (eC (.int 5)) (aC (eV 9) (aC (eC (.int 0)) (aC (eV 4) (aN)))))) (aC (eTup (aC (eC (.int 5)) (aC (eV 9) (aC (eC (.int 601)) (aC (eV 4) (aN)))))) (aC (eTup (aC (eC (.int 5)) (aC (eV 9) (aC (eC (.bl true)) (aC (eV 4) (aN)))))) (aC (eTup (aC (eC (.int 5)) (aC (eV 9) (aC (eV 16) (aC (eV 24) (aN)))))) (aN)))))))))
    (sIf (tNot1 (tE (eCall 2 (F__law_same 6) (aC (eL (nLc (iL (eV 14)) [26] (gN 26) (tYes1) (f_law_9))) (aC (eB gMul (eLst (aC (eV 2) (aN))) (eC (.int 17))) (aN)))))) (sRet (eC (.bl false))) (sNx))))))))))))))))))))
def m_law : FS := sSeq (sNew 1 (nCall 1 F__law_draws (aC (eV 0) (aN))))
    (sSeq (sSet 2 (eLst (aC (eC (.bl true)) (aC (eC (.bl false)) (aC (eC (.bl false)) (aC (eC (.bl false)) (aC (eC (.bl false)) (aN))))))))
    (sSeq (sFor (iR1 (aC (eC (.int 5)) (aN))) (gN 3) b_law_1)
    (sRet (eC (.bl true)))))
@[irreducible] def F_law : List D → R D := runA 27 false m_law
theorem law_at (T : Tx K mg) {f : Addr} {fd : FuncData} (F : Fun K "law" "law" st_law f fd) : FnOk P w K mg base (L2.CX P w) 9 f fd ["script"] (spA K mg 1 false F_law) := by
  unfold F_law
  exact ok_A (n := 1) (N := ["script", "draws", "refused", "turn", "t", "judge", "looked", "told_v", "again", "clock", "count", "bad", "wrong", "due", "rows", "key", "step", "slack", "drift", "last", "n", "code", "fits", "odd", "cell", "which", "one"]) (k := 8) (g := m_law) false F S_law rfl (by decide) (fun cdv A outer s H E hr => vss_cons (vs_new 1 S_law.nd (n_callU (c__law_draws T) (hr.mono (by decide)) (takes_of rfl rfl rfl rfl) rfl (va_cons (v_var 0) (va_nil))))
    (vss_cons (vs_set 2 S_law.nd (v_lst (va_cons (v_bl) (va_cons (v_bl) (va_cons (v_bl) (va_cons (v_bl) (va_cons (v_bl) (va_nil))))))))
    (vss_cons (vs_for (b := b_law_1) (passes_of rfl) rfl (vi_range1 rfl T.b_range (va_cons (v_int) (va_nil))) (vg_name 3 S_law.nd) (vss_cons (vs_set 4 S_law.nd (v_callBU 1 (c__law_pick T) (hr.mono (by decide)) (takes_of rfl rfl rfl rfl) rfl (va_cons (v_lst (va_cons (v_int) (va_cons (v_int) (va_cons (v_callBU 1 (c__law_take T) (hr.mono (by decide)) (takes_of rfl rfl rfl rfl) rfl (va_cons (v_int) (va_nil))) (va_cons (v_op rb_add op_addA (v_op rb_pow op_pow (v_int) (v_int)) (v_callBU 1 (c__law_take T) (hr.mono (by decide)) (takes_of rfl rfl rfl rfl) rfl (va_cons (v_int) (va_nil)))) (va_nil)))))) (va_nil))))
    (vss_cons (vs_set 5 S_law.nd (v_callBU 1 (c__law_judge T) (hr.mono (by decide)) (takes_of rfl rfl rfl rfl) rfl (va_cons (v_var 4) (va_nil))))
    (vss_cons (vs_asg (v_var 5) (vg_tup rfl (vgs_cons (vg_name 15 S_law.nd) (vgs_cons (vg_name 16 S_law.nd) (vgs_cons (vg_name 17 S_law.nd) (vgs_cons (vg_name 18 S_law.nd) (vgs_cons (vg_name 19 S_law.nd) (vgs_nil))))))))
    (vss_cons (vs_set 6 S_law.nd (v_callU (c__law_looked T) (hr.mono (by decide)) (takes_of rfl rfl rfl rfl) rfl (va_cons (v_var 5) (va_cons (v_var 4) (va_nil)))))
    (vss_lend 7 1 (set_lendLc (own := [("which", 25)]) (c := tYes1) (f := f_law_0) 7 rfl S_law.nd (vi_range1 rfl T.b_range (va_cons (v_int) (va_nil))) rfl (fun _ _ _ _ _ => vg_name 25 S_law.nd) (fun _ _ _ _ _ => vts_nil) (fun _ _ _ _ _ => v_callU (c__law_told T) (hr.mono (by decide)) takes0 rfl (va_cons (v_var 25) (va_cons (v_var 5) (va_cons (v_var 4) (va_cons (v_int) (va_nil)))))) (sw_true rfl rfl rfl (by decide +kernel))) (vt_not (vt_val (v_callU (c__law_same T 6) (hr.mono (by decide)) (takes_of rfl rfl rfl rfl) rfl (va_cons (v_var 7) (va_cons (v_lst (va_cons (v_op rb_add op_addA (v_op rb_divX op_fdivX (v_var 4) (v_var 16)) (v_var 18)) (va_cons (v_var 6) (va_cons (v_sortSet rfl hr.hu rfl T.b_sorted rfl T.b_set (v_ofN (n_lc (own := [("n", 20)]) (c := tYes1) (f := f_law_1) rfl S_law.nd (vi_list (v_var 6)) rfl (fun _ _ _ _ _ => vg_name 20 S_law.nd) (fun _ _ _ _ _ => vts_nil) (fun _ _ _ _ _ => v_callU (c__law_code T) (hr.mono (by decide)) takes0 rfl (va_cons (v_var 15) (va_cons (v_var 20) (va_nil))))))) (va_nil))))) (va_nil)))))) (vss_one (vs_ret (v_bl)))
    (vss_cons (vs_for (b := b_law_0) (passes_of rfl) rfl (vi_range1 rfl T.b_range (va_cons (v_int) (va_nil))) (vg_name 8 S_law.nd) (vss_cons (vs_set 20 S_law.nd (v_blt rc_max2 (call_max2 rfl) rfl T.b_max (va_cons (v_int) (va_cons (v_op rb_sub op_sub (v_op rb_sub op_sub (v_op rb_add op_addA (v_op rb_add op_addA (v_op rb_divX op_fdivX (v_var 4) (v_var 16)) (v_var 18)) (v_callBU 1 (c__law_take T) (hr.mono (by decide)) (takes_of rfl rfl rfl rfl) rfl (va_cons (v_op rb_add op_addA (v_op rb_mul op_mulA (v_int) (v_var 17)) (v_int)) (va_nil)))) (v_var 17)) (v_int)) (va_nil)))))
    (vss_cons (vs_set 21 S_law.nd (v_callBU 1 (c__law_pick T) (hr.mono (by decide)) (takes_of rfl rfl rfl rfl) rfl (va_cons (v_lst (va_cons (v_callU (c__law_code T) (hr.mono (by decide)) (takes_of rfl rfl rfl rfl) rfl (va_cons (v_var 15) (va_cons (v_var 20) (va_nil)))) (va_cons (v_callU (c__law_code T) (hr.mono (by decide)) (takes_of rfl rfl rfl rfl) rfl (va_cons (v_var 15) (va_cons (v_var 20) (va_nil)))) (va_cons (v_op rb_mulS op_mulS (v_str) (v_ix rb_ix ix_seq (v_var 15) (v_int))) (va_nil))))) (va_nil))))
    (vss_cons (vs_setLc (own := [("one", 26)]) (c := t_law_2) (f := f_law_3) 22 rfl S_law.nd (vi_list (v_var 6)) rfl (fun _ _ _ _ _ => vg_name 26 S_law.nd) (fun _ _ _ _ _ => vts_one (vt_cmp rb_eq (op_eqA hr.hu) (nomark _) (v_callU (c__law_code T) (hr.mono (by decide)) takes0 rfl (va_cons (v_var 15) (va_cons (v_var 26) (va_nil)))) (v_var 21))) (fun _ _ _ _ _ => v_var 26) (sw_true rfl rfl rfl (by decide +kernel)))
    (vss_cons (vs_set 13 S_law.nd (v_lst (va_cons (v_non) (va_cons (v_tup (va_cons (v_bl) (va_cons (v_var 5) (va_nil)))) (va_nil)))))
    (vss_cons (vs_if (vt_cmp rb_ne (op_neA hr.hu) (nomark _) (v_var 22) (v_lst (va_nil))) (vss_one (vs_set 13 S_law.nd (v_lst (va_cons (v_ix rb_ix ix_seq (v_var 22) (v_int)) (va_cons (v_tup (va_cons (v_bl) (va_cons (v_tup (va_cons (v_var 15) (va_cons (v_var 16) (va_cons (v_var 17) (va_cons (v_op rb_sub op_sub (v_ix rb_ix ix_seq (v_var 22) (v_int)) (v_op rb_divX op_fdivX (v_var 4) (v_var 16))) (va_cons (v_ix rb_ix ix_seq (v_var 22) (v_int)) (va_nil))))))) (va_nil)))) (va_nil)))))) (vss_nil))
    (vss_one (vs_if (vt_not (vt_val (v_callU (c__law_same T 6) (hr.mono (by decide)) (takes_of rfl rfl rfl rfl) rfl (va_cons (v_lst (va_cons (v_callU (c__law_told T) (hr.mono (by decide)) (takes_of rfl rfl rfl rfl) rfl (va_cons (v_int) (va_cons (v_var 5) (va_cons (v_var 21) (va_cons (v_var 4) (va_nil)))))) (va_cons (v_callU (c__law_told T) (hr.mono (by decide)) (takes_of rfl rfl rfl rfl) rfl (va_cons (v_int) (va_cons (v_var 5) (va_cons (v_var 21) (va_cons (v_var 4) (va_nil)))))) (va_nil)))) (va_cons (v_var 13) (va_nil)))))) (vss_one (vs_ret (v_bl))) (vss_nil)))))))))
    (vss_cons (vs_set 9 S_law.nd (v_tup (va_cons (v_callBU 1 (c__law_pick T) (hr.mono (by decide)) (takes_of rfl rfl rfl rfl) rfl (va_cons (v_lst (va_cons (v_int) (va_cons (v_int) (va_cons (v_un ru_neg un_neg (v_int)) (va_cons (v_un ru_neg un_neg (v_op rb_pow op_pow (v_int) (v_int))) (va_cons (v_op rb_sub op_sub (v_callBU 1 (c__law_take T) (hr.mono (by decide)) (takes_of rfl rfl rfl rfl) rfl (va_cons (v_int) (va_nil))) (v_int)) (va_nil))))))) (va_nil))) (va_cons (v_callBU 1 (c__law_pick T) (hr.mono (by decide)) (takes_of rfl rfl rfl rfl) rfl (va_cons (v_lst (va_cons (v_int) (va_cons (v_int) (va_cons (v_un ru_neg un_neg (v_int)) (va_cons (v_int) (va_cons (v_un ru_neg un_neg (v_int)) (va_cons (v_callBU 1 (c__law_take T) (hr.mono (by decide)) (takes_of rfl rfl rfl rfl) rfl (va_cons (v_int) (va_nil))) (va_nil)))))))) (va_nil))) (va_nil)))))
    (vss_cons (vs_set 10 S_law.nd (v_op rb_divX op_fdivX (v_op rb_add op_addA (v_op rb_add op_addA (v_var 4) (v_ix rb_ix ix_seq (v_var 9) (v_int))) (v_op rb_divX op_fdivX (v_op rb_mul op_mulA (v_var 4) (v_ix rb_ix ix_seq (v_var 9) (v_int))) (v_int))) (v_var 16)))
    (vss_cons (vs_if (vt_not (vt_val (v_callU (c__law_same T 6) (hr.mono (by decide)) (takes_of rfl rfl rfl rfl) rfl (va_cons (v_callU (c__law_told T) (hr.mono (by decide)) (takes_of rfl rfl rfl rfl) rfl (va_cons (v_int) (va_cons (v_var 9) (va_cons (v_var 16) (va_cons (v_var 4) (va_nil)))))) (va_cons (v_ix rb_ix ix_seq (v_lst (va_cons (v_var 10) (va_cons (v_non) (va_nil)))) (v_bty rc_int call_int1 rfl T.b_int (va_cons (v_cmp rb_lt op_ltA (nomark _) (v_var 10) (v_int)) (va_nil)))) (va_nil)))))) (vss_one (vs_ret (v_bl))) (vss_nil))
    (vss_cons (vs_set 11 S_law.nd (v_lst (va_cons (v_non) (va_cons (v_slice rsl_all sl_all (v_var 5) (vo_none) (vo_some (v_int))) (va_cons (v_bty rc_lst call_lstA rfl T.b_list (va_cons (v_var 5) (va_nil))) (va_cons (v_tup (va_cons (v_slice rsl_all sl_all (v_var 15) (vo_none) (vo_some (v_int))) (va_cons (v_var 16) (va_cons (v_var 17) (va_cons (v_var 18) (va_cons (v_var 19) (va_nil))))))) (va_cons (v_tup (va_cons (v_var 15) (va_cons (v_int) (va_cons (v_var 17) (va_cons (v_var 18) (va_cons (v_var 19) (va_nil))))))) (va_cons (v_tup (va_cons (v_var 15) (va_cons (v_int) (va_cons (v_var 17) (va_cons (v_var 18) (va_cons (v_var 19) (va_nil))))))) (va_nil)))))))))
    (vss_cons (vs_set 11 S_law.nd (v_op rb_add op_addA (v_var 11) (v_lst (va_cons (v_tup (va_cons (v_var 15) (va_cons (v_var 16) (va_cons (v_un ru_neg un_neg (v_int)) (va_cons (v_var 18) (va_cons (v_var 19) (va_nil))))))) (va_cons (v_tup (va_cons (v_var 15) (va_cons (v_var 16) (va_cons (v_int) (va_cons (v_var 18) (va_cons (v_var 19) (va_nil))))))) (va_cons (v_tup (va_cons (v_var 15) (va_cons (v_var 16) (va_cons (v_var 17) (va_cons (v_non) (va_cons (v_var 19) (va_nil))))))) (va_nil)))))))
    (vss_cons (vs_set 11 S_law.nd (v_op rb_add op_addA (v_var 11) (v_lst (va_cons (v_tup (va_cons (v_var 15) (va_cons (v_var 16) (va_cons (v_var 17) (va_cons (v_var 18) (va_cons (v_un ru_neg un_neg (v_int)) (va_nil))))))) (va_cons (v_tup (va_cons (v_var 15) (va_cons (v_bl) (va_cons (v_var 17) (va_cons (v_var 18) (va_cons (v_var 19) (va_nil))))))) (va_cons (v_tup (va_cons (v_var 15) (va_cons (v_var 16) (va_cons (v_var 17) (va_cons (v_str) (va_cons (v_var 19) (va_nil))))))) (va_cons (v_tup (va_cons (v_var 15) (va_cons (v_var 16) (va_cons (v_var 17) (va_cons (v_var 18) (va_cons (v_non) (va_nil))))))) (va_nil))))))))
    (vss_cons (vs_set 12 S_law.nd (v_lst (va_cons (v_non) (va_cons (v_tup (va_cons (v_int) (va_nil))) (va_cons (v_lst (va_cons (v_int) (va_cons (v_int) (va_nil)))) (va_cons (v_tup (va_cons (v_int) (va_cons (v_int) (va_nil)))) (va_cons (v_tup (va_cons (v_int) (va_cons (v_un ru_neg un_neg (v_int)) (va_nil)))) (va_cons (v_tup (va_cons (v_bl) (va_cons (v_int) (va_nil)))) (va_cons (v_tup (va_cons (v_int) (va_cons (v_str) (va_nil)))) (va_cons (v_tup (va_cons (v_non) (va_cons (v_int) (va_nil)))) (va_cons (v_tup (va_cons (v_int) (va_cons (v_int) (va_cons (v_int) (va_nil))))) (va_nil))))))))))))
    (vss_cons (vs_set 13 S_law.nd (v_op rb_add op_addA (v_op rb_add op_addA (v_op rb_add op_addA (v_op rb_mul op_mulA (v_lst (va_cons (v_bl) (va_nil))) (v_int)) (v_lst (va_cons (v_bl) (va_cons (v_bl) (va_nil))))) (v_op rb_mul op_mulA (v_lst (va_cons (v_bl) (va_nil))) (v_int))) (v_lst (va_cons (v_bl) (va_nil)))))
    (vss_cons (vs_if (vt_not (vt_val (v_callU (c__law_same T 6) (hr.mono (by decide)) (takes_of rfl rfl rfl rfl) rfl (va_cons (v_op rb_add op_addA (v_ofN (n_lc (own := [("one", 26)]) (c := tYes1) (f := f_law_4) rfl S_law.nd (vi_list (v_op rb_add op_addA (v_var 11) (v_lst (va_cons (v_var 5) (va_cons (v_tup (va_cons (v_var 15) (va_cons (v_int) (va_cons (v_int) (va_cons (v_un ru_neg un_neg (v_op rb_pow op_pow (v_int) (v_int))) (va_cons (v_op rb_pow op_pow (v_int) (v_int)) (va_nil))))))) (va_nil)))))) rfl (fun _ _ _ _ _ => vg_name 26 S_law.nd) (fun _ _ _ _ _ => vts_nil) (fun _ _ _ _ _ => v_callU (c_is_clock_judge T) (hr.mono (by decide)) takes0 rfl (va_cons (v_var 26) (va_nil))))) (v_ofN (n_lc (own := [("one", 26)]) (c := tYes1) (f := f_law_5) rfl S_law.nd (vi_list (v_op rb_add op_addA (v_var 12) (v_lst (va_cons (v_var 9) (va_nil))))) rfl (fun _ _ _ _ _ => vg_name 26 S_law.nd) (fun _ _ _ _ _ => vts_nil) (fun _ _ _ _ _ => v_callU (c_is_clock T) (hr.mono (by decide)) takes0 rfl (va_cons (v_var 26) (va_nil)))))) (va_cons (v_var 13) (va_nil)))))) (vss_one (vs_ret (v_bl))) (vss_nil))
    (vss_cons (vs_asg (v_tup (va_cons (v_callBU 1 (c__law_pick T) (hr.mono (by decide)) (takes_of rfl rfl rfl rfl) rfl (va_cons (v_var 11) (va_nil))) (va_cons (v_callBU 1 (c__law_pick T) (hr.mono (by decide)) (takes_of rfl rfl rfl rfl) rfl (va_cons (v_lst (va_cons (v_un ru_neg un_neg (v_int)) (va_cons (v_bl) (va_cons (v_non) (va_cons (v_str) (va_nil)))))) (va_nil))) (va_nil)))) (vg_tup rfl (vgs_cons (vg_name 23 S_law.nd) (vgs_cons (vg_name 24 S_law.nd) (vgs_nil)))))
    (vss_cons (vs_set 14 S_law.nd (v_op rb_add op_addA (v_op rb_add op_addA (v_ofN (n_lc (own := [("which", 25)]) (c := tYes1) (f := f_law_6) rfl S_law.nd (vi_range1 rfl T.b_range (va_cons (v_int) (va_nil))) rfl (fun _ _ _ _ _ => vg_name 25 S_law.nd) (fun _ _ _ _ _ => vts_nil) (fun _ _ _ _ _ => v_tup (va_cons (v_var 25) (va_cons (v_var 23) (va_cons (v_var 4) (va_cons (v_int) (va_nil)))))))) (v_ofN (n_lc (own := [("which", 25)]) (c := tYes1) (f := f_law_7) rfl S_law.nd (vi_range1 rfl T.b_range (va_cons (v_int) (va_nil))) rfl (fun _ _ _ _ _ => vg_name 25 S_law.nd) (fun _ _ _ _ _ => vts_nil) (fun _ _ _ _ _ => v_tup (va_cons (v_var 25) (va_cons (v_var 5) (va_cons (v_var 24) (va_cons (v_int) (va_nil))))))))) (v_lst (va_cons (v_tup (va_cons (v_int) (va_cons (v_var 23) (va_cons (v_var 21) (va_cons (v_var 4) (va_nil)))))) (va_cons (v_tup (va_cons (v_int) (va_cons (v_var 23) (va_cons (v_var 21) (va_cons (v_var 4) (va_nil)))))) (va_cons (v_tup (va_cons (v_int) (va_cons (v_var 5) (va_cons (v_var 21) (va_cons (v_var 24) (va_nil)))))) (va_cons (v_tup (va_cons (v_int) (va_cons (v_var 5) (va_cons (v_var 21) (va_cons (v_var 24) (va_nil)))))) (va_nil))))))))
    (vss_cons (vs_set 14 S_law.nd (v_op rb_add op_addA (v_var 14) (v_ofN (n_lc (own := [("which", 25)]) (c := tYes1) (f := f_law_8) rfl S_law.nd (vi_list (v_lst (va_cons (v_int) (va_cons (v_int) (va_nil))))) rfl (fun _ _ _ _ _ => vg_name 25 S_law.nd) (fun _ _ _ _ _ => vts_nil) (fun _ _ _ _ _ => v_tup (va_cons (v_var 25) (va_cons (v_var 5) (va_cons (v_callBU 1 (c__law_pick T) (hr.mono (by decide)) takes0 rfl (va_cons (v_lst (va_cons (v_slice rsl_all sl_all (v_var 21) (vo_some (v_int)) (vo_none)) (va_cons (v_op rb_add op_addA (v_var 21) (v_str)) (va_cons (v_non) (va_cons (v_op rb_mulS op_mulS (v_str) (v_ix rb_ix ix_seq (v_var 15) (v_int))) (va_nil)))))) (va_nil))) (va_cons (v_var 24) (va_nil))))))))))
    (vss_cons (vs_set 14 S_law.nd (v_op rb_add op_addA (v_var 14) (v_lst (va_cons (v_tup (va_cons (v_int) (va_cons (v_callBU 1 (c__law_pick T) (hr.mono (by decide)) (takes_of rfl rfl rfl rfl) rfl (va_cons (v_var 12) (va_nil))) (va_cons (v_var 16) (va_cons (v_var 4) (va_nil)))))) (va_cons (v_tup (va_cons (v_int) (va_cons (v_var 9) (va_cons (v_int) (va_cons (v_var 4) (va_nil)))))) (va_cons (v_tup (va_cons (v_int) (va_cons (v_var 9) (va_cons (v_int) (va_cons (v_var 4) (va_nil)))))) (va_cons (v_tup (va_cons (v_int) (va_cons (v_var 9) (va_cons (v_bl) (va_cons (v_var 4) (va_nil)))))) (va_cons (v_tup (va_cons (v_int) (va_cons (v_var 9) (va_cons (v_var 16) (va_cons (v_var 24) (va_nil)))))) (va_nil)))))))))
    (vss_one (vs_if (vt_not (vt_val (v_callU (c__law_same T 6) (hr.mono (by decide)) (takes_of rfl rfl rfl rfl) rfl (va_cons (v_ofN (n_lc (own := [("one", 26)]) (c := tYes1) (f := f_law_9) rfl S_law.nd (vi_list (v_var 14)) rfl (fun _ _ _ _ _ => vg_name 26 S_law.nd) (fun _ _ _ _ _ => vts_nil) (fun _ _ _ _ _ => v_callU (c__law_told T) (hr.mono (by decide)) takes0 rfl (va_cons (v_ix rb_ix ix_seq (v_var 26) (v_int)) (va_cons (v_ix rb_ix ix_seq (v_var 26) (v_int)) (va_cons (v_ix rb_ix ix_seq (v_var 26) (v_int)) (va_cons (v_ix rb_ix ix_seq (v_var 26) (v_int)) (va_nil)))))))) (va_cons (v_op rb_mul op_mulA (v_lst (va_cons (v_var 2) (va_nil))) (v_int)) (va_nil)))))) (vss_one (vs_ret (v_bl))) (vss_nil)))))))))))))))))))))))
    (vss_one (vs_ret (v_bl))))))
end
/-! ### the head -/
def dd_is_integer : He.DefD := ⟨("is_integer", none), "is_integer", "is_integer", defArgs st_is_integer, defBody st_is_integer, defScope st_is_integer, [], []⟩
def dd_is_within : He.DefD := ⟨("is_within", none), "is_within", "is_within", defArgs st_is_within, defBody st_is_within, defScope st_is_within, [], []⟩
def dd_is_key : He.DefD := ⟨("is_key", none), "is_key", "is_key", defArgs st_is_key, defBody st_is_key, defScope st_is_key, [], []⟩
def dd_is_clock_judge : He.DefD := ⟨("is_clock_judge", none), "is_clock_judge", "is_clock_judge", defArgs st_is_clock_judge, defBody st_is_clock_judge, defScope st_is_clock_judge, [], []⟩
def dd_is_clock : He.DefD := ⟨("is_clock", none), "is_clock", "is_clock", defArgs st_is_clock, defBody st_is_clock, defScope st_is_clock, [], []⟩
def dd__law_draws : He.DefD := ⟨("_law_draws", none), "_law_draws", "_law_draws", defArgs st__law_draws, defBody st__law_draws, defScope st__law_draws, [], []⟩
def dd__law_take : He.DefD := ⟨("_law_take", none), "_law_take", "_law_take", defArgs st__law_take, defBody st__law_take, defScope st__law_take, [], []⟩
def dd__law_pick : He.DefD := ⟨("_law_pick", none), "_law_pick", "_law_pick", defArgs st__law_pick, defBody st__law_pick, defScope st__law_pick, [], []⟩
def dd__law_same : He.DefD := ⟨("_law_same", none), "_law_same", "_law_same", defArgs st__law_same, defBody st__law_same, defScope st__law_same, [], []⟩
def dd__law_code : He.DefD := ⟨("_law_code", none), "_law_code", "_law_code", defArgs st__law_code, defBody st__law_code, defScope st__law_code, [], []⟩
def dd__law_key : He.DefD := ⟨("_law_key", none), "_law_key", "_law_key", defArgs st__law_key, defBody st__law_key, defScope st__law_key, [], []⟩
def dd__law_judge : He.DefD := ⟨("_law_judge", none), "_law_judge", "_law_judge", defArgs st__law_judge, defBody st__law_judge, defScope st__law_judge, [], []⟩
def dd__law_looked : He.DefD := ⟨("_law_looked", none), "_law_looked", "_law_looked", defArgs st__law_looked, defBody st__law_looked, defScope st__law_looked, [], []⟩
def dd_check : He.DefD := ⟨("check", none), "check", "check", defArgs st_check, defBody st_check, defScope st_check, [], []⟩
def dd_is_count : He.DefD := ⟨("is_count", none), "is_count", "is_count", defArgs st_is_count, defBody st_is_count, defScope st_is_count, [], []⟩
def dd_check_judge : He.DefD := ⟨("check_judge", none), "check_judge", "check_judge", defArgs st_check_judge, defBody st_check_judge, defScope st_check_judge, [], []⟩
def dd_due_by : He.DefD := ⟨("due_by", none), "due_by", "due_by", defArgs st_due_by, defBody st_due_by, defScope st_due_by, [], []⟩
def dd_due_count : He.DefD := ⟨("due_count", none), "due_count", "due_count", defArgs st_due_count, defBody st_due_count, defScope st_due_count, [], []⟩
def dd_looked_by : He.DefD := ⟨("looked_by", none), "looked_by", "looked_by", defArgs st_looked_by, defBody st_looked_by, defScope st_looked_by, [], []⟩
def dd_looked_at : He.DefD := ⟨("looked_at", none), "looked_at", "looked_at", defArgs st_looked_at, defBody st_looked_at, defScope st_looked_at, [], []⟩
def dd_value_by : He.DefD := ⟨("value_by", none), "value_by", "value_by", defArgs st_value_by, defBody st_value_by, defScope st_value_by, [], []⟩
def dd_power : He.DefD := ⟨("power", none), "power", "power", defArgs st_power, defBody st_power, defScope st_power, [], []⟩
def dd_told : He.DefD := ⟨("told", none), "told", "told", defArgs st_told, defBody st_told, defScope st_told, [], []⟩
def dd_code_by : He.DefD := ⟨("code_by", none), "code_by", "code_by", defArgs st_code_by, defBody st_code_by, defScope st_code_by, [], []⟩
def dd_met_by : He.DefD := ⟨("met_by", none), "met_by", "met_by", defArgs st_met_by, defBody st_met_by, defScope st_met_by, [], []⟩
def dd_are_figures : He.DefD := ⟨("are_figures", none), "are_figures", "are_figures", defArgs st_are_figures, defBody st_are_figures, defScope st_are_figures, [], []⟩
def dd_check_code : He.DefD := ⟨("check_code", none), "check_code", "check_code", defArgs st_check_code, defBody st_check_code, defScope st_check_code, [], []⟩
def dd_clock_met : He.DefD := ⟨("clock_met", none), "clock_met", "clock_met", defArgs st_clock_met, defBody st_clock_met, defScope st_clock_met, [], []⟩
def dd_judged_by : He.DefD := ⟨("judged_by", none), "judged_by", "judged_by", defArgs st_judged_by, defBody st_judged_by, defScope st_judged_by, [], []⟩
def dd_clock_judged : He.DefD := ⟨("clock_judged", none), "clock_judged", "clock_judged", defArgs st_clock_judged, defBody st_clock_judged, defScope st_clock_judged, [], []⟩
def dd_count_by : He.DefD := ⟨("count_by", none), "count_by", "count_by", defArgs st_count_by, defBody st_count_by, defScope st_count_by, [], []⟩
def dd_clock_count : He.DefD := ⟨("clock_count", none), "clock_count", "clock_count", defArgs st_clock_count, defBody st_clock_count, defScope st_clock_count, [], []⟩
def dd_taken_at : He.DefD := ⟨("taken_at", none), "taken_at", "taken_at", defArgs st_taken_at, defBody st_taken_at, defScope st_taken_at, [], []⟩
def dd__law_flags : He.DefD := ⟨("_law_flags", none), "_law_flags", "_law_flags", defArgs st__law_flags, defBody st__law_flags, defScope st__law_flags, [], []⟩
def dd__law_told : He.DefD := ⟨("_law_told", none), "_law_told", "_law_told", defArgs st__law_told, defBody st__law_told, defScope st__law_told, [], []⟩
def dd_law : He.DefD := ⟨("law", none), "law", "law", defArgs st_law, defBody st_law, defScope st_law, [], []⟩
def fnL : List He.DefD := [dd_is_integer, dd_is_within, dd_is_key, dd_is_clock_judge, dd_is_clock, dd__law_draws, dd__law_take, dd__law_pick, dd__law_same, dd__law_code, dd__law_key, dd__law_judge, dd__law_looked, dd_check, dd_is_count, dd_check_judge, dd_due_by, dd_due_count, dd_looked_by, dd_looked_at, dd_value_by, dd_power, dd_told, dd_code_by, dd_met_by, dd_are_figures, dd_check_code, dd_clock_met, dd_judged_by, dd_clock_judged, dd_count_by, dd_clock_count, dd_taken_at, dd__law_flags, dd__law_told, dd_law]
def ckL : List (PySem.W.Frag → Bool) := [ckKit "NotRight" "Malformed" false, ckKit "NotRight" "NoAnswer" false, ckKit "NotRight" "NotRight" true, ckKit "NotRight" "NotThere" false, ckKit "NotRight" "TooLarge" false, ckExc "NotRight"]
def faL : List He.Fa := [.glo "is_integer", .glo "is_within", .glo "is_key", .glo "is_clock_judge", .glo "is_clock", .glo "_law_draws", .glo "_law_take", .glo "_law_pick", .glo "_law_same", .glo "_law_code", .glo "_law_key", .glo "_law_judge", .glo "_law_looked", .glo "check", .glo "is_count", .glo "check_judge", .glo "due_by", .glo "due_count", .glo "looked_by", .glo "looked_at", .glo "value_by", .glo "power", .glo "told", .glo "code_by", .glo "met_by", .glo "are_figures", .glo "check_code", .glo "clock_met", .glo "judged_by", .glo "clock_judged", .glo "count_by", .glo "clock_count", .glo "taken_at", .glo "_law_flags", .glo "_law_told", .glo "law", .free "abs", .free "all", .free "bool", .free "dict", .free "int", .free "isinstance", .free "len", .free "list", .free "max", .free "range", .free "reversed", .free "set", .free "sorted", .free "str", .free "tuple", .int "LONGEST_STEP" 600, .int "MILLION" 1000000, .int "MOST_DIGITS" 6, .int "MOST_RATE" 500000, .int "MOST_SLACK" 20, .int "PRIME" 1000003, .exc "NotRight", .glo "NotRight", .glo "CodeError", .glo "Malformed", .glo "NoAnswer", .glo "NotRight", .glo "NotThere", .glo "TooLarge", .exm "NotRight" "CodeError" true]
theorem tx_of {K : PySem.W.Frag} {h : Heap} {mg : Str → Option Value} (X : K.In h) (G : h.Ns mainGlobals mg) (c : He.SaysD faL fnL K) (ck : ckAll ckL K = true) : Tx K mg :=
  {
    d_is_integer := by
      obtain ⟨fd, F⟩ := c.def_ 0 (d := dd_is_integer) rfl
      exact ⟨_, fd, He5.fun_of (st := st_is_integer) F, He.glo_ok X G (c.fact 0 (f := .glo "is_integer") rfl), F.kp, FunD.bindsN F fun _ _ _ _ _ _ us hl => match us, hl with | [_], _ => rfl⟩
    d_is_within := by
      obtain ⟨fd, F⟩ := c.def_ 1 (d := dd_is_within) rfl
      exact ⟨_, fd, He5.fun_of (st := st_is_within) F, He.glo_ok X G (c.fact 1 (f := .glo "is_within") rfl), F.kp, FunD.bindsN F fun _ _ _ _ _ _ us hl => match us, hl with | [_, _, _], _ => rfl⟩
    d_is_key := by
      obtain ⟨fd, F⟩ := c.def_ 2 (d := dd_is_key) rfl
      exact ⟨_, fd, He5.fun_of (st := st_is_key) F, He.glo_ok X G (c.fact 2 (f := .glo "is_key") rfl), F.kp, FunD.bindsN F fun _ _ _ _ _ _ us hl => match us, hl with | [_], _ => rfl⟩
    d_is_clock_judge := by
      obtain ⟨fd, F⟩ := c.def_ 3 (d := dd_is_clock_judge) rfl
      exact ⟨_, fd, He5.fun_of (st := st_is_clock_judge) F, He.glo_ok X G (c.fact 3 (f := .glo "is_clock_judge") rfl), F.kp, FunD.bindsN F fun _ _ _ _ _ _ us hl => match us, hl with | [_], _ => rfl⟩
    d_is_clock := by
      obtain ⟨fd, F⟩ := c.def_ 4 (d := dd_is_clock) rfl
      exact ⟨_, fd, He5.fun_of (st := st_is_clock) F, He.glo_ok X G (c.fact 4 (f := .glo "is_clock") rfl), F.kp, FunD.bindsN F fun _ _ _ _ _ _ us hl => match us, hl with | [_], _ => rfl⟩
    d__law_draws := by
      obtain ⟨fd, F⟩ := c.def_ 5 (d := dd__law_draws) rfl
      exact ⟨_, fd, He5.fun_of (st := st__law_draws) F, He.glo_ok X G (c.fact 5 (f := .glo "_law_draws") rfl), F.kp, FunD.bindsN F fun _ _ _ _ _ _ us hl => match us, hl with | [_], _ => rfl⟩
    d__law_take := by
      obtain ⟨fd, F⟩ := c.def_ 6 (d := dd__law_take) rfl
      exact ⟨_, fd, He5.fun_of (st := st__law_take) F, He.glo_ok X G (c.fact 6 (f := .glo "_law_take") rfl), F.kp, FunD.bindsN F fun _ _ _ _ _ _ us hl => match us, hl with | [_, _], _ => rfl⟩
    d__law_pick := by
      obtain ⟨fd, F⟩ := c.def_ 7 (d := dd__law_pick) rfl
      exact ⟨_, fd, He5.fun_of (st := st__law_pick) F, He.glo_ok X G (c.fact 7 (f := .glo "_law_pick") rfl), F.kp, FunD.bindsN F fun _ _ _ _ _ _ us hl => match us, hl with | [_, _], _ => rfl⟩
    d__law_same := by
      obtain ⟨fd, F⟩ := c.def_ 8 (d := dd__law_same) rfl
      exact ⟨_, fd, He5.fun_of (st := st__law_same) F, He.glo_ok X G (c.fact 8 (f := .glo "_law_same") rfl), F.kp, FunD.bindsN F fun _ _ _ _ _ _ us hl => match us, hl with | [_, _], _ => rfl⟩
    d__law_code := by
      obtain ⟨fd, F⟩ := c.def_ 9 (d := dd__law_code) rfl
      exact ⟨_, fd, He5.fun_of (st := st__law_code) F, He.glo_ok X G (c.fact 9 (f := .glo "_law_code") rfl), F.kp, FunD.bindsN F fun _ _ _ _ _ _ us hl => match us, hl with | [_, _], _ => rfl⟩
    d__law_key := by
      obtain ⟨fd, F⟩ := c.def_ 10 (d := dd__law_key) rfl
      exact ⟨_, fd, He5.fun_of (st := st__law_key) F, He.glo_ok X G (c.fact 10 (f := .glo "_law_key") rfl), F.kp, FunD.bindsN F fun _ _ _ _ _ _ us hl => match us, hl with | [_], _ => rfl⟩
    d__law_judge := by
      obtain ⟨fd, F⟩ := c.def_ 11 (d := dd__law_judge) rfl
      exact ⟨_, fd, He5.fun_of (st := st__law_judge) F, He.glo_ok X G (c.fact 11 (f := .glo "_law_judge") rfl), F.kp, FunD.bindsN F fun _ _ _ _ _ _ us hl => match us, hl with | [_, _], _ => rfl⟩
    d__law_looked := by
      obtain ⟨fd, F⟩ := c.def_ 12 (d := dd__law_looked) rfl
      exact ⟨_, fd, He5.fun_of (st := st__law_looked) F, He.glo_ok X G (c.fact 12 (f := .glo "_law_looked") rfl), F.kp, FunD.bindsN F fun _ _ _ _ _ _ us hl => match us, hl with | [_, _], _ => rfl⟩
    d_check := by
      obtain ⟨fd, F⟩ := c.def_ 13 (d := dd_check) rfl
      exact ⟨_, fd, He5.fun_of (st := st_check) F, He.glo_ok X G (c.fact 13 (f := .glo "check") rfl), F.kp, FunD.bindsN F fun _ _ _ _ _ _ us hl => match us, hl with | [_], _ => rfl⟩
    d_is_count := by
      obtain ⟨fd, F⟩ := c.def_ 14 (d := dd_is_count) rfl
      exact ⟨_, fd, He5.fun_of (st := st_is_count) F, He.glo_ok X G (c.fact 14 (f := .glo "is_count") rfl), F.kp, FunD.bindsN F fun _ _ _ _ _ _ us hl => match us, hl with | [_], _ => rfl⟩
    d_check_judge := by
      obtain ⟨fd, F⟩ := c.def_ 15 (d := dd_check_judge) rfl
      exact ⟨_, fd, He5.fun_of (st := st_check_judge) F, He.glo_ok X G (c.fact 15 (f := .glo "check_judge") rfl), F.kp, FunD.bindsN F fun _ _ _ _ _ _ us hl => match us, hl with | [_], _ => rfl⟩
    d_due_by := by
      obtain ⟨fd, F⟩ := c.def_ 16 (d := dd_due_by) rfl
      exact ⟨_, fd, He5.fun_of (st := st_due_by) F, He.glo_ok X G (c.fact 16 (f := .glo "due_by") rfl), F.kp, FunD.bindsN F fun _ _ _ _ _ _ us hl => match us, hl with | [_, _], _ => rfl⟩
    d_due_count := by
      obtain ⟨fd, F⟩ := c.def_ 17 (d := dd_due_count) rfl
      exact ⟨_, fd, He5.fun_of (st := st_due_count) F, He.glo_ok X G (c.fact 17 (f := .glo "due_count") rfl), F.kp, FunD.bindsN F fun _ _ _ _ _ _ us hl => match us, hl with | [_, _], _ => rfl⟩
    d_looked_by := by
      obtain ⟨fd, F⟩ := c.def_ 18 (d := dd_looked_by) rfl
      exact ⟨_, fd, He5.fun_of (st := st_looked_by) F, He.glo_ok X G (c.fact 18 (f := .glo "looked_by") rfl), F.kp, FunD.bindsN F fun _ _ _ _ _ _ us hl => match us, hl with | [_, _], _ => rfl⟩
    d_looked_at := by
      obtain ⟨fd, F⟩ := c.def_ 19 (d := dd_looked_at) rfl
      exact ⟨_, fd, He5.fun_of (st := st_looked_at) F, He.glo_ok X G (c.fact 19 (f := .glo "looked_at") rfl), F.kp, FunD.bindsN F fun _ _ _ _ _ _ us hl => match us, hl with | [_, _], _ => rfl⟩
    d_value_by := by
      obtain ⟨fd, F⟩ := c.def_ 20 (d := dd_value_by) rfl
      exact ⟨_, fd, He5.fun_of (st := st_value_by) F, He.glo_ok X G (c.fact 20 (f := .glo "value_by") rfl), F.kp, FunD.bindsN F fun _ _ _ _ _ _ us hl => match us, hl with | [_, _], _ => rfl⟩
    d_power := by
      obtain ⟨fd, F⟩ := c.def_ 21 (d := dd_power) rfl
      exact ⟨_, fd, He5.fun_of (st := st_power) F, He.glo_ok X G (c.fact 21 (f := .glo "power") rfl), F.kp, FunD.bindsN F fun _ _ _ _ _ _ us hl => match us, hl with | [_, _], _ => rfl⟩
    d_told := by
      obtain ⟨fd, F⟩ := c.def_ 22 (d := dd_told) rfl
      exact ⟨_, fd, He5.fun_of (st := st_told) F, He.glo_ok X G (c.fact 22 (f := .glo "told") rfl), F.kp, FunD.bindsN F fun _ _ _ _ _ _ us hl => match us, hl with | [_, _], _ => rfl⟩
    d_code_by := by
      obtain ⟨fd, F⟩ := c.def_ 23 (d := dd_code_by) rfl
      exact ⟨_, fd, He5.fun_of (st := st_code_by) F, He.glo_ok X G (c.fact 23 (f := .glo "code_by") rfl), F.kp, FunD.bindsN F fun _ _ _ _ _ _ us hl => match us, hl with | [_, _], _ => rfl⟩
    d_met_by := by
      obtain ⟨fd, F⟩ := c.def_ 24 (d := dd_met_by) rfl
      exact ⟨_, fd, He5.fun_of (st := st_met_by) F, He.glo_ok X G (c.fact 24 (f := .glo "met_by") rfl), F.kp, FunD.bindsN F fun _ _ _ _ _ _ us hl => match us, hl with | [_, _, _], _ => rfl⟩
    d_are_figures := by
      obtain ⟨fd, F⟩ := c.def_ 25 (d := dd_are_figures) rfl
      exact ⟨_, fd, He5.fun_of (st := st_are_figures) F, He.glo_ok X G (c.fact 25 (f := .glo "are_figures") rfl), F.kp, FunD.bindsN F fun _ _ _ _ _ _ us hl => match us, hl with | [_, _], _ => rfl⟩
    d_check_code := by
      obtain ⟨fd, F⟩ := c.def_ 26 (d := dd_check_code) rfl
      exact ⟨_, fd, He5.fun_of (st := st_check_code) F, He.glo_ok X G (c.fact 26 (f := .glo "check_code") rfl), F.kp, FunD.bindsN F fun _ _ _ _ _ _ us hl => match us, hl with | [_, _, _], _ => rfl⟩
    d_clock_met := by
      obtain ⟨fd, F⟩ := c.def_ 27 (d := dd_clock_met) rfl
      exact ⟨_, fd, He5.fun_of (st := st_clock_met) F, He.glo_ok X G (c.fact 27 (f := .glo "clock_met") rfl), F.kp, FunD.bindsN F fun _ _ _ _ _ _ us hl => match us, hl with | [_, _, _], _ => rfl⟩
    d_judged_by := by
      obtain ⟨fd, F⟩ := c.def_ 28 (d := dd_judged_by) rfl
      exact ⟨_, fd, He5.fun_of (st := st_judged_by) F, He.glo_ok X G (c.fact 28 (f := .glo "judged_by") rfl), F.kp, FunD.bindsN F fun _ _ _ _ _ _ us hl => match us, hl with | [_, _, _], _ => rfl⟩
    d_clock_judged := by
      obtain ⟨fd, F⟩ := c.def_ 29 (d := dd_clock_judged) rfl
      exact ⟨_, fd, He5.fun_of (st := st_clock_judged) F, He.glo_ok X G (c.fact 29 (f := .glo "clock_judged") rfl), F.kp, FunD.bindsN F fun _ _ _ _ _ _ us hl => match us, hl with | [_, _, _], _ => rfl⟩
    d_count_by := by
      obtain ⟨fd, F⟩ := c.def_ 30 (d := dd_count_by) rfl
      exact ⟨_, fd, He5.fun_of (st := st_count_by) F, He.glo_ok X G (c.fact 30 (f := .glo "count_by") rfl), F.kp, FunD.bindsN F fun _ _ _ _ _ _ us hl => match us, hl with | [_, _, _], _ => rfl⟩
    d_clock_count := by
      obtain ⟨fd, F⟩ := c.def_ 31 (d := dd_clock_count) rfl
      exact ⟨_, fd, He5.fun_of (st := st_clock_count) F, He.glo_ok X G (c.fact 31 (f := .glo "clock_count") rfl), F.kp, FunD.bindsN F fun _ _ _ _ _ _ us hl => match us, hl with | [_, _, _], _ => rfl⟩
    d_taken_at := by
      obtain ⟨fd, F⟩ := c.def_ 32 (d := dd_taken_at) rfl
      exact ⟨_, fd, He5.fun_of (st := st_taken_at) F, He.glo_ok X G (c.fact 32 (f := .glo "taken_at") rfl), F.kp, FunD.bindsN F fun _ _ _ _ _ _ us hl => match us, hl with | [_, _], _ => rfl⟩
    d__law_flags := by
      obtain ⟨fd, F⟩ := c.def_ 33 (d := dd__law_flags) rfl
      exact ⟨_, fd, He5.fun_of (st := st__law_flags) F, He.glo_ok X G (c.fact 33 (f := .glo "_law_flags") rfl), F.kp, FunD.bindsN F fun _ _ _ _ _ _ us hl => match us, hl with | [_], _ => rfl⟩
    d__law_told := by
      obtain ⟨fd, F⟩ := c.def_ 34 (d := dd__law_told) rfl
      exact ⟨_, fd, He5.fun_of (st := st__law_told) F, He.glo_ok X G (c.fact 34 (f := .glo "_law_told") rfl), F.kp, FunD.bindsN F fun _ _ _ _ _ _ us hl => match us, hl with | [_, _, _, _], _ => rfl⟩
    d_law := by
      obtain ⟨fd, F⟩ := c.def_ 35 (d := dd_law) rfl
      exact ⟨_, fd, He5.fun_of (st := st_law) F, He.glo_ok X G (c.fact 35 (f := .glo "law") rfl), F.kp, FunD.bindsN F fun _ _ _ _ _ _ us hl => match us, hl with | [_], _ => rfl⟩
    b_abs := He.free_ok X G (c.fact 36 (f := .free "abs") rfl)
    b_all := He.free_ok X G (c.fact 37 (f := .free "all") rfl)
    b_bool := He.free_ok X G (c.fact 38 (f := .free "bool") rfl)
    b_dict := He.free_ok X G (c.fact 39 (f := .free "dict") rfl)
    b_int := He.free_ok X G (c.fact 40 (f := .free "int") rfl)
    b_isinstance := He.free_ok X G (c.fact 41 (f := .free "isinstance") rfl)
    b_len := He.free_ok X G (c.fact 42 (f := .free "len") rfl)
    b_list := He.free_ok X G (c.fact 43 (f := .free "list") rfl)
    b_max := He.free_ok X G (c.fact 44 (f := .free "max") rfl)
    b_range := He.free_ok X G (c.fact 45 (f := .free "range") rfl)
    b_reversed := He.free_ok X G (c.fact 46 (f := .free "reversed") rfl)
    b_set := He.free_ok X G (c.fact 47 (f := .free "set") rfl)
    b_sorted := He.free_ok X G (c.fact 48 (f := .free "sorted") rfl)
    b_str := He.free_ok X G (c.fact 49 (f := .free "str") rfl)
    b_tuple := He.free_ok X G (c.fact 50 (f := .free "tuple") rfl)
    i_LONGEST_STEP := He.int_ok X G (c.fact 51 (f := .int "LONGEST_STEP" 600) rfl)
    i_MILLION := He.int_ok X G (c.fact 52 (f := .int "MILLION" 1000000) rfl)
    i_MOST_DIGITS := He.int_ok X G (c.fact 53 (f := .int "MOST_DIGITS" 6) rfl)
    i_MOST_RATE := He.int_ok X G (c.fact 54 (f := .int "MOST_RATE" 500000) rfl)
    i_MOST_SLACK := He.int_ok X G (c.fact 55 (f := .int "MOST_SLACK" 20) rfl)
    i_PRIME := He.int_ok X G (c.fact 56 (f := .int "PRIME" 1000003) rfl)
    e_NotRight := by
      obtain ⟨h1, h2, h3, h4⟩ := He.exc_ok (c.fact 57 (f := .exc "NotRight") rfl)
      exact ⟨_, He.glo_ok X G (c.fact 58 (f := .glo "NotRight") rfl), h1, h2, h3, h4⟩
    h_CodeError := ⟨_, He.glo_ok X G (c.fact 59 (f := .glo "CodeError") rfl)⟩
    p_NotRight_CodeError := ⟨_, _, (He.glo_ok X G (c.fact 58 (f := .glo "NotRight") rfl)), (He.glo_ok X G (c.fact 59 (f := .glo "CodeError") rfl)), He.exm_ok (c.fact 65 (f := .exm "NotRight" "CodeError" true) rfl)⟩
    k_NotRight_Malformed := ⟨_, _, (He.glo_ok X G (c.fact 58 (f := .glo "NotRight") rfl)), (He.glo_ok X G (c.fact 60 (f := .glo "Malformed") rfl)), of_decide_eq_true (ckAll_get ck 0 (c := ckKit "NotRight" "Malformed" false) rfl)⟩
    k_NotRight_NoAnswer := ⟨_, _, (He.glo_ok X G (c.fact 58 (f := .glo "NotRight") rfl)), (He.glo_ok X G (c.fact 61 (f := .glo "NoAnswer") rfl)), of_decide_eq_true (ckAll_get ck 1 (c := ckKit "NotRight" "NoAnswer" false) rfl)⟩
    k_NotRight_NotRight := ⟨_, _, (He.glo_ok X G (c.fact 58 (f := .glo "NotRight") rfl)), (He.glo_ok X G (c.fact 58 (f := .glo "NotRight") rfl)), of_decide_eq_true (ckAll_get ck 2 (c := ckKit "NotRight" "NotRight" true) rfl)⟩
    k_NotRight_NotThere := ⟨_, _, (He.glo_ok X G (c.fact 58 (f := .glo "NotRight") rfl)), (He.glo_ok X G (c.fact 63 (f := .glo "NotThere") rfl)), of_decide_eq_true (ckAll_get ck 3 (c := ckKit "NotRight" "NotThere" false) rfl)⟩
    k_NotRight_TooLarge := ⟨_, _, (He.glo_ok X G (c.fact 58 (f := .glo "NotRight") rfl)), (He.glo_ok X G (c.fact 64 (f := .glo "TooLarge") rfl)), of_decide_eq_true (ckAll_get ck 4 (c := ckKit "NotRight" "TooLarge" false) rfl)⟩
    a_NotRight := ⟨_, (He.glo_ok X G (c.fact 58 (f := .glo "NotRight") rfl)), ckExc_ok (ckAll_get ck 5 (c := ckExc "NotRight") rfl)⟩
  }
end Lw
set_option maxHeartbeats 1000000
namespace Lw
open Mi
/-! ### sizes -/
def Bd (x : Int) (n : Nat) : Prop := x.natAbs ≤ 2 ^ n
theorem Bd.log {x : Int} {n : Nat} (h : Bd x n) : x.natAbs.log2 ≤ n := by
  by_cases c : x.natAbs = 0
  · rw [c]; exact Nat.zero_le _
  · have h1 : x.natAbs < 2 ^ (n + 1) := Nat.lt_of_le_of_lt h (Nat.pow_lt_pow_right (by omega) (by omega))
    have := (Nat.log2_lt c).2 h1
    omega
theorem Bd.mul {x y : Int} {a b : Nat} (h : Bd x a) (k : Bd y b) : Bd (x * y) (a + b) := by
  unfold Bd
  rw [Int.natAbs_mul, Nat.pow_add]
  exact Nat.mul_le_mul h k
theorem Bd.mono {x : Int} {a b : Nat} (h : Bd x a) (k : a ≤ b) : Bd x b := Nat.le_trans h (Nat.pow_le_pow_right (by omega) k)
theorem Bd.pow {x : Int} {a : Nat} (h : Bd x a) : ∀ n : Nat, Bd (x ^ n) (a * n)
  | 0 => by unfold Bd; simp
  | n + 1 => by
    rw [Int.pow_succ, Nat.mul_succ]
    exact (Bd.pow h n).mul h
theorem Bd.le {x y : Int} {a : Nat} (h : Bd y a) (h0 : 0 ≤ x) (h1 : x ≤ y) : Bd x a := by
  unfold Bd at *
  omega
theorem Bd.sub {x y : Int} {a : Nat} (h : Bd x a) (k : Bd y a) : Bd (x - y) (a + 1) := by
  unfold Bd at *
  rw [Nat.pow_succ]
  omega
theorem Bd.add {x y : Int} {a : Nat} (h : Bd x a) (k : Bd y a) : Bd (x + y) (a + 1) := by
  unfold Bd at *
  rw [Nat.pow_succ]
  omega
theorem mul_ok {x y : Int} {a b : Nat} (h : Bd x a) (k : Bd y b) (l : a + b < 100000000) : mulOk x y = true := by
  have := h.log
  have := k.log
  unfold mulOk
  exact decide_eq_true (by omega)
theorem div_ok {x y : Int} (h0 : 0 < y) (h : Bd y 8999 ∨ Bd x 13499) : divXOk x y = true := by
  rw [divXOk_iff]
  refine ⟨h0, h.imp (fun h => ?_) fun h => ?_⟩
  · have := h.log; omega
  · have := h.log; omega
theorem mod_ok {x y : Int} (h0 : 0 < y) : modOk x y = true := decide_eq_true h0
theorem r62_of {x : Int} (h0 : 0 ≤ x) (h : x ≤ 1000000) : r62 x = true := by
  exact r62_iff.2 ⟨by omega, by omega⟩
theorem Bd.small {x : Int} (h0 : 0 ≤ x) (h : x ≤ 1000000000000) : Bd x 40 := by
  unfold Bd
  have : (2 : Nat) ^ 40 = 1099511627776 := by decide
  omega
theorem rangeD_succ (lo : Int) (n : Nat) : rangeD lo (n + 1) = .int lo :: rangeD (lo + 1) n := by
  unfold rangeD
  rw [List.range_succ_eq_map, List.map_cons, List.map_map]
  congr 1
  · rw [show lo + ((0 : Nat) : Int) = lo by omega]
  · refine List.map_congr_left fun a _ => ?_
    show D.int (lo + ((a + 1 : Nat) : Int)) = D.int (lo + 1 + (a : Int))
    rw [show lo + ((a + 1 : Nat) : Int) = lo + 1 + (a : Int) by omega]
/-- a for that returns the first that fits -/
theorem for_first {b : FS} {mk : Sl → En} {i : Nat} {T : Nat → Bool} {lo hi : Nat} (hG : ∀ s d, gN i d (mk s) = some (mk (.val d))) (hb : ∀ j : Nat, lo ≤ j → j < hi → b (mk (.val (.int j))) = if T j = true then .ok (.rt (.int j) (mk (.val (.int j)))) else .ok (.nx (mk (.val (.int j))))) :
    ∀ (n k : Nat) (s : Sl), lo ≤ k → k + n = hi →
      (∃ j, k ≤ j ∧ j < hi ∧ T j = true ∧ (∀ x, k ≤ x → x < j → T x = false) ∧ ∃ e, forF (gN i) b (rangeD k n) (mk s) = .ok (.rt (.int j) e)) ∨
      ((∀ x, k ≤ x → x < hi → T x = false) ∧ ∃ s', forF (gN i) b (rangeD k n) (mk s) = .ok (.nx (mk s')))
  | 0, k, s, hk, hn => .inr ⟨fun x h1 h2 => by omega, s, rfl⟩
  | n + 1, k, s, hk, hn => by
    have hbk := hb k hk (by omega)
    by_cases c : T k = true
    · refine .inl ⟨k, Nat.le_refl _, by omega, c, fun x h1 h2 => by omega, mk (.val (.int k)), ?_⟩
      rw [if_pos c] at hbk
      rw [rangeD_succ, forF]
      simp only [hG, hbk]
    · rw [if_neg c] at hbk
      have step : forF (gN i) b (rangeD k (n + 1)) (mk s) = forF (gN i) b (rangeD ((k + 1 : Nat) : Int) n) (mk (.val (.int k))) := by
        rw [rangeD_succ, forF]
        simp only [hG, hbk]
        rfl
      have c' : T k = false := by simpa using c
      rcases for_first hG hb n (k + 1) (.val (.int k)) (by omega) (by omega) with ⟨j, q1, q2, q3, q4, e, q5⟩ | ⟨q1, s', q2⟩
      · refine .inl ⟨j, by omega, q2, q3, fun x h1 h2 => ?_, e, by rw [step]; exact q5⟩
        by_cases x0 : x = k
        · subst x0; exact c'
        · exact q4 x (by omega) h2
      · refine .inr ⟨fun x h1 h2 => ?_, s', by rw [step]; exact q2⟩
        by_cases x0 : x = k
        · subst x0; exact c'
        · exact q1 x (by omega) h2
end Lw
namespace Lw
open Mi
theorem take_ok (ns : List Int) {b : Int} (hb : 0 < b) : ∃ r ms, F__law_take ns [.int b] = .ok (.int r, ms) ∧ 0 ≤ r ∧ r < b := by
  rcases List.eq_nil_or_concat ns with rfl | ⟨l, x, rfl⟩
  · refine ⟨0, [], ?_, by omega, hb⟩
    unfold F__law_take
    rfl
  · refine ⟨x % b, l, ?_, Int.emod_nonneg _ (by omega), Int.emod_lt_of_pos _ hb⟩
    have e1 : (l ++ [x]).map D.int = l.map D.int ++ [D.int x] := by simp
    have e2 : (l.map D.int ++ [D.int x]).getLast? = some (.int x) := by simp
    have e3 : (l.map D.int ++ [D.int x]).dropLast = l.map D.int := by simp
    have e4 : decide ((((l.map D.int ++ [D.int x]).length : Nat) : Int) = 0) = false := decide_eq_false (by simp; omega)
    have e5 := intsOf_map l
    have m := mod_ok (x := x) hb
    unfold F__law_take
    simp only [runB, m__law_take, List.concat_eq_append, e1]
    generalize l.map D.int ++ [D.int x] = ll at *
    generalize l.map D.int = l2 at *
    as_aux_lemma =>
      simp only [seq_ap, Mi.mi0, Mi.mi1, Mi.mi2, Mi.mi3, Mi.mi4, Mi.mi5, Mi.mo0, Mi.mo1, Mi.mo2, Mi.mo3, Mi.mo8, Bool.false_eq_true, Mi.mo9, Nat.reduceAdd, Nat.reduceSub, Nat.reduceLeDiff, Nat.reduceLT, Nat.reduceEqDiff, Mi.mt0, List.getElem?_cons_zero, List.getElem?_cons_succ, List.set_cons_zero, List.set_cons_succ, List.map_cons, List.map_nil, List.length_cons, List.length_nil, List.nil_append, List.cons_append, List.append_nil, List.replicate_succ, List.replicate_zero, lim_v, reduceIte, decide_true, decide_false, Bool.not_true, Bool.not_false, Option.bind_some, Mi.lst_no, Mi.par2, Mi.par3, eq_self, and_self, Mi.mi6, Mi.mi7, Mi.mi8, Mi.mi9, Option.map_some, Mi.mi10, Mi.mi11, Mi.mi12, Mi.mi13, Mi.mi14, Mi.mi15, ePop, e2, e3, e4, e5, m, Sl.turn]
theorem pick_ok (ns : List Int) {ds : List D} (hd : ds ≠ []) : ∃ d ms, F__law_pick ns [.lst ds] = .ok (d, ms) ∧ d ∈ ds := by
  have hl : 0 < ds.length := List.length_pos_iff.2 hd
  obtain ⟨r, ms, h1, h2, h3⟩ := take_ok ns (b := (ds.length : Int)) (by omega)
  obtain ⟨k, rfl⟩ : ∃ k : Nat, r = (k : Int) := ⟨r.toNat, by omega⟩
  have hk : k < ds.length := by omega
  have g := L2.atI_nat (xs := ds) (j := k) (v := ds[k]) (List.getElem?_eq_getElem hk)
  refine ⟨ds[k], ms, ?_, List.getElem_mem hk⟩
  have e1 := intsOf_map ns
  have e2 := intsOf_map ms
  unfold F__law_pick
  simp only [runB, m__law_pick]

  generalize ds[k] = d at *
  generalize F__law_take = q0 at *
  as_aux_lemma =>
    simp only [seq_ap, Mi.mi0, Mi.mi1, Mi.mi2, Mi.mi3, Mi.mi4, Mi.mi5, Mi.mo0, Mi.mo1, Mi.mo2, Mi.mo3, Mi.mo8, Bool.false_eq_true, Mi.mo9, Nat.reduceAdd, Nat.reduceSub, Nat.reduceLeDiff, Nat.reduceLT, Nat.reduceEqDiff, Mi.mt0, List.getElem?_cons_zero, List.getElem?_cons_succ, List.set_cons_zero, List.set_cons_succ, List.map_cons, List.map_nil, List.length_cons, List.length_nil, List.nil_append, List.cons_append, List.append_nil, List.replicate_succ, List.replicate_zero, lim_v, reduceIte, decide_true, decide_false, Bool.not_true, Bool.not_false, Option.bind_some, Mi.lst_no, Mi.par2, Mi.par3, eq_self, and_self, Mi.mi6, Mi.mi7, Mi.mi8, Mi.mi9, Option.map_some, Mi.mi10, Mi.mi11, Mi.mi12, Mi.mi13, Mi.mi14, Mi.mi15, eCallB, e1, e2, h1, g, Sl.turn]
end Lw
namespace Lw
open Mi
theorem app_map (ms : List Int) (x : Int) : ms.map D.int ++ [D.int x] = (ms ++ [x]).map D.int := by simp
theorem draws_b0 {s c sd k : Sl} {ms : List Int} {x : Int} (hx : 0 ≤ x) (hl : ms.length < 16777216) :
    ∃ (ms' : List Int) (x' : Int), b__law_draws_0 [s, .own (ms.map D.int), sd, c, k, .val (.int x)] = .ok (.nx [s, .own (ms'.map D.int), sd, c, k, .val (.int x')]) ∧ 0 ≤ x' ∧ ms'.length ≤ ms.length + 1 := by
  by_cases h : 0 < x
  · refine ⟨ms ++ [x % 997], x / 997, ?_, Int.ediv_nonneg hx (by omega), by simp⟩
    have c1 := decide_eq_true h
    have m := mod_ok (x := x) (show (0 : Int) < 997 by omega)
    have dv : divXOk x 997 = true := divXOk_iff.2 ⟨by omega, .inl (by decide)⟩
    have l2 : (ms.map D.int).length < 16777216 := by simpa using hl
    rw [← app_map]
    generalize ms.map D.int = l at *
    unfold b__law_draws_0
    as_aux_lemma =>
      simp only [seq_ap, Mi.mi0, Mi.mi1, Mi.mi2, Mi.mi3, Mi.mi4, Mi.mi5, Mi.mo0, Mi.mo1, Mi.mo2, Mi.mo3, Mi.mo8, Bool.false_eq_true, Mi.mo9, Nat.reduceAdd, Nat.reduceSub, Nat.reduceLeDiff, Nat.reduceLT, Nat.reduceEqDiff, Mi.mt0, List.getElem?_cons_zero, List.getElem?_cons_succ, List.set_cons_zero, List.set_cons_succ, List.map_cons, List.map_nil, List.length_cons, List.length_nil, List.nil_append, List.cons_append, List.append_nil, List.replicate_succ, List.replicate_zero, lim_v, reduceIte, decide_true, decide_false, Bool.not_true, Bool.not_false, Option.bind_some, Mi.lst_no, Mi.par2, Mi.par3, eq_self, and_self, Mi.mi6, Mi.mi7, Mi.mi8, Mi.mi9, Option.map_some, Mi.mi10, Mi.mi11, Mi.mi12, Mi.mi13, Mi.mi14, Mi.mi15, c1, m, dv, l2]
  · refine ⟨ms, x, ?_, hx, by omega⟩
    have c1 := decide_eq_false h
    unfold b__law_draws_0
    as_aux_lemma =>
      simp only [seq_ap, Mi.mi0, Mi.mi1, Mi.mi2, Mi.mi3, Mi.mi4, Mi.mi5, Mi.mo0, Mi.mo1, Mi.mo2, Mi.mo3, Mi.mo8, Bool.false_eq_true, Mi.mo9, Nat.reduceAdd, Nat.reduceSub, Nat.reduceLeDiff, Nat.reduceLT, Nat.reduceEqDiff, Mi.mt0, List.getElem?_cons_zero, List.getElem?_cons_succ, List.set_cons_zero, List.set_cons_succ, List.map_cons, List.map_nil, List.length_cons, List.length_nil, List.nil_append, List.cons_append, List.append_nil, List.replicate_succ, List.replicate_zero, lim_v, reduceIte, decide_true, decide_false, Bool.not_true, Bool.not_false, Option.bind_some, Mi.lst_no, Mi.par2, Mi.par3, eq_self, and_self, Mi.mi6, Mi.mi7, Mi.mi8, Mi.mi9, Option.map_some, Mi.mi10, Mi.mi11, Mi.mi12, Mi.mi13, Mi.mi14, Mi.mi15, c1]
theorem draws_in {s c sd k : Sl} {ms : List Int} {x : Int} (hx : 0 ≤ x) (hl : ms.length < 16000000) :
    ∃ (ms' : List Int) (x' : Int) (k' : Sl), forF (gN 4) b__law_draws_0 (rangeD 0 60) [s, .own (ms.map D.int), sd, c, k, .val (.int x)] = .ok (.nx [s, .own (ms'.map D.int), sd, c, k', .val (.int x')]) ∧ ms'.length ≤ ms.length + 60 := by
  obtain ⟨e', h1, ms', x', k', rfl, _, h3⟩ := for_rng (G := gN 4) (b := b__law_draws_0) (lo := 0) (n := 60) (fun j e => ∃ (ms' : List Int) (x' : Int) (k' : Sl), e = [s, .own (ms'.map D.int), sd, c, k', .val (.int x')] ∧ 0 ≤ x' ∧ ms'.length ≤ ms.length + j)
    ⟨ms, x, k, rfl, hx, by omega⟩ fun j e hj ⟨m1, x1, k1, he, q1, q2⟩ => by
      subst he
      obtain ⟨m2, x2, w1, w2, w3⟩ := draws_b0 (s := s) (c := c) (sd := sd) (k := .val (.int (0 + j))) (ms := m1) q1 (by omega)
      exact ⟨_, _, rfl, w1, m2, x2, _, rfl, w2, by omega⟩
  exact ⟨ms', x', k', h1, h3⟩
theorem draws_b1 {s k nm : Sl} {ms : List Int} {sd n : Int} (h0 : 0 ≤ sd) (h1 : sd < 2147483647) (hl : ms.length < 15000000) :
    ∃ (ms' : List Int) (sd' : Int) (k' nm' : Sl), b__law_draws_1 [s, .own (ms.map D.int), .val (.int sd), .val (.int n), k, nm] = .ok (.nx [s, .own (ms'.map D.int), .val (.int sd'), .val (.int n), k', nm']) ∧ 0 ≤ sd' ∧ sd' < 2147483647 ∧ ms'.length ≤ ms.length + 62 := by
  have x0 : (if n < 0 then -n else n) = (n.natAbs : Int) := by split <;> omega
  generalize hx : (n.natAbs : Int) = x at *
  have px : 0 ≤ x := by omega
  have m1 := mul_ok (Bd.small (x := sd) h0 (by omega)) (Bd.small (x := 48271) (by omega) (by omega)) (by omega)
  have d1 := mod_ok (x := sd * 48271 + x + 1) (show (0 : Int) < 2147483647 by omega)
  have f0 := Int.emod_nonneg (sd * 48271 + x + 1) (show (2147483647 : Int) ≠ 0 by omega)
  have f1 := Int.emod_lt_of_pos (sd * 48271 + x + 1) (show (0 : Int) < 2147483647 by omega)
  obtain ⟨y, hy⟩ : ∃ y, (sd * 48271 + x + 1) % 2147483647 = y := ⟨_, rfl⟩
  rw [hy] at f0 f1
  by_cases c : x < 10 ^ 18
  · have c0 : decide (x < (10 : Int) ^ (18 : Int).toNat) = true := decide_eq_true c
    have hp : powOk 10 18 = true := by decide
    have d2 := mod_ok (x := x) (show (0 : Int) < 997 by omega)
    have d3 := mod_ok (x := y) (show (0 : Int) < 65521 by omega)
    obtain ⟨m, x', k', l, q⟩ := draws_in (s := s) (c := .val (.int n)) (sd := .val (.int y)) (k := k) (ms := ms ++ [x % 997] ++ [y % 65521]) (x := 0) (by omega) (by simp; omega)
    refine ⟨m, y, k', .val (.int x'), ?_, f0, f1, by simp at q; omega⟩
    have l2 : (ms.map D.int).length < 16777216 := by simp; omega
    have l3 : (ms.map D.int ++ [D.int (x % 997)]).length < 16777216 := by simp; omega
    have e60 : rangeD 0 (60 : Int).toNat = rangeD 0 60 := rfl
    have r60 : r62 60 = true := by decide
    rw [← app_map, ← app_map] at l
    unfold b__law_draws_1
    generalize ms.map D.int = ll at *
    generalize m.map D.int = l9 at *
    generalize b__law_draws_0 = bb at *
    as_aux_lemma =>
      simp only [seq_ap, Mi.mi0, Mi.mi1, Mi.mi2, Mi.mi3, Mi.mi4, Mi.mi5, Mi.mo0, Mi.mo1, Mi.mo2, Mi.mo3, Mi.mo8, Bool.false_eq_true, Mi.mo9, Nat.reduceAdd, Nat.reduceSub, Nat.reduceLeDiff, Nat.reduceLT, Nat.reduceEqDiff, Mi.mt0, List.getElem?_cons_zero, List.getElem?_cons_succ, List.set_cons_zero, List.set_cons_succ, List.map_cons, List.map_nil, List.length_cons, List.length_nil, List.nil_append, List.cons_append, List.append_nil, List.replicate_succ, List.replicate_zero, lim_v, reduceIte, decide_true, decide_false, Bool.not_true, Bool.not_false, Option.bind_some, Mi.lst_no, Mi.par2, Mi.par3, eq_self, and_self, Mi.mi6, Mi.mi7, Mi.mi8, Mi.mi9, Option.map_some, Mi.mi10, Mi.mi11, Mi.mi12, Mi.mi13, Mi.mi14, Mi.mi15, x0, c0, hp, m1, d1, hy, d2, d3, l2, l3, e60, r60, l]
  · have c0 : decide (x < (10 : Int) ^ (18 : Int).toNat) = false := decide_eq_false c
    have hp : powOk 10 18 = true := by decide
    obtain ⟨m, x', k', l, q⟩ := draws_in (s := s) (c := .val (.int n)) (sd := .val (.int y)) (k := k) (ms := ms) (x := x) px (by omega)
    refine ⟨m, y, k', .val (.int x'), ?_, f0, f1, by omega⟩
    have e60 : rangeD 0 (60 : Int).toNat = rangeD 0 60 := rfl
    have r60 : r62 60 = true := by decide
    unfold b__law_draws_1
    generalize ms.map D.int = ll at *
    generalize m.map D.int = l9 at *
    generalize b__law_draws_0 = bb at *
    as_aux_lemma =>
      simp only [seq_ap, Mi.mi0, Mi.mi1, Mi.mi2, Mi.mi3, Mi.mi4, Mi.mi5, Mi.mo0, Mi.mo1, Mi.mo2, Mi.mo3, Mi.mo8, Bool.false_eq_true, Mi.mo9, Nat.reduceAdd, Nat.reduceSub, Nat.reduceLeDiff, Nat.reduceLT, Nat.reduceEqDiff, Mi.mt0, List.getElem?_cons_zero, List.getElem?_cons_succ, List.set_cons_zero, List.set_cons_succ, List.map_cons, List.map_nil, List.length_cons, List.length_nil, List.nil_append, List.cons_append, List.append_nil, List.replicate_succ, List.replicate_zero, lim_v, reduceIte, decide_true, decide_false, Bool.not_true, Bool.not_false, Option.bind_some, Mi.lst_no, Mi.par2, Mi.par3, eq_self, and_self, Mi.mi6, Mi.mi7, Mi.mi8, Mi.mi9, Option.map_some, Mi.mi10, Mi.mi11, Mi.mi12, Mi.mi13, Mi.mi14, Mi.mi15, x0, c0, hp, m1, d1, hy, e60, r60, l]
theorem draws_out {s c k nm : Sl} {ns : List Int} (hn : ns.length ≤ 63) :
    ∃ (ms' : List Int) (sd' : Int) (c' k' nm' : Sl), forF (gN 3) b__law_draws_1 (ns.map D.int) [s, .own [], .val (.int 11), c, k, nm] = .ok (.nx [s, .own (ms'.map D.int), .val (.int sd'), c', k', nm']) ∧ 0 ≤ sd' ∧ sd' < 2147483647 ∧ ms'.length ≤ 62 * ns.length := by
  obtain ⟨e', h1, ms', sd', c', k', nm', rfl, h2, h3, h4⟩ := for_inv (G := gN 3) (b := b__law_draws_1) (fun j e => ∃ (ms' : List Int) (sd' : Int) (c' k' nm' : Sl), e = [s, .own (ms'.map D.int), .val (.int sd'), c', k', nm'] ∧ 0 ≤ sd' ∧ sd' < 2147483647 ∧ ms'.length ≤ 62 * j) (ns.map D.int) 0 [s, .own [], .val (.int 11), c, k, nm]
    ⟨[], 11, c, k, nm, rfl, by omega, by omega, by simp⟩ fun j d e hd ⟨m1, sd1, c1, k1, n1, he, q0, q1, q⟩ => by
      subst he
      rw [List.getElem?_map] at hd
      obtain ⟨z, hz, rfl⟩ := Option.map_eq_some_iff.1 hd
      have hj : j < ns.length := (List.getElem?_eq_some_iff.1 hz).1
      obtain ⟨m2, sd2, k2, n2, w1, w2, w3, w4⟩ := draws_b1 (s := s) (k := k1) (nm := n1) (ms := m1) (n := z) q0 q1 (by omega)
      exact ⟨_, _, rfl, w1, m2, sd2, .val (.int z), k2, n2, rfl, w2, w3, by omega⟩
  rw [List.length_map, Nat.zero_add] at h4
  exact ⟨ms', sd', c', k', nm', h1, h2, h3, h4⟩
theorem draws_b2 {s c k nm : Sl} {ms : List Int} {n : Int} (hl : ms.length < 15000000) (h0 : 0 ≤ n) (h1 : n < 2147483647) :
    ∃ (ms' : List Int) (n' : Int), b__law_draws_2 [s, .own (ms.map D.int), .val (.int n), c, k, nm] = .ok (.nx [s, .own (ms'.map D.int), .val (.int n'), c, k, nm]) ∧ ms'.length ≤ ms.length + 1 ∧ 0 ≤ n' ∧ n' < 2147483647 := by
  have m1 := mul_ok (Bd.small (x := n) h0 (by omega)) (Bd.small (x := 48271) (by omega) (by omega)) (by omega)
  have d1 := mod_ok (x := n * 48271 + 69621) (show (0 : Int) < 2147483647 by omega)
  have f0 := Int.emod_nonneg (n * 48271 + 69621) (show (2147483647 : Int) ≠ 0 by omega)
  have f1 := Int.emod_lt_of_pos (n * 48271 + 69621) (show (0 : Int) < 2147483647 by omega)
  obtain ⟨y, hy⟩ : ∃ y, (n * 48271 + 69621) % 2147483647 = y := ⟨_, rfl⟩
  rw [hy] at f0 f1
  refine ⟨ms ++ [y / 5], y, ?_, by simp, f0, f1⟩
  have d3 : divXOk y 5 = true := divXOk_iff.2 ⟨by omega, .inl (by decide)⟩
  have l2 : (ms.map D.int).length < 16777216 := by simp; omega
  rw [← app_map]
  generalize ms.map D.int = l at *
  unfold b__law_draws_2
  as_aux_lemma =>
    simp only [seq_ap, Mi.mi0, Mi.mi1, Mi.mi2, Mi.mi3, Mi.mi4, Mi.mi5, Mi.mo0, Mi.mo1, Mi.mo2, Mi.mo3, Mi.mo8, Bool.false_eq_true, Mi.mo9, Nat.reduceAdd, Nat.reduceSub, Nat.reduceLeDiff, Nat.reduceLT, Nat.reduceEqDiff, Mi.mt0, List.getElem?_cons_zero, List.getElem?_cons_succ, List.set_cons_zero, List.set_cons_succ, List.map_cons, List.map_nil, List.length_cons, List.length_nil, List.nil_append, List.cons_append, List.append_nil, List.replicate_succ, List.replicate_zero, lim_v, reduceIte, decide_true, decide_false, Bool.not_true, Bool.not_false, Option.bind_some, Mi.lst_no, Mi.par2, Mi.par3, eq_self, and_self, Mi.mi6, Mi.mi7, Mi.mi8, Mi.mi9, Option.map_some, Mi.mi10, Mi.mi11, Mi.mi12, Mi.mi13, Mi.mi14, Mi.mi15, m1, d1, hy, d3, l2]
theorem draws_last {s c k nm : Sl} {ms : List Int} {n : Int} (hl : ms.length < 10000) (h0 : 0 ≤ n) (h1 : n < 2147483647) :
    ∃ (ms' : List Int) (n' : Int) (k' : Sl), forF (gN 4) b__law_draws_2 (rangeD 0 800) [s, .own (ms.map D.int), .val (.int n), c, k, nm] = .ok (.nx [s, .own (ms'.map D.int), .val (.int n'), c, k', nm]) := by
  obtain ⟨e', h1, ms', n', k', rfl, _, _⟩ := for_rng (G := gN 4) (b := b__law_draws_2) (lo := 0) (n := 800) (fun j e => ∃ (ms' : List Int) (n' : Int) (k' : Sl), e = [s, .own (ms'.map D.int), .val (.int n'), c, k', nm] ∧ (0 ≤ n' ∧ n' < 2147483647) ∧ ms'.length ≤ 10000 + j)
    ⟨ms, n, k, rfl, ⟨h0, h1⟩, by omega⟩ fun j e hj ⟨m1, n1, k1, he, q1, q2⟩ => by
      subst he
      obtain ⟨m2, n2, w1, w2, w3, w4⟩ := draws_b2 (s := s) (c := c) (k := .val (.int (0 + j))) (nm := nm) (ms := m1) (by omega) q1.1 q1.2
      exact ⟨_, _, rfl, w1, m2, n2, _, rfl, ⟨w3, w4⟩, by omega⟩
  exact ⟨ms', n', k', h1⟩
theorem draws_eq {ns : List Int} (hn : ns.length ≤ 63) (hz : ∀ z ∈ ns, PySem.Builtin.Int.intBits z ≤ 1048576) : ∃ ms : List Int, F__law_draws [.rls (ns.map D.int)] = .ok (.lst (ms.map D.int)) := by
  obtain ⟨m1, sd, c1, k1, n1, l1, h0, h1, q1⟩ := draws_out (s := .val (.rls (ns.map D.int))) (k := .un) (nm := .un) (c := .un) hn
  have q2 : m1.length < 10000 := by omega
  obtain ⟨m2, n2, k2, l2⟩ := draws_last (s := .val (.rls (ns.map D.int))) (c := c1) (k := k1) (nm := n1) (ms := m1) (n := sd) q2 h0 h1
  refine ⟨m2.reverse, ?_⟩
  have r1 : r62 800 = true := by decide
  have e1 : rangeD 0 (800 : Int).toNat = rangeD 0 800 := rfl
  have e2 : (m2.map D.int).reverse = m2.reverse.map D.int := by simp
  rw [← e2]
  unfold F__law_draws m__law_draws
  generalize b__law_draws_1 = b1 at *
  generalize b__law_draws_2 = b2 at *
  generalize m2.map D.int = l at *
  generalize m1.map D.int = l' at *
  generalize ns.map D.int = ll at *
  as_aux_lemma =>
    simp only [runA, seq_ap, Mi.mi0, Mi.mi1, Mi.mi2, Mi.mi3, Mi.mi4, Mi.mi5, Mi.mo0, Mi.mo1, Mi.mo2, Mi.mo3, Mi.mo8, Bool.false_eq_true, Mi.mo9, Nat.reduceAdd, Nat.reduceSub, Nat.reduceLeDiff, Nat.reduceLT, Nat.reduceEqDiff, Mi.mt0, List.getElem?_cons_zero, List.getElem?_cons_succ, List.set_cons_zero, List.set_cons_succ, List.map_cons, List.map_nil, List.length_cons, List.length_nil, List.nil_append, List.cons_append, List.append_nil, List.replicate_succ, List.replicate_zero, lim_v, reduceIte, decide_true, decide_false, Bool.not_true, Bool.not_false, Option.bind_some, Mi.lst_no, Mi.par2, Mi.par3, eq_self, and_self, Mi.mi6, Mi.mi7, Mi.mi8, Mi.mi9, Option.map_some, Mi.mi10, Mi.mi11, Mi.mi12, Mi.mi13, Mi.mi14, Mi.mi15, l1, l2, r1, e1]
end Lw
namespace Lw
open Mi
/-! ### small functions -/
theorem is_integer_int (i : Int) : F_is_integer [.int i] = .ok (.bl true) := by
  unfold F_is_integer
  rfl
theorem check_true : F_check [.bl true] = .ok .non := by
  unfold F_check
  rfl
theorem within_ok {v lo hi : Int} (h1 : lo ≤ v) (h2 : v ≤ hi) : F_is_within [.int v, .int lo, .int hi] = .ok (.bl true) := by
  simp only [F_is_within, runA, m_is_within, seq_ap, Mi.mi0, Mi.mi1, Mi.mi2, Mi.mi3, Mi.mi4, Mi.mi5, Mi.mo0, Mi.mo1, Mi.mo2, Mi.mo3, Mi.mo8, Bool.false_eq_true, Mi.mo9, Nat.reduceAdd, Nat.reduceSub, Nat.reduceLeDiff, Nat.reduceLT, Nat.reduceEqDiff, Mi.mt0, List.getElem?_cons_zero, List.getElem?_cons_succ, List.set_cons_zero, List.set_cons_succ, List.map_cons, List.map_nil, List.length_cons, List.length_nil, List.nil_append, List.cons_append, List.append_nil, List.replicate_succ, List.replicate_zero, lim_v, reduceIte, decide_true, decide_false, Bool.not_true, Bool.not_false, Option.bind_some, Mi.lst_no, Mi.par2, Mi.par3, eq_self, and_self, Mi.mi6, Mi.mi7, Mi.mi8, Mi.mi9, Option.map_some, Mi.mi10, Mi.mi11, Mi.mi12, Mi.mi13, Mi.mi14, Mi.mi15, is_integer_int, h1, h2]
theorem check_false : F_check [.bl false] = .exc "NotRight" [] := by
  unfold F_check
  rfl
theorem is_count_nat (i : Nat) : F_is_count [.int i] = .ok (.bl true) := by
  have h := is_integer_int (i : Int)
  have c : decide ((0 : Int) ≤ (i : Int)) = true := decide_eq_true (Int.natCast_nonneg i)
  unfold F_is_count m_is_count
  generalize F_is_integer = q0 at *
  as_aux_lemma =>
    simp only [runA, seq_ap, Mi.mi0, Mi.mi1, Mi.mi2, Mi.mi3, Mi.mi4, Mi.mi5, Mi.mo0, Mi.mo1, Mi.mo2, Mi.mo3, Mi.mo8, Bool.false_eq_true, Mi.mo9, Nat.reduceAdd, Nat.reduceSub, Nat.reduceLeDiff, Nat.reduceLT, Nat.reduceEqDiff, Mi.mt0, List.getElem?_cons_zero, List.getElem?_cons_succ, List.set_cons_zero, List.set_cons_succ, List.map_cons, List.map_nil, List.length_cons, List.length_nil, List.nil_append, List.cons_append, List.append_nil, List.replicate_succ, List.replicate_zero, lim_v, reduceIte, decide_true, decide_false, Bool.not_true, Bool.not_false, Option.bind_some, Mi.lst_no, Mi.par2, Mi.par3, eq_self, and_self, Mi.mi6, Mi.mi7, Mi.mi8, Mi.mi9, Option.map_some, Mi.mi10, Mi.mi11, Mi.mi12, Mi.mi13, Mi.mi14, Mi.mi15, h, c]
end Lw
namespace Lw
open Mi
/-! ### powers -/
theorem pow_loop {x n : Int} {a N : Nat} (hx : Bd x a) (h : a * N < 90000000) (ha : a < 1000000) (s : Sl) : ∃ s', forF (gN 3) b_power_0 (rangeD 0 N) [.val (.int x), .val (.int n), .val (.int 1), s] = .ok (.nx [.val (.int x), .val (.int n), .val (.int (x ^ N)), s']) := by
  obtain ⟨e', h1, s', rfl⟩ := for_rng (G := gN 3) (b := b_power_0) (lo := 0) (n := N) (fun k e => ∃ s, e = [.val (.int x), .val (.int n), .val (.int (x ^ k)), s]) ⟨s, rfl⟩ fun j e hj ⟨s, he⟩ => by
    subst he
    have hb : Bd (x ^ j) (a * N) := (hx.pow j).mono (Nat.mul_le_mul_left _ (by omega))
    refine ⟨_, _, rfl, ?_, .val (.int (0 + j)), rfl⟩
    have hm := mul_ok hb hx (by omega)
    simp only [b_power_0, Mi.mi0, Mi.mi1, Mi.mi2, Mi.mi3, Mi.mi4, Mi.mi5, Mi.mo0, Mi.mo1, Mi.mo2, Mi.mo3, Mi.mo8, Bool.false_eq_true, Mi.mo9, Nat.reduceAdd, Nat.reduceSub, Nat.reduceLeDiff, Nat.reduceLT, Nat.reduceEqDiff, Mi.mt0, List.getElem?_cons_zero, List.getElem?_cons_succ, List.set_cons_zero, List.set_cons_succ, List.map_cons, List.map_nil, List.length_cons, List.length_nil, List.nil_append, List.cons_append, List.append_nil, List.replicate_succ, List.replicate_zero, lim_v, reduceIte, decide_true, decide_false, Bool.not_true, Bool.not_false, Option.bind_some, Mi.lst_no, Mi.par2, Mi.par3, eq_self, and_self, Mi.mi6, Mi.mi7, Mi.mi8, Mi.mi9, Option.map_some, Mi.mi10, Mi.mi11, Mi.mi12, Mi.mi13, Mi.mi14, Mi.mi15, hm]
    rw [Int.pow_succ]
  rw [show x ^ 0 = (1 : Int) from Int.pow_zero x] at h1
  exact ⟨s', h1⟩
theorem power_eq {x n : Int} {a : Nat} (hx : Bd x a) (h0 : 0 ≤ n) (hn : n ≤ 1000000) (h : a * n.toNat < 90000000) (ha : a < 1000000) : F_power [.int x, .int n] = .ok (.int (x ^ n.toNat)) := by
  obtain ⟨s, hl⟩ := pow_loop (n := n) (N := n.toNat) hx h ha .un
  simp only [F_power, runA, m_power, seq_ap, Mi.mi0, Mi.mi1, Mi.mi2, Mi.mi3, Mi.mi4, Mi.mi5, Mi.mo0, Mi.mo1, Mi.mo2, Mi.mo3, Mi.mo8, Bool.false_eq_true, Mi.mo9, Nat.reduceAdd, Nat.reduceSub, Nat.reduceLeDiff, Nat.reduceLT, Nat.reduceEqDiff, Mi.mt0, List.getElem?_cons_zero, List.getElem?_cons_succ, List.set_cons_zero, List.set_cons_succ, List.map_cons, List.map_nil, List.length_cons, List.length_nil, List.nil_append, List.cons_append, List.append_nil, List.replicate_succ, List.replicate_zero, lim_v, reduceIte, decide_true, decide_false, Bool.not_true, Bool.not_false, Option.bind_some, Mi.lst_no, Mi.par2, Mi.par3, eq_self, and_self, Mi.mi6, Mi.mi7, Mi.mi8, Mi.mi9, Option.map_some, Mi.mi10, Mi.mi11, Mi.mi12, Mi.mi13, Mi.mi14, Mi.mi15, r62_of h0 hn, hl]
end Lw
namespace Lw
open Mi
/-! ### lists -/
theorem lcF_list {α : Type} {vs : List Nat} {G : TD} {c : FT} {f : FE} {e0 : En} (enc : α → D) (p : α → Bool) (g : α → D) : ∀ xs : List α, (∀ x ∈ xs, ∃ e1, G (enc x) e0 = some e1 ∧ c e1 = .ok (p x, e1) ∧ (p x = true → f e1 = .ok (g x, e1)) ∧ wipeE e1 vs = e0) → lcF vs G c f (xs.map enc) e0 = .ok ((xs.filter p).map g, e0)
  | [], _ => rfl
  | x :: xs, h => by
    obtain ⟨e1, h1, h2, h3, h4⟩ := h x (List.mem_cons_self ..)
    have ih := lcF_list enc p g xs fun d hd => h d (List.mem_cons_of_mem _ hd)
    rw [List.map_cons]
    unfold lcF
    cases k : p x with
    | true =>
      rw [List.filter_cons_of_pos k]
      simp only [h1, h2, k, h3 k, h4, ih, List.map_cons]
    | false =>
      rw [List.filter_cons_of_neg (by simp [k])]
      simp only [h1, h2, k, h4, ih]
theorem lcF_all {α : Type} {vs : List Nat} {G : TD} {f : FE} {e0 : En} (enc : α → D) (g : α → D) (xs : List α) (h : ∀ x ∈ xs, ∃ e1, G (enc x) e0 = some e1 ∧ f e1 = .ok (g x, e1) ∧ wipeE e1 vs = e0) : lcF vs G tYes1 f (xs.map enc) e0 = .ok (xs.map g, e0) := by
  have := lcF_list (vs := vs) (G := G) (c := tYes1) (f := f) (e0 := e0) enc (fun _ => true) g xs fun x hx => by
    obtain ⟨e1, h1, h2, h3⟩ := h x hx
    exact ⟨e1, h1, rfl, fun _ => h2, h3⟩
  rw [List.filter_eq_self.2 (fun _ _ => rfl)] at this
  exact this
theorem rangeD_map (lo : Int) (n : Nat) : rangeD lo n = (List.range n).map fun i : Nat => D.int (lo + (i : Int)) := rfl
theorem zipD_map {α β : Type} (a : α → D) (b : β → D) : ∀ (xs : List α) (ys : List β), zipD (xs.map a) (ys.map b) = (xs.zip ys).map fun p => D.tup [a p.1, b p.2]
  | [], _ => by simp [zipD]
  | _ :: _, [] => by simp [zipD]
  | x :: xs, y :: ys => by
    rw [List.map_cons, List.map_cons, zipD, zipD_map a b xs ys]
    rfl
theorem for_fold {α σ τ : Type} {G : TD} {b : FS} (enc : α → D) (mk : σ → τ → En) (step : σ → α → σ) (P : Nat → σ → Prop) : ∀ (xs : List α) (k : Nat) (s : σ) (t : τ), P k s → (∀ j x s t, xs[j]? = some x → P (k + j) s → ∃ e1 t', G (enc x) (mk s t) = some e1 ∧ b e1 = .ok (.nx (mk (step s x) t')) ∧ P (k + j + 1) (step s x)) → ∃ t', forF G b (xs.map enc) (mk s t) = .ok (.nx (mk (xs.foldl step s) t')) ∧ P (k + xs.length) (xs.foldl step s)
  | [], k, s, t, h, _ => ⟨t, rfl, h⟩
  | x :: xs, k, s, t, h, st => by
    obtain ⟨e1, t1, h1, h2, h3⟩ := st 0 x s t rfl h
    obtain ⟨t', h4, h5⟩ := for_fold enc mk step P xs (k + 1) (step s x) t1 h3 fun j y s t hy hp => by
      have := st (j + 1) y s t (by simpa using hy) (by rw [show k + (j + 1) = k + 1 + j by omega]; exact hp)
      rw [show k + (j + 1) + 1 = k + 1 + j + 1 by omega] at this
      exact this
    refine ⟨t', ?_, by rw [List.length_cons, show k + (xs.length + 1) = k + 1 + xs.length by omega]; exact h5⟩
    rw [List.map_cons, forF, h1]
    simp only [h2]
    exact h4
theorem bls_map {α : Type} (xs : List α) (p : α → Bool) : bls (xs.map fun x => D.bl (p x)) = some (xs.map p) := by
  induction xs with
  | nil => rfl
  | cons x xs ih => simp only [List.map_cons, bls, ih, Option.map_some]
theorem fAll_map {α : Type} (xs : List α) (p : α → Bool) : fAll [.lst (xs.map fun x => D.bl (p x))] = some (.bl (xs.all p)) := by
  simp only [fAll, bls_map, Option.map_some, List.all_map]
  rfl
theorem fAll_true {α : Type} (xs : List α) : fAll [.lst (xs.map fun _ => D.bl true)] = some (.bl true) := by
  rw [fAll_map xs (fun _ => true), List.all_eq_true.2 (fun _ _ => rfl)]
theorem atI_map {α : Type} (enc : α → D) (xs : List α) (i : Nat) (h : i < xs.length) : L2.atI (xs.map enc) (i : Int) = some (enc xs[i]) := L2.atI_nat (by rw [List.getElem?_map, List.getElem?_eq_getElem h]; rfl)
theorem atI_of {ds : List D} {i : Nat} {d : D} (h : ds[i]? = some d) : L2.atI ds (i : Int) = some d := L2.atI_nat h
/-! ### the same -/
def flat : D → Prop
  | .int _ => True
  | .bl _ => True
  | .non => True
  | .str _ => True
  | _ => False
def Pl : Nat → D → Prop
  | n + 1, .tup ds => ds.length ≤ 1000000 ∧ ∀ d ∈ ds, Pl n d
  | n + 1, .lst ds => ds.length ≤ 1000000 ∧ ∀ d ∈ ds, Pl n d
  | _, d => flat d
theorem same_flat {n : Nat} {d : D} (h : flat d) : F__law_same (n + 1) [d, d] = .ok (.bl true) := by
  rw [F__law_same_s]
  generalize F__law_same n = r
  unfold m__law_same
  cases d with
  | int i =>
    as_aux_lemma =>
      simp only [runA, seq_ap, Mi.mi0, Mi.mi1, Mi.mi2, Mi.mi3, Mi.mi4, Mi.mi5, Mi.mo0, Mi.mo1, Mi.mo2, Mi.mo3, Mi.mo8, Bool.false_eq_true, Mi.mo9, Nat.reduceAdd, Nat.reduceSub, Nat.reduceLeDiff, Nat.reduceLT, Nat.reduceEqDiff, Mi.mt0, List.getElem?_cons_zero, List.getElem?_cons_succ, List.set_cons_zero, List.set_cons_succ, List.map_cons, List.map_nil, List.length_cons, List.length_nil, List.nil_append, List.cons_append, List.append_nil, List.replicate_succ, List.replicate_zero, lim_v, reduceIte, decide_true, decide_false, Bool.not_true, Bool.not_false, Option.bind_some, Mi.lst_no, Mi.par2, Mi.par3, eq_self, and_self, Mi.mi6, Mi.mi7, Mi.mi8, Mi.mi9, Option.map_some, Mi.mi10, Mi.mi11, Mi.mi12, Mi.mi13, Mi.mi14, Mi.mi15, Bool.not_true, Bool.not_false]
  | bl i =>
    as_aux_lemma =>
      simp only [runA, seq_ap, Mi.mi0, Mi.mi1, Mi.mi2, Mi.mi3, Mi.mi4, Mi.mi5, Mi.mo0, Mi.mo1, Mi.mo2, Mi.mo3, Mi.mo8, Bool.false_eq_true, Mi.mo9, Nat.reduceAdd, Nat.reduceSub, Nat.reduceLeDiff, Nat.reduceLT, Nat.reduceEqDiff, Mi.mt0, List.getElem?_cons_zero, List.getElem?_cons_succ, List.set_cons_zero, List.set_cons_succ, List.map_cons, List.map_nil, List.length_cons, List.length_nil, List.nil_append, List.cons_append, List.append_nil, List.replicate_succ, List.replicate_zero, lim_v, reduceIte, decide_true, decide_false, Bool.not_true, Bool.not_false, Option.bind_some, Mi.lst_no, Mi.par2, Mi.par3, eq_self, and_self, Mi.mi6, Mi.mi7, Mi.mi8, Mi.mi9, Option.map_some, Mi.mi10, Mi.mi11, Mi.mi12, Mi.mi13, Mi.mi14, Mi.mi15, Bool.not_true, Bool.not_false]
  | non =>
    as_aux_lemma =>
      simp only [runA, seq_ap, Mi.mi0, Mi.mi1, Mi.mi2, Mi.mi3, Mi.mi4, Mi.mi5, Mi.mo0, Mi.mo1, Mi.mo2, Mi.mo3, Mi.mo8, Bool.false_eq_true, Mi.mo9, Nat.reduceAdd, Nat.reduceSub, Nat.reduceLeDiff, Nat.reduceLT, Nat.reduceEqDiff, Mi.mt0, List.getElem?_cons_zero, List.getElem?_cons_succ, List.set_cons_zero, List.set_cons_succ, List.map_cons, List.map_nil, List.length_cons, List.length_nil, List.nil_append, List.cons_append, List.append_nil, List.replicate_succ, List.replicate_zero, lim_v, reduceIte, decide_true, decide_false, Bool.not_true, Bool.not_false, Option.bind_some, Mi.lst_no, Mi.par2, Mi.par3, eq_self, and_self, Mi.mi6, Mi.mi7, Mi.mi8, Mi.mi9, Option.map_some, Mi.mi10, Mi.mi11, Mi.mi12, Mi.mi13, Mi.mi14, Mi.mi15, Bool.not_true, Bool.not_false]
  | str i =>
    as_aux_lemma =>
      simp only [runA, seq_ap, Mi.mi0, Mi.mi1, Mi.mi2, Mi.mi3, Mi.mi4, Mi.mi5, Mi.mo0, Mi.mo1, Mi.mo2, Mi.mo3, Mi.mo8, Bool.false_eq_true, Mi.mo9, Nat.reduceAdd, Nat.reduceSub, Nat.reduceLeDiff, Nat.reduceLT, Nat.reduceEqDiff, Mi.mt0, List.getElem?_cons_zero, List.getElem?_cons_succ, List.set_cons_zero, List.set_cons_succ, List.map_cons, List.map_nil, List.length_cons, List.length_nil, List.nil_append, List.cons_append, List.append_nil, List.replicate_succ, List.replicate_zero, lim_v, reduceIte, decide_true, decide_false, Bool.not_true, Bool.not_false, Option.bind_some, Mi.lst_no, Mi.par2, Mi.par3, eq_self, and_self, Mi.mi6, Mi.mi7, Mi.mi8, Mi.mi9, Option.map_some, Mi.mi10, Mi.mi11, Mi.mi12, Mi.mi13, Mi.mi14, Mi.mi15, Bool.not_true, Bool.not_false]
  | _ => exact h.elim
theorem same_loop {r : List D → R D} {ds : List D} {s2 s3 : Sl} {d : D} (hd : (∃ x, d = .tup x ∧ x = ds) ∨ (∃ x, d = .lst x ∧ x = ds)) (h : ∀ d ∈ ds, r [d, d] = .ok (.bl true)) :
    ∃ s2', forF (gN 2) (b__law_same_0 r) (rangeD 0 ds.length) [.val d, .val d, s2, s3] = .ok (.nx [.val d, .val d, s2', s3]) := by
  obtain ⟨e', h1, s2', rfl⟩ := for_rng (G := gN 2) (b := b__law_same_0 r) (lo := 0) (n := ds.length) (fun j e => ∃ s2', e = [.val d, .val d, s2', s3]) ⟨s2, rfl⟩ fun j e hj ⟨k1, he⟩ => by
    subst he
    have hr := h ds[j] (List.getElem_mem hj)
    have g : gIx d (.int (j : Int)) = some ds[j] := by
      have a := atI_of (List.getElem?_eq_getElem hj)
      rcases hd with ⟨x, rfl, rfl⟩ | ⟨x, rfl, rfl⟩ <;> exact a
    refine ⟨_, _, rfl, ?_, .val (.int (0 + (j : Int))), rfl⟩
    generalize ds[j] = y at *
    unfold b__law_same_0
    as_aux_lemma =>
      simp only [seq_ap, Mi.mi0, Mi.mi1, Mi.mi2, Mi.mi3, Mi.mi4, Mi.mi5, Mi.mo0, Mi.mo1, Mi.mo2, Mi.mo3, Mi.mo8, Bool.false_eq_true, Mi.mo9, Nat.reduceAdd, Nat.reduceSub, Nat.reduceLeDiff, Nat.reduceLT, Nat.reduceEqDiff, Mi.mt0, List.getElem?_cons_zero, List.getElem?_cons_succ, List.set_cons_zero, List.set_cons_succ, List.map_cons, List.map_nil, List.length_cons, List.length_nil, List.nil_append, List.cons_append, List.append_nil, List.replicate_succ, List.replicate_zero, lim_v, reduceIte, decide_true, decide_false, Bool.not_true, Bool.not_false, Option.bind_some, Mi.lst_no, Mi.par2, Mi.par3, eq_self, and_self, Mi.mi6, Mi.mi7, Mi.mi8, Mi.mi9, Option.map_some, Mi.mi10, Mi.mi11, Mi.mi12, Mi.mi13, Mi.mi14, Mi.mi15, Int.zero_add, g, hr]
  exact ⟨s2', h1⟩
theorem same_self : ∀ (n : Nat) (d : D), Pl n d → F__law_same (n + 1) [d, d] = .ok (.bl true)
  | 0, d, h => same_flat (by cases d <;> exact h)
  | n + 1, .tup ds, h => by
    have ih := fun d hd => same_self n d (h.2 d hd)
    obtain ⟨k', l⟩ := same_loop (s2 := .un) (s3 := .un) (.inl ⟨ds, rfl, rfl⟩) ih
    rw [F__law_same_s]
    generalize F__law_same (n + 1) = r at *
    have hl := h.1
    have r6 := r62_of (show (0 : Int) ≤ (ds.length : Int) by omega) (by omega)
    unfold m__law_same
    generalize b__law_same_0 r = q at *
    as_aux_lemma =>
      simp only [runA, seq_ap, Mi.mi0, Mi.mi1, Mi.mi2, Mi.mi3, Mi.mi4, Mi.mi5, Mi.mo0, Mi.mo1, Mi.mo2, Mi.mo3, Mi.mo8, Bool.false_eq_true, Mi.mo9, Nat.reduceAdd, Nat.reduceSub, Nat.reduceLeDiff, Nat.reduceLT, Nat.reduceEqDiff, Mi.mt0, List.getElem?_cons_zero, List.getElem?_cons_succ, List.set_cons_zero, List.set_cons_succ, List.map_cons, List.map_nil, List.length_cons, List.length_nil, List.nil_append, List.cons_append, List.append_nil, List.replicate_succ, List.replicate_zero, lim_v, reduceIte, decide_true, decide_false, Bool.not_true, Bool.not_false, Option.bind_some, Mi.lst_no, Mi.par2, Mi.par3, eq_self, and_self, Mi.mi6, Mi.mi7, Mi.mi8, Mi.mi9, Option.map_some, Mi.mi10, Mi.mi11, Mi.mi12, Mi.mi13, Mi.mi14, Mi.mi15, r6, Int.toNat_natCast, l]
  | n + 1, .lst ds, h => by
    have ih := fun d hd => same_self n d (h.2 d hd)
    obtain ⟨k', l⟩ := same_loop (s2 := .un) (s3 := .un) (.inr ⟨ds, rfl, rfl⟩) ih
    rw [F__law_same_s]
    generalize F__law_same (n + 1) = r at *
    have hl := h.1
    have r6 := r62_of (show (0 : Int) ≤ (ds.length : Int) by omega) (by omega)
    unfold m__law_same
    generalize b__law_same_0 r = q at *
    as_aux_lemma =>
      simp only [runA, seq_ap, Mi.mi0, Mi.mi1, Mi.mi2, Mi.mi3, Mi.mi4, Mi.mi5, Mi.mo0, Mi.mo1, Mi.mo2, Mi.mo3, Mi.mo8, Bool.false_eq_true, Mi.mo9, Nat.reduceAdd, Nat.reduceSub, Nat.reduceLeDiff, Nat.reduceLT, Nat.reduceEqDiff, Mi.mt0, List.getElem?_cons_zero, List.getElem?_cons_succ, List.set_cons_zero, List.set_cons_succ, List.map_cons, List.map_nil, List.length_cons, List.length_nil, List.nil_append, List.cons_append, List.append_nil, List.replicate_succ, List.replicate_zero, lim_v, reduceIte, decide_true, decide_false, Bool.not_true, Bool.not_false, Option.bind_some, Mi.lst_no, Mi.par2, Mi.par3, eq_self, and_self, Mi.mi6, Mi.mi7, Mi.mi8, Mi.mi9, Option.map_some, Mi.mi10, Mi.mi11, Mi.mi12, Mi.mi13, Mi.mi14, Mi.mi15, r6, Int.toNat_natCast, l]
  | n + 1, .int i, h => same_flat trivial
  | n + 1, .bl i, h => same_flat trivial
  | n + 1, .non, h => same_flat trivial
  | n + 1, .str i, h => same_flat trivial
  | n + 1, .rls i, h => h.elim
  | n + 1, .dct i j, h => h.elim
  | n + 1, .ty i, h => h.elim
end Lw
namespace Lw
open Mi PySem
/-! ### == of plain data with itself -/
def flatq : D → Prop
  | .int _ => True
  | .bl _ => True
  | .non => True
  | .str x => PyData.strOk x = true
  | _ => False
def Pq : Nat → D → Prop
  | n + 1, .tup ds => ∀ d ∈ ds, Pq n d
  | n + 1, .lst ds => ∀ d ∈ ds, Pq n d
  | _, d => flatq d
def Nice (n : Nat) (x : PyData) : Prop := x.canLay0 = true ∧ x.depth ≤ n ∧ PyData.eqv x x = true
theorem Nice.mono {n m : Nat} {x : PyData} (h : Nice n x) (k : n ≤ m) : Nice m x := ⟨h.1, Nat.le_trans h.2.1 k, h.2.2⟩
theorem flatq_pd {d : D} (h : flatq d) : ∃ x, pd d = some x ∧ Nice 1 x := by
  cases d with
  | int i => exact ⟨_, rfl, rfl, Nat.zero_le _, by simp [PyData.eqv]⟩
  | bl i => exact ⟨_, rfl, rfl, Nat.zero_le _, by simp [PyData.eqv]⟩
  | non => exact ⟨_, rfl, rfl, Nat.zero_le _, rfl⟩
  | str i => exact ⟨_, rfl, h, Nat.zero_le _, by simp [PyData.eqv]⟩
  | _ => exact h.elim
theorem pdL_nice {n : Nat} : ∀ ds : List D, (∀ d ∈ ds, ∃ x, pd d = some x ∧ Nice n x) → ∃ xs, pdL ds = some xs ∧ PyData.canLayAll0 xs = true ∧ PyData.depthAll xs ≤ n ∧ PyData.eqvAll xs xs = true
  | [], _ => ⟨[], rfl, rfl, Nat.zero_le _, rfl⟩
  | d :: ds, h => by
    obtain ⟨x, h1, h2, h3, h4⟩ := h d (List.mem_cons_self ..)
    obtain ⟨xs, k1, k2, k3, k4⟩ := pdL_nice ds fun d hd => h d (List.mem_cons_of_mem _ hd)
    refine ⟨x :: xs, ?_, ?_, ?_, ?_⟩
    · simp only [pdL, h1, k1, Option.bind_some, Option.map_some]
    · simp only [PyData.canLayAll0, h2, k2, Bool.and_self]
    · simp only [PyData.depthAll]
      omega
    · simp only [PyData.eqvAll, h4, k4, Bool.and_self]
theorem pq_pd : ∀ (n : Nat) (d : D), Pq n d → ∃ x, pd d = some x ∧ Nice (n + 1) x
  | 0, d, h => (flatq_pd (by cases d <;> exact h))
  | n + 1, .tup ds, h => by
    obtain ⟨xs, h1, h2, h3, h4⟩ := pdL_nice ds fun d hd => pq_pd n d (h d hd)
    refine ⟨.tuple xs, by simp only [pd, h1, Option.map_some], h2, ?_, h4⟩
    simp only [PyData.depth]
    omega
  | n + 1, .lst ds, h => by
    obtain ⟨xs, h1, h2, h3, h4⟩ := pdL_nice ds fun d hd => pq_pd n d (h d hd)
    refine ⟨.list xs, by simp only [pd, h1, Option.map_some], h2, ?_, h4⟩
    simp only [PyData.depth]
    omega
  | n + 1, .int i, h => (flatq_pd h).imp fun _ ⟨a, b⟩ => ⟨a, b.mono (by omega)⟩
  | n + 1, .bl i, h => (flatq_pd h).imp fun _ ⟨a, b⟩ => ⟨a, b.mono (by omega)⟩
  | n + 1, .non, h => (flatq_pd h).imp fun _ ⟨a, b⟩ => ⟨a, b.mono (by omega)⟩
  | n + 1, .str i, h => (flatq_pd h).imp fun _ ⟨a, b⟩ => ⟨a, b.mono (by omega)⟩
  | n + 1, .rls i, h => h.elim
  | n + 1, .dct i j, h => h.elim
  | n + 1, .ty i, h => h.elim
theorem eqB_self {n : Nat} {d : D} (h : Pq n d) (hn : n ≤ 60) : eqB d d = some true := by
  obtain ⟨x, h1, h2, h3, h4⟩ := pq_pd n d h
  have e : eqDeep d d = some true := by
    have s : SeqAt.shaped x = true := by
      unfold SeqAt.shaped
      rw [h2, decide_eq_true (by omega : x.depth ≤ 64)]
      rfl
    unfold eqDeep
    rw [h1]
    simp only [Option.bind_some]
    rw [if_pos ⟨s, s⟩, h4]
  cases d with
  | int i => show some (decide (i = i)) = _; rw [decide_eq_true rfl]
  | bl i => show some (decide (i = i)) = _; rw [decide_eq_true rfl]
  | str i => show some (decide (i = i)) = _; rw [decide_eq_true rfl]
  | non => rfl
  | tup ds => exact e
  | lst ds => exact e
  | rls ds => exact e
  | dct a b => exact e
  | ty a => exact e
theorem eq_self {n : Nat} {d : D} (h : Pq n d) (hn : n ≤ 60) : gEq d d = some (.bl true) := by
  show (eqB d d).map _ = _
  rw [eqB_self h hn]
  rfl
theorem ne_self {n : Nat} {d : D} (h : Pq n d) (hn : n ≤ 60) : gNe d d = some (.bl false) := by
  show (eqB d d).map _ = _
  rw [eqB_self h hn]
  rfl
end Lw
set_option maxHeartbeats 2000000
namespace Lw
open Mi PySem
theorem eq_nil {n : Nat} {y : D} {r : List D} (h : Pq n (.lst (y :: r))) (hn : n ≤ 60) : gEq (.lst (y :: r)) (.lst []) = some (.bl false) := by
  obtain ⟨x, h1, h2, h3, h4⟩ := pq_pd n _ h
  have e : ∃ u us, x = .list (u :: us) := by
    simp only [pd, pdL] at h1
    cases k : pd y with
    | none => rw [k] at h1; cases h1
    | some u =>
      rw [k] at h1
      cases k2 : pdL r with
      | none => rw [k2] at h1; cases h1
      | some us =>
        rw [k2] at h1
        exact ⟨u, us, (Option.some.inj h1).symm⟩
  obtain ⟨u, us, rfl⟩ := e
  have s1 : SeqAt.shaped (.list (u :: us)) = true := by
    unfold SeqAt.shaped
    rw [h2, decide_eq_true (by omega : (PyData.list (u :: us)).depth ≤ 64)]
    rfl
  have s2 : SeqAt.shaped (.list []) = true := by
    unfold SeqAt.shaped
    simp [PyData.depth, PyData.depthAll, PyData.canLay0, PyData.canLayAll0]
  show ((eqDeep (.lst (y :: r)) (.lst [])).map D.bl) = _
  unfold eqDeep
  rw [h1, Option.bind_some, show pd (.lst []) = some (.list []) from rfl, Option.bind_some, if_pos ⟨s1, s2⟩]
  rfl
end Lw
set_option maxHeartbeats 1000000
namespace Lw
open Mi
/-- a slot that no list is held in -/
def nh : Sl → Prop
  | .un => True
  | .val _ => True
  | _ => False
theorem okW_one {e : En} {v : Nat} {s : Sl} (h : e[v]? = some s) (n : nh s) : okW e [v] = true := by
  unfold okW
  rw [List.all_cons, h]
  cases s <;> first | rfl | exact n.elim
theorem for_each {G : TD} {b : FS} (I : En → Prop) : ∀ (ds : List D) (e : En), I e → (∀ d ∈ ds, ∀ e, I e → ∃ e1, G d e = some e1 ∧ Go b e1 I) → ∃ e', forF G b ds e = .ok (.nx e') ∧ I e'
  | [], e, h, _ => ⟨e, rfl, h⟩
  | d :: ds, e, h, st => by
    obtain ⟨e1, g, e2, h2, i2⟩ := st d (List.mem_cons_self ..) e h
    obtain ⟨e', h3, i3⟩ := for_each I ds e2 i2 fun d hd => st d (List.mem_cons_of_mem _ hd)
    refine ⟨e', ?_, i3⟩
    rw [forF, g]
    simp only [h2]
    exact h3
theorem for_two {G : TD} {bd : FS} {a b : D} {e e1 : En} {Q1 Q2 : En → Prop} (g : G a e = some e1) (h : Go bd e1 Q1) (h2 : ∀ e2, Q1 e2 → ∃ e3, G b e2 = some e3 ∧ Go bd e3 Q2) : ∃ e', forF G bd [a, b] e = .ok (.nx e') ∧ Q2 e' := by
  obtain ⟨e2, h, q⟩ := h
  obtain ⟨e3, g3, e4, h4, q4⟩ := h2 e2 q
  refine ⟨e4, ?_, q4⟩
  rw [forF, g]
  simp only [h]
  rw [forF, g3]
  simp only [h4]
  rfl
/-- a def that draws: it returns d, and Q of the slots -/
def RtB (S : FS) (e : En) (d : D) (Q : En → Prop) : Prop := ∃ e', S e = .ok (.rt d e') ∧ Q e'
theorem RtB.seq {S U : FS} {e : En} {d : D} {Q : En → Prop} (h : Go S e fun e1 => RtB U e1 d Q) : RtB (sSeq S U) e d Q := by
  obtain ⟨e1, h1, e2, h2, q⟩ := h
  exact ⟨e2, by rw [seq_ap, h1]; exact h2, q⟩
theorem RtB.of {S : FS} {e e' : En} {d : D} {Q : En → Prop} (h : S e = .ok (.rt d e')) (q : Q e') : RtB S e d Q := ⟨e', h, q⟩
theorem runB_of {n : Nat} {S : FS} {ns : List Int} {ds : List D} {d : D} (h : RtB S (.brw (ns.map D.int) :: ds.map Sl.val ++ List.replicate (n - (ds.length + 1)) .un) d fun e' => ∃ ms : List Int, e'[0]? = some (.brw (ms.map D.int))) : ∃ ms, runB n S ns ds = .ok (d, ms) := by
  obtain ⟨e', h1, ms, h2⟩ := h
  refine ⟨ms, ?_⟩
  unfold runB
  rw [h1]
  simp only [h2, intsOf_map]
end Lw
set_option maxHeartbeats 2000000
namespace Lw
open Mi
abbrev nI (n : Nat) : D := .int (n : Int)
theorem pick_int (ns : List Int) {xs : List Int} (hx : xs ≠ []) : ∃ x ms, F__law_pick ns [.lst (xs.map D.int)] = .ok (.int x, ms) ∧ x ∈ xs := by
  obtain ⟨d, ms, h, hd⟩ := pick_ok ns (ds := xs.map D.int) (by simpa using hx)
  obtain ⟨x, hx, rfl⟩ := List.mem_map.1 hd
  exact ⟨x, ms, h, hx⟩
theorem take_nat (ns : List Int) {b : Nat} (hb : 0 < b) : ∃ r ms, F__law_take ns [nI b] = .ok (nI r, ms) ∧ r < b := by
  obtain ⟨r, ms, h, h0, h1⟩ := take_ok ns (b := (b : Int)) (by omega)
  obtain ⟨n, rfl⟩ : ∃ n : Nat, r = (n : Int) := ⟨r.toNat, by omega⟩
  exact ⟨n, ms, h, by omega⟩
theorem pick_nat (ns : List Int) {xs : List Nat} (hx : xs ≠ []) : ∃ x ms, F__law_pick ns [.lst (xs.map nI)] = .ok (nI x, ms) ∧ x ∈ xs := by
  obtain ⟨d, ms, h, hd⟩ := pick_ok ns (ds := xs.map nI) (by simpa using hx)
  obtain ⟨x, hx, rfl⟩ := List.mem_map.1 hd
  exact ⟨x, ms, h, hx⟩
theorem take_int (ns : List Int) {b : Int} (hb : 0 < b) : ∃ (r : Nat) (ms : List Int), F__law_take ns [.int b] = .ok (nI r, ms) ∧ (r : Int) < b := by
  obtain ⟨r, ms, h, h0, h1⟩ := take_ok ns (b := b) hb
  obtain ⟨n, rfl⟩ : ∃ n : Nat, r = (n : Int) := ⟨r.toNat, by omega⟩
  exact ⟨n, ms, h, h1⟩
end Lw
namespace Lw
open Mi L2
/-! ### dict comprehensions, sets of codes -/
theorem dcF_map {α : Type} {vs : List Nat} {G : TD} {fk fv : FE} {e0 : En} (enc : α → D) (key : α → Key) (v : D) : ∀ (xs : List α) (ks : List Key) (us : List D), (∀ x ∈ xs, ∃ e1, G (enc x) e0 = some e1 ∧ fk e1 = .ok (kD (key x), e1) ∧ fv e1 = .ok (v, e1) ∧ wipeE e1 vs = e0) →
    ∃ us', dcF vs G tYes1 fk fv (xs.map enc) ks us e0 = .ok ((metK ks (xs.map key), us'), e0)
  | [], ks, us, _ => ⟨us, rfl⟩
  | x :: xs, ks, us, h => by
    obtain ⟨e1, h1, h2, h3, h4⟩ := h x (List.mem_cons_self ..)
    obtain ⟨us', ih⟩ := dcF_map enc key v xs (addK ks (key x)) (putG ks us (key x) v) fun y hy => h y (List.mem_cons_of_mem _ hy)
    refine ⟨us', ?_⟩
    rw [List.map_cons, List.map_cons, dcF, h1]
    simp only [tYes1, h2, h3, keyD_kD, h4]
    exact ih
theorem alike_inr {ks : List Key} (h : ∀ k ∈ ks, ∃ x, k = Sum.inr x) : alikeK ks = true := by
  unfold alikeK
  rw [Bool.or_eq_true]
  right
  rw [List.all_eq_true]
  intro k hk
  obtain ⟨x, rfl⟩ := h k hk
  rfl
theorem metK_inr {qs : List Key} (h : ∀ k ∈ qs, ∃ x, k = Sum.inr x) : alikeK (metK [] qs) = true := alike_inr fun k hk => by
  rcases (metK_mem qs []).1 hk with z | z
  · exact nomatch z
  · exact h k z
theorem metK_full : ∀ (qs ks : List Key), (metK ks qs).length = ks.length + qs.length → qs.Nodup ∧ ∀ k ∈ qs, k ∉ ks
  | [], ks, _ => ⟨List.nodup_nil, fun k hk => nomatch hk⟩
  | q :: qs, ks, h => by
    have l1 := metK_len qs (addK ks q)
    have l2 := addK_len ks q
    rw [List.length_cons] at h
    change (metK (addK ks q) qs).length = _ at h
    have e : (addK ks q).length = ks.length + 1 := by omega
    have hq : q ∉ ks := fun z => by
      unfold addK at e
      rw [if_pos (hasK_iff.2 z)] at e
      omega
    have ea : addK ks q = ks ++ [q] := if_neg fun z => hq (hasK_iff.1 z)
    obtain ⟨i1, i2⟩ := metK_full qs (addK ks q) (by omega)
    rw [ea] at i2
    refine ⟨List.nodup_cons.2 ⟨fun z => i2 q z (List.mem_append_right _ (List.mem_singleton.2 rfl)), i1⟩, fun k hk => ?_⟩
    rcases List.mem_cons.1 hk with rfl | hk
    · exact hq
    · exact fun z => i2 k hk (List.mem_append_left _ z)
theorem nodup_inj {α β : Type} {f : α → β} : ∀ {L : List α}, (L.map f).Nodup → ∀ x ∈ L, ∀ y ∈ L, f x = f y → x = y
  | [], _, x, hx, _, _, _ => nomatch hx
  | z :: L, h, x, hx, y, hy, e => by
    rw [List.map_cons, List.nodup_cons] at h
    rcases List.mem_cons.1 hx with hx' | hx'
    · rcases List.mem_cons.1 hy with hy' | hy'
      · rw [hx', hy']
      · exact absurd (List.mem_map.2 ⟨y, hy', by rw [← e, hx']⟩) h.1
    · rcases List.mem_cons.1 hy with hy' | hy'
      · exact absurd (List.mem_map.2 ⟨x, hx', by rw [e, hy']⟩) h.1
      · exact nodup_inj h.2 x hx' y hy' e
def trK (x : PySem.Str) : Key := Sum.inr x
theorem strs_keys (xs : List PySem.Str) : xs.map D.str = (xs.map trK).map kD := by rw [List.map_map]; rfl
theorem strs_inr {xs : List PySem.Str} : ∀ k ∈ xs.map trK, ∃ x, k = Sum.inr x := fun k hk => by
  obtain ⟨n, _, rfl⟩ := List.mem_map.1 hk
  exact ⟨_, rfl⟩
/-- the different ones, in order -/
def sortedT (xs : List PySem.Str) : List D := ((metK [] (xs.map trK)).mergeSort leK).map kD
def diffN (xs : List PySem.Str) : Nat := (metK [] (xs.map trK)).length
theorem sortSet_strs {xs : List PySem.Str} (h : xs.length ≤ 3000) : fSortSet (.lst (xs.map D.str)) = some (.lst (sortedT xs)) := by
  unfold fSortSet
  rw [strs_keys, show seqD (.lst ((xs.map trK).map kD)) = some ((xs.map trK).map kD) from rfl, Option.bind_some, keysOf_map, Option.bind_some, if_pos ⟨by rw [List.length_map]; omega, metK_inr strs_inr⟩]
  rfl
theorem lenSet_strs {xs : List PySem.Str} (h : xs.length ≤ 3000) : fLenSet (.lst (xs.map D.str)) = some (nI (diffN xs)) := by
  unfold fLenSet
  rw [strs_keys, show seqD (.lst ((xs.map trK).map kD)) = some ((xs.map trK).map kD) from rfl, Option.bind_some, keysOf_map, Option.bind_some, if_pos (by rw [List.length_map]; omega)]
  rfl
theorem diff_le (xs : List PySem.Str) : diffN xs ≤ xs.length := by
  unfold diffN
  have := metK_len (xs.map trK) []
  rw [List.length_nil, List.length_map, Nat.zero_add] at this
  exact this
theorem sortedT_len (xs : List PySem.Str) : (sortedT xs).length ≤ xs.length := by
  unfold sortedT
  rw [List.length_map, List.length_mergeSort]
  exact diff_le xs
theorem sortK_strs {xs : List PySem.Str} (h : xs.length ≤ 1000000) : sortK (metK [] (xs.map trK)) = some (.lst (sortedT xs)) := by
  unfold sortK
  have lk : (metK [] (xs.map trK)).length ≤ lim := by
    have := diff_le xs
    unfold diffN at this
    rw [lim_v]
    omega
  rw [if_pos ⟨metK_inr strs_inr, lk⟩]
  rfl
theorem diff_nodup {xs : List PySem.Str} (h : diffN xs = xs.length) : xs.Nodup := by
  have h2 := (metK_full (xs.map trK) [] (by rw [List.length_nil, Nat.zero_add, List.length_map]; exact h)).1
  unfold List.Nodup at h2 ⊢
  rw [List.pairwise_map] at h2
  exact h2.imp fun {a b} hab e => hab (by rw [e])
theorem flat_sortedT {xs : List PySem.Str} {d : D} (h : d ∈ sortedT xs) : flat d := by
  unfold sortedT at h
  obtain ⟨k, _, rfl⟩ := List.mem_map.1 h
  cases k <;> trivial
end Lw
namespace Lw
open Mi
/-! ### decimal digits -/
/-- the last d digits of v, as signs -/
def dg : Nat → Nat → List Nat
  | 0, _ => []
  | d + 1, v => dg d (v / 10) ++ [48 + v % 10]
theorem dg_len : ∀ d v, (dg d v).length = d
  | 0, _ => rfl
  | d + 1, v => by rw [dg, List.length_append, dg_len d]; rfl
theorem dg_sign : ∀ d v, ∀ c ∈ dg d v, 48 ≤ c ∧ c ≤ 57
  | 0, _, c, h => nomatch h
  | d + 1, v, c, h => by
    rw [dg, List.mem_append, List.mem_singleton] at h
    rcases h with h | rfl
    · exact dg_sign d _ c h
    · omega
theorem dg_inj : ∀ d v w, dg d v = dg d w ↔ v % 10 ^ d = w % 10 ^ d
  | 0, v, w => by simp [dg, Nat.mod_one]
  | d + 1, v, w => by
    rw [dg, dg]
    have e1 : v % 10 ^ (d + 1) = v % 10 + 10 * (v / 10 % 10 ^ d) := by rw [Nat.pow_succ, Nat.mul_comm, Nat.mod_mul]
    have e2 : w % 10 ^ (d + 1) = w % 10 + 10 * (w / 10 % 10 ^ d) := by rw [Nat.pow_succ, Nat.mul_comm, Nat.mod_mul]
    rw [e1, e2]
    constructor
    · intro h
      obtain ⟨h1, h2⟩ := List.append_inj' h rfl
      have h3 := (dg_inj d _ _).1 h1
      rw [List.cons.injEq] at h2
      omega
    · intro h
      have h1 : v / 10 % 10 ^ d = w / 10 % 10 ^ d := by omega
      have h2 : v % 10 = w % 10 := by omega
      rw [(dg_inj d _ _).2 h1, h2]
theorem dg_mod (d v : Nat) : dg d (v % 10 ^ d) = dg d v := (dg_inj d _ _).2 (Nat.mod_mod _ _)
theorem dg_drop : ∀ d k v, (dg (k + d) v).drop k = dg d v
  | 0, k, v => by rw [Nat.add_zero, List.drop_eq_nil_of_le (by rw [dg_len]; exact Nat.le_refl _)]; rfl
  | d + 1, k, v => by
    rw [← Nat.add_assoc, dg, dg, List.drop_append_of_le_length (by rw [dg_len]; omega), dg_drop d k]
/-- the signs of a number -/
def sg (n : Nat) : List Nat := (Nat.toDigits 10 n).map Char.toNat
theorem sg_lt {n : Nat} (h : n < 10) : sg n = [48 + n] := by
  unfold sg
  rw [Nat.toDigits_of_lt_base h]
  rcases (by omega : n = 0 ∨ n = 1 ∨ n = 2 ∨ n = 3 ∨ n = 4 ∨ n = 5 ∨ n = 6 ∨ n = 7 ∨ n = 8 ∨ n = 9) with rfl | rfl | rfl | rfl | rfl | rfl | rfl | rfl | rfl | rfl <;> rfl
theorem sg_ge {n : Nat} (h : 10 ≤ n) : sg n = sg (n / 10) ++ [48 + n % 10] := by
  have e : sg (n % 10) = [48 + n % 10] := sg_lt (Nat.mod_lt _ (by omega))
  rw [← e]
  unfold sg
  rw [← List.map_append, Nat.toDigits_append_toDigits (by omega) (by omega) (Nat.mod_lt _ (by omega)), Nat.div_add_mod]
theorem sg_one : ∀ d w, w < 10 ^ d → sg (w + 10 ^ d) = 49 :: dg d w
  | 0, w, h => by
    have : w = 0 := by simpa using h
    subst this
    rfl
  | d + 1, w, h => by
    rw [Nat.pow_succ] at h ⊢
    have h1 : (w + 10 ^ d * 10) / 10 = w / 10 + 10 ^ d := by omega
    have h2 : (w + 10 ^ d * 10) % 10 = w % 10 := by omega
    have hp : 0 < 10 ^ d := Nat.pow_pos (by omega)
    rw [sg_ge (by omega), h1, h2, sg_one d (w / 10) (by omega), dg]
    rfl
theorem dg_zero : ∀ d, dg d 0 = List.replicate d 48
  | 0 => rfl
  | d + 1 => by
    rw [dg, Nat.zero_div, dg_zero d, List.replicate_succ']
theorem sg_pad (k : Nat) : ∀ v, dg (k + (sg v).length) v = List.replicate k 48 ++ sg v := fun v => by
  induction v using Nat.strongRecOn with
  | _ v ih =>
    by_cases h : v < 10
    · rw [sg_lt h]
      show dg (k + 1) v = _
      have h1 : v / 10 = 0 := by omega
      have h2 : v % 10 = v := by omega
      rw [dg, h1, h2, dg_zero]
    · have h3 := ih (v / 10) (by omega)
      rw [sg_ge (by omega), List.length_append, List.length_singleton, ← Nat.add_assoc, dg, h3, List.append_assoc]
theorem sg_last (d v : Nat) (hd : d ≤ 6) : (List.replicate 6 48 ++ sg v).drop (6 + (sg v).length - d) = dg d v := by
  rw [← sg_pad]
  have e : 6 + (sg v).length = (6 + (sg v).length - d) + d := by omega
  have k := dg_drop d (6 + (sg v).length - d) v
  rw [← e] at k
  exact k
/-! ### texts -/
theorem str_nat (n : Nat) : (PySem.Str.ofString (toString (n : Int))) = ⟨(sg n).toArray⟩ := by
  rw [PySem.Str.ofString_eq_toList]
  show (⟨((String.ofList (Nat.toDigits 10 n)).toList.map Char.toNat).toArray⟩ : PySem.Str) = _
  rw [String.toList_ofList]
  rfl
/-- a code of d figures -/
def cd (d v : Nat) : PySem.Str := ⟨(dg d v).toArray⟩
theorem cd_inj (d v w : Nat) : cd d v = cd d w ↔ v % 10 ^ d = w % 10 ^ d := by
  unfold cd
  rw [PySem.Str.mk.injEq]
  constructor
  · intro h
    exact (dg_inj d v w).1 (by simpa using h)
  · intro h
    rw [(dg_inj d v w).2 h]
theorem cd_len (d v : Nat) : (cd d v).length = d := by
  show (dg d v).toArray.size = d
  rw [List.size_toArray, dg_len]
end Lw
namespace Lw
open Mi
theorem Bd.small8 {x : Int} (h0 : 0 ≤ x) (h : x ≤ 10000000000000000000000) : Bd x 80 := by
  unfold Bd
  have : (2 : Nat) ^ 80 = 1208925819614629174706176 := by decide
  omega
/-! ### keys and their codes -/
def ky (a b c d : Nat) : D := .tup [nI a, nI b, nI c, nI d]
structure KyOk (a b c d : Nat) : Prop where
  a1 : a < 1000003
  b1 : b < 1000003
  c1 : c < 1000003
  d0 : 1 ≤ d
  d1 : d ≤ 6
def vl (a b c n : Nat) : Nat := (a * n * n * n + b * n + c) % 1000003
theorem vl_lt (a b c n : Nat) : vl a b c n < 1000003 := Nat.mod_lt _ (by omega)
theorem vl_int (a b c n : Nat) : ((a : Int) * n * n * n + b * n + c) % 1000003 = ((vl a b c n : Nat) : Int) := by
  unfold vl
  rw [Int.natCast_emod, Int.natCast_add, Int.natCast_add, Int.natCast_mul, Int.natCast_mul, Int.natCast_mul, Int.natCast_mul]
  rfl
theorem bdn {n : Nat} (h : n ≤ 10000000000000000000000) : Bd (n : Int) 80 := Bd.small8 (by omega) (by omega)
theorem value_by_eq {a b c d n : Nat} (o : KyOk a b c d) (hn : n ≤ 10000000000000000000000) : F_value_by [ky a b c d, nI n] = .ok (nI (vl a b c n)) := by
  have := o.a1
  have := o.b1
  have := o.c1
  have bn := bdn hn
  have m1 := mul_ok (bdn (n := a) (by omega)) bn (by omega)
  have m2 := mul_ok ((bdn (n := a) (by omega)).mul bn) bn (by omega)
  have m3 := mul_ok (((bdn (n := a) (by omega)).mul bn).mul bn) bn (by omega)
  have m4 := mul_ok (bdn (n := b) (by omega)) bn (by omega)
  have d1 := mod_ok (x := (a : Int) * n * n * n + b * n + c) (show (0 : Int) < 1000003 by omega)
  have e := vl_int a b c n
  unfold ky F_value_by m_value_by
  as_aux_lemma =>
    simp only [runA, seq_ap, Mi.mi0, Mi.mi1, Mi.mi2, Mi.mi3, Mi.mi4, Mi.mi5, Mi.mo0, Mi.mo1, Mi.mo2, Mi.mo3, Mi.mo8, Bool.false_eq_true, Mi.mo9, Nat.reduceAdd, Nat.reduceSub, Nat.reduceLeDiff, Nat.reduceLT, Nat.reduceEqDiff, Mi.mt0, List.getElem?_cons_zero, List.getElem?_cons_succ, List.set_cons_zero, List.set_cons_succ, List.map_cons, List.map_nil, List.length_cons, List.length_nil, List.nil_append, List.cons_append, List.append_nil, List.replicate_succ, List.replicate_zero, lim_v, reduceIte, decide_true, decide_false, Bool.not_true, Bool.not_false, Option.bind_some, Mi.lst_no, Mi.par2, Mi.par3, eq_self, and_self, Mi.mi6, Mi.mi7, Mi.mi8, Mi.mi9, Option.map_some, Mi.mi10, Mi.mi11, Mi.mi12, Mi.mi13, Mi.mi14, Mi.mi15, m1, m2, m3, m4, d1, e]
theorem ten_eq {d : Nat} (h : d ≤ 6) : F_power [.int 10, nI d] = .ok (nI (10 ^ d)) := by
  have b : Bd 10 80 := bdn (n := 10) (by omega)
  rw [power_eq (a := 80) b (by omega) (by omega) (by omega) (by omega), Int.toNat_natCast]
  have e : ((10 ^ d : Nat) : Int) = 10 ^ d := by rw [Int.natCast_pow]; rfl
  rw [nI, e]
theorem ten_le {d : Nat} (h : d ≤ 6) : 10 ^ d ≤ 1000000 := Nat.pow_le_pow_right (n := 10) (by omega) h
theorem log_small {n : Nat} (h : n ≤ 10000000000000000000000) : (n : Int).natAbs.log2 < 1920 := by
  have k := (bdn h).log
  omega
theorem cut_one {d v : Nat} : L2.cutS ⟨(sg (v % 10 ^ d + 10 ^ d)).toArray⟩ (some 1) none = cd d v := by
  have hp : 0 < 10 ^ d := Nat.pow_pos (by omega)
  rw [sg_one d _ (Nat.mod_lt _ hp), dg_mod]
  unfold cd L2.cutS
  have l : (⟨(49 :: dg d v).toArray⟩ : PySem.Str).length = d + 1 := by
    show ((49 :: dg d v).toArray).size = d + 1
    rw [List.size_toArray, List.length_cons, dg_len]
  rw [l]
  have i1 : HT.sIx (d + 1) 0 (some 1) = 1 := by
    have := HT.sIx_nat (d + 1) 0 1
    rw [show ((1 : Nat) : Int) = 1 from rfl] at this
    rw [this]
    omega
  rw [i1, HT.sIx_none]
  show (⟨_⟩ : PySem.Str) = _
  congr 2
  rw [Nat.add_sub_cancel]
  show ((49 :: dg d v).drop 1).take d = dg d v
  rw [List.drop_succ_cons, List.drop_zero, List.take_of_length_le (by rw [dg_len]; exact Nat.le_refl _)]
theorem told_eq {d v : Nat} (h : d ≤ 6) : F_told [nI v, nI d] = .ok (.str (cd d v)) := by
  have p1 := ten_eq h
  have le := ten_le h
  have hp : 0 < 10 ^ d := Nat.pow_pos (by omega)
  have lt := Nat.mod_lt v hp
  have m := mod_ok (x := (v : Int)) (show (0 : Int) < ((10 ^ d : Nat) : Int) by omega)
  have e : (v : Int) % ((10 ^ d : Nat) : Int) + ((10 ^ d : Nat) : Int) = ((v % 10 ^ d + 10 ^ d : Nat) : Int) := by rw [Int.natCast_add, Int.natCast_emod]
  have lg := log_small (n := v % 10 ^ d + 10 ^ d) (by omega)
  have s := str_nat (v % 10 ^ d + 10 ^ d)
  have c := cut_one (d := d) (v := v)
  have sl : (⟨(sg (v % 10 ^ d + 10 ^ d)).toArray⟩ : PySem.Str).length ≤ 16777216 := by
    rw [sg_one d _ lt]
    show ((49 :: dg d _).toArray).size ≤ _
    rw [List.size_toArray, List.length_cons, dg_len]
    omega
  unfold F_told m_told
  generalize 10 ^ d = p at *
  generalize v % p + p = z at *
  generalize cd d v = r at *
  generalize (⟨(sg z).toArray⟩ : PySem.Str) = t at *
  generalize F_power = q0 at *
  as_aux_lemma =>
    simp only [runA, seq_ap, Mi.mi0, Mi.mi1, Mi.mi2, Mi.mi3, Mi.mi4, Mi.mi5, Mi.mo0, Mi.mo1, Mi.mo2, Mi.mo3, Mi.mo8, Bool.false_eq_true, Mi.mo9, Nat.reduceAdd, Nat.reduceSub, Nat.reduceLeDiff, Nat.reduceLT, Nat.reduceEqDiff, Mi.mt0, List.getElem?_cons_zero, List.getElem?_cons_succ, List.set_cons_zero, List.set_cons_succ, List.map_cons, List.map_nil, List.length_cons, List.length_nil, List.nil_append, List.cons_append, List.append_nil, List.replicate_succ, List.replicate_zero, lim_v, reduceIte, decide_true, decide_false, Bool.not_true, Bool.not_false, Option.bind_some, Mi.lst_no, Mi.par2, Mi.par3, eq_self, and_self, Mi.mi6, Mi.mi7, Mi.mi8, Mi.mi9, Option.map_some, Mi.mi10, Mi.mi11, Mi.mi12, Mi.mi13, Mi.mi14, Mi.mi15, p1, m, e, lg, s, c, sl]
theorem code_by_eq {a b c d n : Nat} (o : KyOk a b c d) (hn : n ≤ 10000000000000000000000) : F_code_by [ky a b c d, nI n] = .ok (.str (cd d (vl a b c n))) := by
  have h1 := value_by_eq o hn
  have h2 := told_eq (v := vl a b c n) o.d1
  have g : gIx (ky a b c d) (.int 3) = some (nI d) := rfl
  unfold F_code_by m_code_by
  generalize ky a b c d = k at *
  generalize vl a b c n = z at *
  generalize F_value_by = q0 at *
  generalize F_told = q1 at *
  as_aux_lemma =>
    simp only [runA, seq_ap, Mi.mi0, Mi.mi1, Mi.mi2, Mi.mi3, Mi.mi4, Mi.mi5, Mi.mo0, Mi.mo1, Mi.mo2, Mi.mo3, Mi.mo8, Bool.false_eq_true, Mi.mo9, Nat.reduceAdd, Nat.reduceSub, Nat.reduceLeDiff, Nat.reduceLT, Nat.reduceEqDiff, Mi.mt0, List.getElem?_cons_zero, List.getElem?_cons_succ, List.set_cons_zero, List.set_cons_succ, List.map_cons, List.map_nil, List.length_cons, List.length_nil, List.nil_append, List.cons_append, List.append_nil, List.replicate_succ, List.replicate_zero, lim_v, reduceIte, decide_true, decide_false, Bool.not_true, Bool.not_false, Option.bind_some, Mi.lst_no, Mi.par2, Mi.par3, eq_self, and_self, Mi.mi6, Mi.mi7, Mi.mi8, Mi.mi9, Option.map_some, Mi.mi10, Mi.mi11, Mi.mi12, Mi.mi13, Mi.mi14, Mi.mi15, h1, h2, g]
end Lw
namespace Lw
open Mi
theorem within_nat {v lo hi : Nat} (h1 : lo ≤ v) (h2 : v ≤ hi) : F_is_within [nI v, nI lo, nI hi] = .ok (.bl true) := within_ok (by omega) (by omega)
theorem is_key_eq {a b c d : Nat} (o : KyOk a b c d) : F_is_key [ky a b c d] = .ok (.bl true) := by
  have o1 := o.a1
  have o2 := o.b1
  have o3 := o.c1
  have o4 := o.d0
  have o5 := o.d1
  have w1 : F_is_within [.int (d : Int), .int 1, .int 6] = .ok (.bl true) := within_ok (by omega) (by omega)
  have w2 : ∀ x : Nat, x < 1000003 → F_is_within [.int (x : Int), .int 0, .int (1000003 - 1)] = .ok (.bl true) := fun x hx => within_ok (by omega) (by omega)
  have wa := w2 a o1
  have wb := w2 b o2
  have wc := w2 c o3
  have g3 : gIx (ky a b c d) (.int 3) = some (nI d) := rfl
  have ln : fLen [ky a b c d] = some (.int 4) := rfl
  have ct : gSl (ky a b c d) none (some 3) = some (.tup [nI a, nI b, nI c]) := rfl
  have ty : fIs [ky a b c d, .ty "tuple"] = some (.bl true) := rfl
  have fa : fAll [.lst [.bl true, .bl true, .bl true]] = some (.bl true) := rfl
  unfold F_is_key m_is_key f_is_key_0
  generalize ky a b c d = k at *
  generalize F_is_within = q0 at *
  as_aux_lemma =>
    simp only [runA, seq_ap, Mi.mi0, Mi.mi1, Mi.mi2, Mi.mi3, Mi.mi4, Mi.mi5, Mi.mo0, Mi.mo1, Mi.mo2, Mi.mo3, Mi.mo8, Bool.false_eq_true, Mi.mo9, Nat.reduceAdd, Nat.reduceSub, Nat.reduceLeDiff, Nat.reduceLT, Nat.reduceEqDiff, Mi.mt0, List.getElem?_cons_zero, List.getElem?_cons_succ, List.set_cons_zero, List.set_cons_succ, List.map_cons, List.map_nil, List.length_cons, List.length_nil, List.nil_append, List.cons_append, List.append_nil, List.replicate_succ, List.replicate_zero, lim_v, reduceIte, decide_true, decide_false, Bool.not_true, Bool.not_false, Option.bind_some, Mi.lst_no, Mi.par2, Mi.par3, eq_self, and_self, Mi.mi6, Mi.mi7, Mi.mi8, Mi.mi9, Option.map_some, Mi.mi10, Mi.mi11, Mi.mi12, Mi.mi13, Mi.mi14, Mi.mi15, w1, wa, wb, wc, g3, ln, ct, ty, fa, nLc, lcF, tYes1, wipeE, okW, resE, List.all_cons, List.all_nil, Bool.and_true, Option.getD_some, Option.getD_none, and_self]
theorem is_int (i : Int) : F_is_integer [.int i] = .ok (.bl true) := is_integer_int i
theorem sign_ok {s0 s1 : Sl} {c : Nat} (h : 48 ≤ c ∧ c ≤ 57) : f_are_figures_0 [s0, s1, .val (.str ⟨#[c]⟩)] = .ok (.bl true, [s0, s1, .val (.str ⟨#[c]⟩)]) := by
  have l1 : gLe (.str (PySem.Str.ofString "0")) (.str ⟨#[c]⟩) = some (.bl true) := by
    obtain ⟨h1, h2⟩ := h
    rcases (by omega : c = 48 ∨ c = 49 ∨ c = 50 ∨ c = 51 ∨ c = 52 ∨ c = 53 ∨ c = 54 ∨ c = 55 ∨ c = 56 ∨ c = 57) with rfl | rfl | rfl | rfl | rfl | rfl | rfl | rfl | rfl | rfl <;> kernel_rfl
  have l2 : gLe (.str ⟨#[c]⟩) (.str (PySem.Str.ofString "9")) = some (.bl true) := by
    obtain ⟨h1, h2⟩ := h
    rcases (by omega : c = 48 ∨ c = 49 ∨ c = 50 ∨ c = 51 ∨ c = 52 ∨ c = 53 ∨ c = 54 ∨ c = 55 ∨ c = 56 ∨ c = 57) with rfl | rfl | rfl | rfl | rfl | rfl | rfl | rfl | rfl | rfl <;> kernel_rfl
  unfold f_are_figures_0
  generalize PySem.Str.ofString "0" = z0 at *
  generalize PySem.Str.ofString "9" = z9 at *
  generalize (⟨#[c]⟩ : PySem.Str) = s at *
  as_aux_lemma =>
    simp only [seq_ap, Mi.mi0, Mi.mi1, Mi.mi2, Mi.mi3, Mi.mi4, Mi.mi5, Mi.mo0, Mi.mo1, Mi.mo2, Mi.mo3, Mi.mo8, Bool.false_eq_true, Mi.mo9, Nat.reduceAdd, Nat.reduceSub, Nat.reduceLeDiff, Nat.reduceLT, Nat.reduceEqDiff, Mi.mt0, List.getElem?_cons_zero, List.getElem?_cons_succ, List.set_cons_zero, List.set_cons_succ, List.map_cons, List.map_nil, List.length_cons, List.length_nil, List.nil_append, List.cons_append, List.append_nil, List.replicate_succ, List.replicate_zero, lim_v, reduceIte, decide_true, decide_false, Bool.not_true, Bool.not_false, Option.bind_some, Mi.lst_no, Mi.par2, Mi.par3, eq_self, and_self, Mi.mi6, Mi.mi7, Mi.mi8, Mi.mi9, Option.map_some, Mi.mi10, Mi.mi11, Mi.mi12, Mi.mi13, Mi.mi14, Mi.mi15, l1, l2]
theorem are_figures_eq {d v : Nat} (hd : d ≤ 6) : F_are_figures [.str (cd d v), nI d] = .ok (.bl true) := by
  have ln := cd_len d v
  have fl : fLen [.str (cd d v)] = some (nI d) := by
    have l1' : (cd d v).length ≤ lim := by rw [ln, lim_v]; omega
    simp only [fLen]
    rw [if_pos l1', ln]
  have sg1 : signs (cd d v) = (dg d v).map fun c => D.str ⟨#[c]⟩ := by
    unfold signs cd
    rfl
  have l : lcF [2] (gN 2) tYes1 f_are_figures_0 (signs (cd d v)) [.val (.str (cd d v)), .val (nI d), .un] = .ok ((dg d v).map fun _ => D.bl true, [.val (.str (cd d v)), .val (nI d), .un]) := by
    rw [sg1]
    exact lcF_all (fun c : Nat => D.str ⟨#[c]⟩) (fun _ => D.bl true) (dg d v) fun c hc => ⟨_, rfl, sign_ok (dg_sign d v c hc), rfl⟩
  have fa := fAll_true (dg d v)
  have le : ((dg d v).map fun _ => D.bl true).length ≤ 16777216 := by rw [List.length_map, dg_len]; omega
  have ty : fIs [.str (cd d v), .ty "str"] = some (.bl true) := rfl
  have eq : gEq (nI d) (nI d) = some (.bl true) := by
    show some (D.bl (decide ((d : Int) = (d : Int)))) = _
    rw [decide_eq_true rfl]
  have its : ∀ e : En, iS (eV 0) [.val (.str (cd d v)), .val (nI d), .un] = .ok (signs (cd d v), [.val (.str (cd d v)), .val (nI d), .un]) := fun _ => rfl
  unfold F_are_figures m_are_figures
  generalize ((dg d v).map fun _ => D.bl true) = z at *
  generalize cd d v = s at *
  generalize nI d = dd at *
  generalize f_are_figures_0 = q0 at *
  as_aux_lemma =>
    simp only [runA, seq_ap, Mi.mi0, Mi.mi1, Mi.mi2, Mi.mi3, Mi.mi4, Mi.mi5, Mi.mo0, Mi.mo1, Mi.mo2, Mi.mo3, Mi.mo8, Bool.false_eq_true, Mi.mo9, Nat.reduceAdd, Nat.reduceSub, Nat.reduceLeDiff, Nat.reduceLT, Nat.reduceEqDiff, Mi.mt0, List.getElem?_cons_zero, List.getElem?_cons_succ, List.set_cons_zero, List.set_cons_succ, List.map_cons, List.map_nil, List.length_cons, List.length_nil, List.nil_append, List.cons_append, List.append_nil, List.replicate_succ, List.replicate_zero, lim_v, reduceIte, decide_true, decide_false, Bool.not_true, Bool.not_false, Option.bind_some, Mi.lst_no, Mi.par2, Mi.par3, eq_self, and_self, Mi.mi6, Mi.mi7, Mi.mi8, Mi.mi9, Option.map_some, Mi.mi10, Mi.mi11, Mi.mi12, Mi.mi13, Mi.mi14, Mi.mi15, fl, ty, eq, l, fa, le, its, nLc, wipeE, okW, resE, List.all_cons, List.all_nil, Bool.and_true, Option.getD_some, Option.getD_none, and_self]
/-! ### the law's code -/
theorem zeros : (PySem.Str.ofString "000000") = ⟨(List.replicate 6 48).toArray⟩ := by
  rw [PySem.Str.ofString_eq_toList]
  rfl
theorem cut_last {d v : Nat} (hd : d ≤ 6) : L2.cutS (PySem.Str.ofString "000000" ++ ⟨(sg v).toArray⟩) (some ((6 + (sg v).length - d : Nat) : Int)) none = cd d v := by
  rw [zeros]
  have e : (⟨(List.replicate 6 48).toArray⟩ ++ ⟨(sg v).toArray⟩ : PySem.Str) = ⟨(List.replicate 6 48 ++ sg v).toArray⟩ := by
    show (⟨(List.replicate 6 48).toArray ++ (sg v).toArray⟩ : PySem.Str) = _
    rw [List.append_toArray]
  rw [e]
  have l : (⟨(List.replicate 6 48 ++ sg v).toArray⟩ : PySem.Str).length = 6 + (sg v).length := by
    show ((List.replicate 6 48 ++ sg v).toArray).size = _
    rw [List.size_toArray, List.length_append, List.length_replicate]
  unfold L2.cutS cd
  rw [l, HT.sIx_nat, HT.sIx_none, Nat.min_eq_left (by omega)]
  show (⟨_⟩ : PySem.Str) = _
  congr 2
  show ((List.replicate 6 48 ++ sg v).drop (6 + (sg v).length - d)).take _ = _
  rw [sg_last d v hd, List.take_of_length_le (by rw [dg_len]; omega)]
theorem sg_len : ∀ d w, w < 10 ^ (d + 1) → (sg w).length ≤ d + 1
  | 0, w, hw => by rw [sg_lt (by simpa using hw)]; exact Nat.le_refl _
  | d + 1, w, hw => by
    by_cases h : w < 10
    · rw [sg_lt h]
      show 1 ≤ _
      omega
    · rw [sg_ge (by omega), List.length_append, List.length_singleton]
      have := sg_len d (w / 10) (by rw [Nat.pow_succ] at hw; omega)
      omega
theorem law_code_eq {a b c d n : Nat} (o : KyOk a b c d) (hn : n ≤ 10000000000000000000000) : F__law_code [ky a b c d, nI n] = .ok (.str (cd d (vl a b c n))) := by
  have := o.a1
  have := o.b1
  have := o.c1
  have d6 := o.d1
  have bn := bdn hn
  have m1 := mul_ok (bdn (n := a) (by omega)) bn (by omega)
  have m2 := mul_ok ((bdn (n := a) (by omega)).mul bn) bn (by omega)
  have m3 := mul_ok (((bdn (n := a) (by omega)).mul bn).mul bn) bn (by omega)
  have m4 := mul_ok (bdn (n := b) (by omega)) bn (by omega)
  have d1 := mod_ok (x := (a : Int) * n * n * n + b * n + c) (show (0 : Int) < 1000003 by omega)
  have e := vl_int a b c n
  have lt := vl_lt a b c n
  have lg := log_small (n := vl a b c n) (by omega)
  generalize vl a b c n = v at *
  have s := str_nat v
  have q := cut_last (d := d) (v := v) d6
  have ln : (⟨(sg v).toArray⟩ : PySem.Str).length = (sg v).length := List.size_toArray ..
  have sl : (sg v).length ≤ 100 := by
    have h := sg_len 6 v (by have : (10 : Nat) ^ 7 = 10000000 := by decide
                             omega)
    omega
  have zl : (PySem.Str.ofString "000000").length = 6 := by rw [zeros]; rfl
  have i1 : (6 : Int) + ((sg v).length : Int) - (d : Int) = ((6 + (sg v).length - d : Nat) : Int) := by omega
  have l1 : (⟨(sg v).toArray⟩ : PySem.Str).length ≤ 16777216 := by rw [ln]; omega
  have l2 : (PySem.Str.ofString "000000").length + (⟨(sg v).toArray⟩ : PySem.Str).length ≤ 16777216 := by rw [ln, zl]; omega
  have l3 : (PySem.Str.ofString "000000" ++ (⟨(sg v).toArray⟩ : PySem.Str)).length ≤ 16777216 := by
    rw [zeros]
    show ((List.replicate 6 48).toArray ++ (sg v).toArray).size ≤ _
    rw [Array.size_append, List.size_toArray, List.size_toArray, List.length_replicate]
    omega
  have fl : fLen [.str ⟨(sg v).toArray⟩] = some (.int ((sg v).length : Int)) := by
    have l1' : (⟨(sg v).toArray⟩ : PySem.Str).length ≤ lim := l1
    simp only [fLen]
    rw [if_pos l1', ln]
  unfold ky F__law_code m__law_code
  generalize cd d v = r at *
  generalize (⟨(sg v).toArray⟩ : PySem.Str) = t at *
  generalize PySem.Str.ofString "000000" = zs at *
  generalize (sg v).length = ll at *
  as_aux_lemma =>
    simp only [runA, seq_ap, Mi.mi0, Mi.mi1, Mi.mi2, Mi.mi3, Mi.mi4, Mi.mi5, Mi.mo0, Mi.mo1, Mi.mo2, Mi.mo3, Mi.mo8, Bool.false_eq_true, Mi.mo9, Nat.reduceAdd, Nat.reduceSub, Nat.reduceLeDiff, Nat.reduceLT, Nat.reduceEqDiff, Mi.mt0, List.getElem?_cons_zero, List.getElem?_cons_succ, List.set_cons_zero, List.set_cons_succ, List.map_cons, List.map_nil, List.length_cons, List.length_nil, List.nil_append, List.cons_append, List.append_nil, List.replicate_succ, List.replicate_zero, lim_v, reduceIte, decide_true, decide_false, Bool.not_true, Bool.not_false, Option.bind_some, Mi.lst_no, Mi.par2, Mi.par3, eq_self, and_self, Mi.mi6, Mi.mi7, Mi.mi8, Mi.mi9, Option.map_some, Mi.mi10, Mi.mi11, Mi.mi12, Mi.mi13, Mi.mi14, Mi.mi15, m1, m2, m3, m4, d1, e, lg, s, fl, i1, l2, l3, q]
end Lw
namespace Lw
open Mi
/-! ### judges by clocks -/
def jd (k : D) (st sl : Nat) (dr la : Int) : D := .tup [k, nI st, nI sl, .int dr, .int la]
structure JOk (st sl : Nat) (dr la : Int) : Prop where
  s0 : 1 ≤ st
  s1 : st ≤ 600
  l1 : sl ≤ 20
  d0 : -300000000000000000000 ≤ dr
  d1 : dr ≤ 300000000000000000000
  la0 : -1 ≤ la
theorem is_judge_eq {a b c d st sl : Nat} {dr la : Int} (o : KyOk a b c d) (j : JOk st sl dr la) : F_is_clock_judge [jd (ky a b c d) st sl dr la] = .ok (.bl true) := by
  have k1 := is_key_eq o
  have j1 := j.s0
  have j2 := j.s1
  have j3 := j.l1
  have w1 : F_is_within [.int (st : Int), .int 1, .int 600] = .ok (.bl true) := within_ok (by omega) (by omega)
  have w2 : F_is_within [.int (sl : Int), .int 0, .int 20] = .ok (.bl true) := within_ok (by omega) (by omega)
  have w3 := is_int dr
  have w4 := is_int la
  have c1 := decide_eq_true (show (-1 : Int) ≤ la from j.la0)
  unfold F_is_clock_judge m_is_clock_judge jd
  generalize ky a b c d = k at *
  generalize F_is_key = q0 at *
  generalize F_is_within = q1 at *
  generalize F_is_integer = q2 at *
  as_aux_lemma =>
    simp only [runA, seq_ap, Mi.mi0, Mi.mi1, Mi.mi2, Mi.mi3, Mi.mi4, Mi.mi5, Mi.mo0, Mi.mo1, Mi.mo2, Mi.mo3, Mi.mo8, Bool.false_eq_true, Mi.mo9, Nat.reduceAdd, Nat.reduceSub, Nat.reduceLeDiff, Nat.reduceLT, Nat.reduceEqDiff, Mi.mt0, List.getElem?_cons_zero, List.getElem?_cons_succ, List.set_cons_zero, List.set_cons_succ, List.map_cons, List.map_nil, List.length_cons, List.length_nil, List.nil_append, List.cons_append, List.append_nil, List.replicate_succ, List.replicate_zero, lim_v, reduceIte, decide_true, decide_false, Bool.not_true, Bool.not_false, Option.bind_some, Mi.lst_no, Mi.par2, Mi.par3, eq_self, and_self, Mi.mi6, Mi.mi7, Mi.mi8, Mi.mi9, Option.map_some, Mi.mi10, Mi.mi11, Mi.mi12, Mi.mi13, Mi.mi14, Mi.mi15, k1, w1, w2, w3, w4, c1, ge_iff_le]
theorem check_judge_eq {a b c d st sl : Nat} {dr la : Int} (o : KyOk a b c d) (j : JOk st sl dr la) : F_check_judge [jd (ky a b c d) st sl dr la] = .ok .non := by
  have h1 := is_judge_eq o j
  have h2 := check_true
  unfold F_check_judge m_check_judge
  generalize jd (ky a b c d) st sl dr la = k at *
  generalize F_is_clock_judge = q0 at *
  generalize F_check = q1 at *
  as_aux_lemma =>
    simp only [runA, seq_ap, Mi.mi0, Mi.mi1, Mi.mi2, Mi.mi3, Mi.mi4, Mi.mi5, Mi.mo0, Mi.mo1, Mi.mo2, Mi.mo3, Mi.mo8, Bool.false_eq_true, Mi.mo9, Nat.reduceAdd, Nat.reduceSub, Nat.reduceLeDiff, Nat.reduceLT, Nat.reduceEqDiff, Mi.mt0, List.getElem?_cons_zero, List.getElem?_cons_succ, List.set_cons_zero, List.set_cons_succ, List.map_cons, List.map_nil, List.length_cons, List.length_nil, List.nil_append, List.cons_append, List.append_nil, List.replicate_succ, List.replicate_zero, lim_v, reduceIte, decide_true, decide_false, Bool.not_true, Bool.not_false, Option.bind_some, Mi.lst_no, Mi.par2, Mi.par3, eq_self, and_self, Mi.mi6, Mi.mi7, Mi.mi8, Mi.mi9, Option.map_some, Mi.mi10, Mi.mi11, Mi.mi12, Mi.mi13, Mi.mi14, Mi.mi15, h1, h2]
/-- how far t has gone in steps -/
def due (st t : Nat) (dr : Int) : Int := ((t / st : Nat) : Int) + dr
theorem fdiv_nat {t st : Nat} : (t : Int) / (st : Int) = ((t / st : Nat) : Int) := by rw [Int.natCast_ediv]
theorem due_by_eq {k : D} {st sl t : Nat} {dr la : Int} (j : JOk st sl dr la) : F_due_by [jd k st sl dr la, nI t] = .ok (.int (due st t dr)) := by
  have j1 := j.s0
  have j2 := j.s1
  have d1 : divXOk (t : Int) (st : Int) = true := div_ok (by omega) (.inl ((bdn (n := st) (by omega)).mono (by omega)))
  have e := fdiv_nat (t := t) (st := st)
  unfold F_due_by m_due_by jd due
  as_aux_lemma =>
    simp only [runA, seq_ap, Mi.mi0, Mi.mi1, Mi.mi2, Mi.mi3, Mi.mi4, Mi.mi5, Mi.mo0, Mi.mo1, Mi.mo2, Mi.mo3, Mi.mo8, Bool.false_eq_true, Mi.mo9, Nat.reduceAdd, Nat.reduceSub, Nat.reduceLeDiff, Nat.reduceLT, Nat.reduceEqDiff, Mi.mt0, List.getElem?_cons_zero, List.getElem?_cons_succ, List.set_cons_zero, List.set_cons_succ, List.map_cons, List.map_nil, List.length_cons, List.length_nil, List.nil_append, List.cons_append, List.append_nil, List.replicate_succ, List.replicate_zero, lim_v, reduceIte, decide_true, decide_false, Bool.not_true, Bool.not_false, Option.bind_some, Mi.lst_no, Mi.par2, Mi.par3, eq_self, and_self, Mi.mi6, Mi.mi7, Mi.mi8, Mi.mi9, Option.map_some, Mi.mi10, Mi.mi11, Mi.mi12, Mi.mi13, Mi.mi14, Mi.mi15, d1, e]
def nearL : Nat → Int → List Int
  | 0, u => [u]
  | k + 1, u => nearL k u ++ [u - ((k + 1 : Nat) : Int), u + ((k + 1 : Nat) : Int)]
theorem nearL_len (u : Int) : ∀ k, (nearL k u).length = 2 * k + 1
  | 0 => rfl
  | k + 1 => by rw [nearL, List.length_append, nearL_len u k]; show 2 * k + 1 + 2 = _; omega
def lookL (sl : Nat) (u la : Int) : List Int := (nearL sl u).filter fun n => decide (la < n) && decide (0 ≤ n)
theorem look_loop {sl : Nat} {u : Int} (hs : sl ≤ 20) (s0 s1 s3 s5 s6 s7 : Sl) : ∃ x3, forF (gN 3) b_looked_by_0 (rangeD 1 sl) [s0, s1, .own [.int u], s3, .val (.int u), s5, s6, s7] = .ok (.nx [s0, s1, .own ((nearL sl u).map D.int), x3, .val (.int u), s5, s6, s7]) := by
  obtain ⟨e', h1, x3, rfl⟩ := for_rng (G := gN 3) (b := b_looked_by_0) (lo := 1) (n := sl) (fun i e => ∃ x3, e = [s0, s1, .own ((nearL i u).map D.int), x3, .val (.int u), s5, s6, s7]) ⟨s3, rfl⟩ fun i e hi ⟨x3, he⟩ => by
    subst he
    have l := nearL_len u i
    have le : ((nearL i u).map D.int).length + 2 ≤ 16777216 := by rw [List.length_map, l]; omega
    have e1 : (nearL i u).map D.int ++ [.int (u - (1 + (i : Int))), .int (u + (1 + (i : Int)))] = (nearL (i + 1) u).map D.int := by
      have q : (1 + (i : Int)) = ((i + 1 : Nat) : Int) := by omega
      rw [nearL, List.map_append, q]
      rfl
    refine ⟨_, _, rfl, ?_, .val (.int (1 + (i : Int))), rfl⟩
    rw [← e1]
    generalize (nearL i u).map D.int = z at *
    unfold b_looked_by_0
    as_aux_lemma =>
      simp only [seq_ap, Mi.mi0, Mi.mi1, Mi.mi2, Mi.mi3, Mi.mi4, Mi.mi5, Mi.mo0, Mi.mo1, Mi.mo2, Mi.mo3, Mi.mo8, Bool.false_eq_true, Mi.mo9, Nat.reduceAdd, Nat.reduceSub, Nat.reduceLeDiff, Nat.reduceLT, Nat.reduceEqDiff, Mi.mt0, List.getElem?_cons_zero, List.getElem?_cons_succ, List.set_cons_zero, List.set_cons_succ, List.map_cons, List.map_nil, List.length_cons, List.length_nil, List.nil_append, List.cons_append, List.append_nil, List.replicate_succ, List.replicate_zero, lim_v, reduceIte, decide_true, decide_false, Bool.not_true, Bool.not_false, Option.bind_some, Mi.lst_no, Mi.par2, Mi.par3, eq_self, and_self, Mi.mi6, Mi.mi7, Mi.mi8, Mi.mi9, Option.map_some, Mi.mi10, Mi.mi11, Mi.mi12, Mi.mi13, Mi.mi14, Mi.mi15, le]
  exact ⟨x3, h1⟩
end Lw
namespace Lw
open Mi
theorem look_p (n la : Int) (x : Sl) (a b c d e f : Sl) : t_looked_by_0 [a, b, c, d, e, f, .val (.int la), .val (.int n)] = .ok (decide (la < n) && decide (0 ≤ n), [a, b, c, d, e, f, .val (.int la), .val (.int n)]) := by
  unfold t_looked_by_0
  by_cases h : la < n
  · have h := decide_eq_true h
    as_aux_lemma =>
      simp only [seq_ap, Mi.mi0, Mi.mi1, Mi.mi2, Mi.mi3, Mi.mi4, Mi.mi5, Mi.mo0, Mi.mo1, Mi.mo2, Mi.mo3, Mi.mo8, Bool.false_eq_true, Mi.mo9, Nat.reduceAdd, Nat.reduceSub, Nat.reduceLeDiff, Nat.reduceLT, Nat.reduceEqDiff, Mi.mt0, List.getElem?_cons_zero, List.getElem?_cons_succ, List.set_cons_zero, List.set_cons_succ, List.map_cons, List.map_nil, List.length_cons, List.length_nil, List.nil_append, List.cons_append, List.append_nil, List.replicate_succ, List.replicate_zero, lim_v, reduceIte, decide_true, decide_false, Bool.not_true, Bool.not_false, Option.bind_some, Mi.lst_no, Mi.par2, Mi.par3, eq_self, and_self, Mi.mi6, Mi.mi7, Mi.mi8, Mi.mi9, Option.map_some, Mi.mi10, Mi.mi11, Mi.mi12, Mi.mi13, Mi.mi14, Mi.mi15, h, Bool.true_and, gt_iff_lt, ge_iff_le]
  · have h := decide_eq_false h
    as_aux_lemma =>
      simp only [seq_ap, Mi.mi0, Mi.mi1, Mi.mi2, Mi.mi3, Mi.mi4, Mi.mi5, Mi.mo0, Mi.mo1, Mi.mo2, Mi.mo3, Mi.mo8, Bool.false_eq_true, Mi.mo9, Nat.reduceAdd, Nat.reduceSub, Nat.reduceLeDiff, Nat.reduceLT, Nat.reduceEqDiff, Mi.mt0, List.getElem?_cons_zero, List.getElem?_cons_succ, List.set_cons_zero, List.set_cons_succ, List.map_cons, List.map_nil, List.length_cons, List.length_nil, List.nil_append, List.cons_append, List.append_nil, List.replicate_succ, List.replicate_zero, lim_v, reduceIte, decide_true, decide_false, Bool.not_true, Bool.not_false, Option.bind_some, Mi.lst_no, Mi.par2, Mi.par3, eq_self, and_self, Mi.mi6, Mi.mi7, Mi.mi8, Mi.mi9, Option.map_some, Mi.mi10, Mi.mi11, Mi.mi12, Mi.mi13, Mi.mi14, Mi.mi15, h, Bool.false_and, gt_iff_lt, ge_iff_le]
theorem look_len (sl : Nat) (u la : Int) : (lookL sl u la).length ≤ 2 * sl + 1 := by
  unfold lookL
  have := List.length_filter_le (fun n => decide (la < n) && decide (0 ≤ n)) (nearL sl u)
  rw [nearL_len] at this
  exact this
theorem looked_by_eq {k : D} {st sl t : Nat} {dr la : Int} (j : JOk st sl dr la) : F_looked_by [jd k st sl dr la, nI t] = .ok (.lst ((lookL sl (due st t dr) la).map D.int)) := by
  have h1 := due_by_eq (k := k) (t := t) j
  have g2 : gIx (jd k st sl dr la) (.int 2) = some (nI sl) := rfl
  have g4 : gIx (jd k st sl dr la) (.int 4) = some (.int la) := rfl
  have l1 := j.l1
  have rr := r62_of (show (0 : Int) ≤ 1 by omega) (by omega)
  have r2 := r62_of (show (0 : Int) ≤ (sl : Int) + 1 by omega) (by omega)
  have tn : ((sl : Int) + 1 - 1).toNat = sl := by omega
  generalize due st t dr = u at *
  obtain ⟨x3, lo⟩ := look_loop (u := u) l1 (.val (jd k st sl dr la)) (.val (nI t)) .un (.val (nI sl)) (.val (.int la)) .un
  have le := look_len sl u la
  have le2 : ((lookL sl u la).map D.int).length ≤ 16777216 := by rw [List.length_map]; omega
  have l2 : lcF [7] (gN 7) t_looked_by_0 f_looked_by_1 ((nearL sl u).map D.int) [.val (jd k st sl dr la), .val (nI t), .val (.lst ((nearL sl u).map D.int)), x3, .val (.int u), .val (nI sl), .val (.int la), .un] =
      .ok ((lookL sl u la).map D.int, [.val (jd k st sl dr la), .val (nI t), .val (.lst ((nearL sl u).map D.int)), x3, .val (.int u), .val (nI sl), .val (.int la), .un]) :=
    lcF_list D.int (fun n => decide (la < n) && decide (0 ≤ n)) D.int (nearL sl u) fun n hn => ⟨_, rfl, look_p n la .un _ _ _ _ _ _, fun _ => rfl, rfl⟩
  unfold F_looked_by m_looked_by
  generalize jd k st sl dr la = J at *
  generalize (lookL sl u la).map D.int = z1 at *
  generalize (nearL sl u).map D.int = z2 at *
  generalize F_due_by = q0 at *
  generalize b_looked_by_0 = q1 at *
  generalize t_looked_by_0 = q2 at *
  generalize f_looked_by_1 = q3 at *
  as_aux_lemma =>
    simp only [runA, seq_ap, Mi.mi0, Mi.mi1, Mi.mi2, Mi.mi3, Mi.mi4, Mi.mi5, Mi.mo0, Mi.mo1, Mi.mo2, Mi.mo3, Mi.mo8, Bool.false_eq_true, Mi.mo9, Nat.reduceAdd, Nat.reduceSub, Nat.reduceLeDiff, Nat.reduceLT, Nat.reduceEqDiff, Mi.mt0, List.getElem?_cons_zero, List.getElem?_cons_succ, List.set_cons_zero, List.set_cons_succ, List.map_cons, List.map_nil, List.length_cons, List.length_nil, List.nil_append, List.cons_append, List.append_nil, List.replicate_succ, List.replicate_zero, lim_v, reduceIte, decide_true, decide_false, Bool.not_true, Bool.not_false, Option.bind_some, Mi.lst_no, Mi.par2, Mi.par3, eq_self, and_self, Mi.mi6, Mi.mi7, Mi.mi8, Mi.mi9, Option.map_some, Mi.mi10, Mi.mi11, Mi.mi12, Mi.mi13, Mi.mi14, Mi.mi15, h1, g2, g4, rr, r2, tn, lo, l2, le2, nLc, wipeE, okW, resE, List.all_cons, List.all_nil, Bool.and_true, Option.getD_some, Option.getD_none, and_self]
end Lw
namespace Lw
open Mi
theorem near_mem (n u : Int) : ∀ k : Nat, n ∈ nearL k u ↔ u - (k : Int) ≤ n ∧ n ≤ u + (k : Int)
  | 0 => by
    rw [nearL, List.mem_singleton]
    omega
  | k + 1 => by
    rw [nearL, List.mem_append, near_mem n u k]
    simp only [List.mem_cons, List.mem_nil_iff, or_false]
    omega
theorem look_mem {sl : Nat} {u la n : Int} : n ∈ lookL sl u la ↔ (u - (sl : Int) ≤ n ∧ n ≤ u + (sl : Int)) ∧ la < n ∧ 0 ≤ n := by
  unfold lookL
  rw [List.mem_filter, near_mem, Bool.and_eq_true, decide_eq_true_iff, decide_eq_true_iff]
def optD : Option Int → D
  | some n => .int n
  | none => .non
/-- those that show the code of w -/
def fitL (a b c d w sl : Nat) (u la : Int) : List Int := (lookL sl u la).filter fun n => decide (vl a b c n.toNat % 10 ^ d = w % 10 ^ d)
theorem due_le {st t : Nat} {dr : Int} (h : dr ≤ 300000000000000000000) (ht : t ≤ 200000000000000000000) : due st t dr ≤ 500000000000000000000 := by
  unfold due
  have : t / st ≤ t := Nat.div_le_self _ _
  omega
theorem met_by_eq {a b c d st sl t w : Nat} {dr la : Int} (o : KyOk a b c d) (j : JOk st sl dr la) (ht : t ≤ 200000000000000000000) :
    F_met_by [jd (ky a b c d) st sl dr la, .str (cd d w), nI t] = .ok (optD (fitL a b c d w sl (due st t dr) la).head?) := by
  have h1 := looked_by_eq (k := ky a b c d) (t := t) j
  have hd := due_le (st := st) j.d1 ht
  have g0 : gIx (jd (ky a b c d) st sl dr la) (.int 0) = some (ky a b c d) := rfl
  have l1 := j.l1
  generalize due st t dr = u at *
  have l2 : lcF [4] (gN 4) t_met_by_0 f_met_by_1 ((lookL sl u la).map D.int) [.val (jd (ky a b c d) st sl dr la), .val (.str (cd d w)), .val (nI t), .un, .un] =
      .ok ((fitL a b c d w sl u la).map D.int, [.val (jd (ky a b c d) st sl dr la), .val (.str (cd d w)), .val (nI t), .un, .un]) :=
    lcF_list D.int (fun n => decide (vl a b c n.toNat % 10 ^ d = w % 10 ^ d)) D.int (lookL sl u la) fun n hn => ⟨[.val (jd (ky a b c d) st sl dr la), .val (.str (cd d w)), .val (nI t), .un, .val (.int n)], rfl, by
      obtain ⟨⟨_, q1⟩, _, q2⟩ := look_mem.1 hn
      obtain ⟨m, rfl⟩ : ∃ m : Nat, n = (m : Int) := ⟨n.toNat, by omega⟩
      have k := code_by_eq (n := m) o (by omega)
      have e : gEq (.str (cd d (vl a b c m))) (.str (cd d w)) = some (.bl (decide (vl a b c m % 10 ^ d = w % 10 ^ d))) := by
        show some (D.bl (decide (cd d (vl a b c m) = cd d w))) = _
        rw [decide_eq_decide.2 (cd_inj d _ w)]
      rw [Int.toNat_natCast]
      unfold t_met_by_0
      generalize jd (ky a b c d) st sl dr la = J at *
      generalize ky a b c d = kk at *
      generalize cd d w = s1 at *
      generalize cd d (vl a b c m) = s2 at *
      generalize F_code_by = q0 at *
      as_aux_lemma =>
        simp only [seq_ap, Mi.mi0, Mi.mi1, Mi.mi2, Mi.mi3, Mi.mi4, Mi.mi5, Mi.mo0, Mi.mo1, Mi.mo2, Mi.mo3, Mi.mo8, Bool.false_eq_true, Mi.mo9, Nat.reduceAdd, Nat.reduceSub, Nat.reduceLeDiff, Nat.reduceLT, Nat.reduceEqDiff, Mi.mt0, List.getElem?_cons_zero, List.getElem?_cons_succ, List.set_cons_zero, List.set_cons_succ, List.map_cons, List.map_nil, List.length_cons, List.length_nil, List.nil_append, List.cons_append, List.append_nil, List.replicate_succ, List.replicate_zero, lim_v, reduceIte, decide_true, decide_false, Bool.not_true, Bool.not_false, Option.bind_some, Mi.lst_no, Mi.par2, Mi.par3, eq_self, and_self, Mi.mi6, Mi.mi7, Mi.mi8, Mi.mi9, Option.map_some, Mi.mi10, Mi.mi11, Mi.mi12, Mi.mi13, Mi.mi14, Mi.mi15, g0, k, e], fun _ => rfl, rfl⟩
  have le := look_len sl u la
  have le2 : ((fitL a b c d w sl u la).map D.int).length ≤ 16777216 := by
    rw [List.length_map]
    have : (fitL a b c d w sl u la).length ≤ (lookL sl u la).length := List.length_filter_le _ _
    omega
  unfold F_met_by m_met_by
  generalize (lookL sl u la).map D.int = z1 at *
  generalize jd (ky a b c d) st sl dr la = J at *
  generalize cd d w = s1 at *
  generalize F_looked_by = q0 at *
  generalize t_met_by_0 = q1 at *
  generalize f_met_by_1 = q2 at *
  cases hf : fitL a b c d w sl u la with
  | nil =>
    rw [hf] at l2 le2
    rw [List.map_nil] at l2 le2
    have k0 : decide ((0 : Int) < 0) = false := rfl
    show _ = R.ok D.non
    as_aux_lemma =>
      simp only [runA, seq_ap, Mi.mi0, Mi.mi1, Mi.mi2, Mi.mi3, Mi.mi4, Mi.mi5, Mi.mo0, Mi.mo1, Mi.mo2, Mi.mo3, Mi.mo8, Bool.false_eq_true, Mi.mo9, Nat.reduceAdd, Nat.reduceSub, Nat.reduceLeDiff, Nat.reduceLT, Nat.reduceEqDiff, Mi.mt0, List.getElem?_cons_zero, List.getElem?_cons_succ, List.set_cons_zero, List.set_cons_succ, List.map_cons, List.map_nil, List.length_cons, List.length_nil, List.nil_append, List.cons_append, List.append_nil, List.replicate_succ, List.replicate_zero, lim_v, reduceIte, decide_true, decide_false, Bool.not_true, Bool.not_false, Option.bind_some, Mi.lst_no, Mi.par2, Mi.par3, eq_self, and_self, Mi.mi6, Mi.mi7, Mi.mi8, Mi.mi9, Option.map_some, Mi.mi10, Mi.mi11, Mi.mi12, Mi.mi13, Mi.mi14, Mi.mi15, h1, l2, le2, k0, gt_iff_lt, nLc, wipeE, okW, resE, List.all_cons, List.all_nil, Bool.and_true, Option.getD_some, Option.getD_none, and_self]
  | cons x r =>
    rw [hf] at l2 le2
    rw [List.map_cons] at l2 le2
    have k0 : decide ((0 : Int) < (((D.int x :: r.map D.int).length : Nat) : Int)) = true := decide_eq_true (by simp)
    have x0 : L2.atI (D.int x :: r.map D.int) 0 = some (D.int x) := Mi.mo9.1 _ _
    show _ = R.ok (D.int x)
    generalize D.int x :: r.map D.int = zz at *
    as_aux_lemma =>
      simp only [runA, seq_ap, Mi.mi0, Mi.mi1, Mi.mi2, Mi.mi3, Mi.mi4, Mi.mi5, Mi.mo0, Mi.mo1, Mi.mo2, Mi.mo3, Mi.mo8, Bool.false_eq_true, Mi.mo9, Nat.reduceAdd, Nat.reduceSub, Nat.reduceLeDiff, Nat.reduceLT, Nat.reduceEqDiff, Mi.mt0, List.getElem?_cons_zero, List.getElem?_cons_succ, List.set_cons_zero, List.set_cons_succ, List.map_cons, List.map_nil, List.length_cons, List.length_nil, List.nil_append, List.cons_append, List.append_nil, List.replicate_succ, List.replicate_zero, lim_v, reduceIte, decide_true, decide_false, Bool.not_true, Bool.not_false, Option.bind_some, Mi.lst_no, Mi.par2, Mi.par3, eq_self, and_self, Mi.mi6, Mi.mi7, Mi.mi8, Mi.mi9, Option.map_some, Mi.mi10, Mi.mi11, Mi.mi12, Mi.mi13, Mi.mi14, Mi.mi15, h1, l2, le2, k0, x0, gt_iff_lt, nLc, wipeE, okW, resE, List.all_cons, List.all_nil, Bool.and_true, Option.getD_some, Option.getD_none, and_self]
/-- drift and last count behind a code -/
def after (st t : Nat) (dr la : Int) : Option Int → Bool × (Int × Int)
  | none => (false, (dr, la))
  | some n => (true, (n - ((t / st : Nat) : Int), n))
theorem judged_by_eq {a b c d st sl t w : Nat} {dr la : Int} (o : KyOk a b c d) (j : JOk st sl dr la) (ht : t ≤ 200000000000000000000) :
    F_judged_by [jd (ky a b c d) st sl dr la, .str (cd d w), nI t] = .ok (.tup [.bl (after st t dr la (fitL a b c d w sl (due st t dr) la).head?).1,
      jd (ky a b c d) st sl (after st t dr la (fitL a b c d w sl (due st t dr) la).head?).2.1 (after st t dr la (fitL a b c d w sl (due st t dr) la).head?).2.2]) := by
  have h1 := met_by_eq (w := w) o j ht
  have j0 := j.s0
  have j1 := j.s1
  have d1 : divXOk (t : Int) (st : Int) = true := div_ok (by omega) (.inl ((bdn (n := st) (by omega)).mono (by omega)))
  have e := fdiv_nat (t := t) (st := st)
  generalize (fitL a b c d w sl (due st t dr) la).head? = m at *
  unfold F_judged_by m_judged_by jd
  unfold jd at h1
  generalize ky a b c d = kk at *
  generalize cd d w = s1 at *
  generalize F_met_by = q0 at *
  cases m with
  | none =>
    change _ = R.ok D.non at h1
    show _ = R.ok (D.tup [.bl false, .tup [kk, nI st, nI sl, .int dr, .int la]])
    as_aux_lemma =>
      simp only [runA, seq_ap, Mi.mi0, Mi.mi1, Mi.mi2, Mi.mi3, Mi.mi4, Mi.mi5, Mi.mo0, Mi.mo1, Mi.mo2, Mi.mo3, Mi.mo8, Bool.false_eq_true, Mi.mo9, Nat.reduceAdd, Nat.reduceSub, Nat.reduceLeDiff, Nat.reduceLT, Nat.reduceEqDiff, Mi.mt0, List.getElem?_cons_zero, List.getElem?_cons_succ, List.set_cons_zero, List.set_cons_succ, List.map_cons, List.map_nil, List.length_cons, List.length_nil, List.nil_append, List.cons_append, List.append_nil, List.replicate_succ, List.replicate_zero, lim_v, reduceIte, decide_true, decide_false, Bool.not_true, Bool.not_false, Option.bind_some, Mi.lst_no, Mi.par2, Mi.par3, eq_self, and_self, Mi.mi6, Mi.mi7, Mi.mi8, Mi.mi9, Option.map_some, Mi.mi10, Mi.mi11, Mi.mi12, Mi.mi13, Mi.mi14, Mi.mi15, h1]
  | some n =>
    change _ = R.ok (D.int n) at h1
    show _ = R.ok (D.tup [.bl true, .tup [kk, nI st, nI sl, .int (n - ((t / st : Nat) : Int)), .int n]])
    as_aux_lemma =>
      simp only [runA, seq_ap, Mi.mi0, Mi.mi1, Mi.mi2, Mi.mi3, Mi.mi4, Mi.mi5, Mi.mo0, Mi.mo1, Mi.mo2, Mi.mo3, Mi.mo8, Bool.false_eq_true, Mi.mo9, Nat.reduceAdd, Nat.reduceSub, Nat.reduceLeDiff, Nat.reduceLT, Nat.reduceEqDiff, Mi.mt0, List.getElem?_cons_zero, List.getElem?_cons_succ, List.set_cons_zero, List.set_cons_succ, List.map_cons, List.map_nil, List.length_cons, List.length_nil, List.nil_append, List.cons_append, List.append_nil, List.replicate_succ, List.replicate_zero, lim_v, reduceIte, decide_true, decide_false, Bool.not_true, Bool.not_false, Option.bind_some, Mi.lst_no, Mi.par2, Mi.par3, eq_self, and_self, Mi.mi6, Mi.mi7, Mi.mi8, Mi.mi9, Option.map_some, Mi.mi10, Mi.mi11, Mi.mi12, Mi.mi13, Mi.mi14, Mi.mi15, h1, d1, e]
/-! ### clocks -/
def ck (off rate : Int) : D := .tup [.int off, .int rate]
structure CkOk (off rate : Int) : Prop where
  o0 : -300000000000000000000 ≤ off
  o1 : off ≤ 300000000000000000000
  r0 : -500000 ≤ rate
  r1 : rate ≤ 500000
def cnt (off rate : Int) (st t : Nat) : Int := ((t : Int) + off + (t : Int) * rate / 1000000) / (st : Int)
def cntO (off rate : Int) (st t : Nat) : Option Int := if 0 ≤ cnt off rate st t then some (cnt off rate st t) else none
theorem rate_bd {off rate : Int} (k : CkOk off rate) : Bd rate 80 := by
  have := k.r0
  have := k.r1
  unfold Bd
  have : (2 : Nat) ^ 80 = 1208925819614629174706176 := by decide
  omega
theorem count_by_eq {off rate : Int} {st t : Nat} (k : CkOk off rate) (s0 : 1 ≤ st) (s1 : st ≤ 600) (ht : t ≤ 200000000000000000000) : F_count_by [ck off rate, nI st, nI t] = .ok (optD (cntO off rate st t)) := by
  have m := mul_ok (bdn (n := t) (by omega)) (rate_bd k) (by omega)
  have d0 : divXOk ((t : Int) * rate) 1000000 = true := div_ok (by omega) (.inl ((bdn (n := 1000000) (by omega)).mono (by omega)))
  have d1 : divXOk ((t : Int) + off + (t : Int) * rate / 1000000) (st : Int) = true := div_ok (by omega) (.inl ((bdn (n := st) (by omega)).mono (by omega)))
  have e : ((t : Int) + off + (t : Int) * rate / 1000000) / (st : Int) = cnt off rate st t := rfl
  unfold F_count_by m_count_by ck cntO
  generalize cnt off rate st t = n at *
  by_cases h : 0 ≤ n
  · have c := decide_eq_true h
    rw [if_pos h]
    show _ = R.ok (D.int n)
    as_aux_lemma =>
      simp only [runA, seq_ap, Mi.mi0, Mi.mi1, Mi.mi2, Mi.mi3, Mi.mi4, Mi.mi5, Mi.mo0, Mi.mo1, Mi.mo2, Mi.mo3, Mi.mo8, Bool.false_eq_true, Mi.mo9, Nat.reduceAdd, Nat.reduceSub, Nat.reduceLeDiff, Nat.reduceLT, Nat.reduceEqDiff, Mi.mt0, List.getElem?_cons_zero, List.getElem?_cons_succ, List.set_cons_zero, List.set_cons_succ, List.map_cons, List.map_nil, List.length_cons, List.length_nil, List.nil_append, List.cons_append, List.append_nil, List.replicate_succ, List.replicate_zero, lim_v, reduceIte, decide_true, decide_false, Bool.not_true, Bool.not_false, Option.bind_some, Mi.lst_no, Mi.par2, Mi.par3, eq_self, and_self, Mi.mi6, Mi.mi7, Mi.mi8, Mi.mi9, Option.map_some, Mi.mi10, Mi.mi11, Mi.mi12, Mi.mi13, Mi.mi14, Mi.mi15, m, d0, d1, e, c, ge_iff_le]
  · have c := decide_eq_false h
    rw [if_neg h]
    show _ = R.ok D.non
    as_aux_lemma =>
      simp only [runA, seq_ap, Mi.mi0, Mi.mi1, Mi.mi2, Mi.mi3, Mi.mi4, Mi.mi5, Mi.mo0, Mi.mo1, Mi.mo2, Mi.mo3, Mi.mo8, Bool.false_eq_true, Mi.mo9, Nat.reduceAdd, Nat.reduceSub, Nat.reduceLeDiff, Nat.reduceLT, Nat.reduceEqDiff, Mi.mt0, List.getElem?_cons_zero, List.getElem?_cons_succ, List.set_cons_zero, List.set_cons_succ, List.map_cons, List.map_nil, List.length_cons, List.length_nil, List.nil_append, List.cons_append, List.append_nil, List.replicate_succ, List.replicate_zero, lim_v, reduceIte, decide_true, decide_false, Bool.not_true, Bool.not_false, Option.bind_some, Mi.lst_no, Mi.par2, Mi.par3, eq_self, and_self, Mi.mi6, Mi.mi7, Mi.mi8, Mi.mi9, Option.map_some, Mi.mi10, Mi.mi11, Mi.mi12, Mi.mi13, Mi.mi14, Mi.mi15, m, d0, d1, e, c, ge_iff_le]
theorem is_clock_eq {off rate : Int} (k : CkOk off rate) : F_is_clock [ck off rate] = .ok (.bl true) := by
  have w1 := is_int off
  have w2 : F_is_within [.int rate, .int (-500000), .int 500000] = .ok (.bl true) := within_ok k.r0 k.r1
  unfold F_is_clock m_is_clock ck
  generalize F_is_integer = q0 at *
  generalize F_is_within = q1 at *
  as_aux_lemma =>
    simp only [runA, seq_ap, Mi.mi0, Mi.mi1, Mi.mi2, Mi.mi3, Mi.mi4, Mi.mi5, Mi.mo0, Mi.mo1, Mi.mo2, Mi.mo3, Mi.mo8, Bool.false_eq_true, Mi.mo9, Nat.reduceAdd, Nat.reduceSub, Nat.reduceLeDiff, Nat.reduceLT, Nat.reduceEqDiff, Mi.mt0, List.getElem?_cons_zero, List.getElem?_cons_succ, List.set_cons_zero, List.set_cons_succ, List.map_cons, List.map_nil, List.length_cons, List.length_nil, List.nil_append, List.cons_append, List.append_nil, List.replicate_succ, List.replicate_zero, lim_v, reduceIte, decide_true, decide_false, Bool.not_true, Bool.not_false, Option.bind_some, Mi.lst_no, Mi.par2, Mi.par3, eq_self, and_self, Mi.mi6, Mi.mi7, Mi.mi8, Mi.mi9, Option.map_some, Mi.mi10, Mi.mi11, Mi.mi12, Mi.mi13, Mi.mi14, Mi.mi15, w1, w2]
theorem clock_count_eq {off rate : Int} {st t : Nat} (k : CkOk off rate) (s0 : 1 ≤ st) (s1 : st ≤ 600) (ht : t ≤ 200000000000000000000) : F_clock_count [ck off rate, nI st, nI t] = .ok (optD (cntO off rate st t)) := by
  have h1 := is_clock_eq k
  have h2 := check_true
  have h3 : F_is_within [.int (st : Int), .int 1, .int 600] = .ok (.bl true) := within_ok (by omega) (by omega)
  have h4 := is_count_nat t
  have h5 := count_by_eq k s0 s1 ht
  unfold F_clock_count m_clock_count
  generalize ck off rate = kk at *
  generalize F_is_clock = q0 at *
  generalize F_check = q1 at *
  generalize F_is_within = q2 at *
  generalize F_is_count = q3 at *
  generalize F_count_by = q4 at *
  as_aux_lemma =>
    simp only [runA, seq_ap, Mi.mi0, Mi.mi1, Mi.mi2, Mi.mi3, Mi.mi4, Mi.mi5, Mi.mo0, Mi.mo1, Mi.mo2, Mi.mo3, Mi.mo8, Bool.false_eq_true, Mi.mo9, Nat.reduceAdd, Nat.reduceSub, Nat.reduceLeDiff, Nat.reduceLT, Nat.reduceEqDiff, Mi.mt0, List.getElem?_cons_zero, List.getElem?_cons_succ, List.set_cons_zero, List.set_cons_succ, List.map_cons, List.map_nil, List.length_cons, List.length_nil, List.nil_append, List.cons_append, List.append_nil, List.replicate_succ, List.replicate_zero, lim_v, reduceIte, decide_true, decide_false, Bool.not_true, Bool.not_false, Option.bind_some, Mi.lst_no, Mi.par2, Mi.par3, eq_self, and_self, Mi.mi6, Mi.mi7, Mi.mi8, Mi.mi9, Option.map_some, Mi.mi10, Mi.mi11, Mi.mi12, Mi.mi13, Mi.mi14, Mi.mi15, h1, h2, h3, h4, h5]
end Lw
namespace Lw
open Mi
/-! ### the nearest first, by sorting -/
def kf (u n : Int) : Int := if n - u < 0 then -(n - u) else n - u
def lk2 (u p q : Int) : Prop := kf u p < kf u q ∨ (kf u p = kf u q ∧ p < q)
theorem near_sorted (u : Int) : ∀ k : Nat, (nearL k u).Pairwise (lk2 u)
  | 0 => List.pairwise_singleton _ _
  | k + 1 => by
    rw [nearL, List.pairwise_append]
    refine ⟨near_sorted u k, ?_, fun x hx y hy => ?_⟩
    · refine List.pairwise_pair.2 ?_
      unfold lk2 kf
      split <;> split <;> omega
    · have h := (near_mem x u k).1 hx
      simp only [List.mem_cons, List.mem_nil_iff, or_false] at hy
      unfold lk2 kf
      rcases hy with rfl | rfl <;> split <;> split <;> omega
theorem lk2_irr {u p : Int} : ¬ lk2 u p p := by
  unfold lk2
  omega
def rngI (lo : Int) (n : Nat) : List Int := (List.range n).map fun i : Nat => lo + (i : Int)
theorem rngI_mem {lo x : Int} {n : Nat} : x ∈ rngI lo n ↔ lo ≤ x ∧ x < lo + (n : Int) := by
  unfold rngI
  rw [List.mem_map]
  constructor
  · rintro ⟨i, hi, rfl⟩
    have := List.mem_range.1 hi
    omega
  · intro h
    exact ⟨(x - lo).toNat, List.mem_range.2 (by omega), by omega⟩
theorem rngI_nodup (lo : Int) (n : Nat) : (rngI lo n).Nodup := by
  unfold rngI
  refine List.Pairwise.map _ (fun a b (h : a ≠ b) => ?_) List.nodup_range
  omega
theorem near_perm (u : Int) (k : Nat) : (rngI (u - (k : Int)) (2 * k + 1)).Perm (nearL k u) := by
  refine (List.perm_ext_iff_of_nodup (rngI_nodup _ _) ?_).2 fun x => ?_
  · exact (near_sorted u k).imp fun {a b} h => show a ≠ b from fun e => by
      subst e
      exact lk2_irr h
  · rw [rngI_mem, near_mem]
    omega
theorem rngI_rangeD (lo : Int) (n : Nat) : rangeD lo n = (rngI lo n).map D.int := by
  rw [rangeD_map]
  unfold rngI
  rw [List.map_map]
  rfl
def prD (u n : Int) : D := .tup [.int (kf u n), .int n]
def leI (u p q : Int) : Bool := decide (kf u p < kf u q ∨ (kf u p = kf u q ∧ p ≤ q))
theorem leI_eq (u p q : Int) : leI u p q = leD (prD u p) (prD u q) := by
  have h := congrFun (congrFun (PySem.W.dataLe_ii (β := Int) (fun n => kf u n) (fun n => n)) p) q
  exact h.symm
theorem sort_near {u : Int} {L N : List Int} (hp : L.Perm N) (hs : N.Pairwise (lk2 u)) : (L.map (prD u)).mergeSort leD = N.map (prD u) := by
  rw [← List.map_mergeSort (r := leI u) fun a _ b _ => leI_eq u a b]
  congr 1
  refine List.Perm.eq_of_pairwise (le := fun a b => leI u a b = true) (fun a b _ _ h1 h2 => ?_) (List.pairwise_mergeSort (fun a b c h1 h2 => ?_) (fun a b => ?_) _) (hs.imp fun {a b} h => ?_) ((List.mergeSort_perm _ _).trans hp)
  · unfold leI at h1 h2
    have h1 := of_decide_eq_true h1
    have h2 := of_decide_eq_true h2
    omega
  · unfold leI at *
    have h1 := of_decide_eq_true h1
    have h2 := of_decide_eq_true h2
    exact decide_eq_true (by omega)
  · unfold leI
    rw [Bool.or_eq_true, decide_eq_true_iff, decide_eq_true_iff]
    omega
  · unfold leI
    unfold lk2 at h
    exact decide_eq_true (by omega)
theorem alike_pairs (u : Int) (L : List Int) : alikeB ((L.map (prD u)).map pd0) = true := by
  unfold alikeB
  rw [List.all_eq_true]
  intro x hx
  rw [List.all_eq_true]
  intro y hy
  obtain ⟨x', hx', rfl⟩ := List.mem_map.1 hx
  obtain ⟨x'', _, rfl⟩ := List.mem_map.1 hx'
  obtain ⟨y', hy', rfl⟩ := List.mem_map.1 hy
  obtain ⟨y'', _, rfl⟩ := List.mem_map.1 hy'
  show PySem.W.alike (.tuple [.int _, .int _]) (.tuple [.int _, .int _]) = true
  simp [PySem.W.alike, PySem.W.alikeAll]
theorem sort_pairs {u : Int} {L N : List Int} (hp : L.Perm N) (hs : N.Pairwise (lk2 u)) (hl : L.length ≤ 1000000) : fSortG [.lst (L.map (prD u))] = some (.lst (N.map (prD u))) := by
  have a1 : ((L.map (prD u)).all fun d => (pd d).isSome) = true := by
    rw [List.all_map, List.all_eq_true]
    intro x _
    rfl
  have a2 := alike_pairs u L
  have a3 : sortB ((L.map (prD u)).map pd0) = true := by
    unfold sortB
    rw [Bool.or_eq_true]
    left
    rw [List.all_map, List.all_map, List.all_eq_true]
    intro x _
    rfl
  have a4 : ((L.map (prD u)).all fun d => decide ((pd0 d).depth ≤ 60)) = true := by
    rw [List.all_map, List.all_eq_true]
    intro x _
    have h : (pd0 (prD u x)).depth ≤ 60 := by
      show PySem.PyData.depth (.tuple [.int _, .int _]) ≤ 60
      simp [PySem.PyData.depth, PySem.PyData.depthAll]
    exact decide_eq_true h
  simp only [fSortG]
  rw [if_pos ⟨a1, a2, a3, a4, by rw [List.length_map, lim_v]; omega⟩, sort_near hp hs]
end Lw
namespace Lw
open Mi
section
variable {a b c d st sl t w : Nat} {dr la : Int}
theorem due_ge (h : -300000000000000000000 ≤ dr) : -300000000000000000000 ≤ due st t dr := by
  unfold due
  generalize t / st = z
  omega
theorem due_count_eq (o : KyOk a b c d) (j : JOk st sl dr la) : F_due_count [jd (ky a b c d) st sl dr la, nI t] = .ok (.int (due st t dr)) := by
  have h1 := check_judge_eq o j
  have h2 := is_count_nat t
  have h3 := check_true
  have h4 := due_by_eq (k := ky a b c d) (t := t) j
  unfold F_due_count m_due_count
  generalize jd (ky a b c d) st sl dr la = J at *
  generalize F_check_judge = q0 at *
  generalize F_is_count = q1 at *
  generalize F_check = q2 at *
  generalize F_due_by = q3 at *
  as_aux_lemma =>
    simp only [runA, seq_ap, Mi.mi0, Mi.mi1, Mi.mi2, Mi.mi3, Mi.mi4, Mi.mi5, Mi.mo0, Mi.mo1, Mi.mo2, Mi.mo3, Mi.mo8, Bool.false_eq_true, Mi.mo9, Nat.reduceAdd, Nat.reduceSub, Nat.reduceLeDiff, Nat.reduceLT, Nat.reduceEqDiff, Mi.mt0, List.getElem?_cons_zero, List.getElem?_cons_succ, List.set_cons_zero, List.set_cons_succ, List.map_cons, List.map_nil, List.length_cons, List.length_nil, List.nil_append, List.cons_append, List.append_nil, List.replicate_succ, List.replicate_zero, lim_v, reduceIte, decide_true, decide_false, Bool.not_true, Bool.not_false, Option.bind_some, Mi.lst_no, Mi.par2, Mi.par3, eq_self, and_self, Mi.mi6, Mi.mi7, Mi.mi8, Mi.mi9, Option.map_some, Mi.mi10, Mi.mi11, Mi.mi12, Mi.mi13, Mi.mi14, Mi.mi15, h1, h2, h3, h4]
theorem looked_at_eq (o : KyOk a b c d) (j : JOk st sl dr la) : F_looked_at [jd (ky a b c d) st sl dr la, nI t] = .ok (.lst ((lookL sl (due st t dr) la).map D.int)) := by
  have h1 := check_judge_eq o j
  have h2 := is_count_nat t
  have h3 := check_true
  have h4 := looked_by_eq (k := ky a b c d) (t := t) j
  unfold F_looked_at m_looked_at
  generalize jd (ky a b c d) st sl dr la = J at *
  generalize (lookL sl (due st t dr) la).map D.int = z at *
  generalize F_check_judge = q0 at *
  generalize F_is_count = q1 at *
  generalize F_check = q2 at *
  generalize F_looked_by = q3 at *
  as_aux_lemma =>
    simp only [runA, seq_ap, Mi.mi0, Mi.mi1, Mi.mi2, Mi.mi3, Mi.mi4, Mi.mi5, Mi.mo0, Mi.mo1, Mi.mo2, Mi.mo3, Mi.mo8, Bool.false_eq_true, Mi.mo9, Nat.reduceAdd, Nat.reduceSub, Nat.reduceLeDiff, Nat.reduceLT, Nat.reduceEqDiff, Mi.mt0, List.getElem?_cons_zero, List.getElem?_cons_succ, List.set_cons_zero, List.set_cons_succ, List.map_cons, List.map_nil, List.length_cons, List.length_nil, List.nil_append, List.cons_append, List.append_nil, List.replicate_succ, List.replicate_zero, lim_v, reduceIte, decide_true, decide_false, Bool.not_true, Bool.not_false, Option.bind_some, Mi.lst_no, Mi.par2, Mi.par3, eq_self, and_self, Mi.mi6, Mi.mi7, Mi.mi8, Mi.mi9, Option.map_some, Mi.mi10, Mi.mi11, Mi.mi12, Mi.mi13, Mi.mi14, Mi.mi15, h1, h2, h3, h4]
theorem check_code_eq (o : KyOk a b c d) (j : JOk st sl dr la) : F_check_code [jd (ky a b c d) st sl dr la, .str (cd d w), nI t] = .ok .non := by
  have h1 := check_judge_eq o j
  have h2 := are_figures_eq (v := w) o.d1
  have h3 := is_count_nat t
  have h4 := check_true
  have g0 : gIx (jd (ky a b c d) st sl dr la) (.int 0) = some (ky a b c d) := rfl
  have g3 : gIx (ky a b c d) (.int 3) = some (nI d) := rfl
  unfold F_check_code m_check_code
  generalize jd (ky a b c d) st sl dr la = J at *
  generalize ky a b c d = kk at *
  generalize cd d w = s at *
  generalize nI d = dd at *
  generalize F_check_judge = q0 at *
  generalize F_are_figures = q1 at *
  generalize F_is_count = q2 at *
  generalize F_check = q3 at *
  as_aux_lemma =>
    simp only [runA, seq_ap, Mi.mi0, Mi.mi1, Mi.mi2, Mi.mi3, Mi.mi4, Mi.mi5, Mi.mo0, Mi.mo1, Mi.mo2, Mi.mo3, Mi.mo8, Bool.false_eq_true, Mi.mo9, Nat.reduceAdd, Nat.reduceSub, Nat.reduceLeDiff, Nat.reduceLT, Nat.reduceEqDiff, Mi.mt0, List.getElem?_cons_zero, List.getElem?_cons_succ, List.set_cons_zero, List.set_cons_succ, List.map_cons, List.map_nil, List.length_cons, List.length_nil, List.nil_append, List.cons_append, List.append_nil, List.replicate_succ, List.replicate_zero, lim_v, reduceIte, decide_true, decide_false, Bool.not_true, Bool.not_false, Option.bind_some, Mi.lst_no, Mi.par2, Mi.par3, eq_self, and_self, Mi.mi6, Mi.mi7, Mi.mi8, Mi.mi9, Option.map_some, Mi.mi10, Mi.mi11, Mi.mi12, Mi.mi13, Mi.mi14, Mi.mi15, h1, h2, h3, h4, g0, g3]
theorem clock_met_eq (o : KyOk a b c d) (j : JOk st sl dr la) (ht : t ≤ 200000000000000000000) : F_clock_met [jd (ky a b c d) st sl dr la, .str (cd d w), nI t] = .ok (optD (fitL a b c d w sl (due st t dr) la).head?) := by
  have h1 := check_code_eq (t := t) (w := w) o j
  have h2 := met_by_eq (w := w) o j ht
  unfold F_clock_met m_clock_met
  generalize jd (ky a b c d) st sl dr la = J at *
  generalize cd d w = s at *
  generalize optD (fitL a b c d w sl (due st t dr) la).head? = z at *
  generalize F_check_code = q0 at *
  generalize F_met_by = q1 at *
  as_aux_lemma =>
    simp only [runA, seq_ap, Mi.mi0, Mi.mi1, Mi.mi2, Mi.mi3, Mi.mi4, Mi.mi5, Mi.mo0, Mi.mo1, Mi.mo2, Mi.mo3, Mi.mo8, Bool.false_eq_true, Mi.mo9, Nat.reduceAdd, Nat.reduceSub, Nat.reduceLeDiff, Nat.reduceLT, Nat.reduceEqDiff, Mi.mt0, List.getElem?_cons_zero, List.getElem?_cons_succ, List.set_cons_zero, List.set_cons_succ, List.map_cons, List.map_nil, List.length_cons, List.length_nil, List.nil_append, List.cons_append, List.append_nil, List.replicate_succ, List.replicate_zero, lim_v, reduceIte, decide_true, decide_false, Bool.not_true, Bool.not_false, Option.bind_some, Mi.lst_no, Mi.par2, Mi.par3, eq_self, and_self, Mi.mi6, Mi.mi7, Mi.mi8, Mi.mi9, Option.map_some, Mi.mi10, Mi.mi11, Mi.mi12, Mi.mi13, Mi.mi14, Mi.mi15, h1, h2]
theorem eq_nil_ints {x : Int} {r : List Int} : gEq (.lst (.int x :: r.map D.int)) (.lst []) = some (.bl false) := eq_nil (n := 1) (fun y hy => by
    have hy : y ∈ (x :: r).map D.int := hy
    obtain ⟨z, _, rfl⟩ := List.mem_map.1 hy
    exact trivial) (by omega)
theorem clock_judged_eq {t w : Nat} {dr la : Int} (o : KyOk a b c d) (j : JOk st sl dr la) (ht : t ≤ 200000000000000000000) :
    F_clock_judged [jd (ky a b c d) st sl dr la, .str (cd d w), nI t] = .ok (.tup [.bl (after st t dr la (fitL a b c d w sl (due st t dr) la).head?).1,
      jd (ky a b c d) st sl (after st t dr la (fitL a b c d w sl (due st t dr) la).head?).2.1 (after st t dr la (fitL a b c d w sl (due st t dr) la).head?).2.2]) := by
  have h1 := check_judge_eq o j
  have h2 := are_figures_eq (v := w) o.d1
  have h3 := is_count_nat t
  have h4 := check_true
  have h5 := judged_by_eq (w := w) o j ht
  have g0 : gIx (jd (ky a b c d) st sl dr la) (.int 0) = some (ky a b c d) := rfl
  have g3 : gIx (ky a b c d) (.int 3) = some (nI d) := rfl
  generalize after st t dr la (fitL a b c d w sl (due st t dr) la).head? = r at *
  have h6 : F_check_code [jd (ky a b c d) st sl dr la, .str (cd d w), nI t] = .ok .non := by
    clear h5
    unfold F_check_code m_check_code
    generalize jd (ky a b c d) st sl dr la = J at *
    generalize ky a b c d = kk at *
    generalize cd d w = s at *
    generalize nI d = dd at *
    generalize F_check_judge = q0 at *
    generalize F_are_figures = q1 at *
    generalize F_is_count = q2 at *
    generalize F_check = q3 at *
    as_aux_lemma =>
      simp only [runA, seq_ap, Mi.mi0, Mi.mi1, Mi.mi2, Mi.mi3, Mi.mi4, Mi.mi5, Mi.mo0, Mi.mo1, Mi.mo2, Mi.mo3, Mi.mo8, Bool.false_eq_true, Mi.mo9, Nat.reduceAdd, Nat.reduceSub, Nat.reduceLeDiff, Nat.reduceLT, Nat.reduceEqDiff, Mi.mt0, List.getElem?_cons_zero, List.getElem?_cons_succ, List.set_cons_zero, List.set_cons_succ, List.map_cons, List.map_nil, List.length_cons, List.length_nil, List.nil_append, List.cons_append, List.append_nil, List.replicate_succ, List.replicate_zero, lim_v, reduceIte, decide_true, decide_false, Bool.not_true, Bool.not_false, Option.bind_some, Mi.lst_no, Mi.par2, Mi.par3, eq_self, and_self, Mi.mi6, Mi.mi7, Mi.mi8, Mi.mi9, Option.map_some, Mi.mi10, Mi.mi11, Mi.mi12, Mi.mi13, Mi.mi14, Mi.mi15, h1, h2, h3, h4, g0, g3]
  unfold F_clock_judged m_clock_judged
  generalize jd (ky a b c d) st sl r.2.1 r.2.2 = J2 at *
  generalize jd (ky a b c d) st sl dr la = J at *
  generalize cd d w = s at *
  generalize F_check_code = q0 at *
  generalize F_judged_by = q1 at *
  as_aux_lemma =>
    simp only [runA, seq_ap, Mi.mi0, Mi.mi1, Mi.mi2, Mi.mi3, Mi.mi4, Mi.mi5, Mi.mo0, Mi.mo1, Mi.mo2, Mi.mo3, Mi.mo8, Bool.false_eq_true, Mi.mo9, Nat.reduceAdd, Nat.reduceSub, Nat.reduceLeDiff, Nat.reduceLT, Nat.reduceEqDiff, Mi.mt0, List.getElem?_cons_zero, List.getElem?_cons_succ, List.set_cons_zero, List.set_cons_succ, List.map_cons, List.map_nil, List.length_cons, List.length_nil, List.nil_append, List.cons_append, List.append_nil, List.replicate_succ, List.replicate_zero, lim_v, reduceIte, decide_true, decide_false, Bool.not_true, Bool.not_false, Option.bind_some, Mi.lst_no, Mi.par2, Mi.par3, eq_self, and_self, Mi.mi6, Mi.mi7, Mi.mi8, Mi.mi9, Option.map_some, Mi.mi10, Mi.mi11, Mi.mi12, Mi.mi13, Mi.mi14, Mi.mi15, h5, h6]
def lostD : Option Nat → D
  | some i => nI i
  | none => .non
end
end Lw
namespace Lw
open Mi L2
theorem pl_flat {n : Nat} {d : D} (h : flat d) : Pl n d := by
  cases n <;> cases d <;> first | exact h | exact h.elim
def codeK (a b c d : Nat) (n : Int) : Key := Sum.inr (cd d (vl a b c n.toNat))
def codeD (a b c d : Nat) (n : Int) : D := .str (cd d (vl a b c n.toNat))
theorem codeD_eq (a b c d : Nat) (L : List Int) : L.map (codeD a b c d) = (L.map (codeK a b c d)).map kD := by rw [List.map_map]; rfl
theorem codeK_inr {a b c d : Nat} {L : List Int} : ∀ k ∈ L.map (codeK a b c d), ∃ x, k = Sum.inr x := fun k hk => by
  obtain ⟨n, _, rfl⟩ := List.mem_map.1 hk
  exact ⟨_, rfl⟩
def sortedC (a b c d : Nat) (L : List Int) : List D := ((metK [] (L.map (codeK a b c d))).mergeSort leK).map kD
theorem sortSet_codes {a b c d : Nat} {L : List Int} (h : L.length ≤ 100) : fSortSet (.lst (L.map (codeD a b c d))) = some (.lst (sortedC a b c d L)) := by
  unfold fSortSet
  rw [codeD_eq, show seqD (.lst ((L.map (codeK a b c d)).map kD)) = some ((L.map (codeK a b c d)).map kD) from rfl, Option.bind_some, keysOf_map, Option.bind_some, if_pos ⟨by rw [List.length_map]; omega, metK_inr codeK_inr⟩]
  rfl
theorem lenSet_codes {a b c d : Nat} {L : List Int} (h : L.length ≤ 100) : fLenSet (.lst (L.map (codeD a b c d))) = some (nI (metK [] (L.map (codeK a b c d))).length) := by
  unfold fLenSet
  rw [codeD_eq, show seqD (.lst ((L.map (codeK a b c d)).map kD)) = some ((L.map (codeK a b c d)).map kD) from rfl, Option.bind_some, keysOf_map, Option.bind_some, if_pos (by rw [List.length_map]; omega)]
theorem sorted_len {a b c d : Nat} (L : List Int) : (sortedC a b c d L).length ≤ L.length := by
  unfold sortedC
  rw [List.length_map, List.length_mergeSort]
  have := metK_len (L.map (codeK a b c d)) []
  rw [List.length_nil, List.length_map, Nat.zero_add] at this
  exact this
theorem pl_sorted {a b c d n : Nat} {L : List Int} (h : L.length ≤ 100) : Pl (n + 1) (.lst (sortedC a b c d L)) := by
  refine ⟨by have := sorted_len (a := a) (b := b) (c := c) (d := d) L; omega, fun x hx => ?_⟩
  unfold sortedC at hx
  obtain ⟨k, _, rfl⟩ := List.mem_map.1 hx
  cases k <;> exact pl_flat trivial
section
variable {a b c d st sl t w n : Nat} {dr la : Int}
theorem taken_at_eq (o : KyOk a b c d) (j : JOk st sl dr la) (ht : t ≤ 200000000000000000000) : F_taken_at [jd (ky a b c d) st sl dr la, nI t] = .ok (.lst (sortedC a b c d (lookL sl (due st t dr) la))) := by
  have h1 := check_judge_eq o j
  have h2 := is_count_nat t
  have h3 := check_true
  have h4 := looked_by_eq (k := ky a b c d) (t := t) j
  have hd := due_le (st := st) j.d1 ht
  have l1 := j.l1
  have g0 : gIx (jd (ky a b c d) st sl dr la) (.int 0) = some (ky a b c d) := rfl
  generalize due st t dr = u at *
  have le := look_len sl u la
  obtain ⟨us, l2⟩ := dcF_map (vs := [2]) (G := gN 2) (fk := k_taken_at_0) (fv := f_taken_at_1) (e0 := [.val (jd (ky a b c d) st sl dr la), .val (nI t), .un]) D.int (codeK a b c d) (.bl true) (lookL sl u la) [] [] fun n hn => ⟨[.val (jd (ky a b c d) st sl dr la), .val (nI t), .val (.int n)], rfl, by
      obtain ⟨⟨_, q1⟩, _, q2⟩ := look_mem.1 hn
      obtain ⟨m, rfl⟩ : ∃ m : Nat, n = (m : Int) := ⟨n.toNat, by omega⟩
      have k := code_by_eq (n := m) o (by omega)
      show _ = R.ok (D.str (cd d (vl a b c (Int.toNat (m : Int)))), _)
      rw [Int.toNat_natCast]
      unfold k_taken_at_0
      generalize jd (ky a b c d) st sl dr la = J at *
      generalize ky a b c d = kk at *
      generalize cd d (vl a b c m) = s2 at *
      generalize F_code_by = q0 at *
      as_aux_lemma =>
        simp only [seq_ap, Mi.mi0, Mi.mi1, Mi.mi2, Mi.mi3, Mi.mi4, Mi.mi5, Mi.mo0, Mi.mo1, Mi.mo2, Mi.mo3, Mi.mo8, Bool.false_eq_true, Mi.mo9, Nat.reduceAdd, Nat.reduceSub, Nat.reduceLeDiff, Nat.reduceLT, Nat.reduceEqDiff, Mi.mt0, List.getElem?_cons_zero, List.getElem?_cons_succ, List.set_cons_zero, List.set_cons_succ, List.map_cons, List.map_nil, List.length_cons, List.length_nil, List.nil_append, List.cons_append, List.append_nil, List.replicate_succ, List.replicate_zero, lim_v, reduceIte, decide_true, decide_false, Bool.not_true, Bool.not_false, Option.bind_some, Mi.lst_no, Mi.par2, Mi.par3, eq_self, and_self, Mi.mi6, Mi.mi7, Mi.mi8, Mi.mi9, Option.map_some, Mi.mi10, Mi.mi11, Mi.mi12, Mi.mi13, Mi.mi14, Mi.mi15, g0, k], rfl, rfl⟩
  have so : sortK (metK [] ((lookL sl u la).map (codeK a b c d))) = some (.lst (sortedC a b c d (lookL sl u la))) := by
    unfold sortK
    have lk : (metK [] ((lookL sl u la).map (codeK a b c d))).length ≤ lim := by
      have := metK_len ((lookL sl u la).map (codeK a b c d)) []
      rw [List.length_nil, List.length_map] at this
      rw [lim_v]
      omega
    rw [if_pos ⟨metK_inr codeK_inr, lk⟩]
    rfl
  have le2 : ((lookL sl u la).map D.int).length ≤ 16777216 := by rw [List.length_map]; omega
  generalize metK [] ((lookL sl u la).map (codeK a b c d)) = ks at *
  generalize sortedC a b c d (lookL sl u la) = z1 at *
  generalize (lookL sl u la).map D.int = z2 at *
  unfold F_taken_at m_taken_at
  generalize jd (ky a b c d) st sl dr la = J at *
  generalize F_check_judge = q0 at *
  generalize F_is_count = q1 at *
  generalize F_check = q2 at *
  generalize F_looked_by = q3 at *
  generalize k_taken_at_0 = q4 at *
  generalize f_taken_at_1 = q5 at *
  as_aux_lemma =>
    simp only [runA, seq_ap, Mi.mi0, Mi.mi1, Mi.mi2, Mi.mi3, Mi.mi4, Mi.mi5, Mi.mo0, Mi.mo1, Mi.mo2, Mi.mo3, Mi.mo8, Bool.false_eq_true, Mi.mo9, Nat.reduceAdd, Nat.reduceSub, Nat.reduceLeDiff, Nat.reduceLT, Nat.reduceEqDiff, Mi.mt0, List.getElem?_cons_zero, List.getElem?_cons_succ, List.set_cons_zero, List.set_cons_succ, List.map_cons, List.map_nil, List.length_cons, List.length_nil, List.nil_append, List.cons_append, List.append_nil, List.replicate_succ, List.replicate_zero, lim_v, reduceIte, decide_true, decide_false, Bool.not_true, Bool.not_false, Option.bind_some, Mi.lst_no, Mi.par2, Mi.par3, eq_self, and_self, Mi.mi6, Mi.mi7, Mi.mi8, Mi.mi9, Option.map_some, Mi.mi10, Mi.mi11, Mi.mi12, Mi.mi13, Mi.mi14, Mi.mi15, h1, h2, h3, h4, l2, so, le2, eDc, wipeE, okW, resE, List.all_cons, List.all_nil, Bool.and_true, Option.getD_some, Option.getD_none, and_self]
theorem opt_notN (m : Option Int) : (!non? (optD m)) = m.isSome := by cases m <;> rfl
theorem after_some {dr la : Int} (m : Option Int) : (after st t dr la m).1 = m.isSome := by cases m <;> rfl
theorem nat_eq (i j : Nat) : decide ((i : Int) = (j : Int)) = decide (i = j) := decide_eq_decide.2 Int.ofNat_inj
theorem fit_own {t n : Nat} {s : Int × Int} (h : (n : Int) ∈ lookL sl (due st t s.1) s.2) : (n : Int) ∈ fitL a b c d (vl a b c n) sl (due st t s.1) s.2 := by
  unfold fitL
  exact List.mem_filter.2 ⟨h, decide_eq_true (by rw [Int.toNat_natCast])⟩
end
end Lw
set_option maxHeartbeats 4000000
namespace Lw
open Mi L2
/-! ### what is told -/
abbrev flNR : D := .lst [.bl true, .bl false, .bl false, .bl false, .bl false]
theorem told0_ok (j y z : D) {x : D} (h : F_due_count [j, y] = .ok x) : F__law_told [.int 0, j, y, z] = .ok x := by
  have c : decide ((0 : Int) < 3) = true := rfl
  have a1 : L2.atI [F_due_count, F_looked_at, F_taken_at] (0 : Int) = some F_due_count := rfl
  unfold F__law_told m__law_told b__law_told_0
  generalize exFl__law_flags = pk at *
  generalize exSub = sb at *
  generalize F_due_count = q0 at *
  generalize F_looked_at = q1 at *
  generalize F_taken_at = q2 at *
  generalize F_clock_met = q3 at *
  generalize F_clock_judged = q4 at *
  generalize F_clock_count = q5 at *
  as_aux_lemma =>
    simp only [runA, seq_ap, Mi.mi0, Mi.mi1, Mi.mi2, Mi.mi3, Mi.mi4, Mi.mi5, Mi.mo0, Mi.mo1, Mi.mo2, Mi.mo3, Mi.mo8, Bool.false_eq_true, Mi.mo9, Nat.reduceAdd, Nat.reduceSub, Nat.reduceLeDiff, Nat.reduceLT, Nat.reduceEqDiff, Mi.mt0, List.getElem?_cons_zero, List.getElem?_cons_succ, List.set_cons_zero, List.set_cons_succ, List.map_cons, List.map_nil, List.length_cons, List.length_nil, List.nil_append, List.cons_append, List.append_nil, List.replicate_succ, List.replicate_zero, lim_v, reduceIte, decide_true, decide_false, Bool.not_true, Bool.not_false, Option.bind_some, Mi.lst_no, Mi.par2, Mi.par3, eq_self, and_self, Mi.mi6, Mi.mi7, Mi.mi8, Mi.mi9, Option.map_some, Mi.mi10, Mi.mi11, Mi.mi12, Mi.mi13, Mi.mi14, Mi.mi15, h, c, a1]
theorem told0_no (j y z : D) (h : F_due_count [j, y] = .exc "NotRight" []) : F__law_told [.int 0, j, y, z] = .ok flNR := by
  have c : decide ((0 : Int) < 3) = true := rfl
  have a1 : L2.atI [F_due_count, F_looked_at, F_taken_at] (0 : Int) = some F_due_count := rfl
  have fn : exFl__law_flags "NotRight" = some [true, false, false, false, false] := rfl
  have sn : exSub "NotRight" "CodeError" = some true := rfl
  unfold F__law_told m__law_told b__law_told_0
  generalize exFl__law_flags = pk at *
  generalize exSub = sb at *
  generalize F_due_count = q0 at *
  generalize F_looked_at = q1 at *
  generalize F_taken_at = q2 at *
  generalize F_clock_met = q3 at *
  generalize F_clock_judged = q4 at *
  generalize F_clock_count = q5 at *
  as_aux_lemma =>
    simp only [runA, seq_ap, Mi.mi0, Mi.mi1, Mi.mi2, Mi.mi3, Mi.mi4, Mi.mi5, Mi.mo0, Mi.mo1, Mi.mo2, Mi.mo3, Mi.mo8, Bool.false_eq_true, Mi.mo9, Nat.reduceAdd, Nat.reduceSub, Nat.reduceLeDiff, Nat.reduceLT, Nat.reduceEqDiff, Mi.mt0, List.getElem?_cons_zero, List.getElem?_cons_succ, List.set_cons_zero, List.set_cons_succ, List.map_cons, List.map_nil, List.length_cons, List.length_nil, List.nil_append, List.cons_append, List.append_nil, List.replicate_succ, List.replicate_zero, lim_v, reduceIte, decide_true, decide_false, Bool.not_true, Bool.not_false, Option.bind_some, Mi.lst_no, Mi.par2, Mi.par3, eq_self, and_self, Mi.mi6, Mi.mi7, Mi.mi8, Mi.mi9, Option.map_some, Mi.mi10, Mi.mi11, Mi.mi12, Mi.mi13, Mi.mi14, Mi.mi15, h, fn, sn, c, a1]
theorem told1_ok (j y z : D) {x : D} (h : F_looked_at [j, y] = .ok x) : F__law_told [.int 1, j, y, z] = .ok x := by
  have c : decide ((1 : Int) < 3) = true := rfl
  have a1 : L2.atI [F_due_count, F_looked_at, F_taken_at] (1 : Int) = some F_looked_at := rfl
  unfold F__law_told m__law_told b__law_told_0
  generalize exFl__law_flags = pk at *
  generalize exSub = sb at *
  generalize F_due_count = q0 at *
  generalize F_looked_at = q1 at *
  generalize F_taken_at = q2 at *
  generalize F_clock_met = q3 at *
  generalize F_clock_judged = q4 at *
  generalize F_clock_count = q5 at *
  as_aux_lemma =>
    simp only [runA, seq_ap, Mi.mi0, Mi.mi1, Mi.mi2, Mi.mi3, Mi.mi4, Mi.mi5, Mi.mo0, Mi.mo1, Mi.mo2, Mi.mo3, Mi.mo8, Bool.false_eq_true, Mi.mo9, Nat.reduceAdd, Nat.reduceSub, Nat.reduceLeDiff, Nat.reduceLT, Nat.reduceEqDiff, Mi.mt0, List.getElem?_cons_zero, List.getElem?_cons_succ, List.set_cons_zero, List.set_cons_succ, List.map_cons, List.map_nil, List.length_cons, List.length_nil, List.nil_append, List.cons_append, List.append_nil, List.replicate_succ, List.replicate_zero, lim_v, reduceIte, decide_true, decide_false, Bool.not_true, Bool.not_false, Option.bind_some, Mi.lst_no, Mi.par2, Mi.par3, eq_self, and_self, Mi.mi6, Mi.mi7, Mi.mi8, Mi.mi9, Option.map_some, Mi.mi10, Mi.mi11, Mi.mi12, Mi.mi13, Mi.mi14, Mi.mi15, h, c, a1]
theorem told1_no (j y z : D) (h : F_looked_at [j, y] = .exc "NotRight" []) : F__law_told [.int 1, j, y, z] = .ok flNR := by
  have c : decide ((1 : Int) < 3) = true := rfl
  have a1 : L2.atI [F_due_count, F_looked_at, F_taken_at] (1 : Int) = some F_looked_at := rfl
  have fn : exFl__law_flags "NotRight" = some [true, false, false, false, false] := rfl
  have sn : exSub "NotRight" "CodeError" = some true := rfl
  unfold F__law_told m__law_told b__law_told_0
  generalize exFl__law_flags = pk at *
  generalize exSub = sb at *
  generalize F_due_count = q0 at *
  generalize F_looked_at = q1 at *
  generalize F_taken_at = q2 at *
  generalize F_clock_met = q3 at *
  generalize F_clock_judged = q4 at *
  generalize F_clock_count = q5 at *
  as_aux_lemma =>
    simp only [runA, seq_ap, Mi.mi0, Mi.mi1, Mi.mi2, Mi.mi3, Mi.mi4, Mi.mi5, Mi.mo0, Mi.mo1, Mi.mo2, Mi.mo3, Mi.mo8, Bool.false_eq_true, Mi.mo9, Nat.reduceAdd, Nat.reduceSub, Nat.reduceLeDiff, Nat.reduceLT, Nat.reduceEqDiff, Mi.mt0, List.getElem?_cons_zero, List.getElem?_cons_succ, List.set_cons_zero, List.set_cons_succ, List.map_cons, List.map_nil, List.length_cons, List.length_nil, List.nil_append, List.cons_append, List.append_nil, List.replicate_succ, List.replicate_zero, lim_v, reduceIte, decide_true, decide_false, Bool.not_true, Bool.not_false, Option.bind_some, Mi.lst_no, Mi.par2, Mi.par3, eq_self, and_self, Mi.mi6, Mi.mi7, Mi.mi8, Mi.mi9, Option.map_some, Mi.mi10, Mi.mi11, Mi.mi12, Mi.mi13, Mi.mi14, Mi.mi15, h, fn, sn, c, a1]
theorem told2_ok (j y z : D) {x : D} (h : F_taken_at [j, y] = .ok x) : F__law_told [.int 2, j, y, z] = .ok x := by
  have c : decide ((2 : Int) < 3) = true := rfl
  have a1 : L2.atI [F_due_count, F_looked_at, F_taken_at] (2 : Int) = some F_taken_at := rfl
  unfold F__law_told m__law_told b__law_told_0
  generalize exFl__law_flags = pk at *
  generalize exSub = sb at *
  generalize F_due_count = q0 at *
  generalize F_looked_at = q1 at *
  generalize F_taken_at = q2 at *
  generalize F_clock_met = q3 at *
  generalize F_clock_judged = q4 at *
  generalize F_clock_count = q5 at *
  as_aux_lemma =>
    simp only [runA, seq_ap, Mi.mi0, Mi.mi1, Mi.mi2, Mi.mi3, Mi.mi4, Mi.mi5, Mi.mo0, Mi.mo1, Mi.mo2, Mi.mo3, Mi.mo8, Bool.false_eq_true, Mi.mo9, Nat.reduceAdd, Nat.reduceSub, Nat.reduceLeDiff, Nat.reduceLT, Nat.reduceEqDiff, Mi.mt0, List.getElem?_cons_zero, List.getElem?_cons_succ, List.set_cons_zero, List.set_cons_succ, List.map_cons, List.map_nil, List.length_cons, List.length_nil, List.nil_append, List.cons_append, List.append_nil, List.replicate_succ, List.replicate_zero, lim_v, reduceIte, decide_true, decide_false, Bool.not_true, Bool.not_false, Option.bind_some, Mi.lst_no, Mi.par2, Mi.par3, eq_self, and_self, Mi.mi6, Mi.mi7, Mi.mi8, Mi.mi9, Option.map_some, Mi.mi10, Mi.mi11, Mi.mi12, Mi.mi13, Mi.mi14, Mi.mi15, h, c, a1]
theorem told2_no (j y z : D) (h : F_taken_at [j, y] = .exc "NotRight" []) : F__law_told [.int 2, j, y, z] = .ok flNR := by
  have c : decide ((2 : Int) < 3) = true := rfl
  have a1 : L2.atI [F_due_count, F_looked_at, F_taken_at] (2 : Int) = some F_taken_at := rfl
  have fn : exFl__law_flags "NotRight" = some [true, false, false, false, false] := rfl
  have sn : exSub "NotRight" "CodeError" = some true := rfl
  unfold F__law_told m__law_told b__law_told_0
  generalize exFl__law_flags = pk at *
  generalize exSub = sb at *
  generalize F_due_count = q0 at *
  generalize F_looked_at = q1 at *
  generalize F_taken_at = q2 at *
  generalize F_clock_met = q3 at *
  generalize F_clock_judged = q4 at *
  generalize F_clock_count = q5 at *
  as_aux_lemma =>
    simp only [runA, seq_ap, Mi.mi0, Mi.mi1, Mi.mi2, Mi.mi3, Mi.mi4, Mi.mi5, Mi.mo0, Mi.mo1, Mi.mo2, Mi.mo3, Mi.mo8, Bool.false_eq_true, Mi.mo9, Nat.reduceAdd, Nat.reduceSub, Nat.reduceLeDiff, Nat.reduceLT, Nat.reduceEqDiff, Mi.mt0, List.getElem?_cons_zero, List.getElem?_cons_succ, List.set_cons_zero, List.set_cons_succ, List.map_cons, List.map_nil, List.length_cons, List.length_nil, List.nil_append, List.cons_append, List.append_nil, List.replicate_succ, List.replicate_zero, lim_v, reduceIte, decide_true, decide_false, Bool.not_true, Bool.not_false, Option.bind_some, Mi.lst_no, Mi.par2, Mi.par3, eq_self, and_self, Mi.mi6, Mi.mi7, Mi.mi8, Mi.mi9, Option.map_some, Mi.mi10, Mi.mi11, Mi.mi12, Mi.mi13, Mi.mi14, Mi.mi15, h, fn, sn, c, a1]
theorem told3_ok (j y z : D) {x : D} (h : F_clock_met [j, y, z] = .ok x) : F__law_told [.int 3, j, y, z] = .ok x := by
  have c : decide ((3 : Int) < 3) = false := rfl
  have c4 : (3 : Int) - 3 = 0 := rfl
  have a1 : L2.atI [F_clock_met, F_clock_judged, F_clock_count] (0 : Int) = some F_clock_met := rfl
  unfold F__law_told m__law_told b__law_told_0
  generalize exFl__law_flags = pk at *
  generalize exSub = sb at *
  generalize F_due_count = q0 at *
  generalize F_looked_at = q1 at *
  generalize F_taken_at = q2 at *
  generalize F_clock_met = q3 at *
  generalize F_clock_judged = q4 at *
  generalize F_clock_count = q5 at *
  as_aux_lemma =>
    simp only [runA, seq_ap, Mi.mi0, Mi.mi1, Mi.mi2, Mi.mi3, Mi.mi4, Mi.mi5, Mi.mo0, Mi.mo1, Mi.mo2, Mi.mo3, Mi.mo8, Bool.false_eq_true, Mi.mo9, Nat.reduceAdd, Nat.reduceSub, Nat.reduceLeDiff, Nat.reduceLT, Nat.reduceEqDiff, Mi.mt0, List.getElem?_cons_zero, List.getElem?_cons_succ, List.set_cons_zero, List.set_cons_succ, List.map_cons, List.map_nil, List.length_cons, List.length_nil, List.nil_append, List.cons_append, List.append_nil, List.replicate_succ, List.replicate_zero, lim_v, reduceIte, decide_true, decide_false, Bool.not_true, Bool.not_false, Option.bind_some, Mi.lst_no, Mi.par2, Mi.par3, eq_self, and_self, Mi.mi6, Mi.mi7, Mi.mi8, Mi.mi9, Option.map_some, Mi.mi10, Mi.mi11, Mi.mi12, Mi.mi13, Mi.mi14, Mi.mi15, h, c, c4, a1]
theorem told3_no (j y z : D) (h : F_clock_met [j, y, z] = .exc "NotRight" []) : F__law_told [.int 3, j, y, z] = .ok flNR := by
  have c : decide ((3 : Int) < 3) = false := rfl
  have c4 : (3 : Int) - 3 = 0 := rfl
  have a1 : L2.atI [F_clock_met, F_clock_judged, F_clock_count] (0 : Int) = some F_clock_met := rfl
  have fn : exFl__law_flags "NotRight" = some [true, false, false, false, false] := rfl
  have sn : exSub "NotRight" "CodeError" = some true := rfl
  unfold F__law_told m__law_told b__law_told_0
  generalize exFl__law_flags = pk at *
  generalize exSub = sb at *
  generalize F_due_count = q0 at *
  generalize F_looked_at = q1 at *
  generalize F_taken_at = q2 at *
  generalize F_clock_met = q3 at *
  generalize F_clock_judged = q4 at *
  generalize F_clock_count = q5 at *
  as_aux_lemma =>
    simp only [runA, seq_ap, Mi.mi0, Mi.mi1, Mi.mi2, Mi.mi3, Mi.mi4, Mi.mi5, Mi.mo0, Mi.mo1, Mi.mo2, Mi.mo3, Mi.mo8, Bool.false_eq_true, Mi.mo9, Nat.reduceAdd, Nat.reduceSub, Nat.reduceLeDiff, Nat.reduceLT, Nat.reduceEqDiff, Mi.mt0, List.getElem?_cons_zero, List.getElem?_cons_succ, List.set_cons_zero, List.set_cons_succ, List.map_cons, List.map_nil, List.length_cons, List.length_nil, List.nil_append, List.cons_append, List.append_nil, List.replicate_succ, List.replicate_zero, lim_v, reduceIte, decide_true, decide_false, Bool.not_true, Bool.not_false, Option.bind_some, Mi.lst_no, Mi.par2, Mi.par3, eq_self, and_self, Mi.mi6, Mi.mi7, Mi.mi8, Mi.mi9, Option.map_some, Mi.mi10, Mi.mi11, Mi.mi12, Mi.mi13, Mi.mi14, Mi.mi15, h, fn, sn, c, c4, a1]
theorem told4_ok (j y z : D) {x : D} (h : F_clock_judged [j, y, z] = .ok x) : F__law_told [.int 4, j, y, z] = .ok x := by
  have c : decide ((4 : Int) < 3) = false := rfl
  have c4 : (4 : Int) - 3 = 1 := rfl
  have a1 : L2.atI [F_clock_met, F_clock_judged, F_clock_count] (1 : Int) = some F_clock_judged := rfl
  unfold F__law_told m__law_told b__law_told_0
  generalize exFl__law_flags = pk at *
  generalize exSub = sb at *
  generalize F_due_count = q0 at *
  generalize F_looked_at = q1 at *
  generalize F_taken_at = q2 at *
  generalize F_clock_met = q3 at *
  generalize F_clock_judged = q4 at *
  generalize F_clock_count = q5 at *
  as_aux_lemma =>
    simp only [runA, seq_ap, Mi.mi0, Mi.mi1, Mi.mi2, Mi.mi3, Mi.mi4, Mi.mi5, Mi.mo0, Mi.mo1, Mi.mo2, Mi.mo3, Mi.mo8, Bool.false_eq_true, Mi.mo9, Nat.reduceAdd, Nat.reduceSub, Nat.reduceLeDiff, Nat.reduceLT, Nat.reduceEqDiff, Mi.mt0, List.getElem?_cons_zero, List.getElem?_cons_succ, List.set_cons_zero, List.set_cons_succ, List.map_cons, List.map_nil, List.length_cons, List.length_nil, List.nil_append, List.cons_append, List.append_nil, List.replicate_succ, List.replicate_zero, lim_v, reduceIte, decide_true, decide_false, Bool.not_true, Bool.not_false, Option.bind_some, Mi.lst_no, Mi.par2, Mi.par3, eq_self, and_self, Mi.mi6, Mi.mi7, Mi.mi8, Mi.mi9, Option.map_some, Mi.mi10, Mi.mi11, Mi.mi12, Mi.mi13, Mi.mi14, Mi.mi15, h, c, c4, a1]
theorem told4_no (j y z : D) (h : F_clock_judged [j, y, z] = .exc "NotRight" []) : F__law_told [.int 4, j, y, z] = .ok flNR := by
  have c : decide ((4 : Int) < 3) = false := rfl
  have c4 : (4 : Int) - 3 = 1 := rfl
  have a1 : L2.atI [F_clock_met, F_clock_judged, F_clock_count] (1 : Int) = some F_clock_judged := rfl
  have fn : exFl__law_flags "NotRight" = some [true, false, false, false, false] := rfl
  have sn : exSub "NotRight" "CodeError" = some true := rfl
  unfold F__law_told m__law_told b__law_told_0
  generalize exFl__law_flags = pk at *
  generalize exSub = sb at *
  generalize F_due_count = q0 at *
  generalize F_looked_at = q1 at *
  generalize F_taken_at = q2 at *
  generalize F_clock_met = q3 at *
  generalize F_clock_judged = q4 at *
  generalize F_clock_count = q5 at *
  as_aux_lemma =>
    simp only [runA, seq_ap, Mi.mi0, Mi.mi1, Mi.mi2, Mi.mi3, Mi.mi4, Mi.mi5, Mi.mo0, Mi.mo1, Mi.mo2, Mi.mo3, Mi.mo8, Bool.false_eq_true, Mi.mo9, Nat.reduceAdd, Nat.reduceSub, Nat.reduceLeDiff, Nat.reduceLT, Nat.reduceEqDiff, Mi.mt0, List.getElem?_cons_zero, List.getElem?_cons_succ, List.set_cons_zero, List.set_cons_succ, List.map_cons, List.map_nil, List.length_cons, List.length_nil, List.nil_append, List.cons_append, List.append_nil, List.replicate_succ, List.replicate_zero, lim_v, reduceIte, decide_true, decide_false, Bool.not_true, Bool.not_false, Option.bind_some, Mi.lst_no, Mi.par2, Mi.par3, eq_self, and_self, Mi.mi6, Mi.mi7, Mi.mi8, Mi.mi9, Option.map_some, Mi.mi10, Mi.mi11, Mi.mi12, Mi.mi13, Mi.mi14, Mi.mi15, h, fn, sn, c, c4, a1]
theorem told5_ok (j y z : D) {x : D} (h : F_clock_count [j, y, z] = .ok x) : F__law_told [.int 5, j, y, z] = .ok x := by
  have c : decide ((5 : Int) < 3) = false := rfl
  have c4 : (5 : Int) - 3 = 2 := rfl
  have a1 : L2.atI [F_clock_met, F_clock_judged, F_clock_count] (2 : Int) = some F_clock_count := rfl
  unfold F__law_told m__law_told b__law_told_0
  generalize exFl__law_flags = pk at *
  generalize exSub = sb at *
  generalize F_due_count = q0 at *
  generalize F_looked_at = q1 at *
  generalize F_taken_at = q2 at *
  generalize F_clock_met = q3 at *
  generalize F_clock_judged = q4 at *
  generalize F_clock_count = q5 at *
  as_aux_lemma =>
    simp only [runA, seq_ap, Mi.mi0, Mi.mi1, Mi.mi2, Mi.mi3, Mi.mi4, Mi.mi5, Mi.mo0, Mi.mo1, Mi.mo2, Mi.mo3, Mi.mo8, Bool.false_eq_true, Mi.mo9, Nat.reduceAdd, Nat.reduceSub, Nat.reduceLeDiff, Nat.reduceLT, Nat.reduceEqDiff, Mi.mt0, List.getElem?_cons_zero, List.getElem?_cons_succ, List.set_cons_zero, List.set_cons_succ, List.map_cons, List.map_nil, List.length_cons, List.length_nil, List.nil_append, List.cons_append, List.append_nil, List.replicate_succ, List.replicate_zero, lim_v, reduceIte, decide_true, decide_false, Bool.not_true, Bool.not_false, Option.bind_some, Mi.lst_no, Mi.par2, Mi.par3, eq_self, and_self, Mi.mi6, Mi.mi7, Mi.mi8, Mi.mi9, Option.map_some, Mi.mi10, Mi.mi11, Mi.mi12, Mi.mi13, Mi.mi14, Mi.mi15, h, c, c4, a1]
theorem told5_no (j y z : D) (h : F_clock_count [j, y, z] = .exc "NotRight" []) : F__law_told [.int 5, j, y, z] = .ok flNR := by
  have c : decide ((5 : Int) < 3) = false := rfl
  have c4 : (5 : Int) - 3 = 2 := rfl
  have a1 : L2.atI [F_clock_met, F_clock_judged, F_clock_count] (2 : Int) = some F_clock_count := rfl
  have fn : exFl__law_flags "NotRight" = some [true, false, false, false, false] := rfl
  have sn : exSub "NotRight" "CodeError" = some true := rfl
  unfold F__law_told m__law_told b__law_told_0
  generalize exFl__law_flags = pk at *
  generalize exSub = sb at *
  generalize F_due_count = q0 at *
  generalize F_looked_at = q1 at *
  generalize F_taken_at = q2 at *
  generalize F_clock_met = q3 at *
  generalize F_clock_judged = q4 at *
  generalize F_clock_count = q5 at *
  as_aux_lemma =>
    simp only [runA, seq_ap, Mi.mi0, Mi.mi1, Mi.mi2, Mi.mi3, Mi.mi4, Mi.mi5, Mi.mo0, Mi.mo1, Mi.mo2, Mi.mo3, Mi.mo8, Bool.false_eq_true, Mi.mo9, Nat.reduceAdd, Nat.reduceSub, Nat.reduceLeDiff, Nat.reduceLT, Nat.reduceEqDiff, Mi.mt0, List.getElem?_cons_zero, List.getElem?_cons_succ, List.set_cons_zero, List.set_cons_succ, List.map_cons, List.map_nil, List.length_cons, List.length_nil, List.nil_append, List.cons_append, List.append_nil, List.replicate_succ, List.replicate_zero, lim_v, reduceIte, decide_true, decide_false, Bool.not_true, Bool.not_false, Option.bind_some, Mi.lst_no, Mi.par2, Mi.par3, eq_self, and_self, Mi.mi6, Mi.mi7, Mi.mi8, Mi.mi9, Option.map_some, Mi.mi10, Mi.mi11, Mi.mi12, Mi.mi13, Mi.mi14, Mi.mi15, h, fn, sn, c, c4, a1]
end Lw
namespace Lw
open Mi L2
/-! ### what is refused -/
theorem within_gen (v lo hi : Int) : F_is_within [.int v, .int lo, .int hi] = .ok (.bl (decide (lo ≤ v) && decide (v ≤ hi))) := by
  by_cases c1 : lo ≤ v
  · have k1 := decide_eq_true c1
    simp only [F_is_within, runA, m_is_within, seq_ap, Mi.mi0, Mi.mi1, Mi.mi2, Mi.mi3, Mi.mi4, Mi.mi5, Mi.mo0, Mi.mo1, Mi.mo2, Mi.mo3, Mi.mo8, Bool.false_eq_true, Mi.mo9, Nat.reduceAdd, Nat.reduceSub, Nat.reduceLeDiff, Nat.reduceLT, Nat.reduceEqDiff, Mi.mt0, List.getElem?_cons_zero, List.getElem?_cons_succ, List.set_cons_zero, List.set_cons_succ, List.map_cons, List.map_nil, List.length_cons, List.length_nil, List.nil_append, List.cons_append, List.append_nil, List.replicate_succ, List.replicate_zero, lim_v, reduceIte, decide_true, decide_false, Bool.not_true, Bool.not_false, Option.bind_some, Mi.lst_no, Mi.par2, Mi.par3, eq_self, and_self, Mi.mi6, Mi.mi7, Mi.mi8, Mi.mi9, Option.map_some, Mi.mi10, Mi.mi11, Mi.mi12, Mi.mi13, Mi.mi14, Mi.mi15, is_integer_int, k1, Bool.true_and]
  · have k1 := decide_eq_false c1
    simp only [F_is_within, runA, m_is_within, seq_ap, Mi.mi0, Mi.mi1, Mi.mi2, Mi.mi3, Mi.mi4, Mi.mi5, Mi.mo0, Mi.mo1, Mi.mo2, Mi.mo3, Mi.mo8, Bool.false_eq_true, Mi.mo9, Nat.reduceAdd, Nat.reduceSub, Nat.reduceLeDiff, Nat.reduceLT, Nat.reduceEqDiff, Mi.mt0, List.getElem?_cons_zero, List.getElem?_cons_succ, List.set_cons_zero, List.set_cons_succ, List.map_cons, List.map_nil, List.length_cons, List.length_nil, List.nil_append, List.cons_append, List.append_nil, List.replicate_succ, List.replicate_zero, lim_v, reduceIte, decide_true, decide_false, Bool.not_true, Bool.not_false, Option.bind_some, Mi.lst_no, Mi.par2, Mi.par3, eq_self, and_self, Mi.mi6, Mi.mi7, Mi.mi8, Mi.mi9, Option.map_some, Mi.mi10, Mi.mi11, Mi.mi12, Mi.mi13, Mi.mi14, Mi.mi15, is_integer_int, k1, Bool.false_and]
theorem within_out {v lo hi : Int} (h : v < lo ∨ hi < v) : F_is_within [.int v, .int lo, .int hi] = .ok (.bl false) := by
  rw [within_gen]
  have e : (decide (lo ≤ v) && decide (v ≤ hi)) = false := by
    rw [Bool.and_eq_false_iff, decide_eq_false_iff_not, decide_eq_false_iff_not]
    omega
  rw [e]
theorem int_no_bl (b : Bool) : F_is_integer [.bl b] = .ok (.bl false) := by
  unfold F_is_integer
  rfl
theorem int_no_non : F_is_integer [.non] = .ok (.bl false) := by
  unfold F_is_integer
  rfl
theorem int_no_str (x : PySem.Str) : F_is_integer [.str x] = .ok (.bl false) := by
  unfold F_is_integer
  rfl
theorem within_no {d : D} (h : F_is_integer [d] = .ok (.bl false)) (lo hi : D) : F_is_within [d, lo, hi] = .ok (.bl false) := by
  unfold F_is_within m_is_within
  generalize F_is_integer = q0 at *
  as_aux_lemma =>
    simp only [runA, seq_ap, Mi.mi0, Mi.mi1, Mi.mi2, Mi.mi3, Mi.mi4, Mi.mi5, Mi.mo0, Mi.mo1, Mi.mo2, Mi.mo3, Mi.mo8, Bool.false_eq_true, Mi.mo9, Nat.reduceAdd, Nat.reduceSub, Nat.reduceLeDiff, Nat.reduceLT, Nat.reduceEqDiff, Mi.mt0, List.getElem?_cons_zero, List.getElem?_cons_succ, List.set_cons_zero, List.set_cons_succ, List.map_cons, List.map_nil, List.length_cons, List.length_nil, List.nil_append, List.cons_append, List.append_nil, List.replicate_succ, List.replicate_zero, lim_v, reduceIte, decide_true, decide_false, Bool.not_true, Bool.not_false, Option.bind_some, Mi.lst_no, Mi.par2, Mi.par3, eq_self, and_self, Mi.mi6, Mi.mi7, Mi.mi8, Mi.mi9, Option.map_some, Mi.mi10, Mi.mi11, Mi.mi12, Mi.mi13, Mi.mi14, Mi.mi15, h]
theorem count_no {d : D} (h : F_is_integer [d] = .ok (.bl false)) : F_is_count [d] = .ok (.bl false) := by
  unfold F_is_count m_is_count
  generalize F_is_integer = q0 at *
  as_aux_lemma =>
    simp only [runA, seq_ap, Mi.mi0, Mi.mi1, Mi.mi2, Mi.mi3, Mi.mi4, Mi.mi5, Mi.mo0, Mi.mo1, Mi.mo2, Mi.mo3, Mi.mo8, Bool.false_eq_true, Mi.mo9, Nat.reduceAdd, Nat.reduceSub, Nat.reduceLeDiff, Nat.reduceLT, Nat.reduceEqDiff, Mi.mt0, List.getElem?_cons_zero, List.getElem?_cons_succ, List.set_cons_zero, List.set_cons_succ, List.map_cons, List.map_nil, List.length_cons, List.length_nil, List.nil_append, List.cons_append, List.append_nil, List.replicate_succ, List.replicate_zero, lim_v, reduceIte, decide_true, decide_false, Bool.not_true, Bool.not_false, Option.bind_some, Mi.lst_no, Mi.par2, Mi.par3, eq_self, and_self, Mi.mi6, Mi.mi7, Mi.mi8, Mi.mi9, Option.map_some, Mi.mi10, Mi.mi11, Mi.mi12, Mi.mi13, Mi.mi14, Mi.mi15, h]
theorem count_neg : F_is_count [.int (-1)] = .ok (.bl false) := by
  have h := is_integer_int (-1)
  have k : decide ((0 : Int) ≤ -1) = false := by decide
  unfold F_is_count m_is_count
  generalize F_is_integer = q0 at *
  as_aux_lemma =>
    simp only [runA, seq_ap, Mi.mi0, Mi.mi1, Mi.mi2, Mi.mi3, Mi.mi4, Mi.mi5, Mi.mo0, Mi.mo1, Mi.mo2, Mi.mo3, Mi.mo8, Bool.false_eq_true, Mi.mo9, Nat.reduceAdd, Nat.reduceSub, Nat.reduceLeDiff, Nat.reduceLT, Nat.reduceEqDiff, Mi.mt0, List.getElem?_cons_zero, List.getElem?_cons_succ, List.set_cons_zero, List.set_cons_succ, List.map_cons, List.map_nil, List.length_cons, List.length_nil, List.nil_append, List.cons_append, List.append_nil, List.replicate_succ, List.replicate_zero, lim_v, reduceIte, decide_true, decide_false, Bool.not_true, Bool.not_false, Option.bind_some, Mi.lst_no, Mi.par2, Mi.par3, eq_self, and_self, Mi.mi6, Mi.mi7, Mi.mi8, Mi.mi9, Option.map_some, Mi.mi10, Mi.mi11, Mi.mi12, Mi.mi13, Mi.mi14, Mi.mi15, h, k, ge_iff_le]
section
variable {a b c d st w wd n : Nat}
theorem key_three : F_is_key [.tup [nI a, nI b, nI c]] = .ok (.bl false) := by
  have ln : fLen [.tup [nI a, nI b, nI c]] = some (.int 3) := rfl
  have ty : fIs [.tup [nI a, nI b, nI c], .ty "tuple"] = some (.bl true) := rfl
  have ne : gNe (.int 3) (.int 4) = some (.bl true) := rfl
  unfold F_is_key m_is_key
  generalize D.tup [nI a, nI b, nI c] = T at *
  as_aux_lemma =>
    simp only [runA, seq_ap, Mi.mi0, Mi.mi1, Mi.mi2, Mi.mi3, Mi.mi4, Mi.mi5, Mi.mo0, Mi.mo1, Mi.mo2, Mi.mo3, Mi.mo8, Bool.false_eq_true, Mi.mo9, Nat.reduceAdd, Nat.reduceSub, Nat.reduceLeDiff, Nat.reduceLT, Nat.reduceEqDiff, Mi.mt0, List.getElem?_cons_zero, List.getElem?_cons_succ, List.set_cons_zero, List.set_cons_succ, List.map_cons, List.map_nil, List.length_cons, List.length_nil, List.nil_append, List.cons_append, List.append_nil, List.replicate_succ, List.replicate_zero, lim_v, reduceIte, decide_true, decide_false, Bool.not_true, Bool.not_false, Option.bind_some, Mi.lst_no, Mi.par2, Mi.par3, eq_self, and_self, Mi.mi6, Mi.mi7, Mi.mi8, Mi.mi9, Option.map_some, Mi.mi10, Mi.mi11, Mi.mi12, Mi.mi13, Mi.mi14, Mi.mi15, ln, ty, ne]
end
theorem figs_non {x : D} : F_are_figures [.non, x] = .ok (.bl false) := by
  unfold F_are_figures m_are_figures
  as_aux_lemma =>
    simp only [runA, seq_ap, Mi.mi0, Mi.mi1, Mi.mi2, Mi.mi3, Mi.mi4, Mi.mi5, Mi.mo0, Mi.mo1, Mi.mo2, Mi.mo3, Mi.mo8, Bool.false_eq_true, Mi.mo9, Nat.reduceAdd, Nat.reduceSub, Nat.reduceLeDiff, Nat.reduceLT, Nat.reduceEqDiff, Mi.mt0, List.getElem?_cons_zero, List.getElem?_cons_succ, List.set_cons_zero, List.set_cons_succ, List.map_cons, List.map_nil, List.length_cons, List.length_nil, List.nil_append, List.cons_append, List.append_nil, List.replicate_succ, List.replicate_zero, lim_v, reduceIte, decide_true, decide_false, Bool.not_true, Bool.not_false, Option.bind_some, Mi.lst_no, Mi.par2, Mi.par3, eq_self, and_self, Mi.mi6, Mi.mi7, Mi.mi8, Mi.mi9, Option.map_some, Mi.mi10, Mi.mi11, Mi.mi12, Mi.mi13, Mi.mi14, Mi.mi15]
theorem figs_len {x : PySem.Str} {d : Nat} (h : x.length ≠ d) (l : x.length ≤ 100) : F_are_figures [.str x, nI d] = .ok (.bl false) := by
  have ty : fIs [.str x, .ty "str"] = some (.bl true) := rfl
  have fl : fLen [.str x] = some (.int (x.length : Int)) := by
    simp only [fLen]
    rw [if_pos (by rw [lim_v]; omega)]
  have e : gEq (.int (x.length : Int)) (nI d) = some (.bl false) := by
    show some (D.bl (decide ((x.length : Int) = (d : Int)))) = _
    rw [decide_eq_false (by omega)]
  unfold F_are_figures m_are_figures
  generalize nI d = dd at *
  generalize x.length = xl at *
  generalize D.str x = X at *
  as_aux_lemma =>
    simp only [runA, seq_ap, Mi.mi0, Mi.mi1, Mi.mi2, Mi.mi3, Mi.mi4, Mi.mi5, Mi.mo0, Mi.mo1, Mi.mo2, Mi.mo3, Mi.mo8, Bool.false_eq_true, Mi.mo9, Nat.reduceAdd, Nat.reduceSub, Nat.reduceLeDiff, Nat.reduceLT, Nat.reduceEqDiff, Mi.mt0, List.getElem?_cons_zero, List.getElem?_cons_succ, List.set_cons_zero, List.set_cons_succ, List.map_cons, List.map_nil, List.length_cons, List.length_nil, List.nil_append, List.cons_append, List.append_nil, List.replicate_succ, List.replicate_zero, lim_v, reduceIte, decide_true, decide_false, Bool.not_true, Bool.not_false, Option.bind_some, Mi.lst_no, Mi.par2, Mi.par3, eq_self, and_self, Mi.mi6, Mi.mi7, Mi.mi8, Mi.mi9, Option.map_some, Mi.mi10, Mi.mi11, Mi.mi12, Mi.mi13, Mi.mi14, Mi.mi15, ty, fl, e]
section
variable {a b c d v : Nat}
theorem mul_zero (h0 : 1 ≤ d) (h : d ≤ 6) : gMulS (.str "0") (nI d) = some (.str (cd d 0)) := by
  rcases (by omega : d = 1 ∨ d = 2 ∨ d = 3 ∨ d = 4 ∨ d = 5 ∨ d = 6) with rfl | rfl | rfl | rfl | rfl | rfl <;> kernel_rfl
theorem mul_x (h0 : 1 ≤ d) (h : d ≤ 6) : ∃ x, gMulS (.str "x") (nI d) = some (.str x) ∧ F_are_figures [.str x, nI d] = .ok (.bl false) := by
  refine ⟨repS "x" d, ?_, ?_⟩
  · rcases (by omega : d = 1 ∨ d = 2 ∨ d = 3 ∨ d = 4 ∨ d = 5 ∨ d = 6) with rfl | rfl | rfl | rfl | rfl | rfl <;> kernel_rfl
  · rcases (by omega : d = 1 ∨ d = 2 ∨ d = 3 ∨ d = 4 ∨ d = 5 ∨ d = 6) with rfl | rfl | rfl | rfl | rfl | rfl <;> kernel_rfl
theorem cut_code (h0 : 1 ≤ d) (h : d ≤ 6) : ∃ x, gSl (.str (cd d v)) (some 1) none = some (.str x) ∧ F_are_figures [.str x, nI d] = .ok (.bl false) := by
  have ln := cd_len d v
  refine ⟨L2.cutS (cd d v) (some 1) none, ?_, ?_⟩
  · simp only [gSl]
    rw [if_pos (by rw [ln, lim_v]; omega)]
  · have i1 : HT.sIx d 0 (some 1) = 1 := by
      have := HT.sIx_nat d 0 1
      rw [show ((1 : Nat) : Int) = 1 from rfl] at this
      rw [this]
      omega
    have l2 : (L2.cutS (cd d v) (some 1) none).length = d - 1 := by
      unfold L2.cutS
      rw [ln, i1, HT.sIx_none]
      show (((dg d v).drop 1).take (d - 1)).toArray.size = d - 1
      rw [List.size_toArray, List.length_take, List.length_drop, dg_len]
      omega
    exact figs_len (by omega) (by omega)
theorem add_code (h : d ≤ 6) : ∃ x, gAdd (.str (cd d v)) (.str "0") = some (.str x) ∧ F_are_figures [.str x, nI d] = .ok (.bl false) := by
  have ln := cd_len d v
  have l1 : ("0" : PySem.Str).length = 1 := rfl
  refine ⟨cd d v ++ "0", ?_, ?_⟩
  · simp only [gAdd]
    rw [if_pos (by rw [ln, l1, lim_v]; omega)]
  · have l2 : (cd d v ++ "0" : PySem.Str).length = d + 1 := by
      show ((cd d v).cps ++ ("0" : PySem.Str).cps).size = _
      rw [Array.size_append]
      show (cd d v).length + 1 = _
      rw [ln]
    exact figs_len (by omega) (by omega)
end
section
variable {a b c d st sl t v : Nat} {dr la : Int}
def badC (k : D) (a b c st sl : Nat) (dr la : Int) : List D := [.non, .tup [k, nI st, nI sl, .int dr], .lst [k, nI st, nI sl, .int dr, .int la], .tup [.tup [nI a, nI b, nI c], nI st, nI sl, .int dr, .int la], .tup [k, .int 0, nI sl, .int dr, .int la], .tup [k, .int 601, nI sl, .int dr, .int la],
  .tup [k, nI st, .int (-1), .int dr, .int la], .tup [k, nI st, .int 21, .int dr, .int la], .tup [k, nI st, nI sl, .non, .int la], .tup [k, nI st, nI sl, .int dr, .int (-2)], .tup [k, .bl true, nI sl, .int dr, .int la], .tup [k, nI st, nI sl, .str "0", .int la], .tup [k, nI st, nI sl, .int dr, .non]]
theorem badC_no (o : KyOk a b c d) (j : JOk st sl dr la) : ∀ x ∈ badC (ky a b c d) a b c st sl dr la, F_is_clock_judge [x] = .ok (.bl false) := by
  intro x hx
  have j1 := j.s0
  have j2 := j.s1
  have j3 := j.l1
  have k1 := is_key_eq o
  have k9 := key_three (a := a) (b := b) (c := c)
  have w1 : F_is_within [.int (st : Int), .int 1, .int 600] = .ok (.bl true) := within_ok (by omega) (by omega)
  have w2 : F_is_within [.int (sl : Int), .int 0, .int 20] = .ok (.bl true) := within_ok (by omega) (by omega)
  have w3 : F_is_within [.int 0, .int 1, .int 600] = .ok (.bl false) := within_out (by omega)
  have w4 : F_is_within [.int 601, .int 1, .int 600] = .ok (.bl false) := within_out (by omega)
  have w5 : F_is_within [.int (-1), .int 0, .int 20] = .ok (.bl false) := within_out (by omega)
  have w6 : F_is_within [.int 21, .int 0, .int 20] = .ok (.bl false) := within_out (by omega)
  have w7 := within_no (int_no_bl true) (.int 1) (.int 600)
  have i1 := is_int dr
  have i2 := is_int la
  have i3 := int_no_non
  have i4 := int_no_str "0"
  have i5 := is_int (-2)
  have c2 : decide ((-1 : Int) ≤ -2) = false := by decide
  have c4 : gNe (.int 4) (.int 5) = some (.bl true) := rfl
  unfold F_is_clock_judge m_is_clock_judge
  generalize hT : D.tup [nI a, nI b, nI c] = T at *
  simp only [badC, List.mem_cons, List.mem_nil_iff, or_false] at hx
  generalize ky a b c d = k at *
  generalize F_is_key = q0 at *
  generalize F_is_within = q1 at *
  generalize F_is_integer = q2 at *
  rcases hx with rfl | rfl | rfl | rfl | rfl | rfl | rfl | rfl | rfl | rfl | rfl | rfl | rfl
  · as_aux_lemma =>
      simp only [runA, seq_ap, Mi.mi0, Mi.mi1, Mi.mi2, Mi.mi3, Mi.mi4, Mi.mi5, Mi.mo0, Mi.mo1, Mi.mo2, Mi.mo3, Mi.mo8, Bool.false_eq_true, Mi.mo9, Nat.reduceAdd, Nat.reduceSub, Nat.reduceLeDiff, Nat.reduceLT, Nat.reduceEqDiff, Mi.mt0, List.getElem?_cons_zero, List.getElem?_cons_succ, List.set_cons_zero, List.set_cons_succ, List.map_cons, List.map_nil, List.length_cons, List.length_nil, List.nil_append, List.cons_append, List.append_nil, List.replicate_succ, List.replicate_zero, lim_v, reduceIte, decide_true, decide_false, Bool.not_true, Bool.not_false, Option.bind_some, Mi.lst_no, Mi.par2, Mi.par3, eq_self, and_self, Mi.mi6, Mi.mi7, Mi.mi8, Mi.mi9, Option.map_some, Mi.mi10, Mi.mi11, Mi.mi12, Mi.mi13, Mi.mi14, Mi.mi15, k1]
  · as_aux_lemma =>
      simp only [runA, seq_ap, Mi.mi0, Mi.mi1, Mi.mi2, Mi.mi3, Mi.mi4, Mi.mi5, Mi.mo0, Mi.mo1, Mi.mo2, Mi.mo3, Mi.mo8, Bool.false_eq_true, Mi.mo9, Nat.reduceAdd, Nat.reduceSub, Nat.reduceLeDiff, Nat.reduceLT, Nat.reduceEqDiff, Mi.mt0, List.getElem?_cons_zero, List.getElem?_cons_succ, List.set_cons_zero, List.set_cons_succ, List.map_cons, List.map_nil, List.length_cons, List.length_nil, List.nil_append, List.cons_append, List.append_nil, List.replicate_succ, List.replicate_zero, lim_v, reduceIte, decide_true, decide_false, Bool.not_true, Bool.not_false, Option.bind_some, Mi.lst_no, Mi.par2, Mi.par3, eq_self, and_self, Mi.mi6, Mi.mi7, Mi.mi8, Mi.mi9, Option.map_some, Mi.mi10, Mi.mi11, Mi.mi12, Mi.mi13, Mi.mi14, Mi.mi15, k1, c4]
  · as_aux_lemma =>
      simp only [runA, seq_ap, Mi.mi0, Mi.mi1, Mi.mi2, Mi.mi3, Mi.mi4, Mi.mi5, Mi.mo0, Mi.mo1, Mi.mo2, Mi.mo3, Mi.mo8, Bool.false_eq_true, Mi.mo9, Nat.reduceAdd, Nat.reduceSub, Nat.reduceLeDiff, Nat.reduceLT, Nat.reduceEqDiff, Mi.mt0, List.getElem?_cons_zero, List.getElem?_cons_succ, List.set_cons_zero, List.set_cons_succ, List.map_cons, List.map_nil, List.length_cons, List.length_nil, List.nil_append, List.cons_append, List.append_nil, List.replicate_succ, List.replicate_zero, lim_v, reduceIte, decide_true, decide_false, Bool.not_true, Bool.not_false, Option.bind_some, Mi.lst_no, Mi.par2, Mi.par3, eq_self, and_self, Mi.mi6, Mi.mi7, Mi.mi8, Mi.mi9, Option.map_some, Mi.mi10, Mi.mi11, Mi.mi12, Mi.mi13, Mi.mi14, Mi.mi15, k1]
  · subst hT
    as_aux_lemma =>
      simp only [runA, seq_ap, Mi.mi0, Mi.mi1, Mi.mi2, Mi.mi3, Mi.mi4, Mi.mi5, Mi.mo0, Mi.mo1, Mi.mo2, Mi.mo3, Mi.mo8, Bool.false_eq_true, Mi.mo9, Nat.reduceAdd, Nat.reduceSub, Nat.reduceLeDiff, Nat.reduceLT, Nat.reduceEqDiff, Mi.mt0, List.getElem?_cons_zero, List.getElem?_cons_succ, List.set_cons_zero, List.set_cons_succ, List.map_cons, List.map_nil, List.length_cons, List.length_nil, List.nil_append, List.cons_append, List.append_nil, List.replicate_succ, List.replicate_zero, lim_v, reduceIte, decide_true, decide_false, Bool.not_true, Bool.not_false, Option.bind_some, Mi.lst_no, Mi.par2, Mi.par3, eq_self, and_self, Mi.mi6, Mi.mi7, Mi.mi8, Mi.mi9, Option.map_some, Mi.mi10, Mi.mi11, Mi.mi12, Mi.mi13, Mi.mi14, Mi.mi15, k9]
  · as_aux_lemma =>
      simp only [runA, seq_ap, Mi.mi0, Mi.mi1, Mi.mi2, Mi.mi3, Mi.mi4, Mi.mi5, Mi.mo0, Mi.mo1, Mi.mo2, Mi.mo3, Mi.mo8, Bool.false_eq_true, Mi.mo9, Nat.reduceAdd, Nat.reduceSub, Nat.reduceLeDiff, Nat.reduceLT, Nat.reduceEqDiff, Mi.mt0, List.getElem?_cons_zero, List.getElem?_cons_succ, List.set_cons_zero, List.set_cons_succ, List.map_cons, List.map_nil, List.length_cons, List.length_nil, List.nil_append, List.cons_append, List.append_nil, List.replicate_succ, List.replicate_zero, lim_v, reduceIte, decide_true, decide_false, Bool.not_true, Bool.not_false, Option.bind_some, Mi.lst_no, Mi.par2, Mi.par3, eq_self, and_self, Mi.mi6, Mi.mi7, Mi.mi8, Mi.mi9, Option.map_some, Mi.mi10, Mi.mi11, Mi.mi12, Mi.mi13, Mi.mi14, Mi.mi15, k1, w3, w2]
  · as_aux_lemma =>
      simp only [runA, seq_ap, Mi.mi0, Mi.mi1, Mi.mi2, Mi.mi3, Mi.mi4, Mi.mi5, Mi.mo0, Mi.mo1, Mi.mo2, Mi.mo3, Mi.mo8, Bool.false_eq_true, Mi.mo9, Nat.reduceAdd, Nat.reduceSub, Nat.reduceLeDiff, Nat.reduceLT, Nat.reduceEqDiff, Mi.mt0, List.getElem?_cons_zero, List.getElem?_cons_succ, List.set_cons_zero, List.set_cons_succ, List.map_cons, List.map_nil, List.length_cons, List.length_nil, List.nil_append, List.cons_append, List.append_nil, List.replicate_succ, List.replicate_zero, lim_v, reduceIte, decide_true, decide_false, Bool.not_true, Bool.not_false, Option.bind_some, Mi.lst_no, Mi.par2, Mi.par3, eq_self, and_self, Mi.mi6, Mi.mi7, Mi.mi8, Mi.mi9, Option.map_some, Mi.mi10, Mi.mi11, Mi.mi12, Mi.mi13, Mi.mi14, Mi.mi15, k1, w4, w2]
  · as_aux_lemma =>
      simp only [runA, seq_ap, Mi.mi0, Mi.mi1, Mi.mi2, Mi.mi3, Mi.mi4, Mi.mi5, Mi.mo0, Mi.mo1, Mi.mo2, Mi.mo3, Mi.mo8, Bool.false_eq_true, Mi.mo9, Nat.reduceAdd, Nat.reduceSub, Nat.reduceLeDiff, Nat.reduceLT, Nat.reduceEqDiff, Mi.mt0, List.getElem?_cons_zero, List.getElem?_cons_succ, List.set_cons_zero, List.set_cons_succ, List.map_cons, List.map_nil, List.length_cons, List.length_nil, List.nil_append, List.cons_append, List.append_nil, List.replicate_succ, List.replicate_zero, lim_v, reduceIte, decide_true, decide_false, Bool.not_true, Bool.not_false, Option.bind_some, Mi.lst_no, Mi.par2, Mi.par3, eq_self, and_self, Mi.mi6, Mi.mi7, Mi.mi8, Mi.mi9, Option.map_some, Mi.mi10, Mi.mi11, Mi.mi12, Mi.mi13, Mi.mi14, Mi.mi15, k1, w1, w5]
  · as_aux_lemma =>
      simp only [runA, seq_ap, Mi.mi0, Mi.mi1, Mi.mi2, Mi.mi3, Mi.mi4, Mi.mi5, Mi.mo0, Mi.mo1, Mi.mo2, Mi.mo3, Mi.mo8, Bool.false_eq_true, Mi.mo9, Nat.reduceAdd, Nat.reduceSub, Nat.reduceLeDiff, Nat.reduceLT, Nat.reduceEqDiff, Mi.mt0, List.getElem?_cons_zero, List.getElem?_cons_succ, List.set_cons_zero, List.set_cons_succ, List.map_cons, List.map_nil, List.length_cons, List.length_nil, List.nil_append, List.cons_append, List.append_nil, List.replicate_succ, List.replicate_zero, lim_v, reduceIte, decide_true, decide_false, Bool.not_true, Bool.not_false, Option.bind_some, Mi.lst_no, Mi.par2, Mi.par3, eq_self, and_self, Mi.mi6, Mi.mi7, Mi.mi8, Mi.mi9, Option.map_some, Mi.mi10, Mi.mi11, Mi.mi12, Mi.mi13, Mi.mi14, Mi.mi15, k1, w1, w6]
  · as_aux_lemma =>
      simp only [runA, seq_ap, Mi.mi0, Mi.mi1, Mi.mi2, Mi.mi3, Mi.mi4, Mi.mi5, Mi.mo0, Mi.mo1, Mi.mo2, Mi.mo3, Mi.mo8, Bool.false_eq_true, Mi.mo9, Nat.reduceAdd, Nat.reduceSub, Nat.reduceLeDiff, Nat.reduceLT, Nat.reduceEqDiff, Mi.mt0, List.getElem?_cons_zero, List.getElem?_cons_succ, List.set_cons_zero, List.set_cons_succ, List.map_cons, List.map_nil, List.length_cons, List.length_nil, List.nil_append, List.cons_append, List.append_nil, List.replicate_succ, List.replicate_zero, lim_v, reduceIte, decide_true, decide_false, Bool.not_true, Bool.not_false, Option.bind_some, Mi.lst_no, Mi.par2, Mi.par3, eq_self, and_self, Mi.mi6, Mi.mi7, Mi.mi8, Mi.mi9, Option.map_some, Mi.mi10, Mi.mi11, Mi.mi12, Mi.mi13, Mi.mi14, Mi.mi15, k1, w1, w2, i3]
  · as_aux_lemma =>
      simp only [runA, seq_ap, Mi.mi0, Mi.mi1, Mi.mi2, Mi.mi3, Mi.mi4, Mi.mi5, Mi.mo0, Mi.mo1, Mi.mo2, Mi.mo3, Mi.mo8, Bool.false_eq_true, Mi.mo9, Nat.reduceAdd, Nat.reduceSub, Nat.reduceLeDiff, Nat.reduceLT, Nat.reduceEqDiff, Mi.mt0, List.getElem?_cons_zero, List.getElem?_cons_succ, List.set_cons_zero, List.set_cons_succ, List.map_cons, List.map_nil, List.length_cons, List.length_nil, List.nil_append, List.cons_append, List.append_nil, List.replicate_succ, List.replicate_zero, lim_v, reduceIte, decide_true, decide_false, Bool.not_true, Bool.not_false, Option.bind_some, Mi.lst_no, Mi.par2, Mi.par3, eq_self, and_self, Mi.mi6, Mi.mi7, Mi.mi8, Mi.mi9, Option.map_some, Mi.mi10, Mi.mi11, Mi.mi12, Mi.mi13, Mi.mi14, Mi.mi15, k1, w1, w2, i1, i5, c2, ge_iff_le]
  · as_aux_lemma =>
      simp only [runA, seq_ap, Mi.mi0, Mi.mi1, Mi.mi2, Mi.mi3, Mi.mi4, Mi.mi5, Mi.mo0, Mi.mo1, Mi.mo2, Mi.mo3, Mi.mo8, Bool.false_eq_true, Mi.mo9, Nat.reduceAdd, Nat.reduceSub, Nat.reduceLeDiff, Nat.reduceLT, Nat.reduceEqDiff, Mi.mt0, List.getElem?_cons_zero, List.getElem?_cons_succ, List.set_cons_zero, List.set_cons_succ, List.map_cons, List.map_nil, List.length_cons, List.length_nil, List.nil_append, List.cons_append, List.append_nil, List.replicate_succ, List.replicate_zero, lim_v, reduceIte, decide_true, decide_false, Bool.not_true, Bool.not_false, Option.bind_some, Mi.lst_no, Mi.par2, Mi.par3, eq_self, and_self, Mi.mi6, Mi.mi7, Mi.mi8, Mi.mi9, Option.map_some, Mi.mi10, Mi.mi11, Mi.mi12, Mi.mi13, Mi.mi14, Mi.mi15, k1, w7, w2]
  · as_aux_lemma =>
      simp only [runA, seq_ap, Mi.mi0, Mi.mi1, Mi.mi2, Mi.mi3, Mi.mi4, Mi.mi5, Mi.mo0, Mi.mo1, Mi.mo2, Mi.mo3, Mi.mo8, Bool.false_eq_true, Mi.mo9, Nat.reduceAdd, Nat.reduceSub, Nat.reduceLeDiff, Nat.reduceLT, Nat.reduceEqDiff, Mi.mt0, List.getElem?_cons_zero, List.getElem?_cons_succ, List.set_cons_zero, List.set_cons_succ, List.map_cons, List.map_nil, List.length_cons, List.length_nil, List.nil_append, List.cons_append, List.append_nil, List.replicate_succ, List.replicate_zero, lim_v, reduceIte, decide_true, decide_false, Bool.not_true, Bool.not_false, Option.bind_some, Mi.lst_no, Mi.par2, Mi.par3, eq_self, and_self, Mi.mi6, Mi.mi7, Mi.mi8, Mi.mi9, Option.map_some, Mi.mi10, Mi.mi11, Mi.mi12, Mi.mi13, Mi.mi14, Mi.mi15, k1, w1, w2, i4]
  · as_aux_lemma =>
      simp only [runA, seq_ap, Mi.mi0, Mi.mi1, Mi.mi2, Mi.mi3, Mi.mi4, Mi.mi5, Mi.mo0, Mi.mo1, Mi.mo2, Mi.mo3, Mi.mo8, Bool.false_eq_true, Mi.mo9, Nat.reduceAdd, Nat.reduceSub, Nat.reduceLeDiff, Nat.reduceLT, Nat.reduceEqDiff, Mi.mt0, List.getElem?_cons_zero, List.getElem?_cons_succ, List.set_cons_zero, List.set_cons_succ, List.map_cons, List.map_nil, List.length_cons, List.length_nil, List.nil_append, List.cons_append, List.append_nil, List.replicate_succ, List.replicate_zero, lim_v, reduceIte, decide_true, decide_false, Bool.not_true, Bool.not_false, Option.bind_some, Mi.lst_no, Mi.par2, Mi.par3, eq_self, and_self, Mi.mi6, Mi.mi7, Mi.mi8, Mi.mi9, Option.map_some, Mi.mi10, Mi.mi11, Mi.mi12, Mi.mi13, Mi.mi14, Mi.mi15, k1, w1, w2, i1, i3]
def badK : List D := [.non, .tup [.int 0], .lst [.int 0, .int 0], .tup [.int 0, .int 500001], .tup [.int 0, .int (-500001)], .tup [.bl true, .int 0], .tup [.int 0, .str "0"], .tup [.non, .int 0], .tup [.int 0, .int 0, .int 0]]
theorem badK_no : ∀ x ∈ badK, F_is_clock [x] = .ok (.bl false) := by
  intro x hx
  simp only [badK, List.mem_cons, List.mem_nil_iff, or_false] at hx
  rcases hx with rfl | rfl | rfl | rfl | rfl | rfl | rfl | rfl | rfl <;> kernel_rfl
end
theorem judge_no {j : D} (h : F_is_clock_judge [j] = .ok (.bl false)) : F_check_judge [j] = .exc "NotRight" [] := by
  have w := check_false
  unfold F_check_judge m_check_judge
  generalize F_is_clock_judge = q0 at *
  generalize F_check = q1 at *
  as_aux_lemma =>
    simp only [runA, seq_ap, Mi.mi0, Mi.mi1, Mi.mi2, Mi.mi3, Mi.mi4, Mi.mi5, Mi.mo0, Mi.mo1, Mi.mo2, Mi.mo3, Mi.mo8, Bool.false_eq_true, Mi.mo9, Nat.reduceAdd, Nat.reduceSub, Nat.reduceLeDiff, Nat.reduceLT, Nat.reduceEqDiff, Mi.mt0, List.getElem?_cons_zero, List.getElem?_cons_succ, List.set_cons_zero, List.set_cons_succ, List.map_cons, List.map_nil, List.length_cons, List.length_nil, List.nil_append, List.cons_append, List.append_nil, List.replicate_succ, List.replicate_zero, lim_v, reduceIte, decide_true, decide_false, Bool.not_true, Bool.not_false, Option.bind_some, Mi.lst_no, Mi.par2, Mi.par3, eq_self, and_self, Mi.mi6, Mi.mi7, Mi.mi8, Mi.mi9, Option.map_some, Mi.mi10, Mi.mi11, Mi.mi12, Mi.mi13, Mi.mi14, Mi.mi15, h, w]
theorem code_no {j x y : D} (h : F_check_code [j, x, y] = .exc "NotRight" []) : F_clock_met [j, x, y] = .exc "NotRight" [] ∧ F_clock_judged [j, x, y] = .exc "NotRight" [] := by
  unfold F_clock_met m_clock_met F_clock_judged m_clock_judged
  generalize F_check_code = q0 at *
  refine ⟨?_, ?_⟩
  · as_aux_lemma =>
      simp only [runA, seq_ap, Mi.mi0, Mi.mi1, Mi.mi2, Mi.mi3, Mi.mi4, Mi.mi5, Mi.mo0, Mi.mo1, Mi.mo2, Mi.mo3, Mi.mo8, Bool.false_eq_true, Mi.mo9, Nat.reduceAdd, Nat.reduceSub, Nat.reduceLeDiff, Nat.reduceLT, Nat.reduceEqDiff, Mi.mt0, List.getElem?_cons_zero, List.getElem?_cons_succ, List.set_cons_zero, List.set_cons_succ, List.map_cons, List.map_nil, List.length_cons, List.length_nil, List.nil_append, List.cons_append, List.append_nil, List.replicate_succ, List.replicate_zero, lim_v, reduceIte, decide_true, decide_false, Bool.not_true, Bool.not_false, Option.bind_some, Mi.lst_no, Mi.par2, Mi.par3, eq_self, and_self, Mi.mi6, Mi.mi7, Mi.mi8, Mi.mi9, Option.map_some, Mi.mi10, Mi.mi11, Mi.mi12, Mi.mi13, Mi.mi14, Mi.mi15, h]
  · as_aux_lemma =>
      simp only [runA, seq_ap, Mi.mi0, Mi.mi1, Mi.mi2, Mi.mi3, Mi.mi4, Mi.mi5, Mi.mo0, Mi.mo1, Mi.mo2, Mi.mo3, Mi.mo8, Bool.false_eq_true, Mi.mo9, Nat.reduceAdd, Nat.reduceSub, Nat.reduceLeDiff, Nat.reduceLT, Nat.reduceEqDiff, Mi.mt0, List.getElem?_cons_zero, List.getElem?_cons_succ, List.set_cons_zero, List.set_cons_succ, List.map_cons, List.map_nil, List.length_cons, List.length_nil, List.nil_append, List.cons_append, List.append_nil, List.replicate_succ, List.replicate_zero, lim_v, reduceIte, decide_true, decide_false, Bool.not_true, Bool.not_false, Option.bind_some, Mi.lst_no, Mi.par2, Mi.par3, eq_self, and_self, Mi.mi6, Mi.mi7, Mi.mi8, Mi.mi9, Option.map_some, Mi.mi10, Mi.mi11, Mi.mi12, Mi.mi13, Mi.mi14, Mi.mi15, h]
theorem judge_first {j x y : D} (h : F_check_judge [j] = .exc "NotRight" []) : F_due_count [j, x] = .exc "NotRight" [] ∧ F_looked_at [j, x] = .exc "NotRight" [] ∧ F_taken_at [j, x] = .exc "NotRight" [] ∧ F_clock_met [j, x, y] = .exc "NotRight" [] ∧ F_clock_judged [j, x, y] = .exc "NotRight" [] := by
  have h2 : F_check_code [j, x, y] = .exc "NotRight" [] := by
    unfold F_check_code m_check_code
    generalize F_check_judge = q0 at *
    as_aux_lemma =>
      simp only [runA, seq_ap, Mi.mi0, Mi.mi1, Mi.mi2, Mi.mi3, Mi.mi4, Mi.mi5, Mi.mo0, Mi.mo1, Mi.mo2, Mi.mo3, Mi.mo8, Bool.false_eq_true, Mi.mo9, Nat.reduceAdd, Nat.reduceSub, Nat.reduceLeDiff, Nat.reduceLT, Nat.reduceEqDiff, Mi.mt0, List.getElem?_cons_zero, List.getElem?_cons_succ, List.set_cons_zero, List.set_cons_succ, List.map_cons, List.map_nil, List.length_cons, List.length_nil, List.nil_append, List.cons_append, List.append_nil, List.replicate_succ, List.replicate_zero, lim_v, reduceIte, decide_true, decide_false, Bool.not_true, Bool.not_false, Option.bind_some, Mi.lst_no, Mi.par2, Mi.par3, eq_self, and_self, Mi.mi6, Mi.mi7, Mi.mi8, Mi.mi9, Option.map_some, Mi.mi10, Mi.mi11, Mi.mi12, Mi.mi13, Mi.mi14, Mi.mi15, h]
  refine ⟨?_, ?_, ?_, (code_no h2).1, (code_no h2).2⟩
  · unfold F_due_count m_due_count
    generalize F_check_judge = q0 at *
    as_aux_lemma =>
      simp only [runA, seq_ap, Mi.mi0, Mi.mi1, Mi.mi2, Mi.mi3, Mi.mi4, Mi.mi5, Mi.mo0, Mi.mo1, Mi.mo2, Mi.mo3, Mi.mo8, Bool.false_eq_true, Mi.mo9, Nat.reduceAdd, Nat.reduceSub, Nat.reduceLeDiff, Nat.reduceLT, Nat.reduceEqDiff, Mi.mt0, List.getElem?_cons_zero, List.getElem?_cons_succ, List.set_cons_zero, List.set_cons_succ, List.map_cons, List.map_nil, List.length_cons, List.length_nil, List.nil_append, List.cons_append, List.append_nil, List.replicate_succ, List.replicate_zero, lim_v, reduceIte, decide_true, decide_false, Bool.not_true, Bool.not_false, Option.bind_some, Mi.lst_no, Mi.par2, Mi.par3, eq_self, and_self, Mi.mi6, Mi.mi7, Mi.mi8, Mi.mi9, Option.map_some, Mi.mi10, Mi.mi11, Mi.mi12, Mi.mi13, Mi.mi14, Mi.mi15, h]
  · unfold F_looked_at m_looked_at
    generalize F_check_judge = q0 at *
    as_aux_lemma =>
      simp only [runA, seq_ap, Mi.mi0, Mi.mi1, Mi.mi2, Mi.mi3, Mi.mi4, Mi.mi5, Mi.mo0, Mi.mo1, Mi.mo2, Mi.mo3, Mi.mo8, Bool.false_eq_true, Mi.mo9, Nat.reduceAdd, Nat.reduceSub, Nat.reduceLeDiff, Nat.reduceLT, Nat.reduceEqDiff, Mi.mt0, List.getElem?_cons_zero, List.getElem?_cons_succ, List.set_cons_zero, List.set_cons_succ, List.map_cons, List.map_nil, List.length_cons, List.length_nil, List.nil_append, List.cons_append, List.append_nil, List.replicate_succ, List.replicate_zero, lim_v, reduceIte, decide_true, decide_false, Bool.not_true, Bool.not_false, Option.bind_some, Mi.lst_no, Mi.par2, Mi.par3, eq_self, and_self, Mi.mi6, Mi.mi7, Mi.mi8, Mi.mi9, Option.map_some, Mi.mi10, Mi.mi11, Mi.mi12, Mi.mi13, Mi.mi14, Mi.mi15, h]
  · unfold F_taken_at m_taken_at
    generalize F_check_judge = q0 at *
    as_aux_lemma =>
      simp only [runA, seq_ap, Mi.mi0, Mi.mi1, Mi.mi2, Mi.mi3, Mi.mi4, Mi.mi5, Mi.mo0, Mi.mo1, Mi.mo2, Mi.mo3, Mi.mo8, Bool.false_eq_true, Mi.mo9, Nat.reduceAdd, Nat.reduceSub, Nat.reduceLeDiff, Nat.reduceLT, Nat.reduceEqDiff, Mi.mt0, List.getElem?_cons_zero, List.getElem?_cons_succ, List.set_cons_zero, List.set_cons_succ, List.map_cons, List.map_nil, List.length_cons, List.length_nil, List.nil_append, List.cons_append, List.append_nil, List.replicate_succ, List.replicate_zero, lim_v, reduceIte, decide_true, decide_false, Bool.not_true, Bool.not_false, Option.bind_some, Mi.lst_no, Mi.par2, Mi.par3, eq_self, and_self, Mi.mi6, Mi.mi7, Mi.mi8, Mi.mi9, Option.map_some, Mi.mi10, Mi.mi11, Mi.mi12, Mi.mi13, Mi.mi14, Mi.mi15, h]
theorem time_first {j x : D} (h : F_check_judge [j] = .ok .non) (hx : F_is_count [x] = .ok (.bl false)) : F_due_count [j, x] = .exc "NotRight" [] ∧ F_looked_at [j, x] = .exc "NotRight" [] ∧ F_taken_at [j, x] = .exc "NotRight" [] := by
  have w := check_false
  refine ⟨?_, ?_, ?_⟩
  · unfold F_due_count m_due_count
    generalize F_check_judge = q0 at *
    generalize F_is_count = q1 at *
    generalize F_check = q2 at *
    as_aux_lemma =>
      simp only [runA, seq_ap, Mi.mi0, Mi.mi1, Mi.mi2, Mi.mi3, Mi.mi4, Mi.mi5, Mi.mo0, Mi.mo1, Mi.mo2, Mi.mo3, Mi.mo8, Bool.false_eq_true, Mi.mo9, Nat.reduceAdd, Nat.reduceSub, Nat.reduceLeDiff, Nat.reduceLT, Nat.reduceEqDiff, Mi.mt0, List.getElem?_cons_zero, List.getElem?_cons_succ, List.set_cons_zero, List.set_cons_succ, List.map_cons, List.map_nil, List.length_cons, List.length_nil, List.nil_append, List.cons_append, List.append_nil, List.replicate_succ, List.replicate_zero, lim_v, reduceIte, decide_true, decide_false, Bool.not_true, Bool.not_false, Option.bind_some, Mi.lst_no, Mi.par2, Mi.par3, eq_self, and_self, Mi.mi6, Mi.mi7, Mi.mi8, Mi.mi9, Option.map_some, Mi.mi10, Mi.mi11, Mi.mi12, Mi.mi13, Mi.mi14, Mi.mi15, h, hx, w]
  · unfold F_looked_at m_looked_at
    generalize F_check_judge = q0 at *
    generalize F_is_count = q1 at *
    generalize F_check = q2 at *
    as_aux_lemma =>
      simp only [runA, seq_ap, Mi.mi0, Mi.mi1, Mi.mi2, Mi.mi3, Mi.mi4, Mi.mi5, Mi.mo0, Mi.mo1, Mi.mo2, Mi.mo3, Mi.mo8, Bool.false_eq_true, Mi.mo9, Nat.reduceAdd, Nat.reduceSub, Nat.reduceLeDiff, Nat.reduceLT, Nat.reduceEqDiff, Mi.mt0, List.getElem?_cons_zero, List.getElem?_cons_succ, List.set_cons_zero, List.set_cons_succ, List.map_cons, List.map_nil, List.length_cons, List.length_nil, List.nil_append, List.cons_append, List.append_nil, List.replicate_succ, List.replicate_zero, lim_v, reduceIte, decide_true, decide_false, Bool.not_true, Bool.not_false, Option.bind_some, Mi.lst_no, Mi.par2, Mi.par3, eq_self, and_self, Mi.mi6, Mi.mi7, Mi.mi8, Mi.mi9, Option.map_some, Mi.mi10, Mi.mi11, Mi.mi12, Mi.mi13, Mi.mi14, Mi.mi15, h, hx, w]
  · unfold F_taken_at m_taken_at
    generalize F_check_judge = q0 at *
    generalize F_is_count = q1 at *
    generalize F_check = q2 at *
    as_aux_lemma =>
      simp only [runA, seq_ap, Mi.mi0, Mi.mi1, Mi.mi2, Mi.mi3, Mi.mi4, Mi.mi5, Mi.mo0, Mi.mo1, Mi.mo2, Mi.mo3, Mi.mo8, Bool.false_eq_true, Mi.mo9, Nat.reduceAdd, Nat.reduceSub, Nat.reduceLeDiff, Nat.reduceLT, Nat.reduceEqDiff, Mi.mt0, List.getElem?_cons_zero, List.getElem?_cons_succ, List.set_cons_zero, List.set_cons_succ, List.map_cons, List.map_nil, List.length_cons, List.length_nil, List.nil_append, List.cons_append, List.append_nil, List.replicate_succ, List.replicate_zero, lim_v, reduceIte, decide_true, decide_false, Bool.not_true, Bool.not_false, Option.bind_some, Mi.lst_no, Mi.par2, Mi.par3, eq_self, and_self, Mi.mi6, Mi.mi7, Mi.mi8, Mi.mi9, Option.map_some, Mi.mi10, Mi.mi11, Mi.mi12, Mi.mi13, Mi.mi14, Mi.mi15, h, hx, w]
section
variable {a b c d st sl t v : Nat} {dr la : Int}
theorem code_time (o : KyOk a b c d) (j : JOk st sl dr la) {y : D} (hy : F_is_count [y] = .ok (.bl false)) : F_check_code [jd (ky a b c d) st sl dr la, .str (cd d v), y] = .exc "NotRight" [] := by
  have h := check_judge_eq o j
  have f := are_figures_eq (v := v) o.d1
  have w0 := check_false
  have w1 := check_true
  have g0 : gIx (jd (ky a b c d) st sl dr la) (.int 0) = some (ky a b c d) := rfl
  have g3 : gIx (ky a b c d) (.int 3) = some (nI d) := rfl
  unfold F_check_code m_check_code
  generalize jd (ky a b c d) st sl dr la = J at *
  generalize ky a b c d = K at *
  generalize cd d v = s at *
  generalize nI d = dd at *
  generalize F_check_judge = q0 at *
  generalize F_are_figures = q1 at *
  generalize F_is_count = q2 at *
  generalize F_check = q3 at *
  as_aux_lemma =>
    simp only [runA, seq_ap, Mi.mi0, Mi.mi1, Mi.mi2, Mi.mi3, Mi.mi4, Mi.mi5, Mi.mo0, Mi.mo1, Mi.mo2, Mi.mo3, Mi.mo8, Bool.false_eq_true, Mi.mo9, Nat.reduceAdd, Nat.reduceSub, Nat.reduceLeDiff, Nat.reduceLT, Nat.reduceEqDiff, Mi.mt0, List.getElem?_cons_zero, List.getElem?_cons_succ, List.set_cons_zero, List.set_cons_succ, List.map_cons, List.map_nil, List.length_cons, List.length_nil, List.nil_append, List.cons_append, List.append_nil, List.replicate_succ, List.replicate_zero, lim_v, reduceIte, decide_true, decide_false, Bool.not_true, Bool.not_false, Option.bind_some, Mi.lst_no, Mi.par2, Mi.par3, eq_self, and_self, Mi.mi6, Mi.mi7, Mi.mi8, Mi.mi9, Option.map_some, Mi.mi10, Mi.mi11, Mi.mi12, Mi.mi13, Mi.mi14, Mi.mi15, h, f, w0, w1, g0, g3, hy]
theorem code_figs (o : KyOk a b c d) (j : JOk st sl dr la) {x y : D} (hx : F_are_figures [x, nI d] = .ok (.bl false)) : F_check_code [jd (ky a b c d) st sl dr la, x, y] = .exc "NotRight" [] := by
  have h := check_judge_eq o j
  have w0 := check_false
  have g0 : gIx (jd (ky a b c d) st sl dr la) (.int 0) = some (ky a b c d) := rfl
  have g3 : gIx (ky a b c d) (.int 3) = some (nI d) := rfl
  unfold F_check_code m_check_code
  generalize jd (ky a b c d) st sl dr la = J at *
  generalize ky a b c d = K at *
  generalize nI d = dd at *
  generalize F_check_judge = q0 at *
  generalize F_are_figures = q1 at *
  generalize F_is_count = q2 at *
  generalize F_check = q3 at *
  as_aux_lemma =>
    simp only [runA, seq_ap, Mi.mi0, Mi.mi1, Mi.mi2, Mi.mi3, Mi.mi4, Mi.mi5, Mi.mo0, Mi.mo1, Mi.mo2, Mi.mo3, Mi.mo8, Bool.false_eq_true, Mi.mo9, Nat.reduceAdd, Nat.reduceSub, Nat.reduceLeDiff, Nat.reduceLT, Nat.reduceEqDiff, Mi.mt0, List.getElem?_cons_zero, List.getElem?_cons_succ, List.set_cons_zero, List.set_cons_succ, List.map_cons, List.map_nil, List.length_cons, List.length_nil, List.nil_append, List.cons_append, List.append_nil, List.replicate_succ, List.replicate_zero, lim_v, reduceIte, decide_true, decide_false, Bool.not_true, Bool.not_false, Option.bind_some, Mi.lst_no, Mi.par2, Mi.par3, eq_self, and_self, Mi.mi6, Mi.mi7, Mi.mi8, Mi.mi9, Option.map_some, Mi.mi10, Mi.mi11, Mi.mi12, Mi.mi13, Mi.mi14, Mi.mi15, h, w0, g0, g3, hx]
end
theorem clock_no {k x y : D} (h : F_is_clock [k] = .ok (.bl false)) : F_clock_count [k, x, y] = .exc "NotRight" [] := by
  have w0 := check_false
  unfold F_clock_count m_clock_count
  generalize F_is_clock = q0 at *
  generalize F_check = q1 at *
  as_aux_lemma =>
    simp only [runA, seq_ap, Mi.mi0, Mi.mi1, Mi.mi2, Mi.mi3, Mi.mi4, Mi.mi5, Mi.mo0, Mi.mo1, Mi.mo2, Mi.mo3, Mi.mo8, Bool.false_eq_true, Mi.mo9, Nat.reduceAdd, Nat.reduceSub, Nat.reduceLeDiff, Nat.reduceLT, Nat.reduceEqDiff, Mi.mt0, List.getElem?_cons_zero, List.getElem?_cons_succ, List.set_cons_zero, List.set_cons_succ, List.map_cons, List.map_nil, List.length_cons, List.length_nil, List.nil_append, List.cons_append, List.append_nil, List.replicate_succ, List.replicate_zero, lim_v, reduceIte, decide_true, decide_false, Bool.not_true, Bool.not_false, Option.bind_some, Mi.lst_no, Mi.par2, Mi.par3, eq_self, and_self, Mi.mi6, Mi.mi7, Mi.mi8, Mi.mi9, Option.map_some, Mi.mi10, Mi.mi11, Mi.mi12, Mi.mi13, Mi.mi14, Mi.mi15, h, w0]
theorem clock_step {k x y : D} (h : F_is_clock [k] = .ok (.bl true)) (hx : F_is_within [x, .int 1, .int 600] = .ok (.bl false)) : F_clock_count [k, x, y] = .exc "NotRight" [] := by
  have w0 := check_false
  have w1 := check_true
  unfold F_clock_count m_clock_count
  generalize F_is_clock = q0 at *
  generalize F_check = q1 at *
  generalize F_is_within = q2 at *
  as_aux_lemma =>
    simp only [runA, seq_ap, Mi.mi0, Mi.mi1, Mi.mi2, Mi.mi3, Mi.mi4, Mi.mi5, Mi.mo0, Mi.mo1, Mi.mo2, Mi.mo3, Mi.mo8, Bool.false_eq_true, Mi.mo9, Nat.reduceAdd, Nat.reduceSub, Nat.reduceLeDiff, Nat.reduceLT, Nat.reduceEqDiff, Mi.mt0, List.getElem?_cons_zero, List.getElem?_cons_succ, List.set_cons_zero, List.set_cons_succ, List.map_cons, List.map_nil, List.length_cons, List.length_nil, List.nil_append, List.cons_append, List.append_nil, List.replicate_succ, List.replicate_zero, lim_v, reduceIte, decide_true, decide_false, Bool.not_true, Bool.not_false, Option.bind_some, Mi.lst_no, Mi.par2, Mi.par3, eq_self, and_self, Mi.mi6, Mi.mi7, Mi.mi8, Mi.mi9, Option.map_some, Mi.mi10, Mi.mi11, Mi.mi12, Mi.mi13, Mi.mi14, Mi.mi15, h, w0, w1, hx]
theorem clock_time {k x y : D} (h : F_is_clock [k] = .ok (.bl true)) (hx : F_is_within [x, .int 1, .int 600] = .ok (.bl true)) (hy : F_is_count [y] = .ok (.bl false)) : F_clock_count [k, x, y] = .exc "NotRight" [] := by
  have w0 := check_false
  have w1 := check_true
  unfold F_clock_count m_clock_count
  generalize F_is_clock = q0 at *
  generalize F_check = q1 at *
  generalize F_is_within = q2 at *
  generalize F_is_count = q3 at *
  as_aux_lemma =>
    simp only [runA, seq_ap, Mi.mi0, Mi.mi1, Mi.mi2, Mi.mi3, Mi.mi4, Mi.mi5, Mi.mo0, Mi.mo1, Mi.mo2, Mi.mo3, Mi.mo8, Bool.false_eq_true, Mi.mo9, Nat.reduceAdd, Nat.reduceSub, Nat.reduceLeDiff, Nat.reduceLT, Nat.reduceEqDiff, Mi.mt0, List.getElem?_cons_zero, List.getElem?_cons_succ, List.set_cons_zero, List.set_cons_succ, List.map_cons, List.map_nil, List.length_cons, List.length_nil, List.nil_append, List.cons_append, List.append_nil, List.replicate_succ, List.replicate_zero, lim_v, reduceIte, decide_true, decide_false, Bool.not_true, Bool.not_false, Option.bind_some, Mi.lst_no, Mi.par2, Mi.par3, eq_self, and_self, Mi.mi6, Mi.mi7, Mi.mi8, Mi.mi9, Option.map_some, Mi.mi10, Mi.mi11, Mi.mi12, Mi.mi13, Mi.mi14, Mi.mi15, h, w0, w1, hx, hy]
end Lw
namespace Lw
open Mi L2
section
variable {a b c d st sl t v : Nat} {dr la : Int}
theorem law_looked_eq (o : KyOk a b c d) (j : JOk st sl dr la) (ht : t ≤ 200000000000000000000) : F__law_looked [jd (ky a b c d) st sl dr la, nI t] = .ok (.lst ((lookL sl (due st t dr) la).map D.int)) := by
  have j0 := j.s0
  have j1 := j.s1
  have j2 := j.l1
  have d2 : divXOk (t : Int) (st : Int) = true := div_ok (by omega) (.inl ((bdn (n := st) (by omega)).mono (by omega)))
  have ed := fdiv_nat (t := t) (st := st)
  have eu : ((t / st : Nat) : Int) + dr = due st t dr := rfl
  have as1 : ∀ (s2 s3 s4 s5 s6 s7 s8 s9 s10 : Sl), gT 5 (gsC (gN 4) (gsC (gN 5) (gsC (gN 6) (gsC (gN 7) (gsC (gN 8) (gsN)))))) (jd (ky a b c d) st sl dr la) [.val (jd (ky a b c d) st sl dr la), .val (nI t), s2, s3, s4, s5, s6, s7, s8, s9, s10] = some [.val (jd (ky a b c d) st sl dr la), .val (nI t), s2, s3, .val (ky a b c d), .val (nI st), .val (nI sl), .val (.int dr), .val (.int la), s9, s10] := fun _ _ _ _ _ _ _ _ _ => rfl
  generalize due st t dr = u at *
  have tn : (u + (sl : Int) + 1 - (u - (sl : Int))).toNat = 2 * sl + 1 := by omega
  have hp : ((rngI (u - (sl : Int)) (2 * sl + 1)).filter fun n => decide (la < n) && decide (0 ≤ n)).Perm (lookL sl u la) := (near_perm u sl).filter _
  have hs : (lookL sl u la).Pairwise (lk2 u) := (near_sorted u sl).filter _
  have hl : ((rngI (u - (sl : Int)) (2 * sl + 1)).filter fun n => decide (la < n) && decide (0 ≤ n)).length ≤ 100 := by
    have h1 := List.length_filter_le (fun n => decide (la < n) && decide (0 ≤ n)) (rngI (u - (sl : Int)) (2 * sl + 1))
    have h2 : (rngI (u - (sl : Int)) (2 * sl + 1)).length = 2 * sl + 1 := by unfold rngI; rw [List.length_map, List.length_range]
    omega
  have so := sort_pairs (u := u) hp hs (by omega)
  have l2 : lcF [9] (gN 9) t__law_looked_0 f__law_looked_1 (rangeD (u - (sl : Int)) (2 * sl + 1)) [.val (jd (ky a b c d) st sl dr la), .val (nI t), .val (.int u), .un, .val (ky a b c d), .val (nI st), .val (nI sl), .val (.int dr), .val (.int la), .un, .un] =
      .ok (((rngI (u - (sl : Int)) (2 * sl + 1)).filter fun n => decide (la < n) && decide (0 ≤ n)).map (prD u), [.val (jd (ky a b c d) st sl dr la), .val (nI t), .val (.int u), .un, .val (ky a b c d), .val (nI st), .val (nI sl), .val (.int dr), .val (.int la), .un, .un]) := by
    rw [rngI_rangeD]
    refine lcF_list D.int _ (prD u) _ fun x hx => ⟨[.val (jd (ky a b c d) st sl dr la), .val (nI t), .val (.int u), .un, .val (ky a b c d), .val (nI st), .val (nI sl), .val (.int dr), .val (.int la), .val (.int x), .un], rfl, ?_, fun _ => ?_, rfl⟩
    · unfold t__law_looked_0
      generalize jd (ky a b c d) st sl dr la = J at *
      generalize ky a b c d = K at *
      by_cases h : la < x
      · have h := decide_eq_true h
        as_aux_lemma =>
          simp only [seq_ap, Mi.mi0, Mi.mi1, Mi.mi2, Mi.mi3, Mi.mi4, Mi.mi5, Mi.mo0, Mi.mo1, Mi.mo2, Mi.mo3, Mi.mo8, Bool.false_eq_true, Mi.mo9, Nat.reduceAdd, Nat.reduceSub, Nat.reduceLeDiff, Nat.reduceLT, Nat.reduceEqDiff, Mi.mt0, List.getElem?_cons_zero, List.getElem?_cons_succ, List.set_cons_zero, List.set_cons_succ, List.map_cons, List.map_nil, List.length_cons, List.length_nil, List.nil_append, List.cons_append, List.append_nil, List.replicate_succ, List.replicate_zero, lim_v, reduceIte, decide_true, decide_false, Bool.not_true, Bool.not_false, Option.bind_some, Mi.lst_no, Mi.par2, Mi.par3, eq_self, and_self, Mi.mi6, Mi.mi7, Mi.mi8, Mi.mi9, Option.map_some, Mi.mi10, Mi.mi11, Mi.mi12, Mi.mi13, Mi.mi14, Mi.mi15, h, Bool.true_and, gt_iff_lt, ge_iff_le]
      · have h := decide_eq_false h
        as_aux_lemma =>
          simp only [seq_ap, Mi.mi0, Mi.mi1, Mi.mi2, Mi.mi3, Mi.mi4, Mi.mi5, Mi.mo0, Mi.mo1, Mi.mo2, Mi.mo3, Mi.mo8, Bool.false_eq_true, Mi.mo9, Nat.reduceAdd, Nat.reduceSub, Nat.reduceLeDiff, Nat.reduceLT, Nat.reduceEqDiff, Mi.mt0, List.getElem?_cons_zero, List.getElem?_cons_succ, List.set_cons_zero, List.set_cons_succ, List.map_cons, List.map_nil, List.length_cons, List.length_nil, List.nil_append, List.cons_append, List.append_nil, List.replicate_succ, List.replicate_zero, lim_v, reduceIte, decide_true, decide_false, Bool.not_true, Bool.not_false, Option.bind_some, Mi.lst_no, Mi.par2, Mi.par3, eq_self, and_self, Mi.mi6, Mi.mi7, Mi.mi8, Mi.mi9, Option.map_some, Mi.mi10, Mi.mi11, Mi.mi12, Mi.mi13, Mi.mi14, Mi.mi15, h, Bool.false_and, gt_iff_lt, ge_iff_le]
    · unfold f__law_looked_1 prD kf
      generalize jd (ky a b c d) st sl dr la = J at *
      generalize ky a b c d = K at *
      as_aux_lemma =>
        simp only [seq_ap, Mi.mi0, Mi.mi1, Mi.mi2, Mi.mi3, Mi.mi4, Mi.mi5, Mi.mo0, Mi.mo1, Mi.mo2, Mi.mo3, Mi.mo8, Bool.false_eq_true, Mi.mo9, Nat.reduceAdd, Nat.reduceSub, Nat.reduceLeDiff, Nat.reduceLT, Nat.reduceEqDiff, Mi.mt0, List.getElem?_cons_zero, List.getElem?_cons_succ, List.set_cons_zero, List.set_cons_succ, List.map_cons, List.map_nil, List.length_cons, List.length_nil, List.nil_append, List.cons_append, List.append_nil, List.replicate_succ, List.replicate_zero, lim_v, reduceIte, decide_true, decide_false, Bool.not_true, Bool.not_false, Option.bind_some, Mi.lst_no, Mi.par2, Mi.par3, eq_self, and_self, Mi.mi6, Mi.mi7, Mi.mi8, Mi.mi9, Option.map_some, Mi.mi10, Mi.mi11, Mi.mi12, Mi.mi13, Mi.mi14, Mi.mi15]
  generalize hq : ((rngI (u - (sl : Int)) (2 * sl + 1)).filter fun n => decide (la < n) && decide (0 ≤ n)) = q at *
  have l4 : ∀ s3 : Sl, lcF [10, 9] (gT 2 (gsC (gN 10) (gsC (gN 9) (gsN)))) tYes1 f__law_looked_2 ((lookL sl u la).map (prD u)) [.val (jd (ky a b c d) st sl dr la), .val (nI t), .val (.int u), s3, .val (ky a b c d), .val (nI st), .val (nI sl), .val (.int dr), .val (.int la), .un, .un] =
      .ok ((lookL sl u la).map D.int, [.val (jd (ky a b c d) st sl dr la), .val (nI t), .val (.int u), s3, .val (ky a b c d), .val (nI st), .val (nI sl), .val (.int dr), .val (.int la), .un, .un]) := fun s3 => by
    refine lcF_all (prD u) D.int _ fun x hx => ⟨[.val (jd (ky a b c d) st sl dr la), .val (nI t), .val (.int u), s3, .val (ky a b c d), .val (nI st), .val (nI sl), .val (.int dr), .val (.int la), .val (.int x), .val (.int (kf u x))], rfl, rfl, rfl⟩
  have le2 : (q.map (prD u)).length ≤ 16777216 := by
    rw [List.length_map]
    omega
  have le3 : ((lookL sl u la).map D.int).length ≤ 16777216 := by
    rw [List.length_map]
    have := look_len sl u la
    omega
  have le4 : ((lookL sl u la).map (prD u)).length ≤ 16777216 := by
    rw [List.length_map]
    have := look_len sl u la
    omega
  generalize q.map (prD u) = z0 at *
  generalize (lookL sl u la).map (prD u) = z2 at *
  generalize (lookL sl u la).map D.int = z3 at *
  unfold F__law_looked m__law_looked
  generalize jd (ky a b c d) st sl dr la = J at *
  generalize ky a b c d = K at *
  generalize t__law_looked_0 = q0 at *
  generalize f__law_looked_1 = q1 at *
  generalize f__law_looked_2 = q2 at *
  as_aux_lemma =>
    simp only [runA, seq_ap, Mi.mi0, Mi.mi1, Mi.mi2, Mi.mi3, Mi.mi4, Mi.mi5, Mi.mo0, Mi.mo1, Mi.mo2, Mi.mo3, Mi.mo8, Bool.false_eq_true, Mi.mo9, Nat.reduceAdd, Nat.reduceSub, Nat.reduceLeDiff, Nat.reduceLT, Nat.reduceEqDiff, Mi.mt0, List.getElem?_cons_zero, List.getElem?_cons_succ, List.set_cons_zero, List.set_cons_succ, List.map_cons, List.map_nil, List.length_cons, List.length_nil, List.nil_append, List.cons_append, List.append_nil, List.replicate_succ, List.replicate_zero, lim_v, reduceIte, decide_true, decide_false, Bool.not_true, Bool.not_false, Option.bind_some, Mi.lst_no, Mi.par2, Mi.par3, eq_self, and_self, Mi.mi6, Mi.mi7, Mi.mi8, Mi.mi9, Option.map_some, Mi.mi10, Mi.mi11, Mi.mi12, Mi.mi13, Mi.mi14, Mi.mi15, as1, d2, ed, eu, tn, l2, le2, so, l4, le3, le4, nLc, wipeE, okW, resE, List.all_cons, List.all_nil, Bool.and_true, Option.getD_some, Option.getD_none, and_self]
end
/-! ### what is drawn -/
theorem law_key_ok (ms : List Int) : ∃ a b c d ms', KyOk a b c d ∧ F__law_key ms [] = .ok (ky a b c d, ms') := by
  obtain ⟨mo, m1, h1, i1⟩ := pick_int ms (xs := [3, 10, 1000003]) (by simp)
  have mo0 : 0 < mo ∧ mo ≤ 1000003 := by
    simp only [List.mem_cons, List.mem_nil_iff, or_false] at i1
    omega
  obtain ⟨a, m2, h2, a1⟩ := take_int m1 mo0.1
  obtain ⟨b, m3, h3, b1⟩ := take_int m2 mo0.1
  obtain ⟨c, m4, h4, c1⟩ := take_int m3 mo0.1
  obtain ⟨d', m5, h5, i5⟩ := pick_int m4 (xs := [1, 1, 2, 2, 3, 6]) (by simp)
  obtain ⟨d, rfl, d0⟩ : ∃ d : Nat, d' = (d : Int) ∧ 1 ≤ d ∧ d ≤ 6 := by
    simp only [List.mem_cons, List.mem_nil_iff, or_false] at i5
    exact ⟨d'.toNat, by omega, by omega, by omega⟩
  have io := intsOf_map
  have o : KyOk a b c d := by constructor <;> omega
  refine ⟨a, b, c, d, m5, o, ?_⟩
  simp only [List.map_cons, List.map_nil] at h1 h5
  unfold F__law_key m__law_key ky
  generalize F__law_take = q0 at *
  generalize F__law_pick = q1 at *
  as_aux_lemma =>
    simp only [runB, seq_ap, Mi.mi0, Mi.mi1, Mi.mi2, Mi.mi3, Mi.mi4, Mi.mi5, Mi.mo0, Mi.mo1, Mi.mo2, Mi.mo3, Mi.mo8, Bool.false_eq_true, Mi.mo9, Nat.reduceAdd, Nat.reduceSub, Nat.reduceLeDiff, Nat.reduceLT, Nat.reduceEqDiff, Mi.mt0, List.getElem?_cons_zero, List.getElem?_cons_succ, List.set_cons_zero, List.set_cons_succ, List.map_cons, List.map_nil, List.length_cons, List.length_nil, List.nil_append, List.cons_append, List.append_nil, List.replicate_succ, List.replicate_zero, lim_v, reduceIte, decide_true, decide_false, Bool.not_true, Bool.not_false, Option.bind_some, Mi.lst_no, Mi.par2, Mi.par3, eq_self, and_self, Mi.mi6, Mi.mi7, Mi.mi8, Mi.mi9, Option.map_some, Mi.mi10, Mi.mi11, Mi.mi12, Mi.mi13, Mi.mi14, Mi.mi15, eCallB, io, h1, h2, h3, h4, h5, Sl.turn]
theorem law_judge_ok {t : Nat} (ht : t ≤ 200000000000000000000) (ms : List Int) : ∃ a b c d st sl dr la ms', KyOk a b c d ∧ JOk st sl dr la ∧ sl ≤ 4 ∧ -900 ≤ dr ∧ dr ≤ 997 ∧ F__law_judge ms [nI t] = .ok (jd (ky a b c d) st sl dr la, ms') := by
  obtain ⟨q1, m1, h1, b1⟩ := take_int ms (b := 90) (by omega)
  obtain ⟨st', m2, h2, i2⟩ := pick_int m1 (xs := [1, 30, 1 + (q1 : Int)]) (by simp)
  obtain ⟨st, rfl, s0, s9⟩ : ∃ x : Nat, st' = (x : Int) ∧ 1 ≤ x ∧ x ≤ 90 := by
    simp only [List.mem_cons, List.mem_nil_iff, or_false] at i2
    exact ⟨st'.toNat, by omega, by omega, by omega⟩
  obtain ⟨sl, m3, h3, b3⟩ := take_int m2 (b := 5) (by omega)
  obtain ⟨q4, m4, h4, b4⟩ := take_int m3 (b := 997) (by omega)
  obtain ⟨dr, m5, h5, i5⟩ := pick_int m4 (xs := [0, 0, 3, -2, -900, (q4 : Int)]) (by simp)
  have db : -900 ≤ dr ∧ dr ≤ 997 := by
    simp only [List.mem_cons, List.mem_nil_iff, or_false] at i5
    omega
  obtain ⟨q6, m6, h6, b6⟩ := take_int m5 (b := 9) (by omega)
  obtain ⟨l', m7, h7, i7⟩ := pick_int m6 (xs := [-1, -1, ((t / st : Nat) : Int) + dr + (q6 : Int) - 4]) (by simp)
  obtain ⟨a, b, c, d, m8, o, h8⟩ := law_key_ok m7
  obtain ⟨la, hla⟩ : ∃ x : Int, (if l' > -1 then l' else -1) = x := ⟨_, rfl⟩
  have la0 : -1 ≤ la := by
    rw [← hla]
    split <;> omega
  have d2 : divXOk (t : Int) (st : Int) = true := div_ok (by omega) (.inl ((bdn (n := st) (by omega)).mono (by omega)))
  have ed := fdiv_nat (t := t) (st := st)
  have je : jd (ky a b c d) st sl dr la = .tup [ky a b c d, nI st, nI sl, .int dr, .int la] := rfl
  have io := intsOf_map
  refine ⟨a, b, c, d, st, sl, dr, la, m8, o, ⟨s0, by omega, by omega, by omega, by omega, la0⟩, by omega, db.1, db.2, ?_⟩
  simp only [List.map_cons, List.map_nil] at h2 h5 h7
  rw [je]
  generalize ky a b c d = K at *
  generalize ((t / st : Nat) : Int) = ts at *
  unfold F__law_judge m__law_judge
  generalize F__law_take = q0 at *
  generalize F__law_pick = q1 at *
  generalize F__law_key = q2 at *
  as_aux_lemma =>
    simp only [runB, seq_ap, Mi.mi0, Mi.mi1, Mi.mi2, Mi.mi3, Mi.mi4, Mi.mi5, Mi.mo0, Mi.mo1, Mi.mo2, Mi.mo3, Mi.mo8, Bool.false_eq_true, Mi.mo9, Nat.reduceAdd, Nat.reduceSub, Nat.reduceLeDiff, Nat.reduceLT, Nat.reduceEqDiff, Mi.mt0, List.getElem?_cons_zero, List.getElem?_cons_succ, List.set_cons_zero, List.set_cons_succ, List.map_cons, List.map_nil, List.length_cons, List.length_nil, List.nil_append, List.cons_append, List.append_nil, List.replicate_succ, List.replicate_zero, lim_v, reduceIte, decide_true, decide_false, Bool.not_true, Bool.not_false, Option.bind_some, Mi.lst_no, Mi.par2, Mi.par3, eq_self, and_self, Mi.mi6, Mi.mi7, Mi.mi8, Mi.mi9, Option.map_some, Mi.mi10, Mi.mi11, Mi.mi12, Mi.mi13, Mi.mi14, Mi.mi15, eCallB, io, h1, h2, h3, h4, h5, h6, h7, h8, d2, ed, hla, Sl.turn]
end Lw
namespace Lw
open Mi L2
theorem pl_lst {n : Nat} {xs : List D} (h : ∀ d ∈ xs, Pl n d) (l : xs.length ≤ 1000000) : Pl (n + 1) (.lst xs) := ⟨l, h⟩
theorem pl_tup {n : Nat} {xs : List D} (h : ∀ d ∈ xs, Pl n d) (l : xs.length ≤ 1000000) : Pl (n + 1) (.tup xs) := ⟨l, h⟩
theorem all2 {P : D → Prop} {x y : D} (h : P x) (k : P y) : ∀ d ∈ [x, y], P d := fun d hd => by
  simp only [List.mem_cons, List.mem_nil_iff, or_false] at hd
  rcases hd with rfl | rfl <;> assumption
theorem all3 {P : D → Prop} {x y z : D} (h : P x) (k : P y) (l : P z) : ∀ d ∈ [x, y, z], P d := fun d hd => by
  simp only [List.mem_cons, List.mem_nil_iff, or_false] at hd
  rcases hd with rfl | rfl | rfl <;> assumption
theorem pl_ky {n a b c d : Nat} : Pl (n + 1) (ky a b c d) := pl_tup (fun x hx => by
  simp only [List.mem_cons, List.mem_nil_iff, or_false] at hx
  rcases hx with rfl | rfl | rfl | rfl <;> exact pl_flat trivial) (by simp)
theorem pl_jd {n a b c d st sl : Nat} {dr la : Int} : Pl (n + 2) (jd (ky a b c d) st sl dr la) := pl_tup (fun x hx => by
  simp only [List.mem_cons, List.mem_nil_iff, or_false] at hx
  rcases hx with rfl | rfl | rfl | rfl | rfl
  · exact pl_ky
  all_goals exact pl_flat trivial) (by simp)
theorem flat_opt (m : Option Int) : flat (optD m) := by cases m <;> trivial
theorem pl_ints {n : Nat} {xs : List Int} (l : xs.length ≤ 1000000) : Pl (n + 1) (.lst (xs.map D.int)) := pl_lst (fun x hx => by
  obtain ⟨i, _, rfl⟩ := List.mem_map.1 hx
  exact pl_flat trivial) (by rw [List.length_map]; exact l)
theorem mx0 (x : Int) : (if x > 0 then x else 0) = max 0 x := by
  split <;> omega
theorem ne_nil_ints {x : Int} {r : List Int} : gNe (.lst (.int x :: r.map D.int)) (.lst []) = some (.bl true) := by
  have h := eq_nil_ints (x := x) (r := r)
  unfold gEq at h
  unfold gNe
  cases k : eqB (.lst (.int x :: r.map D.int)) (.lst []) with
  | none => rw [k] at h; cases h
  | some b =>
    rw [k] at h
    have h : some (D.bl b) = some (D.bl false) := h
    injection h with h
    injection h with h
    subst h
    rfl
section
variable {a b c d st sl t w : Nat} {dr la : Int}
theorem told3_lc {J T x0 x1 x2 : D} (h0 : F__law_told [.int 0, J, T, .int 0] = .ok x0) (h1 : F__law_told [.int 1, J, T, .int 0] = .ok x1) (h2 : F__law_told [.int 2, J, T, .int 0] = .ok x2) (s0 s1 s2 s3 s6 s7 s8 s9 s10 s11 s12 s13 s14 s15 s16 s17 s18 s19 s20 s21 s22 s23 s24 s26 : Sl) :
    lcF [25] (gN 25) tYes1 f_law_0 (rangeD 0 3) [s0, s1, s2, s3, .val T, .val J, s6, s7, s8, s9, s10, s11, s12, s13, s14, s15, s16, s17, s18, s19, s20, s21, s22, s23, s24, .un, s26] = .ok ([x0, x1, x2], [s0, s1, s2, s3, .val T, .val J, s6, s7, s8, s9, s10, s11, s12, s13, s14, s15, s16, s17, s18, s19, s20, s21, s22, s23, s24, .un, s26]) := by
  rw [show rangeD 0 3 = [.int 0, .int 1, .int 2] from rfl]
  have s : ∀ (k x : D), F__law_told [k, J, T, .int 0] = .ok x → f_law_0 [s0, s1, s2, s3, .val T, .val J, s6, s7, s8, s9, s10, s11, s12, s13, s14, s15, s16, s17, s18, s19, s20, s21, s22, s23, s24, .val k, s26] = .ok (x, [s0, s1, s2, s3, .val T, .val J, s6, s7, s8, s9, s10, s11, s12, s13, s14, s15, s16, s17, s18, s19, s20, s21, s22, s23, s24, .val k, s26]) := fun k x h => by
    unfold f_law_0
    generalize F__law_told = q0 at *
    as_aux_lemma =>
      simp only [seq_ap, Mi.mi0, Mi.mi1, Mi.mi2, Mi.mi3, Mi.mi4, Mi.mi5, Mi.mo0, Mi.mo1, Mi.mo2, Mi.mo3, Mi.mo8, Bool.false_eq_true, Mi.mo9, Nat.reduceAdd, Nat.reduceSub, Nat.reduceLeDiff, Nat.reduceLT, Nat.reduceEqDiff, Mi.mt0, List.getElem?_cons_zero, List.getElem?_cons_succ, List.set_cons_zero, List.set_cons_succ, List.map_cons, List.map_nil, List.length_cons, List.length_nil, List.nil_append, List.cons_append, List.append_nil, List.replicate_succ, List.replicate_zero, lim_v, reduceIte, decide_true, decide_false, Bool.not_true, Bool.not_false, Option.bind_some, Mi.lst_no, Mi.par2, Mi.par3, eq_self, and_self, Mi.mi6, Mi.mi7, Mi.mi8, Mi.mi9, Option.map_some, Mi.mi10, Mi.mi11, Mi.mi12, Mi.mi13, Mi.mi14, Mi.mi15, h]
  have q0' := s _ _ h0
  have q1' := s _ _ h1
  have q2' := s _ _ h2
  have gg : ∀ k : D, gN 25 k [s0, s1, s2, s3, .val T, .val J, s6, s7, s8, s9, s10, s11, s12, s13, s14, s15, s16, s17, s18, s19, s20, s21, s22, s23, s24, .un, s26] = some [s0, s1, s2, s3, .val T, .val J, s6, s7, s8, s9, s10, s11, s12, s13, s14, s15, s16, s17, s18, s19, s20, s21, s22, s23, s24, .val k, s26] := fun _ => rfl
  have ww : ∀ k : D, wipeE [s0, s1, s2, s3, .val T, .val J, s6, s7, s8, s9, s10, s11, s12, s13, s14, s15, s16, s17, s18, s19, s20, s21, s22, s23, s24, .val k, s26] [25] = [s0, s1, s2, s3, .val T, .val J, s6, s7, s8, s9, s10, s11, s12, s13, s14, s15, s16, s17, s18, s19, s20, s21, s22, s23, s24, .un, s26] := fun _ => rfl
  clear s h0 h1 h2
  generalize f_law_0 = ff at *
  as_aux_lemma =>
    simp only [lcF, gg, tYes1, q0', q1', q2', ww]
theorem codes_lc {u : Int} (o : KyOk a b c d) (hu : u + (sl : Int) ≤ 9000000000000000000000) (s0 s1 s2 s3 s4 s5 s6 s7 s8 s9 s10 s11 s12 s13 s14 s16 s17 s18 s19 s21 s22 s23 s24 s25 s26 : Sl) : lcF [20] (gN 20) tYes1 f_law_1 ((lookL sl u la).map D.int) [s0, s1, s2, s3, s4, s5, s6, s7, s8, s9, s10, s11, s12, s13, s14, .val (ky a b c d), s16, s17, s18, s19, .un, s21, s22, s23, s24, s25, s26] = .ok ((lookL sl u la).map (codeD a b c d), [s0, s1, s2, s3, s4, s5, s6, s7, s8, s9, s10, s11, s12, s13, s14, .val (ky a b c d), s16, s17, s18, s19, .un, s21, s22, s23, s24, s25, s26]) := by
  refine lcF_all D.int (codeD a b c d) _ fun n hn => ⟨[s0, s1, s2, s3, s4, s5, s6, s7, s8, s9, s10, s11, s12, s13, s14, .val (ky a b c d), s16, s17, s18, s19, .val (.int n), s21, s22, s23, s24, s25, s26], rfl, ?_, rfl⟩
  obtain ⟨⟨_, q1⟩, _, q2⟩ := look_mem.1 hn
  obtain ⟨m, rfl⟩ : ∃ m : Nat, n = (m : Int) := ⟨n.toNat, by omega⟩
  have k := law_code_eq (n := m) o (by omega)
  show _ = R.ok (D.str (cd d (vl a b c (Int.toNat (m : Int)))), _)
  rw [Int.toNat_natCast]
  unfold f_law_1
  generalize ky a b c d = kk at *
  generalize cd d (vl a b c m) = s' at *
  generalize F__law_code = q0 at *
  as_aux_lemma =>
    simp only [seq_ap, Mi.mi0, Mi.mi1, Mi.mi2, Mi.mi3, Mi.mi4, Mi.mi5, Mi.mo0, Mi.mo1, Mi.mo2, Mi.mo3, Mi.mo8, Bool.false_eq_true, Mi.mo9, Nat.reduceAdd, Nat.reduceSub, Nat.reduceLeDiff, Nat.reduceLT, Nat.reduceEqDiff, Mi.mt0, List.getElem?_cons_zero, List.getElem?_cons_succ, List.set_cons_zero, List.set_cons_succ, List.map_cons, List.map_nil, List.length_cons, List.length_nil, List.nil_append, List.cons_append, List.append_nil, List.replicate_succ, List.replicate_zero, lim_v, reduceIte, decide_true, decide_false, Bool.not_true, Bool.not_false, Option.bind_some, Mi.lst_no, Mi.par2, Mi.par3, eq_self, and_self, Mi.mi6, Mi.mi7, Mi.mi8, Mi.mi9, Option.map_some, Mi.mi10, Mi.mi11, Mi.mi12, Mi.mi13, Mi.mi14, Mi.mi15, k]
theorem fits_lc {u : Int} (o : KyOk a b c d) (hu : u + (sl : Int) ≤ 9000000000000000000000) (s0 s1 s2 s3 s4 s5 s6 s7 s8 s9 s10 s11 s12 s13 s14 s16 s17 s18 s19 s20 s22 s23 s24 s25 : Sl) : lcF [26] (gN 26) t_law_2 f_law_3 ((lookL sl u la).map D.int) [s0, s1, s2, s3, s4, s5, s6, s7, s8, s9, s10, s11, s12, s13, s14, .val (ky a b c d), s16, s17, s18, s19, s20, .val (.str (cd d w)), s22, s23, s24, s25, .un] = .ok ((fitL a b c d w sl u la).map D.int, [s0, s1, s2, s3, s4, s5, s6, s7, s8, s9, s10, s11, s12, s13, s14, .val (ky a b c d), s16, s17, s18, s19, s20, .val (.str (cd d w)), s22, s23, s24, s25, .un]) := by
  unfold fitL
  refine lcF_list D.int (fun n => decide (vl a b c n.toNat % 10 ^ d = w % 10 ^ d)) D.int (lookL sl u la) fun n hn => ⟨[s0, s1, s2, s3, s4, s5, s6, s7, s8, s9, s10, s11, s12, s13, s14, .val (ky a b c d), s16, s17, s18, s19, s20, .val (.str (cd d w)), s22, s23, s24, s25, .val (.int n)], rfl, ?_, fun _ => rfl, rfl⟩
  obtain ⟨⟨_, q1⟩, _, q2⟩ := look_mem.1 hn
  obtain ⟨m, rfl⟩ : ∃ m : Nat, n = (m : Int) := ⟨n.toNat, by omega⟩
  have k := law_code_eq (n := m) o (by omega)
  have e : gEq (.str (cd d (vl a b c m))) (.str (cd d w)) = some (.bl (decide (vl a b c m % 10 ^ d = w % 10 ^ d))) := by
    show some (D.bl (decide (cd d (vl a b c m) = cd d w))) = _
    rw [decide_eq_decide.2 (cd_inj d _ w)]
  rw [Int.toNat_natCast]
  unfold t_law_2
  generalize ky a b c d = kk at *
  generalize cd d w = s1' at *
  generalize cd d (vl a b c m) = s2' at *
  generalize F__law_code = q0 at *
  as_aux_lemma =>
    simp only [seq_ap, Mi.mi0, Mi.mi1, Mi.mi2, Mi.mi3, Mi.mi4, Mi.mi5, Mi.mo0, Mi.mo1, Mi.mo2, Mi.mo3, Mi.mo8, Bool.false_eq_true, Mi.mo9, Nat.reduceAdd, Nat.reduceSub, Nat.reduceLeDiff, Nat.reduceLT, Nat.reduceEqDiff, Mi.mt0, List.getElem?_cons_zero, List.getElem?_cons_succ, List.set_cons_zero, List.set_cons_succ, List.map_cons, List.map_nil, List.length_cons, List.length_nil, List.nil_append, List.cons_append, List.append_nil, List.replicate_succ, List.replicate_zero, lim_v, reduceIte, decide_true, decide_false, Bool.not_true, Bool.not_false, Option.bind_some, Mi.lst_no, Mi.par2, Mi.par3, eq_self, and_self, Mi.mi6, Mi.mi7, Mi.mi8, Mi.mi9, Option.map_some, Mi.mi10, Mi.mi11, Mi.mi12, Mi.mi13, Mi.mi14, Mi.mi15, k, e]
theorem inner_ok (o : KyOk a b c d) (j : JOk st sl dr la) (ht : t ≤ 200000000000000000000) (ms : List Int) (s0 s2 s3 s7 s8 s9 s10 s11 s12 s13 s14 s19 s20 s21 s22 s23 s24 s25 s26 : Sl) (n26 : nh s26) :
    ∃ (ms' : List Int) (n w : Nat) (y13 y22 : Sl), nh y13 ∧ nh y22 ∧ b_law_0 [s0, .own (ms.map D.int), s2, s3, .val (nI t), .val (jd (ky a b c d) st sl dr la), .val (.lst ((lookL sl (due st t dr) la).map D.int)), s7, s8, s9, s10, s11, s12, s13, s14, .val (ky a b c d), .val (nI st), .val (nI sl), .val (.int dr), s19, s20, s21, s22, s23, s24, s25, s26] =
      .ok (.nx [s0, .own (ms'.map D.int), s2, s3, .val (nI t), .val (jd (ky a b c d) st sl dr la), .val (.lst ((lookL sl (due st t dr) la).map D.int)), s7, s8, s9, s10, s11, s12, y13, s14, .val (ky a b c d), .val (nI st), .val (nI sl), .val (.int dr), s19, .val (nI n), .val (.str (cd d w)), y22, s23, s24, s25, s26]) := by
  have j0 := j.s0
  have j1 := j.s1
  have j2 := j.l1
  have j3 := j.d1
  have o4 := o.d0
  have o5 := o.d1
  have mu := mul_ok (x := 2) (y := (sl : Int)) (bdn (n := 2) (by omega)) (bdn (n := sl) (by omega)) (by omega)
  obtain ⟨r, m1, h1, b1⟩ := take_int ms (b := 2 * (sl : Int) + 5) (by omega)
  have d2 : divXOk (t : Int) (st : Int) = true := div_ok (by omega) (.inl ((bdn (n := st) (by omega)).mono (by omega)))
  have ed := fdiv_nat (t := t) (st := st)
  have eu : ((t / st : Nat) : Int) + dr = due st t dr := rfl
  have hu := due_le (st := st) j3 ht
  have w9 := fun w => told3_ok _ _ _ (clock_met_eq (w := w) o j ht)
  have w10 := fun w => told4_ok _ _ _ (clock_judged_eq (w := w) o j ht)
  obtain ⟨u, hu'⟩ : ∃ u, due st t dr = u := ⟨_, rfl⟩
  rw [hu'] at eu hu w9 w10
  rw [hu']
  have x0 := mx0 (u + (r : Int) - (sl : Int) - 2)
  obtain ⟨n, hn⟩ : ∃ n : Nat, max 0 (u + (r : Int) - (sl : Int) - 2) = (n : Int) := ⟨(max 0 (u + (r : Int) - (sl : Int) - 2)).toNat, by omega⟩
  rw [hn] at x0
  have c1 := law_code_eq (n := n) o (by omega)
  have z0 := mul_zero o4 o5
  have g3 : gIx (ky a b c d) (.int 3) = some (nI d) := rfl
  obtain ⟨cdd, m2, h2, i2⟩ := pick_ok m1 (ds := [.str (cd d (vl a b c n)), .str (cd d (vl a b c n)), .str (cd d 0)]) (by simp)
  obtain ⟨w, rfl⟩ : ∃ w, cdd = D.str (cd d w) := by
    simp only [List.mem_cons, List.mem_nil_iff, or_false] at i2
    rcases i2 with h | h | h <;> exact ⟨_, h⟩
  have lc := @fits_lc a b c d sl w la u o (by omega)
  replace w9 := w9 w
  replace w10 := w10 w
  have le : ((fitL a b c d w sl u la).map D.int).length ≤ 16777216 := by
    rw [List.length_map]
    have h1 : (fitL a b c d w sl u la).length ≤ (lookL sl u la).length := List.length_filter_le _ _
    have := look_len sl u la
    omega
  have ok26 : ∀ e : En, e[26]? = some s26 → okW e [26] = true := fun e h => okW_one h n26
  obtain ⟨L, hL⟩ : ∃ L, fitL a b c d w sl u la = L := ⟨_, rfl⟩
  rw [hL] at w9 w10 lc le
  have sm1 : ∀ r : Bool × Int × Int, F__law_same 6 [.lst [optD L.head?, .tup [.bl r.1, jd (ky a b c d) st sl r.2.1 r.2.2]], .lst [optD L.head?, .tup [.bl r.1, jd (ky a b c d) st sl r.2.1 r.2.2]]] = .ok (.bl true) := fun r =>
    same_self 5 _ (pl_lst (all2 (pl_flat (flat_opt _)) (pl_tup (all2 (pl_flat trivial) pl_jd) (by simp))) (by simp))
  replace sm1 := sm1 (after st t dr la L.head?)
  have io := intsOf_map
  have af0 : after st t dr la none = (false, dr, la) := rfl
  have af1 : ∀ x : Int, after st t dr la (some x) = (true, x - ((t / st : Nat) : Int), x) := fun _ => rfl
  have jde : jd (ky a b c d) st sl dr la = .tup [ky a b c d, nI st, nI sl, .int dr, .int la] := rfl
  refine ⟨m2, n, w, .val (.lst [optD L.head?, .tup [.bl (after st t dr la L.head?).1, jd (ky a b c d) st sl (after st t dr la L.head?).2.1 (after st t dr la L.head?).2.2]]), .val (.lst (L.map D.int)), trivial, trivial, ?_⟩
  suffices h : Go b_law_0 [s0, .own (ms.map D.int), s2, s3, .val (nI t), .val (jd (ky a b c d) st sl dr la), .val (.lst ((lookL sl u la).map D.int)), s7, s8, s9, s10, s11, s12, s13, s14, .val (ky a b c d), .val (nI st), .val (nI sl), .val (.int dr), s19, s20, s21, s22, s23, s24, s25, s26] fun e' => e' = [s0, .own (m2.map D.int), s2, s3, .val (nI t), .val (jd (ky a b c d) st sl dr la), .val (.lst ((lookL sl u la).map D.int)), s7, s8, s9, s10, s11, s12, .val (.lst [optD L.head?, .tup [.bl (after st t dr la L.head?).1, jd (ky a b c d) st sl (after st t dr la L.head?).2.1 (after st t dr la L.head?).2.2]]), s14, .val (ky a b c d), .val (nI st), .val (nI sl), .val (.int dr), s19, .val (nI n), .val (.str (cd d w)), .val (.lst (L.map D.int)), s23, s24, s25, s26] by
    obtain ⟨e', h1, rfl⟩ := h
    exact h1
  unfold b_law_0
  generalize F__law_take = q0 at *
  generalize F__law_pick = q1 at *
  generalize F__law_code = q2 at *
  generalize F__law_told = q3 at *
  generalize t_law_2 = q4 at *
  generalize f_law_3 = q5 at *
  generalize F__law_same 6 = qs at *
  generalize gMulS = gm at *
  generalize (lookL sl u la).map D.int = Z at *
  generalize hJ : jd (ky a b c d) st sl dr la = J at *
  cases hL2 : L with
  | nil =>
    subst hL2
    rw [show ([] : List Int).head? = none from rfl] at w9 w10 sm1 ⊢
    rw [af0] at w10 sm1 ⊢
    dsimp only at w10 sm1 ⊢
    rw [hJ] at w10 sm1 ⊢
    rw [show optD none = D.non from rfl] at w9 sm1 ⊢
    rw [List.map_nil] at lc le ⊢
    have nn : gNe (.lst []) (.lst []) = some (.bl false) := rfl
    generalize ky a b c d = K at *
    generalize cd d w = s' at *
    refine Go.seq (Go.of (e' := [s0, .own (m1.map D.int), s2, s3, .val (nI t), .val J, .val (.lst Z), s7, s8, s9, s10, s11, s12, s13, s14, .val K, .val (nI st), .val (nI sl), .val (.int dr), s19, .val (nI n), s21, s22, s23, s24, s25, s26]) ?_ ?_)
    · as_aux_lemma =>
        simp only [seq_ap, Mi.mi0, Mi.mi1, Mi.mi2, Mi.mi3, Mi.mi4, Mi.mi5, Mi.mo0, Mi.mo1, Mi.mo2, Mi.mo3, Mi.mo8, Bool.false_eq_true, Mi.mo9, Nat.reduceAdd, Nat.reduceSub, Nat.reduceLeDiff, Nat.reduceLT, Nat.reduceEqDiff, Mi.mt0, List.getElem?_cons_zero, List.getElem?_cons_succ, List.set_cons_zero, List.set_cons_succ, List.map_cons, List.map_nil, List.length_cons, List.length_nil, List.nil_append, List.cons_append, List.append_nil, List.replicate_succ, List.replicate_zero, lim_v, reduceIte, decide_true, decide_false, Bool.not_true, Bool.not_false, Option.bind_some, Mi.lst_no, Mi.par2, Mi.par3, eq_self, and_self, Mi.mi6, Mi.mi7, Mi.mi8, Mi.mi9, Option.map_some, Mi.mi10, Mi.mi11, Mi.mi12, Mi.mi13, Mi.mi14, Mi.mi15, eCallB, io, d2, ed, eu, mu, h1, Sl.turn, x0]
    refine Go.seq (Go.of (e' := [s0, .own (m2.map D.int), s2, s3, .val (nI t), .val J, .val (.lst Z), s7, s8, s9, s10, s11, s12, s13, s14, .val K, .val (nI st), .val (nI sl), .val (.int dr), s19, .val (nI n), .val (.str s'), s22, s23, s24, s25, s26]) ?_ ?_)
    · as_aux_lemma =>
        simp only [seq_ap, Mi.mi0, Mi.mi1, Mi.mi2, Mi.mi3, Mi.mi4, Mi.mi5, Mi.mo0, Mi.mo1, Mi.mo2, Mi.mo3, Mi.mo8, Bool.false_eq_true, Mi.mo9, Nat.reduceAdd, Nat.reduceSub, Nat.reduceLeDiff, Nat.reduceLT, Nat.reduceEqDiff, Mi.mt0, List.getElem?_cons_zero, List.getElem?_cons_succ, List.set_cons_zero, List.set_cons_succ, List.map_cons, List.map_nil, List.length_cons, List.length_nil, List.nil_append, List.cons_append, List.append_nil, List.replicate_succ, List.replicate_zero, lim_v, reduceIte, decide_true, decide_false, Bool.not_true, Bool.not_false, Option.bind_some, Mi.lst_no, Mi.par2, Mi.par3, eq_self, and_self, Mi.mi6, Mi.mi7, Mi.mi8, Mi.mi9, Option.map_some, Mi.mi10, Mi.mi11, Mi.mi12, Mi.mi13, Mi.mi14, Mi.mi15, eCallB, io, c1, g3, z0, h2, Sl.turn]
    refine Go.seq (Go.of (e' := [s0, .own (m2.map D.int), s2, s3, .val (nI t), .val J, .val (.lst Z), s7, s8, s9, s10, s11, s12, s13, s14, .val K, .val (nI st), .val (nI sl), .val (.int dr), s19, .val (nI n), .val (.str s'), .val (.lst []), s23, s24, s25, s26]) ?_ ?_)
    · as_aux_lemma =>
        simp only [seq_ap, Mi.mi0, Mi.mi1, Mi.mi2, Mi.mi3, Mi.mi4, Mi.mi5, Mi.mo0, Mi.mo1, Mi.mo2, Mi.mo3, Mi.mo8, Bool.false_eq_true, Mi.mo9, Nat.reduceAdd, Nat.reduceSub, Nat.reduceLeDiff, Nat.reduceLT, Nat.reduceEqDiff, Mi.mt0, List.getElem?_cons_zero, List.getElem?_cons_succ, List.set_cons_zero, List.set_cons_succ, List.map_cons, List.map_nil, List.length_cons, List.length_nil, List.nil_append, List.cons_append, List.append_nil, List.replicate_succ, List.replicate_zero, lim_v, reduceIte, decide_true, decide_false, Bool.not_true, Bool.not_false, Option.bind_some, Mi.lst_no, Mi.par2, Mi.par3, eq_self, and_self, Mi.mi6, Mi.mi7, Mi.mi8, Mi.mi9, Option.map_some, Mi.mi10, Mi.mi11, Mi.mi12, Mi.mi13, Mi.mi14, Mi.mi15, nLc, wipeE, resE, lc, le, ok26, Option.getD_some, and_self]
    refine Go.seq (Go.of (e' := [s0, .own (m2.map D.int), s2, s3, .val (nI t), .val J, .val (.lst Z), s7, s8, s9, s10, s11, s12, .val (.lst [.non, .tup [.bl false, J]]), s14, .val K, .val (nI st), .val (nI sl), .val (.int dr), s19, .val (nI n), .val (.str s'), .val (.lst []), s23, s24, s25, s26]) ?_ ?_)
    · as_aux_lemma =>
        simp only [seq_ap, Mi.mi0, Mi.mi1, Mi.mi2, Mi.mi3, Mi.mi4, Mi.mi5, Mi.mo0, Mi.mo1, Mi.mo2, Mi.mo3, Mi.mo8, Bool.false_eq_true, Mi.mo9, Nat.reduceAdd, Nat.reduceSub, Nat.reduceLeDiff, Nat.reduceLT, Nat.reduceEqDiff, Mi.mt0, List.getElem?_cons_zero, List.getElem?_cons_succ, List.set_cons_zero, List.set_cons_succ, List.map_cons, List.map_nil, List.length_cons, List.length_nil, List.nil_append, List.cons_append, List.append_nil, List.replicate_succ, List.replicate_zero, lim_v, reduceIte, decide_true, decide_false, Bool.not_true, Bool.not_false, Option.bind_some, Mi.lst_no, Mi.par2, Mi.par3, eq_self, and_self, Mi.mi6, Mi.mi7, Mi.mi8, Mi.mi9, Option.map_some, Mi.mi10, Mi.mi11, Mi.mi12, Mi.mi13, Mi.mi14, Mi.mi15]
    refine Go.seq (Go.of (e' := [s0, .own (m2.map D.int), s2, s3, .val (nI t), .val J, .val (.lst Z), s7, s8, s9, s10, s11, s12, .val (.lst [.non, .tup [.bl false, J]]), s14, .val K, .val (nI st), .val (nI sl), .val (.int dr), s19, .val (nI n), .val (.str s'), .val (.lst []), s23, s24, s25, s26]) ?_ ?_)
    · as_aux_lemma =>
        simp only [seq_ap, Mi.mi0, Mi.mi1, Mi.mi2, Mi.mi3, Mi.mi4, Mi.mi5, Mi.mo0, Mi.mo1, Mi.mo2, Mi.mo3, Mi.mo8, Bool.false_eq_true, Mi.mo9, Nat.reduceAdd, Nat.reduceSub, Nat.reduceLeDiff, Nat.reduceLT, Nat.reduceEqDiff, Mi.mt0, List.getElem?_cons_zero, List.getElem?_cons_succ, List.set_cons_zero, List.set_cons_succ, List.map_cons, List.map_nil, List.length_cons, List.length_nil, List.nil_append, List.cons_append, List.append_nil, List.replicate_succ, List.replicate_zero, lim_v, reduceIte, decide_true, decide_false, Bool.not_true, Bool.not_false, Option.bind_some, Mi.lst_no, Mi.par2, Mi.par3, eq_self, and_self, Mi.mi6, Mi.mi7, Mi.mi8, Mi.mi9, Option.map_some, Mi.mi10, Mi.mi11, Mi.mi12, Mi.mi13, Mi.mi14, Mi.mi15, nn]
    refine (Go.ifF (e1 := [s0, .own (m2.map D.int), s2, s3, .val (nI t), .val J, .val (.lst Z), s7, s8, s9, s10, s11, s12, .val (.lst [.non, .tup [.bl false, J]]), s14, .val K, .val (nI st), .val (nI sl), .val (.int dr), s19, .val (nI n), .val (.str s'), .val (.lst []), s23, s24, s25, s26]) ?_ (Go.nx ?_))
    · as_aux_lemma =>
        simp only [seq_ap, Mi.mi0, Mi.mi1, Mi.mi2, Mi.mi3, Mi.mi4, Mi.mi5, Mi.mo0, Mi.mo1, Mi.mo2, Mi.mo3, Mi.mo8, Bool.false_eq_true, Mi.mo9, Nat.reduceAdd, Nat.reduceSub, Nat.reduceLeDiff, Nat.reduceLT, Nat.reduceEqDiff, Mi.mt0, List.getElem?_cons_zero, List.getElem?_cons_succ, List.set_cons_zero, List.set_cons_succ, List.map_cons, List.map_nil, List.length_cons, List.length_nil, List.nil_append, List.cons_append, List.append_nil, List.replicate_succ, List.replicate_zero, lim_v, reduceIte, decide_true, decide_false, Bool.not_true, Bool.not_false, Option.bind_some, Mi.lst_no, Mi.par2, Mi.par3, eq_self, and_self, Mi.mi6, Mi.mi7, Mi.mi8, Mi.mi9, Option.map_some, Mi.mi10, Mi.mi11, Mi.mi12, Mi.mi13, Mi.mi14, Mi.mi15, w9, w10, sm1]
    exact rfl
  | cons x r =>
    subst hL2
    rw [show (x :: r).head? = some x from rfl] at w9 w10 sm1 ⊢
    rw [af1] at w10 sm1 ⊢
    dsimp only at w10 sm1 ⊢
    rw [show optD (some x) = D.int x from rfl] at w9 sm1 ⊢
    have nn := ne_nil_ints (x := x) (r := r)
    have gx : gIx (.lst (D.int x :: r.map D.int)) (.int 0) = some (D.int x) := by
      show L2.atI (D.int x :: r.map D.int) 0 = some (D.int x)
      exact Mi.mo9.1 _ _
    rw [List.map_cons] at lc le ⊢
    have jd2 : jd (ky a b c d) st sl (x - ((t / st : Nat) : Int)) x = .tup [ky a b c d, nI st, nI sl, .int (x - ((t / st : Nat) : Int)), .int x] := rfl
    generalize hJ2 : jd (ky a b c d) st sl (x - ((t / st : Nat) : Int)) x = J2 at *
    generalize ky a b c d = K at *
    generalize cd d w = s' at *
    generalize D.int x :: r.map D.int = Y at *
    refine Go.seq (Go.of (e' := [s0, .own (m1.map D.int), s2, s3, .val (nI t), .val J, .val (.lst Z), s7, s8, s9, s10, s11, s12, s13, s14, .val K, .val (nI st), .val (nI sl), .val (.int dr), s19, .val (nI n), s21, s22, s23, s24, s25, s26]) ?_ ?_)
    · as_aux_lemma =>
        simp only [seq_ap, Mi.mi0, Mi.mi1, Mi.mi2, Mi.mi3, Mi.mi4, Mi.mi5, Mi.mo0, Mi.mo1, Mi.mo2, Mi.mo3, Mi.mo8, Bool.false_eq_true, Mi.mo9, Nat.reduceAdd, Nat.reduceSub, Nat.reduceLeDiff, Nat.reduceLT, Nat.reduceEqDiff, Mi.mt0, List.getElem?_cons_zero, List.getElem?_cons_succ, List.set_cons_zero, List.set_cons_succ, List.map_cons, List.map_nil, List.length_cons, List.length_nil, List.nil_append, List.cons_append, List.append_nil, List.replicate_succ, List.replicate_zero, lim_v, reduceIte, decide_true, decide_false, Bool.not_true, Bool.not_false, Option.bind_some, Mi.lst_no, Mi.par2, Mi.par3, eq_self, and_self, Mi.mi6, Mi.mi7, Mi.mi8, Mi.mi9, Option.map_some, Mi.mi10, Mi.mi11, Mi.mi12, Mi.mi13, Mi.mi14, Mi.mi15, eCallB, io, d2, ed, eu, mu, h1, Sl.turn, x0]
    refine Go.seq (Go.of (e' := [s0, .own (m2.map D.int), s2, s3, .val (nI t), .val J, .val (.lst Z), s7, s8, s9, s10, s11, s12, s13, s14, .val K, .val (nI st), .val (nI sl), .val (.int dr), s19, .val (nI n), .val (.str s'), s22, s23, s24, s25, s26]) ?_ ?_)
    · as_aux_lemma =>
        simp only [seq_ap, Mi.mi0, Mi.mi1, Mi.mi2, Mi.mi3, Mi.mi4, Mi.mi5, Mi.mo0, Mi.mo1, Mi.mo2, Mi.mo3, Mi.mo8, Bool.false_eq_true, Mi.mo9, Nat.reduceAdd, Nat.reduceSub, Nat.reduceLeDiff, Nat.reduceLT, Nat.reduceEqDiff, Mi.mt0, List.getElem?_cons_zero, List.getElem?_cons_succ, List.set_cons_zero, List.set_cons_succ, List.map_cons, List.map_nil, List.length_cons, List.length_nil, List.nil_append, List.cons_append, List.append_nil, List.replicate_succ, List.replicate_zero, lim_v, reduceIte, decide_true, decide_false, Bool.not_true, Bool.not_false, Option.bind_some, Mi.lst_no, Mi.par2, Mi.par3, eq_self, and_self, Mi.mi6, Mi.mi7, Mi.mi8, Mi.mi9, Option.map_some, Mi.mi10, Mi.mi11, Mi.mi12, Mi.mi13, Mi.mi14, Mi.mi15, eCallB, io, c1, g3, z0, h2, Sl.turn]
    refine Go.seq (Go.of (e' := [s0, .own (m2.map D.int), s2, s3, .val (nI t), .val J, .val (.lst Z), s7, s8, s9, s10, s11, s12, s13, s14, .val K, .val (nI st), .val (nI sl), .val (.int dr), s19, .val (nI n), .val (.str s'), .val (.lst Y), s23, s24, s25, s26]) ?_ ?_)
    · as_aux_lemma =>
        simp only [seq_ap, Mi.mi0, Mi.mi1, Mi.mi2, Mi.mi3, Mi.mi4, Mi.mi5, Mi.mo0, Mi.mo1, Mi.mo2, Mi.mo3, Mi.mo8, Bool.false_eq_true, Mi.mo9, Nat.reduceAdd, Nat.reduceSub, Nat.reduceLeDiff, Nat.reduceLT, Nat.reduceEqDiff, Mi.mt0, List.getElem?_cons_zero, List.getElem?_cons_succ, List.set_cons_zero, List.set_cons_succ, List.map_cons, List.map_nil, List.length_cons, List.length_nil, List.nil_append, List.cons_append, List.append_nil, List.replicate_succ, List.replicate_zero, lim_v, reduceIte, decide_true, decide_false, Bool.not_true, Bool.not_false, Option.bind_some, Mi.lst_no, Mi.par2, Mi.par3, eq_self, and_self, Mi.mi6, Mi.mi7, Mi.mi8, Mi.mi9, Option.map_some, Mi.mi10, Mi.mi11, Mi.mi12, Mi.mi13, Mi.mi14, Mi.mi15, nLc, wipeE, resE, lc, le, ok26, Option.getD_some, and_self]
    refine Go.seq (Go.of (e' := [s0, .own (m2.map D.int), s2, s3, .val (nI t), .val J, .val (.lst Z), s7, s8, s9, s10, s11, s12, .val (.lst [.non, .tup [.bl false, J]]), s14, .val K, .val (nI st), .val (nI sl), .val (.int dr), s19, .val (nI n), .val (.str s'), .val (.lst Y), s23, s24, s25, s26]) ?_ ?_)
    · as_aux_lemma =>
        simp only [seq_ap, Mi.mi0, Mi.mi1, Mi.mi2, Mi.mi3, Mi.mi4, Mi.mi5, Mi.mo0, Mi.mo1, Mi.mo2, Mi.mo3, Mi.mo8, Bool.false_eq_true, Mi.mo9, Nat.reduceAdd, Nat.reduceSub, Nat.reduceLeDiff, Nat.reduceLT, Nat.reduceEqDiff, Mi.mt0, List.getElem?_cons_zero, List.getElem?_cons_succ, List.set_cons_zero, List.set_cons_succ, List.map_cons, List.map_nil, List.length_cons, List.length_nil, List.nil_append, List.cons_append, List.append_nil, List.replicate_succ, List.replicate_zero, lim_v, reduceIte, decide_true, decide_false, Bool.not_true, Bool.not_false, Option.bind_some, Mi.lst_no, Mi.par2, Mi.par3, eq_self, and_self, Mi.mi6, Mi.mi7, Mi.mi8, Mi.mi9, Option.map_some, Mi.mi10, Mi.mi11, Mi.mi12, Mi.mi13, Mi.mi14, Mi.mi15]
    refine Go.seq (Go.of (e' := [s0, .own (m2.map D.int), s2, s3, .val (nI t), .val J, .val (.lst Z), s7, s8, s9, s10, s11, s12, .val (.lst [.int x, .tup [.bl true, J2]]), s14, .val K, .val (nI st), .val (nI sl), .val (.int dr), s19, .val (nI n), .val (.str s'), .val (.lst Y), s23, s24, s25, s26]) ?_ ?_)
    · as_aux_lemma =>
        simp only [seq_ap, Mi.mi0, Mi.mi1, Mi.mi2, Mi.mi3, Mi.mi4, Mi.mi5, Mi.mo0, Mi.mo1, Mi.mo2, Mi.mo3, Mi.mo8, Bool.false_eq_true, Mi.mo9, Nat.reduceAdd, Nat.reduceSub, Nat.reduceLeDiff, Nat.reduceLT, Nat.reduceEqDiff, Mi.mt0, List.getElem?_cons_zero, List.getElem?_cons_succ, List.set_cons_zero, List.set_cons_succ, List.map_cons, List.map_nil, List.length_cons, List.length_nil, List.nil_append, List.cons_append, List.append_nil, List.replicate_succ, List.replicate_zero, lim_v, reduceIte, decide_true, decide_false, Bool.not_true, Bool.not_false, Option.bind_some, Mi.lst_no, Mi.par2, Mi.par3, eq_self, and_self, Mi.mi6, Mi.mi7, Mi.mi8, Mi.mi9, Option.map_some, Mi.mi10, Mi.mi11, Mi.mi12, Mi.mi13, Mi.mi14, Mi.mi15, nn, gx, d2, ed, ← jd2]
    refine (Go.ifF (e1 := [s0, .own (m2.map D.int), s2, s3, .val (nI t), .val J, .val (.lst Z), s7, s8, s9, s10, s11, s12, .val (.lst [.int x, .tup [.bl true, J2]]), s14, .val K, .val (nI st), .val (nI sl), .val (.int dr), s19, .val (nI n), .val (.str s'), .val (.lst Y), s23, s24, s25, s26]) ?_ (Go.nx ?_))
    · as_aux_lemma =>
        simp only [seq_ap, Mi.mi0, Mi.mi1, Mi.mi2, Mi.mi3, Mi.mi4, Mi.mi5, Mi.mo0, Mi.mo1, Mi.mo2, Mi.mo3, Mi.mo8, Bool.false_eq_true, Mi.mo9, Nat.reduceAdd, Nat.reduceSub, Nat.reduceLeDiff, Nat.reduceLT, Nat.reduceEqDiff, Mi.mt0, List.getElem?_cons_zero, List.getElem?_cons_succ, List.set_cons_zero, List.set_cons_succ, List.map_cons, List.map_nil, List.length_cons, List.length_nil, List.nil_append, List.cons_append, List.append_nil, List.replicate_succ, List.replicate_zero, lim_v, reduceIte, decide_true, decide_false, Bool.not_true, Bool.not_false, Option.bind_some, Mi.lst_no, Mi.par2, Mi.par3, eq_self, and_self, Mi.mi6, Mi.mi7, Mi.mi8, Mi.mi9, Option.map_some, Mi.mi10, Mi.mi11, Mi.mi12, Mi.mi13, Mi.mi14, Mi.mi15, w9, w10, sm1]
    exact rfl
end
end Lw
set_option maxHeartbeats 8000000
namespace Lw
open Mi L2
theorem flatAll_of {a : Sl} {ms : List Int} {tl : List Sl} (ha : nh a) (h : ∀ s ∈ tl, nh s) : FlatAll (a :: .own (ms.map D.int) :: tl) := by
  intro j ds hd
  match j, hd with
  | 0, hd =>
    rcases hd with hd | hd <;> (cases hd; exact ha.elim)
  | 1, hd =>
    rcases hd with hd | hd
    · cases hd
      rw [List.all_map, List.all_eq_true]
      intro x _
      rfl
    · cases hd
  | j + 2, hd =>
    rcases hd with hd | hd
    · exact (h _ (List.mem_of_getElem? hd)).elim
    · exact (h _ (List.mem_of_getElem? hd)).elim
theorem nh_freeS (s : Sl) : nh (freeS s) := by
  cases s with
  | val d =>
    simp only [freeS]
    split <;> trivial
  | _ => trivial
theorem ints_flat (l : List Int) : (l.map D.int).all flatE = true := by
  rw [List.all_map, List.all_eq_true]
  intro x _
  rfl
theorem inner1 {x z : D} {l : List D} (h : l.all flatE = true) (n : l.length < 16777216) : (innerL (.lst [x, .lst l, z]) 1).isSome = true := by
  unfold innerL
  simp only [List.getElem?_cons_succ, List.getElem?_cons_zero]
  rw [if_pos ⟨h, by rw [lim_v]; exact n⟩]
  rfl
section
variable {a b c d st sl t w v : Nat} {dr la : Int}
theorem loop_ok (o : KyOk a b c d) (j : JOk st sl dr la) (ht : t ≤ 200000000000000000000) (ms : List Int) (s0 s2 s3 s7 s8 s9 s10 s11 s12 s13 s14 s19 s20 s21 s22 s23 s24 s25 s26 : Sl) (n8 : nh s8) (n13 : nh s13) (n20 : nh s20) (n21 : nh s21) (n22 : nh s22) (n26 : nh s26) :
    ∃ (ms' : List Int) (w : Nat) (y8 y13 y20 y22 : Sl), nh y8 ∧ nh y13 ∧ nh y20 ∧ nh y22 ∧ forF (gN 8) b_law_0 (rangeD 0 8) [s0, .own (ms.map D.int), s2, s3, .val (nI t), .val (jd (ky a b c d) st sl dr la), .val (.lst ((lookL sl (due st t dr) la).map D.int)), s7, s8, s9, s10, s11, s12, s13, s14, .val (ky a b c d), .val (nI st), .val (nI sl), .val (.int dr), s19, s20, s21, s22, s23, s24, s25, s26] =
      .ok (.nx [s0, .own (ms'.map D.int), s2, s3, .val (nI t), .val (jd (ky a b c d) st sl dr la), .val (.lst ((lookL sl (due st t dr) la).map D.int)), s7, y8, s9, s10, s11, s12, y13, s14, .val (ky a b c d), .val (nI st), .val (nI sl), .val (.int dr), s19, y20, .val (.str (cd d w)), y22, s23, s24, s25, s26]) := by
  obtain ⟨e', h, ms', y8, y13, y20, y21, y22, he, h8, h13, h20, h21, h22, hh⟩ := for_rng (G := gN 8) (b := b_law_0) (lo := 0) (n := 8) (fun j e => ∃ (ms : List Int) (s8 s13 s20 s21 s22 : Sl), e = [s0, .own (ms.map D.int), s2, s3, .val (nI t), .val (jd (ky a b c d) st sl dr la), .val (.lst ((lookL sl (due st t dr) la).map D.int)), s7, s8, s9, s10, s11, s12, s13, s14, .val (ky a b c d), .val (nI st), .val (nI sl), .val (.int dr), s19, s20, s21, s22, s23, s24, s25, s26] ∧ nh s8 ∧ nh s13 ∧ nh s20 ∧ nh s21 ∧ nh s22 ∧ (0 < j → ∃ w : Nat, s21 = .val (.str (cd d w))))
    (e := [s0, .own (ms.map D.int), s2, s3, .val (nI t), .val (jd (ky a b c d) st sl dr la), .val (.lst ((lookL sl (due st t dr) la).map D.int)), s7, s8, s9, s10, s11, s12, s13, s14, .val (ky a b c d), .val (nI st), .val (nI sl), .val (.int dr), s19, s20, s21, s22, s23, s24, s25, s26]) ⟨ms, s8, s13, s20, s21, s22, rfl, n8, n13, n20, n21, n22, fun h => absurd h (by omega)⟩ fun i e hi ⟨ms, s8, s13, s20, s21, s22, he, n8, n13, n20, n21, n22, _⟩ => by
      subst he
      obtain ⟨m2, n, w, z13, z22, q1, q2, q⟩ := inner_ok o j ht ms s0 s2 s3 s7 (.val (.int (0 + (i : Int)))) s9 s10 s11 s12 s13 s14 s19 s20 s21 s22 s23 s24 s25 s26 n26
      exact ⟨_, _, rfl, q, m2, _, _, _, _, _, rfl, trivial, q1, trivial, trivial, q2, fun _ => ⟨w, rfl⟩⟩
  obtain ⟨w, rfl⟩ := hh (by omega)
  subst he
  exact ⟨ms', w, y8, y13, y20, y22, h8, h13, h20, h22, h⟩
theorem judges_lc (xs : List (D × Bool)) (h : ∀ p ∈ xs, F_is_clock_judge [p.1] = .ok (.bl p.2)) (s0 s1 s2 s3 s4 s5 s6 s7 s8 s9 s10 s11 s12 s13 s14 s15 s16 s17 s18 s19 s20 s21 s22 s23 s24 s25 : Sl) : lcF [26] (gN 26) tYes1 f_law_4 (xs.map fun p => p.1) [s0, s1, s2, s3, s4, s5, s6, s7, s8, s9, s10, s11, s12, s13, s14, s15, s16, s17, s18, s19, s20, s21, s22, s23, s24, s25, .un] = .ok (xs.map fun p => D.bl p.2, [s0, s1, s2, s3, s4, s5, s6, s7, s8, s9, s10, s11, s12, s13, s14, s15, s16, s17, s18, s19, s20, s21, s22, s23, s24, s25, .un]) :=
  lcF_all (fun p : D × Bool => p.1) (fun p => D.bl p.2) xs fun p hp => ⟨[s0, s1, s2, s3, s4, s5, s6, s7, s8, s9, s10, s11, s12, s13, s14, s15, s16, s17, s18, s19, s20, s21, s22, s23, s24, s25, .val p.1], rfl, by
    have k := h p hp
    unfold f_law_4
    generalize F_is_clock_judge = q0 at *
    as_aux_lemma =>
      simp only [seq_ap, Mi.mi0, Mi.mi1, Mi.mi2, Mi.mi3, Mi.mi4, Mi.mi5, Mi.mo0, Mi.mo1, Mi.mo2, Mi.mo3, Mi.mo8, Bool.false_eq_true, Mi.mo9, Nat.reduceAdd, Nat.reduceSub, Nat.reduceLeDiff, Nat.reduceLT, Nat.reduceEqDiff, Mi.mt0, List.getElem?_cons_zero, List.getElem?_cons_succ, List.set_cons_zero, List.set_cons_succ, List.map_cons, List.map_nil, List.length_cons, List.length_nil, List.nil_append, List.cons_append, List.append_nil, List.replicate_succ, List.replicate_zero, lim_v, reduceIte, decide_true, decide_false, Bool.not_true, Bool.not_false, Option.bind_some, Mi.lst_no, Mi.par2, Mi.par3, eq_self, and_self, Mi.mi6, Mi.mi7, Mi.mi8, Mi.mi9, Option.map_some, Mi.mi10, Mi.mi11, Mi.mi12, Mi.mi13, Mi.mi14, Mi.mi15, k], rfl⟩
theorem clocks_lc (xs : List (D × Bool)) (h : ∀ p ∈ xs, F_is_clock [p.1] = .ok (.bl p.2)) (s0 s1 s2 s3 s4 s5 s6 s7 s8 s9 s10 s11 s12 s13 s14 s15 s16 s17 s18 s19 s20 s21 s22 s23 s24 s25 : Sl) : lcF [26] (gN 26) tYes1 f_law_5 (xs.map fun p => p.1) [s0, s1, s2, s3, s4, s5, s6, s7, s8, s9, s10, s11, s12, s13, s14, s15, s16, s17, s18, s19, s20, s21, s22, s23, s24, s25, .un] = .ok (xs.map fun p => D.bl p.2, [s0, s1, s2, s3, s4, s5, s6, s7, s8, s9, s10, s11, s12, s13, s14, s15, s16, s17, s18, s19, s20, s21, s22, s23, s24, s25, .un]) :=
  lcF_all (fun p : D × Bool => p.1) (fun p => D.bl p.2) xs fun p hp => ⟨[s0, s1, s2, s3, s4, s5, s6, s7, s8, s9, s10, s11, s12, s13, s14, s15, s16, s17, s18, s19, s20, s21, s22, s23, s24, s25, .val p.1], rfl, by
    have k := h p hp
    unfold f_law_5
    generalize F_is_clock = q0 at *
    as_aux_lemma =>
      simp only [seq_ap, Mi.mi0, Mi.mi1, Mi.mi2, Mi.mi3, Mi.mi4, Mi.mi5, Mi.mo0, Mi.mo1, Mi.mo2, Mi.mo3, Mi.mo8, Bool.false_eq_true, Mi.mo9, Nat.reduceAdd, Nat.reduceSub, Nat.reduceLeDiff, Nat.reduceLT, Nat.reduceEqDiff, Mi.mt0, List.getElem?_cons_zero, List.getElem?_cons_succ, List.set_cons_zero, List.set_cons_succ, List.map_cons, List.map_nil, List.length_cons, List.length_nil, List.nil_append, List.cons_append, List.append_nil, List.replicate_succ, List.replicate_zero, lim_v, reduceIte, decide_true, decide_false, Bool.not_true, Bool.not_false, Option.bind_some, Mi.lst_no, Mi.par2, Mi.par3, eq_self, and_self, Mi.mi6, Mi.mi7, Mi.mi8, Mi.mi9, Option.map_some, Mi.mi10, Mi.mi11, Mi.mi12, Mi.mi13, Mi.mi14, Mi.mi15, k], rfl⟩
theorem threeA_lc (x T : D) (s0 s1 s2 s3 s5 s6 s7 s8 s9 s10 s11 s12 s13 s14 s15 s16 s17 s18 s19 s20 s21 s22 s24 s26 : Sl) : lcF [25] (gN 25) tYes1 f_law_6 (rangeD 0 3) [s0, s1, s2, s3, .val T, s5, s6, s7, s8, s9, s10, s11, s12, s13, s14, s15, s16, s17, s18, s19, s20, s21, s22, .val x, s24, .un, s26] = .ok ([.tup [.int 0, x, T, .int 0], .tup [.int 1, x, T, .int 0], .tup [.int 2, x, T, .int 0]], [s0, s1, s2, s3, .val T, s5, s6, s7, s8, s9, s10, s11, s12, s13, s14, s15, s16, s17, s18, s19, s20, s21, s22, .val x, s24, .un, s26]) := by
  have k := lcF_all (vs := [25]) (G := gN 25) (f := f_law_6) (e0 := [s0, s1, s2, s3, .val T, s5, s6, s7, s8, s9, s10, s11, s12, s13, s14, s15, s16, s17, s18, s19, s20, s21, s22, .val x, s24, .un, s26]) (fun y : D => y) (fun y => D.tup [y, x, T, .int 0]) (rangeD 0 3) fun y hy => ⟨[s0, s1, s2, s3, .val T, s5, s6, s7, s8, s9, s10, s11, s12, s13, s14, s15, s16, s17, s18, s19, s20, s21, s22, .val x, s24, .val y, s26], rfl, by
    unfold f_law_6
    as_aux_lemma =>
      simp only [seq_ap, Mi.mi0, Mi.mi1, Mi.mi2, Mi.mi3, Mi.mi4, Mi.mi5, Mi.mo0, Mi.mo1, Mi.mo2, Mi.mo3, Mi.mo8, Bool.false_eq_true, Mi.mo9, Nat.reduceAdd, Nat.reduceSub, Nat.reduceLeDiff, Nat.reduceLT, Nat.reduceEqDiff, Mi.mt0, List.getElem?_cons_zero, List.getElem?_cons_succ, List.set_cons_zero, List.set_cons_succ, List.map_cons, List.map_nil, List.length_cons, List.length_nil, List.nil_append, List.cons_append, List.append_nil, List.replicate_succ, List.replicate_zero, lim_v, reduceIte, decide_true, decide_false, Bool.not_true, Bool.not_false, Option.bind_some, Mi.lst_no, Mi.par2, Mi.par3, eq_self, and_self, Mi.mi6, Mi.mi7, Mi.mi8, Mi.mi9, Option.map_some, Mi.mi10, Mi.mi11, Mi.mi12, Mi.mi13, Mi.mi14, Mi.mi15], rfl⟩
  rw [List.map_id'] at k
  exact k
theorem threeB_lc (J x : D) (s0 s1 s2 s3 s4 s6 s7 s8 s9 s10 s11 s12 s13 s14 s15 s16 s17 s18 s19 s20 s21 s22 s23 s26 : Sl) : lcF [25] (gN 25) tYes1 f_law_7 (rangeD 0 3) [s0, s1, s2, s3, s4, .val J, s6, s7, s8, s9, s10, s11, s12, s13, s14, s15, s16, s17, s18, s19, s20, s21, s22, s23, .val x, .un, s26] = .ok ([.tup [.int 0, J, x, .int 0], .tup [.int 1, J, x, .int 0], .tup [.int 2, J, x, .int 0]], [s0, s1, s2, s3, s4, .val J, s6, s7, s8, s9, s10, s11, s12, s13, s14, s15, s16, s17, s18, s19, s20, s21, s22, s23, .val x, .un, s26]) := by
  have k := lcF_all (vs := [25]) (G := gN 25) (f := f_law_7) (e0 := [s0, s1, s2, s3, s4, .val J, s6, s7, s8, s9, s10, s11, s12, s13, s14, s15, s16, s17, s18, s19, s20, s21, s22, s23, .val x, .un, s26]) (fun y : D => y) (fun y => D.tup [y, J, x, .int 0]) (rangeD 0 3) fun y hy => ⟨[s0, s1, s2, s3, s4, .val J, s6, s7, s8, s9, s10, s11, s12, s13, s14, s15, s16, s17, s18, s19, s20, s21, s22, s23, .val x, .val y, s26], rfl, by
    unfold f_law_7
    as_aux_lemma =>
      simp only [seq_ap, Mi.mi0, Mi.mi1, Mi.mi2, Mi.mi3, Mi.mi4, Mi.mi5, Mi.mo0, Mi.mo1, Mi.mo2, Mi.mo3, Mi.mo8, Bool.false_eq_true, Mi.mo9, Nat.reduceAdd, Nat.reduceSub, Nat.reduceLeDiff, Nat.reduceLT, Nat.reduceEqDiff, Mi.mt0, List.getElem?_cons_zero, List.getElem?_cons_succ, List.set_cons_zero, List.set_cons_succ, List.map_cons, List.map_nil, List.length_cons, List.length_nil, List.nil_append, List.cons_append, List.append_nil, List.replicate_succ, List.replicate_zero, lim_v, reduceIte, decide_true, decide_false, Bool.not_true, Bool.not_false, Option.bind_some, Mi.lst_no, Mi.par2, Mi.par3, eq_self, and_self, Mi.mi6, Mi.mi7, Mi.mi8, Mi.mi9, Option.map_some, Mi.mi10, Mi.mi11, Mi.mi12, Mi.mi13, Mi.mi14, Mi.mi15], rfl⟩
  rw [List.map_id'] at k
  exact k
theorem codes5_lc (o : KyOk a b c d) (J cell : D) (ms : List Int) : ∃ (x4 x5 : D) (ms' : List Int), F_are_figures [x4, nI d] = .ok (.bl false) ∧ F_are_figures [x5, nI d] = .ok (.bl false) ∧ ∀ (s0 s2 s3 s4 s6 s7 s8 s9 s10 s11 s12 s13 s14 s16 s17 s18 s19 s20 s22 s23 s26 : Sl), lcF [25] (gN 25) tYes1 f_law_8 [.int 3, .int 4] [s0, .own (ms.map D.int), s2, s3, s4, .val J, s6, s7, s8, s9, s10, s11, s12, s13, s14, .val (ky a b c d), s16, s17, s18, s19, s20, .val (.str (cd d v)), s22, s23, .val cell, .un, s26] =
    .ok ([.tup [.int 3, J, x4, cell], .tup [.int 4, J, x5, cell]], [s0, .own (ms'.map D.int), s2, s3, s4, .val J, s6, s7, s8, s9, s10, s11, s12, s13, s14, .val (ky a b c d), s16, s17, s18, s19, s20, .val (.str (cd d v)), s22, s23, .val cell, .un, s26]) := by
  obtain ⟨y1, g1, f1⟩ := cut_code (v := v) o.d0 o.d1
  obtain ⟨y2, g2, f2⟩ := add_code (v := v) o.d1
  obtain ⟨y3, g3, f3⟩ := mul_x o.d0 o.d1
  have f4 := figs_non (x := nI d)
  have gi : gIx (ky a b c d) (.int 3) = some (nI d) := rfl
  obtain ⟨x4, m1, h1, i1⟩ := pick_ok ms (ds := [.str y1, .str y2, .non, .str y3]) (by simp)
  obtain ⟨x5, m2, h2, i2⟩ := pick_ok m1 (ds := [.str y1, .str y2, .non, .str y3]) (by simp)
  have fx : ∀ x ∈ [D.str y1, .str y2, .non, .str y3], F_are_figures [x, nI d] = .ok (.bl false) := fun x hx => by
    simp only [List.mem_cons, List.mem_nil_iff, or_false] at hx
    rcases hx with rfl | rfl | rfl | rfl <;> assumption
  refine ⟨x4, x5, m2, fx _ i1, fx _ i2, fun s0 s2 s3 s4 s6 s7 s8 s9 s10 s11 s12 s13 s14 s16 s17 s18 s19 s20 s22 s23 s26 => ?_⟩
  have io := intsOf_map
  have s1 : ∀ (ms m1 : List Int) (x k : D), F__law_pick ms [.lst [.str y1, .str y2, .non, .str y3]] = .ok (x, m1) → f_law_8 [s0, .own (ms.map D.int), s2, s3, s4, .val J, s6, s7, s8, s9, s10, s11, s12, s13, s14, .val (ky a b c d), s16, s17, s18, s19, s20, .val (.str (cd d v)), s22, s23, .val cell, .val k, s26] = .ok (.tup [k, J, x, cell], [s0, .own (m1.map D.int), s2, s3, s4, .val J, s6, s7, s8, s9, s10, s11, s12, s13, s14, .val (ky a b c d), s16, s17, s18, s19, s20, .val (.str (cd d v)), s22, s23, .val cell, .val k, s26]) := fun ms m1 x k h => by
    unfold f_law_8
    generalize ky a b c d = K at *
    generalize cd d v = s' at *
    generalize gMulS = gm at *
    generalize gAdd = ga at *
    generalize gSl = gs at *
    generalize F__law_pick = q0 at *
    as_aux_lemma =>
      simp only [seq_ap, Mi.mi0, Mi.mi1, Mi.mi2, Mi.mi3, Mi.mi4, Mi.mi5, Mi.mo0, Mi.mo1, Mi.mo2, Mi.mo3, Mi.mo8, Bool.false_eq_true, Mi.mo9, Nat.reduceAdd, Nat.reduceSub, Nat.reduceLeDiff, Nat.reduceLT, Nat.reduceEqDiff, Mi.mt0, List.getElem?_cons_zero, List.getElem?_cons_succ, List.set_cons_zero, List.set_cons_succ, List.map_cons, List.map_nil, List.length_cons, List.length_nil, List.nil_append, List.cons_append, List.append_nil, List.replicate_succ, List.replicate_zero, lim_v, reduceIte, decide_true, decide_false, Bool.not_true, Bool.not_false, Option.bind_some, Mi.lst_no, Mi.par2, Mi.par3, eq_self, and_self, Mi.mi6, Mi.mi7, Mi.mi8, Mi.mi9, Option.map_some, Mi.mi10, Mi.mi11, Mi.mi12, Mi.mi13, Mi.mi14, Mi.mi15, eCallB, io, h, g1, g2, g3, gi, Sl.turn]
  have q1 := s1 _ _ _ (.int 3) h1
  have q2 := s1 _ _ _ (.int 4) h2
  have gg : ∀ (k : D) (ms : List Int), gN 25 k [s0, .own (ms.map D.int), s2, s3, s4, .val J, s6, s7, s8, s9, s10, s11, s12, s13, s14, .val (ky a b c d), s16, s17, s18, s19, s20, .val (.str (cd d v)), s22, s23, .val cell, .un, s26] = some [s0, .own (ms.map D.int), s2, s3, s4, .val J, s6, s7, s8, s9, s10, s11, s12, s13, s14, .val (ky a b c d), s16, s17, s18, s19, s20, .val (.str (cd d v)), s22, s23, .val cell, .val k, s26] := fun _ _ => rfl
  have ww : ∀ (k : D) (ms : List Int), wipeE [s0, .own (ms.map D.int), s2, s3, s4, .val J, s6, s7, s8, s9, s10, s11, s12, s13, s14, .val (ky a b c d), s16, s17, s18, s19, s20, .val (.str (cd d v)), s22, s23, .val cell, .val k, s26] [25] = [s0, .own (ms.map D.int), s2, s3, s4, .val J, s6, s7, s8, s9, s10, s11, s12, s13, s14, .val (ky a b c d), s16, s17, s18, s19, s20, .val (.str (cd d v)), s22, s23, .val cell, .un, s26] := fun _ _ => rfl
  generalize ky a b c d = K at *
  generalize cd d v = s' at *
  generalize f_law_8 = q0 at *
  as_aux_lemma =>
    simp only [lcF, gg, tYes1, q1, q2, ww]
theorem told_lc (xs : List (D × D × D × D)) (h : ∀ p ∈ xs, F__law_told [p.1, p.2.1, p.2.2.1, p.2.2.2] = .ok flNR) (s0 s1 s2 s3 s4 s5 s6 s7 s8 s9 s10 s11 s12 s13 s14 s15 s16 s17 s18 s19 s20 s21 s22 s23 s24 s25 : Sl) : lcF [26] (gN 26) tYes1 f_law_9 (xs.map fun p => D.tup [p.1, p.2.1, p.2.2.1, p.2.2.2]) [s0, s1, s2, s3, s4, s5, s6, s7, s8, s9, s10, s11, s12, s13, s14, s15, s16, s17, s18, s19, s20, s21, s22, s23, s24, s25, .un] = .ok (xs.map fun _ => flNR, [s0, s1, s2, s3, s4, s5, s6, s7, s8, s9, s10, s11, s12, s13, s14, s15, s16, s17, s18, s19, s20, s21, s22, s23, s24, s25, .un]) :=
  lcF_all (fun p : D × D × D × D => D.tup [p.1, p.2.1, p.2.2.1, p.2.2.2]) (fun _ => flNR) xs fun p hp => ⟨[s0, s1, s2, s3, s4, s5, s6, s7, s8, s9, s10, s11, s12, s13, s14, s15, s16, s17, s18, s19, s20, s21, s22, s23, s24, s25, .val (.tup [p.1, p.2.1, p.2.2.1, p.2.2.2])], rfl, by
    have k := h p hp
    unfold f_law_9
    generalize F__law_told = q0 at *
    as_aux_lemma =>
      simp only [seq_ap, Mi.mi0, Mi.mi1, Mi.mi2, Mi.mi3, Mi.mi4, Mi.mi5, Mi.mo0, Mi.mo1, Mi.mo2, Mi.mo3, Mi.mo8, Bool.false_eq_true, Mi.mo9, Nat.reduceAdd, Nat.reduceSub, Nat.reduceLeDiff, Nat.reduceLT, Nat.reduceEqDiff, Mi.mt0, List.getElem?_cons_zero, List.getElem?_cons_succ, List.set_cons_zero, List.set_cons_succ, List.map_cons, List.map_nil, List.length_cons, List.length_nil, List.nil_append, List.cons_append, List.append_nil, List.replicate_succ, List.replicate_zero, lim_v, reduceIte, decide_true, decide_false, Bool.not_true, Bool.not_false, Option.bind_some, Mi.lst_no, Mi.par2, Mi.par3, eq_self, and_self, Mi.mi6, Mi.mi7, Mi.mi8, Mi.mi9, Option.map_some, Mi.mi10, Mi.mi11, Mi.mi12, Mi.mi13, Mi.mi14, Mi.mi15, k], rfl⟩
end
end Lw
namespace Lw
open Mi L2
def Inv (v0 : D) (en : En) : Prop := ∃ (ms : List Int) (s3 s4 s5 s6 s7 s8 s9 s10 s11 s12 s13 s14 s15 s16 s17 s18 s19 s20 s21 s22 s23 s24 s25 s26 : Sl), en = [.val v0, .own (ms.map D.int), .val flNR, s3, s4, s5, s6, s7, s8, s9, s10, s11, s12, s13, s14, s15, s16, s17, s18, s19, s20, s21, s22, s23, s24, s25, s26] ∧ ∀ s ∈ [s3, s4, s5, s6, s7, s8, s9, s10, s11, s12, s13, s14, s15, s16, s17, s18, s19, s20, s21, s22, s23, s24, s25, s26], nh s
abbrev f1 : D := .bl false
abbrev t1 : D := .bl true
theorem turn_ok {v0 : D} {jj : D} {en : En} (hi : Inv v0 en) : Go b_law_1 (en.set 3 (.val jj)) (Inv v0) := by
  obtain ⟨ms, s3, s4, s5, s6, s7, s8, s9, s10, s11, s12, s13, s14, s15, s16, s17, s18, s19, s20, s21, s22, s23, s24, s25, s26, rfl, hn⟩ := hi
  simp only [List.forall_mem_cons, List.forall_mem_nil, and_true] at hn
  obtain ⟨n3, n4, n5, n6, n7, n8, n9, n10, n11, n12, n13, n14, n15, n16, n17, n18, n19, n20, n21, n22, n23, n24, n25, n26'⟩ := hn
  have n26 := n26'.1
  obtain ⟨q1, m1, h1, b1⟩ := take_int ms (b := 997) (by omega)
  obtain ⟨q2, m2, h2, b2⟩ := take_int m1 (b := 997) (by omega)
  have pw : gPow (.int 10) (.int 20) = some (.int 100000000000000000000) := by kernel_rfl
  obtain ⟨t', m3, h3, i3⟩ := pick_int m2 (xs := [0, 5, (q1 : Int), 100000000000000000000 + (q2 : Int)]) (by simp)
  obtain ⟨t, rfl, tb⟩ : ∃ x : Nat, t' = (x : Int) ∧ x ≤ 100000000000000000996 := by
    simp only [List.mem_cons, List.mem_nil_iff, or_false] at i3
    exact ⟨t'.toNat, by omega, by omega⟩
  have ht : t ≤ 200000000000000000000 := by omega
  obtain ⟨a, b, c, d, st, sl, dr, la, m4, o, j, sl4, dr0, dr1, h4⟩ := law_judge_ok ht m3
  have j0 := j.s0
  have j1 := j.s1
  have j2 := j.l1
  have as1 : ∀ (e : En), gT 5 (gsC (gN 15) (gsC (gN 16) (gsC (gN 17) (gsC (gN 18) (gsC (gN 19) (gsN)))))) (jd (ky a b c d) st sl dr la) e = gsC (gN 15) (gsC (gN 16) (gsC (gN 17) (gsC (gN 18) (gsC (gN 19) (gsN))))) [ky a b c d, nI st, nI sl, .int dr, .int la] e := fun _ => rfl
  have d2 : divXOk (t : Int) (st : Int) = true := div_ok (by omega) (.inl ((bdn (n := st) (by omega)).mono (by omega)))
  have ed := fdiv_nat (t := t) (st := st)
  have eu : ((t / st : Nat) : Int) + dr = due st t dr := rfl
  have hu := due_le (st := st) j.d1 ht
  have w1 := law_looked_eq o j ht
  have w2 := told0_ok _ _ (.int 0) (due_count_eq (t := t) o j)
  have w3 := told1_ok _ _ (.int 0) (looked_at_eq (t := t) o j)
  have w4 := told2_ok _ _ (.int 0) (taken_at_eq o j ht)
  have tl := told3_lc w2 w3 w4
  obtain ⟨m5, v, y8, y13, y20, y22, ny8, ny13, ny20, ny22, lo⟩ := loop_ok (a := a) (b := b) (c := c) (d := d) o j ht m4 (.val v0) (.val flNR) (.val jj) .un s8 s9 s10 s11 s12 s13 s14 (.val (.int la)) s20 s21 s22 s23 s24 s25 s26 n8 n13 n20 n21 n22 n26
  obtain ⟨u, hu'⟩ : ∃ u, due st t dr = u := ⟨_, rfl⟩
  rw [hu'] at eu hu w1 w2 w3 w4 tl lo
  have cl := @codes_lc a b c d sl la u o (by omega)
  have ll := look_len sl u la
  have so := sortSet_codes (a := a) (b := b) (c := c) (d := d) (L := lookL sl u la) (by omega)
  have le1 : ((lookL sl u la).map (codeD a b c d)).length ≤ 16777216 := by rw [List.length_map]; omega
  have le2 : ((lookL sl u la).map D.int).length < 16777216 := by rw [List.length_map]; omega
  have fz := ints_flat (lookL sl u la)
  have sm1 : F__law_same 6 [.lst [.int u, .lst ((lookL sl u la).map D.int), .lst (sortedC a b c d (lookL sl u la))], .lst [.int u, .lst ((lookL sl u la).map D.int), .lst (sortedC a b c d (lookL sl u la))]] = .ok (.bl true) :=
    same_self 5 _ (pl_lst (all3 (pl_flat trivial) (pl_ints (by omega)) (pl_sorted (by omega))) (by simp))
  have lfJ : lf (jd (ky a b c d) st sl dr la) = true := rfl
  have fsT : freeS (.val (nI t)) = .val (nI t) := rfl
  have fsJ : freeS (.val (jd (ky a b c d) st sl dr la)) = .val (jd (ky a b c d) st sl dr la) := rfl
  have r3 : r62 3 = true := by decide
  have tn3 : (3 : Int).toNat = 3 := rfl
  have r8 : r62 8 = true := by decide
  have tn8 : (8 : Int).toNat = 8 := rfl
  have ok25f : ∀ e : En, e[25]? = some (freeS s25) → okW e [25] = true := fun e h => okW_one h (nh_freeS s25)
  have ok20 : ∀ e : En, e[20]? = some s20 → okW e [20] = true := fun e h => okW_one h n20
  have ok25 : ∀ e : En, e[25]? = some s25 → okW e [25] = true := fun e h => okW_one h n25
  have ok26 : ∀ e : En, e[26]? = some s26 → okW e [26] = true := fun e h => okW_one h n26
  -- a clock
  obtain ⟨q5, m6, h6, b6⟩ := take_int m5 (b := 997) (by omega)
  obtain ⟨off, m7, h7, i7⟩ := pick_int m6 (xs := [0, 7, -7, -100000000000000000000, (q5 : Int) - 500]) (by simp)
  obtain ⟨q6, m8, h8, b8⟩ := take_int m7 (b := 997) (by omega)
  obtain ⟨rate, m9, h9, i9⟩ := pick_int m8 (xs := [0, 1, -1, 500000, -500000, (q6 : Int)]) (by simp)
  have kk : CkOk off rate := by
    simp only [List.mem_cons, List.mem_nil_iff, or_false] at i7 i9
    constructor <;> omega
  have mu := mul_ok (bdn (n := t) (by omega)) (rate_bd kk) (by omega)
  have gmI : gMul (nI t) (.int rate) = some (.int ((t : Int) * rate)) := by
    show (if mulOk (t : Int) rate = true then _ else _) = _
    rw [if_pos mu]
  have e0 : divXOk ((t : Int) * rate) 1000000 = true := div_ok (by omega) (.inl ((bdn (n := 1000000) (by omega)).mono (by omega)))
  have e1 : divXOk ((t : Int) + off + (t : Int) * rate / 1000000) (st : Int) = true := div_ok (by omega) (.inl ((bdn (n := st) (by omega)).mono (by omega)))
  have ec : ((t : Int) + off + (t : Int) * rate / 1000000) / (st : Int) = cnt off rate st t := rfl
  have w5 := told5_ok _ _ _ (clock_count_eq (st := st) kk j0 j1 ht)
  have ic := is_clock_eq kk
  have sm2 : F__law_same 6 [optD (cntO off rate st t), optD (cntO off rate st t)] = .ok (.bl true) := same_self 5 _ (pl_flat (flat_opt _))
  have pk : ∀ cn : Int, gIx (.lst [.int cn, .non]) (.int (if decide (cn < 0) = true then 1 else 0)) = some (optD (if 0 ≤ cn then some cn else none)) := fun cn => by
    by_cases h : cn < 0
    · rw [decide_eq_true h, if_pos rfl, if_neg (by omega)]; rfl
    · rw [decide_eq_false h, if_neg (by decide), if_pos (by omega)]; rfl
  have pk := pk (cnt off rate st t)
  have ecn : (if 0 ≤ cnt off rate st t then some (cnt off rate st t) else none) = cntO off rate st t := rfl
  rw [ecn] at pk
  have fint : ∀ cc : Bool, fInt [.bl cc] = some (.int (if cc = true then 1 else 0)) := fun cc => by cases cc <;> rfl
  have gk0 : gIx (Lw.ck off rate) (.int 0) = some (.int off) := rfl
  have gk1 : gIx (Lw.ck off rate) (.int 1) = some (.int rate) := rfl
  have cke : Lw.ck off rate = .tup [.int off, .int rate] := rfl
  -- what is refused
  have gs3 : gSl (ky a b c d) none (some 3) = some (.tup [nI a, nI b, nI c]) := rfl
  have gsj : gSl (jd (ky a b c d) st sl dr la) none (some 4) = some (.tup [ky a b c d, nI st, nI sl, .int dr]) := rfl
  have fls : fLst [jd (ky a b c d) st sl dr la] = some (.lst [ky a b c d, nI st, nI sl, .int dr, .int la]) := rfl
  obtain ⟨B6, hB6⟩ : ∃ x : List D, x = [.non, .tup [ky a b c d, nI st, nI sl, .int dr], .lst [ky a b c d, nI st, nI sl, .int dr, .int la], .tup [.tup [nI a, nI b, nI c], nI st, nI sl, .int dr, .int la], .tup [ky a b c d, .int 0, nI sl, .int dr, .int la], .tup [ky a b c d, .int 601, nI sl, .int dr, .int la]] := ⟨_, rfl⟩
  obtain ⟨B9, hB9⟩ : ∃ x : List D, x = B6 ++ [.tup [ky a b c d, nI st, .int (-1), .int dr, .int la], .tup [ky a b c d, nI st, .int 21, .int dr, .int la], .tup [ky a b c d, nI st, nI sl, .non, .int la]] := ⟨_, rfl⟩
  have ga1 : gAdd (.lst B6) (.lst [.tup [ky a b c d, nI st, .int (-1), .int dr, .int la], .tup [ky a b c d, nI st, .int 21, .int dr, .int la], .tup [ky a b c d, nI st, nI sl, .non, .int la]]) = some (.lst B9) := by subst hB9 hB6; rfl
  have ga2 : gAdd (.lst B9) (.lst [.tup [ky a b c d, nI st, nI sl, .int dr, .int (-2)], .tup [ky a b c d, .bl true, nI sl, .int dr, .int la], .tup [ky a b c d, nI st, nI sl, .str "0", .int la], .tup [ky a b c d, nI st, nI sl, .int dr, .non]]) = some (.lst (badC (ky a b c d) a b c st sl dr la)) := by subst hB9 hB6; rfl
  have bke : badK = [.non, .tup [.int 0], .lst [.int 0, .int 0], .tup [.int 0, .int 500001], .tup [.int 0, .int (-500001)], .tup [.bl true, .int 0], .tup [.int 0, .str "0"], .tup [.non, .int 0], .tup [.int 0, .int 0, .int 0]] := rfl
  have ga3 : gAdd (.lst (badC (ky a b c d) a b c st sl dr la)) (.lst [jd (ky a b c d) st sl dr la, .tup [ky a b c d, .int 600, .int 20, .int (-100000000000000000000), .int 100000000000000000000]]) = some (.lst (badC (ky a b c d) a b c st sl dr la ++ [jd (ky a b c d) st sl dr la, jd (ky a b c d) 600 20 (-100000000000000000000) 100000000000000000000])) := rfl
  have ga4 : gAdd (.lst badK) (.lst [Lw.ck off rate]) = some (.lst (badK ++ [Lw.ck off rate])) := rfl
  have bjn := badC_no o j
  have l26 := judges_lc ((badC (ky a b c d) a b c st sl dr la).map (fun x => (x, false)) ++ [(jd (ky a b c d) st sl dr la, true), (jd (ky a b c d) 600 20 (-100000000000000000000) 100000000000000000000, true)]) fun p hp => by
    rw [List.mem_append] at hp
    rcases hp with hp | hp
    · obtain ⟨x, hx, rfl⟩ := List.mem_map.1 hp
      exact bjn x hx
    · simp only [List.mem_cons, List.mem_nil_iff, or_false] at hp
      rcases hp with rfl | rfl
      · exact is_judge_eq o j
      · exact is_judge_eq o ⟨by omega, by omega, by omega, by omega, by omega, by omega⟩
  have l26' := clocks_lc (badK.map (fun x => (x, false)) ++ [(Lw.ck off rate, true)]) fun p hp => by
    rw [List.mem_append] at hp
    rcases hp with hp | hp
    · obtain ⟨x, hx, rfl⟩ := List.mem_map.1 hp
      exact badK_no x hx
    · simp only [List.mem_cons, List.mem_nil_iff, or_false] at hp
      subst hp
      exact ic
  rw [List.map_append, List.map_append, List.map_map, List.map_map, show ((fun p : D × Bool => p.1) ∘ fun x : D => (x, false)) = id from rfl, List.map_id] at l26 l26'
  simp only [List.map_cons, List.map_nil] at l26 l26'
  have eB1 : (badC (ky a b c d) a b c st sl dr la).map ((fun p : D × Bool => D.bl p.2) ∘ fun x => (x, false)) ++ [.bl true, .bl true] = List.replicate 13 f1 ++ [t1, t1] := rfl
  have eB2 : badK.map ((fun p : D × Bool => D.bl p.2) ∘ fun x => (x, false)) ++ [.bl true] = List.replicate 9 f1 ++ [t1] := rfl
  obtain ⟨X1, hX1⟩ : ∃ x, x = List.replicate 13 f1 ++ [t1, t1] := ⟨_, rfl⟩
  obtain ⟨X2, hX2⟩ : ∃ x, x = List.replicate 9 f1 ++ [t1] := ⟨_, rfl⟩
  obtain ⟨X3, hX3⟩ : ∃ x, x = X1 ++ X2 := ⟨_, rfl⟩
  obtain ⟨X4, hX4⟩ : ∃ x, x = List.replicate 13 f1 := ⟨_, rfl⟩
  obtain ⟨X5, hX5⟩ : ∃ x, x = List.replicate 9 f1 := ⟨_, rfl⟩
  obtain ⟨X6, hX6⟩ : ∃ x, x = X1 ++ X5 := ⟨_, rfl⟩
  rw [eB1, ← hX1] at l26
  rw [eB2, ← hX2] at l26'
  have x1l : X1.length ≤ 16777216 := by rw [hX1]; simp
  have x2l : X2.length ≤ 16777216 := by rw [hX2]; simp
  have ga5 : gAdd (.lst X1) (.lst X2) = some (.lst X3) := by subst hX3 hX2 hX1; rfl
  have gm1 : gMul (.lst [f1]) (.int 13) = some (.lst X4) := by subst hX4; rfl
  have gm2 : gMul (.lst [f1]) (.int 9) = some (.lst X5) := by subst hX5; rfl
  have ga6 : gAdd (.lst X4) (.lst [t1, t1]) = some (.lst X1) := by subst hX4 hX1; rfl
  have ga7 : gAdd (.lst X1) (.lst X5) = some (.lst X6) := by subst hX6 hX5 hX1; rfl
  have ga8 : gAdd (.lst X6) (.lst [t1]) = some (.lst X3) := by subst hX3 hX6 hX5 hX2 hX1; rfl
  have sm3 : F__law_same 6 [.lst X3, .lst X3] = .ok (.bl true) := same_self 5 _ (pl_lst (fun x hx => by
    have hx : flat x := by
      subst hX3 hX2 hX1
      simp only [List.mem_append, List.mem_replicate, List.mem_cons, List.mem_nil_iff, or_false] at hx
      rcases hx with (⟨_, rfl⟩ | rfl | rfl) | ⟨_, rfl⟩ | rfl <;> trivial
    exact pl_flat hx) (by subst hX3 hX2 hX1; simp))
  obtain ⟨ob, m10, h10, hob⟩ := pick_ok m9 (ds := badC (ky a b c d) a b c st sl dr la) (by simp [badC])
  obtain ⟨cell, m11, h11, hcell⟩ := pick_ok m10 (ds := [.int (-1), .bl true, .non, .str "1"]) (by simp)
  have cx : F_is_count [cell] = .ok (.bl false) := by
    simp only [List.mem_cons, List.mem_nil_iff, or_false] at hcell
    rcases hcell with rfl | rfl | rfl | rfl
    · exact count_neg
    · exact count_no (int_no_bl _)
    · exact count_no int_no_non
    · exact count_no (int_no_str _)
  have lA := threeA_lc ob (nI t)
  have lB := threeB_lc (jd (ky a b c d) st sl dr la) cell
  obtain ⟨x4, x5, m12, f4, f5, l5⟩ := codes5_lc (v := v) o (jd (ky a b c d) st sl dr la) cell m11
  obtain ⟨ok', m13, h13, hok⟩ := pick_ok m12 (ds := badK) (by simp [badK])
  have cj := check_judge_eq o j
  have jn := judge_no (bjn ob hob)
  have jf := fun x y => judge_first (x := x) (y := y) jn
  have tf := time_first cj cx
  have wst : F_is_within [nI st, .int 1, .int 600] = .ok (.bl true) := within_ok (by omega) (by omega)
  obtain ⟨R, hR⟩ : ∃ R : List (D × D × D × D), R = [(.int 0, ob, nI t, .int 0), (.int 1, ob, nI t, .int 0), (.int 2, ob, nI t, .int 0), (.int 0, jd (ky a b c d) st sl dr la, cell, .int 0), (.int 1, jd (ky a b c d) st sl dr la, cell, .int 0), (.int 2, jd (ky a b c d) st sl dr la, cell, .int 0),
    (.int 3, ob, .str (cd d v), nI t), (.int 4, ob, .str (cd d v), nI t), (.int 3, jd (ky a b c d) st sl dr la, .str (cd d v), cell), (.int 4, jd (ky a b c d) st sl dr la, .str (cd d v), cell), (.int 3, jd (ky a b c d) st sl dr la, x4, cell), (.int 4, jd (ky a b c d) st sl dr la, x5, cell),
    (.int 5, ok', nI st, nI t), (.int 5, Lw.ck off rate, .int 0, nI t), (.int 5, Lw.ck off rate, .int 601, nI t), (.int 5, Lw.ck off rate, .bl true, nI t), (.int 5, Lw.ck off rate, nI st, cell)] := ⟨_, rfl⟩
  have l9 := told_lc R (by
    intro p hp
    rw [hR] at hp
    simp only [List.mem_cons, List.mem_nil_iff, or_false] at hp
    rcases hp with rfl | rfl | rfl | rfl | rfl | rfl | rfl | rfl | rfl | rfl | rfl | rfl | rfl | rfl | rfl | rfl | rfl
    · exact told0_no _ _ _ (jf _ .non).1
    · exact told1_no _ _ _ (jf _ .non).2.1
    · exact told2_no _ _ _ (jf _ .non).2.2.1
    · exact told0_no _ _ _ tf.1
    · exact told1_no _ _ _ tf.2.1
    · exact told2_no _ _ _ tf.2.2
    · exact told3_no _ _ _ (jf _ _).2.2.2.1
    · exact told4_no _ _ _ (jf _ _).2.2.2.2
    · exact told3_no _ _ _ (code_no (code_time o j cx)).1
    · exact told4_no _ _ _ (code_no (code_time o j cx)).2
    · exact told3_no _ _ _ (code_no (code_figs o j f4)).1
    · exact told4_no _ _ _ (code_no (code_figs o j f5)).2
    · exact told5_no _ _ _ (clock_no (badK_no _ hok))
    · exact told5_no _ _ _ (clock_step ic (within_out (by omega)))
    · exact told5_no _ _ _ (clock_step ic (within_out (by omega)))
    · exact told5_no _ _ _ (clock_step ic (within_no (int_no_bl _) _ _))
    · exact told5_no _ _ _ (clock_time ic wst cx))
  subst hR
  simp only [List.map_cons, List.map_nil] at l9
  have gm3 : gMul (.lst [flNR]) (.int 17) = some (.lst [flNR, flNR, flNR, flNR, flNR, flNR, flNR, flNR, flNR, flNR, flNR, flNR, flNR, flNR, flNR, flNR, flNR]) := rfl
  have sm4 : F__law_same 6 [.lst [flNR, flNR, flNR, flNR, flNR, flNR, flNR, flNR, flNR, flNR, flNR, flNR, flNR, flNR, flNR, flNR, flNR], .lst [flNR, flNR, flNR, flNR, flNR, flNR, flNR, flNR, flNR, flNR, flNR, flNR, flNR, flNR, flNR, flNR, flNR]] = .ok (.bl true) := same_self 5 _ (pl_lst (fun x hx => by
    have hx : x = flNR := by
      simp only [List.mem_cons, List.mem_nil_iff, or_false, or_self] at hx
      exact hx
    subst hx
    refine pl_lst (fun y hy => ?_) (by simp)
    simp only [List.mem_cons, List.mem_nil_iff, or_false, or_self] at hy
    rcases hy with rfl | rfl <;> exact pl_flat trivial) (by simp))
  have ga9 : ∀ x y z p q r : D, gAdd (.lst [x, y, z]) (.lst [p, q, r]) = some (.lst [x, y, z, p, q, r]) := fun _ _ _ _ _ _ => rfl
  have ga10 : ∀ x y z p q r s t u k : D, gAdd (.lst [x, y, z, p, q, r]) (.lst [s, t, u, k]) = some (.lst [x, y, z, p, q, r, s, t, u, k]) := fun _ _ _ _ _ _ _ _ _ _ => rfl
  have ga11 : ∀ x y z p q r s t u k l m : D, gAdd (.lst [x, y, z, p, q, r, s, t, u, k]) (.lst [l, m]) = some (.lst [x, y, z, p, q, r, s, t, u, k, l, m]) := fun _ _ _ _ _ _ _ _ _ _ _ _ => rfl
  have ga12 : ∀ x y z p q r s t u k l m a b c d e : D, gAdd (.lst [x, y, z, p, q, r, s, t, u, k, l, m]) (.lst [a, b, c, d, e]) = some (.lst [x, y, z, p, q, r, s, t, u, k, l, m, a, b, c, d, e]) := fun _ _ _ _ _ _ _ _ _ _ _ _ _ _ _ _ _ => rfl
  have gI1 : ∀ x y : Int, gAdd (.int x) (.int y) = some (.int (x + y)) := fun _ _ => rfl
  have io := intsOf_map
  change Go b_law_1 [.val v0, .own (ms.map D.int), .val flNR, .val jj, s4, s5, s6, s7, s8, s9, s10, s11, s12, s13, s14, s15, s16, s17, s18, s19, s20, s21, s22, s23, s24, s25, s26] _
  simp only [List.map_cons, List.map_nil] at h3 h7 h9
  unfold b_law_1
  generalize F__law_take = q0 at *
  generalize F__law_pick = q1 at *
  generalize F__law_judge = q2 at *
  generalize F__law_looked = q3 at *
  generalize F__law_told = q4 at *
  generalize f_law_0 = q5 at *
  generalize f_law_1 = q6 at *
  generalize f_law_4 = q7 at *
  generalize f_law_5 = q8 at *
  generalize f_law_6 = q9 at *
  generalize f_law_7 = q10 at *
  generalize f_law_8 = q11 at *
  generalize f_law_9 = q12 at *
  generalize b_law_0 = q13 at *
  generalize F__law_same 6 = qs at *
  generalize gMul = gm at *
  generalize gAdd = ga at *
  generalize gPow = gp at *
  generalize hT : D.tup [nI a, nI b, nI c] = T at *
  generalize jd (ky a b c d) 600 20 (-100000000000000000000) 100000000000000000000 = J0 at *
  generalize hJ : jd (ky a b c d) st sl dr la = J at *
  generalize hC : Lw.ck off rate = C at *
  generalize hK : ky a b c d = K at *
  generalize cd d v = Cs at *
  generalize sortedC a b c d (lookL sl u la) = Sc at *
  generalize (lookL sl u la).map (codeD a b c d) = Lc at *
  generalize (lookL sl u la).map D.int = Lk at *
  generalize cnt off rate st t = cn at *
  generalize optD (cntO off rate st t) = zc at *
  refine Go.seq (Go.of (e' := [.val v0, .own (m3.map D.int), .val flNR, .val jj, .val (nI t), s5, s6, s7, s8, s9, s10, s11, s12, s13, s14, s15, s16, s17, s18, s19, s20, s21, s22, s23, s24, s25, s26]) ?_ ?_)
  · as_aux_lemma =>
      simp only [seq_ap, Mi.mi0, Mi.mi1, Mi.mi2, Mi.mi3, Mi.mi4, Mi.mi5, Mi.mo0, Mi.mo1, Mi.mo2, Mi.mo3, Mi.mo8, Bool.false_eq_true, Mi.mo9, Nat.reduceAdd, Nat.reduceSub, Nat.reduceLeDiff, Nat.reduceLT, Nat.reduceEqDiff, Mi.mt0, List.getElem?_cons_zero, List.getElem?_cons_succ, List.set_cons_zero, List.set_cons_succ, List.map_cons, List.map_nil, List.length_cons, List.length_nil, List.nil_append, List.cons_append, List.append_nil, List.replicate_succ, List.replicate_zero, lim_v, reduceIte, decide_true, decide_false, Bool.not_true, Bool.not_false, Option.bind_some, Mi.lst_no, Mi.par2, Mi.par3, eq_self, and_self, Mi.mi6, Mi.mi7, Mi.mi8, Mi.mi9, Option.map_some, Mi.mi10, Mi.mi11, Mi.mi12, Mi.mi13, Mi.mi14, Mi.mi15, eCallB, io, h1, h2, h3, pw, gI1, Sl.turn]
  refine Go.seq (Go.of (e' := [.val v0, .own (m4.map D.int), .val flNR, .val jj, .val (nI t), .val J, s6, s7, s8, s9, s10, s11, s12, s13, s14, s15, s16, s17, s18, s19, s20, s21, s22, s23, s24, s25, s26]) ?_ ?_)
  · as_aux_lemma =>
      simp only [seq_ap, Mi.mi0, Mi.mi1, Mi.mi2, Mi.mi3, Mi.mi4, Mi.mi5, Mi.mo0, Mi.mo1, Mi.mo2, Mi.mo3, Mi.mo8, Bool.false_eq_true, Mi.mo9, Nat.reduceAdd, Nat.reduceSub, Nat.reduceLeDiff, Nat.reduceLT, Nat.reduceEqDiff, Mi.mt0, List.getElem?_cons_zero, List.getElem?_cons_succ, List.set_cons_zero, List.set_cons_succ, List.map_cons, List.map_nil, List.length_cons, List.length_nil, List.nil_append, List.cons_append, List.append_nil, List.replicate_succ, List.replicate_zero, lim_v, reduceIte, decide_true, decide_false, Bool.not_true, Bool.not_false, Option.bind_some, Mi.lst_no, Mi.par2, Mi.par3, eq_self, and_self, Mi.mi6, Mi.mi7, Mi.mi8, Mi.mi9, Option.map_some, Mi.mi10, Mi.mi11, Mi.mi12, Mi.mi13, Mi.mi14, Mi.mi15, eCallB, io, h4, Sl.turn]
  refine Go.seq (Go.of (e' := [.val v0, .own (m4.map D.int), .val flNR, .val jj, .val (nI t), .val J, s6, s7, s8, s9, s10, s11, s12, s13, s14, .val K, .val (nI st), .val (nI sl), .val (.int dr), .val (.int la), s20, s21, s22, s23, s24, s25, s26]) ?_ ?_)
  · as_aux_lemma =>
      simp only [seq_ap, Mi.mi0, Mi.mi1, Mi.mi2, Mi.mi3, Mi.mi4, Mi.mi5, Mi.mo0, Mi.mo1, Mi.mo2, Mi.mo3, Mi.mo8, Bool.false_eq_true, Mi.mo9, Nat.reduceAdd, Nat.reduceSub, Nat.reduceLeDiff, Nat.reduceLT, Nat.reduceEqDiff, Mi.mt0, List.getElem?_cons_zero, List.getElem?_cons_succ, List.set_cons_zero, List.set_cons_succ, List.map_cons, List.map_nil, List.length_cons, List.length_nil, List.nil_append, List.cons_append, List.append_nil, List.replicate_succ, List.replicate_zero, lim_v, reduceIte, decide_true, decide_false, Bool.not_true, Bool.not_false, Option.bind_some, Mi.lst_no, Mi.par2, Mi.par3, eq_self, and_self, Mi.mi6, Mi.mi7, Mi.mi8, Mi.mi9, Option.map_some, Mi.mi10, Mi.mi11, Mi.mi12, Mi.mi13, Mi.mi14, Mi.mi15, as1]
  refine Go.seq (Go.of (e' := [.val v0, .own (m4.map D.int), .val flNR, .val jj, .val (nI t), .val J, .val (.lst Lk), s7, s8, s9, s10, s11, s12, s13, s14, .val K, .val (nI st), .val (nI sl), .val (.int dr), .val (.int la), s20, s21, s22, s23, s24, s25, s26]) ?_ ?_)
  · as_aux_lemma =>
      simp only [seq_ap, Mi.mi0, Mi.mi1, Mi.mi2, Mi.mi3, Mi.mi4, Mi.mi5, Mi.mo0, Mi.mo1, Mi.mo2, Mi.mo3, Mi.mo8, Bool.false_eq_true, Mi.mo9, Nat.reduceAdd, Nat.reduceSub, Nat.reduceLeDiff, Nat.reduceLT, Nat.reduceEqDiff, Mi.mt0, List.getElem?_cons_zero, List.getElem?_cons_succ, List.set_cons_zero, List.set_cons_succ, List.map_cons, List.map_nil, List.length_cons, List.length_nil, List.nil_append, List.cons_append, List.append_nil, List.replicate_succ, List.replicate_zero, lim_v, reduceIte, decide_true, decide_false, Bool.not_true, Bool.not_false, Option.bind_some, Mi.lst_no, Mi.par2, Mi.par3, eq_self, and_self, Mi.mi6, Mi.mi7, Mi.mi8, Mi.mi9, Option.map_some, Mi.mi10, Mi.mi11, Mi.mi12, Mi.mi13, Mi.mi14, Mi.mi15, w1]
  have hf : FlatAll (List.set [.val v0, .own (m4.map D.int), .val flNR, .val jj, .val (nI t), .val J, .val (.lst Lk), s7, s8, s9, s10, s11, s12, s13, s14, .val K, .val (nI st), .val (nI sl), .val (.int dr), .val (.int la), s20, s21, s22, s23, s24, s25, s26] 7 (.val (.lst [.int u, .lst Lk, .lst Sc]))) := flatAll_of trivial (by
    simp only [List.set_cons_succ, List.set_cons_zero, List.forall_mem_cons, List.forall_mem_nil, and_true]
    refine ⟨?_, ?_, ?_, ?_, ?_, ?_, ?_, ?_, ?_, ?_, ?_, ?_, ?_, ?_, ?_, ?_, ?_, ?_, ?_, ?_, ?_, ?_, ?_, ?_, ?_⟩ <;> first | exact True.intro | assumption)
  refine Go.seq (Go.of (e' := [.val v0, .own (m4.map D.int), .val flNR, .val jj, .val (nI t), .val J, .val (.lst Lk), .un, s8, s9, s10, s11, s12, s13, s14, .val K, .val (nI st), .val (nI sl), .val (.int dr), .val (.int la), s20, s21, s22, s23, s24, s25, s26]) (lend_go (d := .lst [.int u, .lst Lk, .lst Sc]) (free_go ?_) (inner1 fz le2) (Nat.le_of_ble_eq_true rfl) hf ?_) ?_)
  · clear hf
    have fsO : ∀ l, freeS (.own l) = .un := fun _ => rfl
    as_aux_lemma =>
      simp only [freeE, seq_ap, Mi.mi0, Mi.mi1, Mi.mi2, Mi.mi3, Mi.mi4, Mi.mi5, Mi.mo0, Mi.mo1, Mi.mo2, Mi.mo3, Mi.mo8, Bool.false_eq_true, Mi.mo9, Nat.reduceAdd, Nat.reduceSub, Nat.reduceLeDiff, Nat.reduceLT, Nat.reduceEqDiff, Mi.mt0, List.getElem?_cons_zero, List.getElem?_cons_succ, List.set_cons_zero, List.set_cons_succ, List.map_cons, List.map_nil, List.length_cons, List.length_nil, List.nil_append, List.cons_append, List.append_nil, List.replicate_succ, List.replicate_zero, lim_v, reduceIte, decide_true, decide_false, Bool.not_true, Bool.not_false, Option.bind_some, Mi.lst_no, Mi.par2, Mi.par3, eq_self, and_self, Mi.mi6, Mi.mi7, Mi.mi8, Mi.mi9, Option.map_some, Mi.mi10, Mi.mi11, Mi.mi12, Mi.mi13, Mi.mi14, Mi.mi15, fsT, fsJ, fsO, nLc, wipeE, resE, r3, tn3, tl, ok25f, Option.getD_some, and_self]
  · clear hf
    as_aux_lemma =>
      simp only [seq_ap, Mi.mi0, Mi.mi1, Mi.mi2, Mi.mi3, Mi.mi4, Mi.mi5, Mi.mo0, Mi.mo1, Mi.mo2, Mi.mo3, Mi.mo8, Bool.false_eq_true, Mi.mo9, Nat.reduceAdd, Nat.reduceSub, Nat.reduceLeDiff, Nat.reduceLT, Nat.reduceEqDiff, Mi.mt0, List.getElem?_cons_zero, List.getElem?_cons_succ, List.set_cons_zero, List.set_cons_succ, List.map_cons, List.map_nil, List.length_cons, List.length_nil, List.nil_append, List.cons_append, List.append_nil, List.replicate_succ, List.replicate_zero, lim_v, reduceIte, decide_true, decide_false, Bool.not_true, Bool.not_false, Option.bind_some, Mi.lst_no, Mi.par2, Mi.par3, eq_self, and_self, Mi.mi6, Mi.mi7, Mi.mi8, Mi.mi9, Option.map_some, Mi.mi10, Mi.mi11, Mi.mi12, Mi.mi13, Mi.mi14, Mi.mi15, d2, ed, eu, gI1, nLc, wipeE, resE, cl, le1, ok20, so, sm1, Option.getD_some, and_self]
  refine Go.seq (Go.of (e' := [.val v0, .own (m5.map D.int), .val flNR, .val jj, .val (nI t), .val J, .val (.lst Lk), .un, y8, s9, s10, s11, s12, y13, s14, .val K, .val (nI st), .val (nI sl), .val (.int dr), .val (.int la), y20, .val (.str Cs), y22, s23, s24, s25, s26]) ?_ ?_)
  · as_aux_lemma =>
      simp only [seq_ap, Mi.mi0, Mi.mi1, Mi.mi2, Mi.mi3, Mi.mi4, Mi.mi5, Mi.mo0, Mi.mo1, Mi.mo2, Mi.mo3, Mi.mo8, Bool.false_eq_true, Mi.mo9, Nat.reduceAdd, Nat.reduceSub, Nat.reduceLeDiff, Nat.reduceLT, Nat.reduceEqDiff, Mi.mt0, List.getElem?_cons_zero, List.getElem?_cons_succ, List.set_cons_zero, List.set_cons_succ, List.map_cons, List.map_nil, List.length_cons, List.length_nil, List.nil_append, List.cons_append, List.append_nil, List.replicate_succ, List.replicate_zero, lim_v, reduceIte, decide_true, decide_false, Bool.not_true, Bool.not_false, Option.bind_some, Mi.lst_no, Mi.par2, Mi.par3, eq_self, and_self, Mi.mi6, Mi.mi7, Mi.mi8, Mi.mi9, Option.map_some, Mi.mi10, Mi.mi11, Mi.mi12, Mi.mi13, Mi.mi14, Mi.mi15, r8, tn8, lo]
  refine Go.seq (Go.of (e' := [.val v0, .own (m9.map D.int), .val flNR, .val jj, .val (nI t), .val J, .val (.lst Lk), .un, y8, .val C, s10, s11, s12, y13, s14, .val K, .val (nI st), .val (nI sl), .val (.int dr), .val (.int la), y20, .val (.str Cs), y22, s23, s24, s25, s26]) ?_ ?_)
  · as_aux_lemma =>
      simp only [seq_ap, Mi.mi0, Mi.mi1, Mi.mi2, Mi.mi3, Mi.mi4, Mi.mi5, Mi.mo0, Mi.mo1, Mi.mo2, Mi.mo3, Mi.mo8, Bool.false_eq_true, Mi.mo9, Nat.reduceAdd, Nat.reduceSub, Nat.reduceLeDiff, Nat.reduceLT, Nat.reduceEqDiff, Mi.mt0, List.getElem?_cons_zero, List.getElem?_cons_succ, List.set_cons_zero, List.set_cons_succ, List.map_cons, List.map_nil, List.length_cons, List.length_nil, List.nil_append, List.cons_append, List.append_nil, List.replicate_succ, List.replicate_zero, lim_v, reduceIte, decide_true, decide_false, Bool.not_true, Bool.not_false, Option.bind_some, Mi.lst_no, Mi.par2, Mi.par3, eq_self, and_self, Mi.mi6, Mi.mi7, Mi.mi8, Mi.mi9, Option.map_some, Mi.mi10, Mi.mi11, Mi.mi12, Mi.mi13, Mi.mi14, Mi.mi15, eCallB, io, h6, h7, h8, h9, pw, Sl.turn, ← cke]
  refine Go.seq (Go.of (e' := [.val v0, .own (m9.map D.int), .val flNR, .val jj, .val (nI t), .val J, .val (.lst Lk), .un, y8, .val C, .val (.int cn), s11, s12, y13, s14, .val K, .val (nI st), .val (nI sl), .val (.int dr), .val (.int la), y20, .val (.str Cs), y22, s23, s24, s25, s26]) ?_ ?_)
  · as_aux_lemma =>
      simp only [seq_ap, Mi.mi0, Mi.mi1, Mi.mi2, Mi.mi3, Mi.mi4, Mi.mi5, Mi.mo0, Mi.mo1, Mi.mo2, Mi.mo3, Mi.mo8, Bool.false_eq_true, Mi.mo9, Nat.reduceAdd, Nat.reduceSub, Nat.reduceLeDiff, Nat.reduceLT, Nat.reduceEqDiff, Mi.mt0, List.getElem?_cons_zero, List.getElem?_cons_succ, List.set_cons_zero, List.set_cons_succ, List.map_cons, List.map_nil, List.length_cons, List.length_nil, List.nil_append, List.cons_append, List.append_nil, List.replicate_succ, List.replicate_zero, lim_v, reduceIte, decide_true, decide_false, Bool.not_true, Bool.not_false, Option.bind_some, Mi.lst_no, Mi.par2, Mi.par3, eq_self, and_self, Mi.mi6, Mi.mi7, Mi.mi8, Mi.mi9, Option.map_some, Mi.mi10, Mi.mi11, Mi.mi12, Mi.mi13, Mi.mi14, Mi.mi15, gI1, gk0, gk1, gmI, e0, e1, ec]
  refine Go.seq (Go.ifF (e1 := [.val v0, .own (m9.map D.int), .val flNR, .val jj, .val (nI t), .val J, .val (.lst Lk), .un, y8, .val C, .val (.int cn), s11, s12, y13, s14, .val K, .val (nI st), .val (nI sl), .val (.int dr), .val (.int la), y20, .val (.str Cs), y22, s23, s24, s25, s26]) ?_ (Go.nx ?_))
  · as_aux_lemma =>
      simp only [seq_ap, Mi.mi0, Mi.mi1, Mi.mi2, Mi.mi3, Mi.mi4, Mi.mi5, Mi.mo0, Mi.mo1, Mi.mo2, Mi.mo3, Mi.mo8, Bool.false_eq_true, Mi.mo9, Nat.reduceAdd, Nat.reduceSub, Nat.reduceLeDiff, Nat.reduceLT, Nat.reduceEqDiff, Mi.mt0, List.getElem?_cons_zero, List.getElem?_cons_succ, List.set_cons_zero, List.set_cons_succ, List.map_cons, List.map_nil, List.length_cons, List.length_nil, List.nil_append, List.cons_append, List.append_nil, List.replicate_succ, List.replicate_zero, lim_v, reduceIte, decide_true, decide_false, Bool.not_true, Bool.not_false, Option.bind_some, Mi.lst_no, Mi.par2, Mi.par3, eq_self, and_self, Mi.mi6, Mi.mi7, Mi.mi8, Mi.mi9, Option.map_some, Mi.mi10, Mi.mi11, Mi.mi12, Mi.mi13, Mi.mi14, Mi.mi15, w5, fint, pk, sm2]
  refine Go.seq (Go.of (e' := [.val v0, .own (m9.map D.int), .val flNR, .val jj, .val (nI t), .val J, .val (.lst Lk), .un, y8, .val C, .val (.int cn), .val (.lst B6), s12, y13, s14, .val K, .val (nI st), .val (nI sl), .val (.int dr), .val (.int la), y20, .val (.str Cs), y22, s23, s24, s25, s26]) ?_ ?_)
  · as_aux_lemma =>
      simp only [seq_ap, Mi.mi0, Mi.mi1, Mi.mi2, Mi.mi3, Mi.mi4, Mi.mi5, Mi.mo0, Mi.mo1, Mi.mo2, Mi.mo3, Mi.mo8, Bool.false_eq_true, Mi.mo9, Nat.reduceAdd, Nat.reduceSub, Nat.reduceLeDiff, Nat.reduceLT, Nat.reduceEqDiff, Mi.mt0, List.getElem?_cons_zero, List.getElem?_cons_succ, List.set_cons_zero, List.set_cons_succ, List.map_cons, List.map_nil, List.length_cons, List.length_nil, List.nil_append, List.cons_append, List.append_nil, List.replicate_succ, List.replicate_zero, lim_v, reduceIte, decide_true, decide_false, Bool.not_true, Bool.not_false, Option.bind_some, Mi.lst_no, Mi.par2, Mi.par3, eq_self, and_self, Mi.mi6, Mi.mi7, Mi.mi8, Mi.mi9, Option.map_some, Mi.mi10, Mi.mi11, Mi.mi12, Mi.mi13, Mi.mi14, Mi.mi15, gsj, fls, gs3, hB6]
  refine Go.seq (Go.of (e' := [.val v0, .own (m9.map D.int), .val flNR, .val jj, .val (nI t), .val J, .val (.lst Lk), .un, y8, .val C, .val (.int cn), .val (.lst B9), s12, y13, s14, .val K, .val (nI st), .val (nI sl), .val (.int dr), .val (.int la), y20, .val (.str Cs), y22, s23, s24, s25, s26]) ?_ ?_)
  · as_aux_lemma =>
      simp only [seq_ap, Mi.mi0, Mi.mi1, Mi.mi2, Mi.mi3, Mi.mi4, Mi.mi5, Mi.mo0, Mi.mo1, Mi.mo2, Mi.mo3, Mi.mo8, Bool.false_eq_true, Mi.mo9, Nat.reduceAdd, Nat.reduceSub, Nat.reduceLeDiff, Nat.reduceLT, Nat.reduceEqDiff, Mi.mt0, List.getElem?_cons_zero, List.getElem?_cons_succ, List.set_cons_zero, List.set_cons_succ, List.map_cons, List.map_nil, List.length_cons, List.length_nil, List.nil_append, List.cons_append, List.append_nil, List.replicate_succ, List.replicate_zero, lim_v, reduceIte, decide_true, decide_false, Bool.not_true, Bool.not_false, Option.bind_some, Mi.lst_no, Mi.par2, Mi.par3, eq_self, and_self, Mi.mi6, Mi.mi7, Mi.mi8, Mi.mi9, Option.map_some, Mi.mi10, Mi.mi11, Mi.mi12, Mi.mi13, Mi.mi14, Mi.mi15, ga1]
  refine Go.seq (Go.of (e' := [.val v0, .own (m9.map D.int), .val flNR, .val jj, .val (nI t), .val J, .val (.lst Lk), .un, y8, .val C, .val (.int cn), .val (.lst (badC K a b c st sl dr la)), s12, y13, s14, .val K, .val (nI st), .val (nI sl), .val (.int dr), .val (.int la), y20, .val (.str Cs), y22, s23, s24, s25, s26]) ?_ ?_)
  · as_aux_lemma =>
      simp only [seq_ap, Mi.mi0, Mi.mi1, Mi.mi2, Mi.mi3, Mi.mi4, Mi.mi5, Mi.mo0, Mi.mo1, Mi.mo2, Mi.mo3, Mi.mo8, Bool.false_eq_true, Mi.mo9, Nat.reduceAdd, Nat.reduceSub, Nat.reduceLeDiff, Nat.reduceLT, Nat.reduceEqDiff, Mi.mt0, List.getElem?_cons_zero, List.getElem?_cons_succ, List.set_cons_zero, List.set_cons_succ, List.map_cons, List.map_nil, List.length_cons, List.length_nil, List.nil_append, List.cons_append, List.append_nil, List.replicate_succ, List.replicate_zero, lim_v, reduceIte, decide_true, decide_false, Bool.not_true, Bool.not_false, Option.bind_some, Mi.lst_no, Mi.par2, Mi.par3, eq_self, and_self, Mi.mi6, Mi.mi7, Mi.mi8, Mi.mi9, Option.map_some, Mi.mi10, Mi.mi11, Mi.mi12, Mi.mi13, Mi.mi14, Mi.mi15, ga2]
  refine Go.seq (Go.of (e' := [.val v0, .own (m9.map D.int), .val flNR, .val jj, .val (nI t), .val J, .val (.lst Lk), .un, y8, .val C, .val (.int cn), .val (.lst (badC K a b c st sl dr la)), .val (.lst badK), y13, s14, .val K, .val (nI st), .val (nI sl), .val (.int dr), .val (.int la), y20, .val (.str Cs), y22, s23, s24, s25, s26]) ?_ ?_)
  · as_aux_lemma =>
      simp only [seq_ap, Mi.mi0, Mi.mi1, Mi.mi2, Mi.mi3, Mi.mi4, Mi.mi5, Mi.mo0, Mi.mo1, Mi.mo2, Mi.mo3, Mi.mo8, Bool.false_eq_true, Mi.mo9, Nat.reduceAdd, Nat.reduceSub, Nat.reduceLeDiff, Nat.reduceLT, Nat.reduceEqDiff, Mi.mt0, List.getElem?_cons_zero, List.getElem?_cons_succ, List.set_cons_zero, List.set_cons_succ, List.map_cons, List.map_nil, List.length_cons, List.length_nil, List.nil_append, List.cons_append, List.append_nil, List.replicate_succ, List.replicate_zero, lim_v, reduceIte, decide_true, decide_false, Bool.not_true, Bool.not_false, Option.bind_some, Mi.lst_no, Mi.par2, Mi.par3, eq_self, and_self, Mi.mi6, Mi.mi7, Mi.mi8, Mi.mi9, Option.map_some, Mi.mi10, Mi.mi11, Mi.mi12, Mi.mi13, Mi.mi14, Mi.mi15, bke]
  refine Go.seq (Go.of (e' := [.val v0, .own (m9.map D.int), .val flNR, .val jj, .val (nI t), .val J, .val (.lst Lk), .un, y8, .val C, .val (.int cn), .val (.lst (badC K a b c st sl dr la)), .val (.lst badK), .val (.lst X3), s14, .val K, .val (nI st), .val (nI sl), .val (.int dr), .val (.int la), y20, .val (.str Cs), y22, s23, s24, s25, s26]) ?_ ?_)
  · as_aux_lemma =>
      simp only [seq_ap, Mi.mi0, Mi.mi1, Mi.mi2, Mi.mi3, Mi.mi4, Mi.mi5, Mi.mo0, Mi.mo1, Mi.mo2, Mi.mo3, Mi.mo8, Bool.false_eq_true, Mi.mo9, Nat.reduceAdd, Nat.reduceSub, Nat.reduceLeDiff, Nat.reduceLT, Nat.reduceEqDiff, Mi.mt0, List.getElem?_cons_zero, List.getElem?_cons_succ, List.set_cons_zero, List.set_cons_succ, List.map_cons, List.map_nil, List.length_cons, List.length_nil, List.nil_append, List.cons_append, List.append_nil, List.replicate_succ, List.replicate_zero, lim_v, reduceIte, decide_true, decide_false, Bool.not_true, Bool.not_false, Option.bind_some, Mi.lst_no, Mi.par2, Mi.par3, eq_self, and_self, Mi.mi6, Mi.mi7, Mi.mi8, Mi.mi9, Option.map_some, Mi.mi10, Mi.mi11, Mi.mi12, Mi.mi13, Mi.mi14, Mi.mi15, gm1, gm2, ga6, ga7, ga8]
  refine Go.seq (Go.ifF (e1 := [.val v0, .own (m9.map D.int), .val flNR, .val jj, .val (nI t), .val J, .val (.lst Lk), .un, y8, .val C, .val (.int cn), .val (.lst (badC K a b c st sl dr la)), .val (.lst badK), .val (.lst X3), s14, .val K, .val (nI st), .val (nI sl), .val (.int dr), .val (.int la), y20, .val (.str Cs), y22, s23, s24, s25, s26]) ?_ (Go.nx ?_))
  · as_aux_lemma =>
      simp only [seq_ap, Mi.mi0, Mi.mi1, Mi.mi2, Mi.mi3, Mi.mi4, Mi.mi5, Mi.mo0, Mi.mo1, Mi.mo2, Mi.mo3, Mi.mo8, Bool.false_eq_true, Mi.mo9, Nat.reduceAdd, Nat.reduceSub, Nat.reduceLeDiff, Nat.reduceLT, Nat.reduceEqDiff, Mi.mt0, List.getElem?_cons_zero, List.getElem?_cons_succ, List.set_cons_zero, List.set_cons_succ, List.map_cons, List.map_nil, List.length_cons, List.length_nil, List.nil_append, List.cons_append, List.append_nil, List.replicate_succ, List.replicate_zero, lim_v, reduceIte, decide_true, decide_false, Bool.not_true, Bool.not_false, Option.bind_some, Mi.lst_no, Mi.par2, Mi.par3, eq_self, and_self, Mi.mi6, Mi.mi7, Mi.mi8, Mi.mi9, Option.map_some, Mi.mi10, Mi.mi11, Mi.mi12, Mi.mi13, Mi.mi14, Mi.mi15, nLc, wipeE, resE, pw, ga3, ga4, l26, l26', ok26, x1l, x2l, ga5, sm3, Option.getD_some, and_self]
  refine Go.seq (Go.of (e' := [.val v0, .own (m11.map D.int), .val flNR, .val jj, .val (nI t), .val J, .val (.lst Lk), .un, y8, .val C, .val (.int cn), .val (.lst (badC K a b c st sl dr la)), .val (.lst badK), .val (.lst X3), s14, .val K, .val (nI st), .val (nI sl), .val (.int dr), .val (.int la), y20, .val (.str Cs), y22, .val ob, .val cell, s25, s26]) ?_ ?_)
  · as_aux_lemma =>
      simp only [seq_ap, Mi.mi0, Mi.mi1, Mi.mi2, Mi.mi3, Mi.mi4, Mi.mi5, Mi.mo0, Mi.mo1, Mi.mo2, Mi.mo3, Mi.mo8, Bool.false_eq_true, Mi.mo9, Nat.reduceAdd, Nat.reduceSub, Nat.reduceLeDiff, Nat.reduceLT, Nat.reduceEqDiff, Mi.mt0, List.getElem?_cons_zero, List.getElem?_cons_succ, List.set_cons_zero, List.set_cons_succ, List.map_cons, List.map_nil, List.length_cons, List.length_nil, List.nil_append, List.cons_append, List.append_nil, List.replicate_succ, List.replicate_zero, lim_v, reduceIte, decide_true, decide_false, Bool.not_true, Bool.not_false, Option.bind_some, Mi.lst_no, Mi.par2, Mi.par3, eq_self, and_self, Mi.mi6, Mi.mi7, Mi.mi8, Mi.mi9, Option.map_some, Mi.mi10, Mi.mi11, Mi.mi12, Mi.mi13, Mi.mi14, Mi.mi15, eCallB, io, h10, h11, Sl.turn]
  refine Go.seq (Go.of (e' := [.val v0, .own (m11.map D.int), .val flNR, .val jj, .val (nI t), .val J, .val (.lst Lk), .un, y8, .val C, .val (.int cn), .val (.lst (badC K a b c st sl dr la)), .val (.lst badK), .val (.lst X3), .val (.lst [.tup [.int 0, ob, nI t, .int 0], .tup [.int 1, ob, nI t, .int 0], .tup [.int 2, ob, nI t, .int 0], .tup [.int 0, J, cell, .int 0], .tup [.int 1, J, cell, .int 0], .tup [.int 2, J, cell, .int 0], .tup [.int 3, ob, .str Cs, nI t], .tup [.int 4, ob, .str Cs, nI t], .tup [.int 3, J, .str Cs, cell], .tup [.int 4, J, .str Cs, cell]]), .val K, .val (nI st), .val (nI sl), .val (.int dr), .val (.int la), y20, .val (.str Cs), y22, .val ob, .val cell, s25, s26]) ?_ ?_)
  · as_aux_lemma =>
      simp only [seq_ap, Mi.mi0, Mi.mi1, Mi.mi2, Mi.mi3, Mi.mi4, Mi.mi5, Mi.mo0, Mi.mo1, Mi.mo2, Mi.mo3, Mi.mo8, Bool.false_eq_true, Mi.mo9, Nat.reduceAdd, Nat.reduceSub, Nat.reduceLeDiff, Nat.reduceLT, Nat.reduceEqDiff, Mi.mt0, List.getElem?_cons_zero, List.getElem?_cons_succ, List.set_cons_zero, List.set_cons_succ, List.map_cons, List.map_nil, List.length_cons, List.length_nil, List.nil_append, List.cons_append, List.append_nil, List.replicate_succ, List.replicate_zero, lim_v, reduceIte, decide_true, decide_false, Bool.not_true, Bool.not_false, Option.bind_some, Mi.lst_no, Mi.par2, Mi.par3, eq_self, and_self, Mi.mi6, Mi.mi7, Mi.mi8, Mi.mi9, Option.map_some, Mi.mi10, Mi.mi11, Mi.mi12, Mi.mi13, Mi.mi14, Mi.mi15, nLc, wipeE, resE, r3, tn3, lA, lB, ok25, ga9, ga10, Option.getD_some, and_self]
  refine Go.seq (Go.of (e' := [.val v0, .own (m12.map D.int), .val flNR, .val jj, .val (nI t), .val J, .val (.lst Lk), .un, y8, .val C, .val (.int cn), .val (.lst (badC K a b c st sl dr la)), .val (.lst badK), .val (.lst X3), .val (.lst [.tup [.int 0, ob, nI t, .int 0], .tup [.int 1, ob, nI t, .int 0], .tup [.int 2, ob, nI t, .int 0], .tup [.int 0, J, cell, .int 0], .tup [.int 1, J, cell, .int 0], .tup [.int 2, J, cell, .int 0], .tup [.int 3, ob, .str Cs, nI t], .tup [.int 4, ob, .str Cs, nI t], .tup [.int 3, J, .str Cs, cell], .tup [.int 4, J, .str Cs, cell], .tup [.int 3, J, x4, cell], .tup [.int 4, J, x5, cell]]), .val K, .val (nI st), .val (nI sl), .val (.int dr), .val (.int la), y20, .val (.str Cs), y22, .val ob, .val cell, s25, s26]) ?_ ?_)
  · as_aux_lemma =>
      simp only [seq_ap, Mi.mi0, Mi.mi1, Mi.mi2, Mi.mi3, Mi.mi4, Mi.mi5, Mi.mo0, Mi.mo1, Mi.mo2, Mi.mo3, Mi.mo8, Bool.false_eq_true, Mi.mo9, Nat.reduceAdd, Nat.reduceSub, Nat.reduceLeDiff, Nat.reduceLT, Nat.reduceEqDiff, Mi.mt0, List.getElem?_cons_zero, List.getElem?_cons_succ, List.set_cons_zero, List.set_cons_succ, List.map_cons, List.map_nil, List.length_cons, List.length_nil, List.nil_append, List.cons_append, List.append_nil, List.replicate_succ, List.replicate_zero, lim_v, reduceIte, decide_true, decide_false, Bool.not_true, Bool.not_false, Option.bind_some, Mi.lst_no, Mi.par2, Mi.par3, eq_self, and_self, Mi.mi6, Mi.mi7, Mi.mi8, Mi.mi9, Option.map_some, Mi.mi10, Mi.mi11, Mi.mi12, Mi.mi13, Mi.mi14, Mi.mi15, nLc, wipeE, resE, l5, ok25, ga11, Option.getD_some, and_self]
  refine Go.seq (Go.of (e' := [.val v0, .own (m13.map D.int), .val flNR, .val jj, .val (nI t), .val J, .val (.lst Lk), .un, y8, .val C, .val (.int cn), .val (.lst (badC K a b c st sl dr la)), .val (.lst badK), .val (.lst X3), .val (.lst [.tup [.int 0, ob, nI t, .int 0], .tup [.int 1, ob, nI t, .int 0], .tup [.int 2, ob, nI t, .int 0], .tup [.int 0, J, cell, .int 0], .tup [.int 1, J, cell, .int 0], .tup [.int 2, J, cell, .int 0], .tup [.int 3, ob, .str Cs, nI t], .tup [.int 4, ob, .str Cs, nI t], .tup [.int 3, J, .str Cs, cell], .tup [.int 4, J, .str Cs, cell], .tup [.int 3, J, x4, cell], .tup [.int 4, J, x5, cell], .tup [.int 5, ok', nI st, nI t], .tup [.int 5, C, .int 0, nI t], .tup [.int 5, C, .int 601, nI t], .tup [.int 5, C, .bl true, nI t], .tup [.int 5, C, nI st, cell]]), .val K, .val (nI st), .val (nI sl), .val (.int dr), .val (.int la), y20, .val (.str Cs), y22, .val ob, .val cell, s25, s26]) ?_ ?_)
  · as_aux_lemma =>
      simp only [seq_ap, Mi.mi0, Mi.mi1, Mi.mi2, Mi.mi3, Mi.mi4, Mi.mi5, Mi.mo0, Mi.mo1, Mi.mo2, Mi.mo3, Mi.mo8, Bool.false_eq_true, Mi.mo9, Nat.reduceAdd, Nat.reduceSub, Nat.reduceLeDiff, Nat.reduceLT, Nat.reduceEqDiff, Mi.mt0, List.getElem?_cons_zero, List.getElem?_cons_succ, List.set_cons_zero, List.set_cons_succ, List.map_cons, List.map_nil, List.length_cons, List.length_nil, List.nil_append, List.cons_append, List.append_nil, List.replicate_succ, List.replicate_zero, lim_v, reduceIte, decide_true, decide_false, Bool.not_true, Bool.not_false, Option.bind_some, Mi.lst_no, Mi.par2, Mi.par3, eq_self, and_self, Mi.mi6, Mi.mi7, Mi.mi8, Mi.mi9, Option.map_some, Mi.mi10, Mi.mi11, Mi.mi12, Mi.mi13, Mi.mi14, Mi.mi15, eCallB, io, h13, ga12, Sl.turn]
  refine (Go.ifF (e1 := [.val v0, .own (m13.map D.int), .val flNR, .val jj, .val (nI t), .val J, .val (.lst Lk), .un, y8, .val C, .val (.int cn), .val (.lst (badC K a b c st sl dr la)), .val (.lst badK), .val (.lst X3), .val (.lst [.tup [.int 0, ob, nI t, .int 0], .tup [.int 1, ob, nI t, .int 0], .tup [.int 2, ob, nI t, .int 0], .tup [.int 0, J, cell, .int 0], .tup [.int 1, J, cell, .int 0], .tup [.int 2, J, cell, .int 0], .tup [.int 3, ob, .str Cs, nI t], .tup [.int 4, ob, .str Cs, nI t], .tup [.int 3, J, .str Cs, cell], .tup [.int 4, J, .str Cs, cell], .tup [.int 3, J, x4, cell], .tup [.int 4, J, x5, cell], .tup [.int 5, ok', nI st, nI t], .tup [.int 5, C, .int 0, nI t], .tup [.int 5, C, .int 601, nI t], .tup [.int 5, C, .bl true, nI t], .tup [.int 5, C, nI st, cell]]), .val K, .val (nI st), .val (nI sl), .val (.int dr), .val (.int la), y20, .val (.str Cs), y22, .val ob, .val cell, s25, s26]) ?_ (Go.nx ?_))
  · as_aux_lemma =>
      simp only [seq_ap, Mi.mi0, Mi.mi1, Mi.mi2, Mi.mi3, Mi.mi4, Mi.mi5, Mi.mo0, Mi.mo1, Mi.mo2, Mi.mo3, Mi.mo8, Bool.false_eq_true, Mi.mo9, Nat.reduceAdd, Nat.reduceSub, Nat.reduceLeDiff, Nat.reduceLT, Nat.reduceEqDiff, Mi.mt0, List.getElem?_cons_zero, List.getElem?_cons_succ, List.set_cons_zero, List.set_cons_succ, List.map_cons, List.map_nil, List.length_cons, List.length_nil, List.nil_append, List.cons_append, List.append_nil, List.replicate_succ, List.replicate_zero, lim_v, reduceIte, decide_true, decide_false, Bool.not_true, Bool.not_false, Option.bind_some, Mi.lst_no, Mi.par2, Mi.par3, eq_self, and_self, Mi.mi6, Mi.mi7, Mi.mi8, Mi.mi9, Option.map_some, Mi.mi10, Mi.mi11, Mi.mi12, Mi.mi13, Mi.mi14, Mi.mi15, nLc, wipeE, resE, l9, ok26, gm3, sm4, Option.getD_some, and_self]
  refine ⟨m13, _, _, _, _, _, _, _, _, _, _, _, _, _, _, _, _, _, _, _, _, _, _, _, _, rfl, ?_⟩
  simp only [List.forall_mem_cons, List.forall_mem_nil, and_true]
  refine ⟨?_, ?_, ?_, ?_, ?_, ?_, ?_, ?_, ?_, ?_, ?_, ?_, ?_, ?_, ?_, ?_, ?_, ?_, ?_, ?_, ?_, ?_, ?_, ?_⟩ <;> first | exact True.intro | assumption
end Lw
set_option maxHeartbeats 4000000
namespace Lw
open Mi L2
theorem law_ok {ns : List Int} (hn : ns.length ≤ 63) (hz : ∀ z ∈ ns, PySem.Builtin.Int.intBits z ≤ 1048576) : F_law [.rls (ns.map D.int)] = .ok (.bl true) := by
  obtain ⟨ms, h1⟩ := draws_eq hn hz
  obtain ⟨e', h2, hi⟩ := for_each (G := gN 3) (b := b_law_1) (Inv (.rls (ns.map D.int))) (rangeD 0 5) (.val (.rls (ns.map D.int)) :: .own (ms.map D.int) :: .val flNR :: List.replicate 24 .un) ⟨ms, .un, .un, .un, .un, .un, .un, .un, .un, .un, .un, .un, .un, .un, .un, .un, .un, .un, .un, .un, .un, .un, .un, .un, .un, rfl, by
    intro s hs
    simp only [List.mem_cons, List.mem_nil_iff, or_false, or_self] at hs
    subst hs
    trivial⟩ fun d hd e hi => ⟨_, rfl, turn_ok hi⟩
  have r4 : r62 5 = true := by decide
  have t4 : (5 : Int).toNat = 5 := rfl
  rw [show List.replicate 24 Sl.un = [.un, .un, .un, .un, .un, .un, .un, .un, .un, .un, .un, .un, .un, .un, .un, .un, .un, .un, .un, .un, .un, .un, .un, .un] from rfl] at h2
  unfold F_law m_law
  generalize F__law_draws = q0 at *
  generalize b_law_1 = q1 at *
  generalize D.rls (ns.map D.int) = v0 at *
  as_aux_lemma =>
    simp only [runA, seq_ap, Mi.mi0, Mi.mi1, Mi.mi2, Mi.mi3, Mi.mi4, Mi.mi5, Mi.mo0, Mi.mo1, Mi.mo2, Mi.mo3, Mi.mo8, Bool.false_eq_true, Mi.mo9, Nat.reduceAdd, Nat.reduceSub, Nat.reduceLeDiff, Nat.reduceLT, Nat.reduceEqDiff, Mi.mt0, List.getElem?_cons_zero, List.getElem?_cons_succ, List.set_cons_zero, List.set_cons_succ, List.map_cons, List.map_nil, List.length_cons, List.length_nil, List.nil_append, List.cons_append, List.append_nil, List.replicate_succ, List.replicate_zero, lim_v, reduceIte, decide_true, decide_false, Bool.not_true, Bool.not_false, Option.bind_some, Mi.lst_no, Mi.par2, Mi.par3, eq_self, and_self, Mi.mi6, Mi.mi7, Mi.mi8, Mi.mi9, Option.map_some, Mi.mi10, Mi.mi11, Mi.mi12, Mi.mi13, Mi.mi14, Mi.mi15, h1, r4, t4, h2]
end Lw
set_option maxHeartbeats 0
namespace Lw
open PySem PySem.Spec PyProof.Rows L2 Mi
def lo0 : List Str := ["CodeError", "NotRight", "NotThere", "NoAnswer", "TooLarge", "Malformed", "is_integer", "is_within", "check", "is_count", "power", "PRIME", "MOST_DIGITS", "is_key", "are_figures", "value_by", "told", "code_by", "LONGEST_STEP", "MOST_SLACK", "MOST_RATE", "MILLION", "is_clock_judge", "is_clock", "check_judge", "due_by", "due_count", "looked_by", "looked_at", "met_by"]
def lo1 : List Str := ["check_code", "clock_met", "judged_by", "clock_judged", "count_by", "clock_count", "taken_at", "_law_draws", "_law_take", "_law_pick", "_law_same", "_law_flags", "_law_key", "_law_code", "_law_judge", "_law_looked", "_law_told"]
def looseL : List Str := lo0 ++ lo1
abbrev Rw : PySem.W.OpenRow := PySem.W.OpenLaw.row PySem.Challenge.rw_oncecodes_k03_whole_judges_by_clocks
abbrev qv : Program := PySem.W.view Rw.prog [51]
abbrev hk : PySem.W.Hook := hookP 4 faL fnL (ckAll ckL)
def ob (s : PySem.W.SharedT) : Bool × He.AlD := obP 4 faL fnL (ckAll ckL) (HandSHeadRun.getT s)
theorem ob_eq (s : PySem.W.SharedT) : ob s = hk.obs s.abs := obP_eq (HandSHeadRun.getT_eq s)
theorem run (w : World) : HandSHeadRun.RunEq Rw qv hk ob 6000 looseL w := by
  intro os
  kernel_rfl
/-- the law of plain Lean that is left -/
def Plain : Prop := ∀ ns : List Int, ns.length ≤ 63 → (∀ z ∈ ns, Builtin.Int.intBits z ≤ 1048576) → F_law [.rls (ns.map D.int)] = .ok (.bl true)
end Lw
open PySem PySem.W PySem.Calls PyProof.Rows in
theorem Lw.holds_of (pl : Lw.Plain) : PySem.Challenge.rw_oncecodes_k03_whole_judges_by_clocks.Holds := by
  w_on; o_law
  refine HandSHeadRun.head_any (r := OpenLaw.row PySem.Challenge.rw_oncecodes_k03_whole_judges_by_clocks) (q := Lw.qv) (H := Lw.hk) (ob := Lw.ob) (M := 6000) (loose := Lw.looseL) (d := HandSHeadRun.topDef (OpenLaw.row PySem.Challenge.rw_oncecodes_k03_whole_judges_by_clocks).prog 51) (kwd := []) Lw.ob_eq
    (by kernel_rfl) (fun s => by kernel_rfl) Lw.run (by kernel_rfl) (by kernel_rfl) (by kernel_rfl) (by rfl) (by first | assumption | decide +kernel) (by decide +kernel) ⟨rfl, rfl, rfl, rfl, rfl, by decide +kernel⟩ ?hw ?hc
  case hw => w_witness2
  case hc =>
    refine LamX.walk_ofTsE (l := PySem.Challenge.rw_oncecodes_k03_whole_judges_by_clocks) (n := 63) (k := 9) (x := "script") (CX := fun w => L2.CX (PySem.Challenge.rw_oncecodes_k03_whole_judges_by_clocks).prog w) rfl (by decide) (by kernel_rfl) ⟨rfl, by decide, by decide⟩ ?F (fun _ _ _ _ _ ⟨_, _, _, _, _, _, _, _, _, _, _, _, z⟩ => z)
    intro w mg fa h Y G hmg0
    obtain ⟨K, KX, c, ck⟩ := Y
    have hmg : mg ("law" : PySem.Str) = some (.ref fa) := by
      have e : (HandSHeadRun.topDef (OpenLaw.row PySem.Challenge.rw_oncecodes_k03_whole_judges_by_clocks).prog 51).name = ("law" : PySem.Str) := by kernel_rfl
      rw [← e]
      exact hmg0
    have T := Lw.tx_of KX G c ck
    obtain ⟨fd, F⟩ := c.def_ 35 (d := Lw.dd_law) rfl
    have b := L2.FunD.bindsA (ps := ["script"]) F fun _ _ _ _ _ _ us hl => match us, hl with | [_], _ => rfl
    have e := hmg.symm.trans (He.glo_ok KX G (c.fact 35 (f := .glo "law") rfl))
    cases e
    refine ⟨K, KX, fd, [], Mi.spA K mg 1 false Lw.F_law, fun _ h => (nomatch h), fun _ h => (nomatch h), fun _ h => (nomatch h), fun s v => b s [v] rfl, fun H a ns hl hz _ hS => ?_, fun base _ _ _ => Lw.law_at T (He5.fun_of (st := Lw.st_law) F)⟩
    refine ⟨[.rls (ns.map Mi.D.int)], H, fun _ _ e => e, ?_, rfl, ?_⟩
    · refine Mi.DenL.cons ?_ Mi.DenL.nil
      simp only [Mi.Den]
      exact ⟨a, _, rfl, hS, Mi.denL_ints.2 rfl⟩
    · rw [pl ns hl hz]
      exact fun v H' s f => Mi.den_bl (f H' s fun _ _ e _ => e)
theorem PySem.Challenge.cw_oncecodes_k03_whole_judges_by_clocks_holds : PySem.Challenge.rw_oncecodes_k03_whole_judges_by_clocks.Holds := by
  exact Lw.holds_of fun ns h z => Lw.law_ok h z
