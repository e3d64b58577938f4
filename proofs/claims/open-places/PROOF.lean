import PyProof.Rows.All
import Wide.All
import OpenK.AllK
import Wide.FinOn
import HandS.ForMost
import HandS.Slots
import HandS.SlotsOwn
import HandS.HeadNt
import PySem.Challenge.RW_webwords_k75_whole_open_places
import KE.KStateDown
import HandS.Head0
import HandS.Head1
import HandS.Head2
import HandS.HeadEnd
import HandS.EndBits
import KE.GoesEnum
import KE.KDictWalk
import HandS.Walk
import KE.KDictList
import KE.KeyNested
import KE.KDictKeyed
import PyProof.DictMoreH
import KE.KDictDisplayH
import PyProof.ListStr
import HandS.ReCall
import HandS.Zip
import HandS.Property
import HandS.Defaults
import HandS.MakeKw
import HandS.MakeKwOnly
import HandS.IsInst
import HandS.DictComp
import HandS.Conv
import HandS.Wide
import HandS.Replace
import HandS.StrMore
import HandS.TupAny
import HandS.Codes
import HandS.Flow
import HandS.SetKeys
import PyProof.StrLawsChain
import HandS.WordsExc
set_option Elab.async false
section S_MathA

/-! Plain laws: queues (breadth-first orders), classes, least tables. -/
namespace MW
universe u v

/-! ### pigeonholes -/
theorem nodup_sub_le {α : Type u} [DecidableEq α] : ∀ {A B : List α}, A.Nodup → (∀ x ∈ A, x ∈ B) → A.length ≤ B.length
  | [], _, _, _ => Nat.zero_le _
  | a :: A, B, h, s => by
    have ha : a ∈ B := s a List.mem_cons_self
    have hn := List.nodup_cons.mp h
    have e := List.length_erase_of_mem ha
    have hp : 0 < B.length := List.length_pos_of_mem ha
    have ih := nodup_sub_le (A := A) (B := B.erase a) hn.2 (fun x hx => by
      have hne : x ≠ a := fun z => hn.1 (z ▸ hx)
      exact (List.mem_erase_of_ne hne).mpr (s x (List.mem_cons_of_mem _ hx)))
    rw [List.length_cons]
    omega

theorem nodup_lt_le {n : Nat} {A : List Nat} (h : A.Nodup) (s : ∀ x ∈ A, x < n) : A.length ≤ n := by
  have := nodup_sub_le h (B := List.range n) (fun x hx => List.mem_range.mpr (s x hx))
  rwa [List.length_range] at this

/-- a list no longer than a list without repeats all of whose items it has, has no repeats -/
theorem nodup_of_sub {α : Type u} [DecidableEq α] : ∀ {B A : List α}, A.Nodup → (∀ x ∈ A, x ∈ B) → B.length ≤ A.length → B.Nodup
  | [], _, _, _, _ => List.nodup_nil
  | b :: B, A, h, s, hl => by
    rw [List.length_cons] at hl
    by_cases hb : b ∈ B
    · exfalso
      have := nodup_sub_le h (B := B) (fun x hx => by
        rcases List.mem_cons.mp (s x hx) with rfl | z
        · exact hb
        · exact z)
      omega
    · refine List.nodup_cons.mpr ⟨hb, ?_⟩
      by_cases ha : b ∈ A
      · refine nodup_of_sub (A := A.erase b) (h.erase b) (fun x hx => ?_) ?_
        · have hx' := (List.Nodup.mem_erase_iff h).mp hx
          rcases List.mem_cons.mp (s x hx'.2) with z | z
          · exact absurd z hx'.1
          · exact z
        · rw [List.length_erase_of_mem ha]; omega
      · exfalso
        have := nodup_sub_le h (B := B) (fun x hx => by
          rcases List.mem_cons.mp (s x hx) with rfl | z
          · exact absurd hx ha
          · exact z)
        omega

theorem inj_of_nodup_map {α : Type u} {β : Type v} {f : α → β} : ∀ {l : List α}, (l.map f).Nodup → ∀ x ∈ l, ∀ y ∈ l, f x = f y → x = y
  | [], _, x, hx, _, _, _ => by cases hx
  | a :: l, h, x, hx, y, hy, e => by
    rw [List.map_cons] at h
    have hn := List.nodup_cons.mp h
    rcases List.mem_cons.mp hx with rfl | hx'
    · rcases List.mem_cons.mp hy with rfl | hy'
      · rfl
      · exact absurd (List.mem_map.mpr ⟨y, hy', e.symm⟩) hn.1
    · rcases List.mem_cons.mp hy with rfl | hy'
      · exact absurd (List.mem_map.mpr ⟨x, hx', e⟩) hn.1
      · exact inj_of_nodup_map hn.2 x hx' y hy' e

/-! ### queues: what is found, in order; key tells when two items are one -/
section
variable {ε : Type u} {κ : Type v} [DecidableEq κ] (key : ε → κ)
def add1 (L : List ε) (e : ε) : List ε := if key e ∈ L.map key then L else L ++ [e]
def grow (L es : List ε) : List ε := es.foldl (add1 key) L
theorem grow_nil (L : List ε) : grow key L [] = L := rfl
theorem grow_cons (L : List ε) (e : ε) (es : List ε) : grow key L (e :: es) = grow key (add1 key L e) es := rfl
theorem grow_append (L es fs : List ε) : grow key L (es ++ fs) = grow key (grow key L es) fs := by
  unfold grow; rw [List.foldl_append]
theorem grow_snoc (L es : List ε) (e : ε) : grow key L (es ++ [e]) = add1 key (grow key L es) e := grow_append key L es [e]
theorem add1_pre (L : List ε) (e : ε) : ∃ M, add1 key L e = L ++ M := by
  unfold add1
  split
  · exact ⟨[], (List.append_nil L).symm⟩
  · exact ⟨[e], rfl⟩
theorem grow_pre (es : List ε) : ∀ L : List ε, ∃ M, grow key L es = L ++ M := by
  induction es with
  | nil => intro L; exact ⟨[], (List.append_nil L).symm⟩
  | cons e es ih =>
    intro L
    obtain ⟨M, h⟩ := add1_pre key L e
    obtain ⟨N, h2⟩ := ih (add1 key L e)
    exact ⟨M ++ N, by rw [grow_cons, h2, h, List.append_assoc]⟩
theorem add1_nodup {L : List ε} {e : ε} (h : (L.map key).Nodup) : ((add1 key L e).map key).Nodup := by
  unfold add1
  split
  · exact h
  · rename_i hn
    rw [List.map_append, List.nodup_append]
    refine ⟨h, by simp, fun a ha b hb z => ?_⟩
    simp only [List.map_cons, List.map_nil, List.mem_singleton] at hb
    exact hn (by rw [← hb, ← z]; exact ha)
theorem grow_nodup (es : List ε) : ∀ {L : List ε}, (L.map key).Nodup → ((grow key L es).map key).Nodup := by
  induction es with
  | nil => intro L h; exact h
  | cons e es ih => intro L h; rw [grow_cons]; exact ih (add1_nodup key h)
theorem add1_key (L : List ε) (e : ε) : key e ∈ (add1 key L e).map key := by
  unfold add1
  split
  · assumption
  · simp
theorem grow_mono {L es : List ε} {k : κ} (h : k ∈ L.map key) : k ∈ (grow key L es).map key := by
  obtain ⟨M, e⟩ := grow_pre key es L
  rw [e, List.map_append]
  exact List.mem_append_left _ h
theorem grow_key (es : List ε) : ∀ (L : List ε) (e : ε), e ∈ es → key e ∈ (grow key L es).map key := by
  induction es with
  | nil => intro L e h; cases h
  | cons f es ih =>
    intro L e h
    rw [grow_cons]
    rcases List.mem_cons.mp h with rfl | h
    · exact grow_mono key (add1_key key L e)
    · exact ih _ e h
theorem add1_mem {L : List ε} {e x : ε} (h : x ∈ add1 key L e) : x ∈ L ∨ x = e := by
  unfold add1 at h
  split at h
  · exact .inl h
  · rcases List.mem_append.mp h with h | h
    · exact .inl h
    · exact .inr (List.mem_singleton.mp h)
theorem grow_mem (es : List ε) : ∀ {L : List ε} {x : ε}, x ∈ grow key L es → x ∈ L ∨ x ∈ es := by
  induction es with
  | nil => intro L x h; exact .inl h
  | cons e es ih =>
    intro L x h
    rw [grow_cons] at h
    rcases ih h with h | h
    · rcases add1_mem key h with h | h
      · exact .inl h
      · exact .inr (h ▸ List.mem_cons_self)
    · exact .inr (List.mem_cons_of_mem _ h)
/-- nothing new: nothing changes -/
theorem grow_same (es : List ε) : ∀ {L : List ε}, (∀ e ∈ es, key e ∈ L.map key) → grow key L es = L := by
  induction es with
  | nil => intro L _; rfl
  | cons e es ih =>
    intro L h
    rw [grow_cons]
    have e1 : add1 key L e = L := by unfold add1; rw [if_pos (h e List.mem_cons_self)]
    rw [e1]
    exact ih fun f hf => h f (List.mem_cons_of_mem _ hf)

variable (succ : ε → List ε) (e0 : ε)
/-- behind i turns of the queue that begins with e0, L is what was found -/
inductive Qu : Nat → List ε → Prop
  | start : Qu 0 [e0]
  | step {i : Nat} {L : List ε} {x : ε} : Qu i L → L[i]? = some x → Qu (i + 1) (grow key L (succ x))
variable {key succ e0}
theorem Qu.det {i : Nat} {L : List ε} (h : Qu key succ e0 i L) : ∀ {M : List ε}, Qu key succ e0 i M → L = M := by
  induction h with
  | start => intro M g; cases g; rfl
  | step h e ih =>
    intro M g
    cases g with
    | step g f =>
      have q := ih g
      subst q
      rw [e] at f
      cases f
      rfl
theorem Qu.pos {i : Nat} {L : List ε} (h : Qu key succ e0 i L) : 0 < L.length := by
  induction h with
  | start => exact Nat.zero_lt_one
  | step h e ih =>
    obtain ⟨M, q⟩ := grow_pre key (succ _) _
    rw [q, List.length_append]
    omega
theorem Qu.le {i : Nat} {L : List ε} (h : Qu key succ e0 i L) : i ≤ L.length := by
  induction h with
  | start => exact Nat.zero_le _
  | @step i L x h e ih =>
    obtain ⟨M, q⟩ := grow_pre key (succ x) L
    have := (List.getElem?_eq_some_iff.mp e).1
    rw [q, List.length_append]
    omega
theorem Qu.nodup {i : Nat} {L : List ε} (h : Qu key succ e0 i L) : (L.map key).Nodup := by
  induction h with
  | start => simp
  | step h e ih => exact grow_nodup key _ ih
theorem Qu.head {i : Nat} {L : List ε} (h : Qu key succ e0 i L) : L[0]? = some e0 := by
  induction h with
  | start => rfl
  | @step i L x h e ih =>
    obtain ⟨M, q⟩ := grow_pre key (succ x) L
    have := (List.getElem?_eq_some_iff.mp ih).1
    rw [q, List.getElem?_append_left this]
    exact ih
theorem Qu.mem {P : ε → Prop} (h0 : P e0) (hs : ∀ x, P x → ∀ y ∈ succ x, P y) {i : Nat} {L : List ε} (h : Qu key succ e0 i L) : ∀ x ∈ L, P x := by
  induction h with
  | start => intro x hx; rw [List.mem_singleton.mp hx]; exact h0
  | @step i L x h e ih =>
    intro y hy
    rcases grow_mem key (succ x) hy with z | z
    · exact ih y z
    · exact hs x (ih x (List.mem_of_getElem? e)) y z
/-- what was gone through has its followers among what was found -/
theorem Qu.closed {i : Nat} {L : List ε} (h : Qu key succ e0 i L) : ∀ j x, j < i → L[j]? = some x → ∀ y ∈ succ x, key y ∈ L.map key := by
  induction h with
  | start => intro j x hj; omega
  | @step i L x h e ih =>
    intro j z hj hz y hy
    obtain ⟨M, q⟩ := grow_pre key (succ x) L
    have hi := (List.getElem?_eq_some_iff.mp e).1
    have hz' : L[j]? = some z := by
      rw [q, List.getElem?_append_left (by omega)] at hz
      exact hz
    by_cases hji : j = i
    · subst hji
      rw [e] at hz'
      cases hz'
      exact grow_key key (succ x) L y hy
    · exact grow_mono key (ih j z (by omega) hz' y hy)
/-- two states of one queue: the shorter is a beginning of the longer -/
theorem Qu.pre {i : Nat} {L : List ε} (h : Qu key succ e0 i L) : ∀ {j : Nat} {M : List ε}, Qu key succ e0 j M → i ≤ j → ∃ N, M = L ++ N := by
  intro j M g
  induction g with
  | start =>
    intro hij
    have e : i = 0 := by omega
    subst e
    cases h
    exact ⟨[], (List.append_nil _).symm⟩
  | @step j M x g e ih =>
    intro hij
    by_cases hj : i ≤ j
    · obtain ⟨N, q⟩ := ih hj
      obtain ⟨N2, q2⟩ := grow_pre key (succ x) M
      exact ⟨N ++ N2, by rw [q2, q, List.append_assoc]⟩
    · have hi : i = j + 1 := by omega
      subst hi
      have q := h.det (Qu.step g e)
      exact ⟨[], by rw [q, List.append_nil]⟩
/-- the end is one -/
theorem Qu.done {L M : List ε} (h : Qu key succ e0 L.length L) (g : Qu key succ e0 M.length M) : L = M := by
  have aux : ∀ {L M : List ε}, Qu key succ e0 L.length L → Qu key succ e0 M.length M → L.length ≤ M.length → L = M := by
    intro L M h g hle
    by_cases e : L.length = M.length
    · rw [e] at h
      exact h.det g
    · exfalso
      have key2 : ∀ (j : Nat) (N : List ε), Qu key succ e0 j N → L.length < j → False := by
        intro j N k
        induction k with
        | start => intro z; omega
        | @step j N x k f ih =>
          intro z
          by_cases q : L.length < j
          · exact ih q
          · have hj : j = L.length := by omega
            subst hj
            have q := h.det k
            subst q
            rw [List.getElem?_eq_none_iff.mpr (Nat.le_refl _)] at f
            cases f
      exact key2 _ _ g (by omega)
  rcases Nat.le_total L.length M.length with q | q
  · exact aux h g q
  · exact (aux g h q).symm
/-- a queue among n keys ends within n turns: what is found is never longer -/
theorem Qu.len_le {B : List κ} (h0 : key e0 ∈ B) (hs : ∀ x, key x ∈ B → ∀ y ∈ succ x, key y ∈ B) {i : Nat} {L : List ε} (h : Qu key succ e0 i L) : L.length ≤ B.length := by
  have := nodup_sub_le h.nodup (B := B) (fun k hk => by
    obtain ⟨x, hx, rfl⟩ := List.mem_map.mp hk
    exact h.mem (P := fun x => key x ∈ B) h0 hs x hx)
  rwa [List.length_map] at this
/-- a complete queue exists -/
theorem Qu.exists_done {B : List κ} (h0 : key e0 ∈ B) (hs : ∀ x, key x ∈ B → ∀ y ∈ succ x, key y ∈ B) : ∃ L : List ε, Qu key succ e0 L.length L := by
  have aux : ∀ (m i : Nat) (L : List ε), Qu key succ e0 i L → B.length - i ≤ m → ∃ L : List ε, Qu key succ e0 L.length L := by
    intro m
    induction m with
    | zero =>
      intro i L h hm
      have h1 := h.le
      have h2 := h.len_le h0 hs
      exact ⟨L, by rw [show L.length = i by omega]; exact h⟩
    | succ m ih =>
      intro i L h hm
      by_cases e : i < L.length
      · exact ih (i + 1) _ (Qu.step h (List.getElem?_eq_getElem e)) (by omega)
      · have h1 := h.le
        exact ⟨L, by rw [show L.length = i by omega]; exact h⟩
  exact aux B.length 0 [e0] Qu.start (by omega)
end
end MW
end S_MathA

section S_MathB

/-! Plain laws: classes of states, least tables. -/
namespace MW
abbrev Rows := List (List Nat)
def suc (rows : Rows) (s : Nat) : List Nat := rows.getD s []
def nx (rows : Rows) (s a : Nat) : Nat := (suc rows s).getD a 0
structure Tab (k : Nat) (rows : Rows) : Prop where
  len : ∀ r ∈ rows, r.length = k
  lt : ∀ r ∈ rows, ∀ x ∈ r, x < rows.length
section
variable {k : Nat} {rows : Rows} {acc : Nat → Bool}
theorem Tab.at (_ : Tab k rows) {s : Nat} (hs : s < rows.length) : suc rows s ∈ rows := by
  unfold suc
  rw [List.getD_eq_getElem?_getD, List.getElem?_eq_getElem hs]
  exact List.getElem_mem hs
theorem Tab.sl (h : Tab k rows) {s : Nat} (hs : s < rows.length) : (suc rows s).length = k := h.len _ (h.at hs)
theorem Tab.sm (h : Tab k rows) {s : Nat} (hs : s < rows.length) : ∀ x ∈ suc rows s, x < rows.length := h.lt _ (h.at hs)
theorem Tab.nx_mem (h : Tab k rows) {s a : Nat} (hs : s < rows.length) (ha : a < k) : nx rows s a ∈ suc rows s := by
  unfold nx
  have := h.sl hs
  rw [List.getD_eq_getElem?_getD, List.getElem?_eq_getElem (by omega)]
  exact List.getElem_mem _
theorem Tab.nx_lt (h : Tab k rows) {s a : Nat} (hs : s < rows.length) (ha : a < k) : nx rows s a < rows.length := h.sm hs _ (h.nx_mem hs ha)
theorem nx_at {s a : Nat} {y : Nat} (h : (suc rows s)[a]? = some y) : nx rows s a = y := by
  unfold nx; rw [List.getD_eq_getElem?_getD, h]; rfl
theorem Tab.of_mem (h : Tab k rows) {s y : Nat} (hs : s < rows.length) (hy : y ∈ suc rows s) : ∃ a, a < k ∧ y = nx rows s a := by
  obtain ⟨a, ha, e⟩ := List.mem_iff_getElem.mp hy
  refine ⟨a, by rw [← h.sl hs]; exact ha, ?_⟩
  rw [nx_at (y := y)]
  rw [List.getElem?_eq_getElem ha, e]
theorem suc_eq (h : Tab k rows) {s : Nat} (hs : s < rows.length) : suc rows s = (List.range k).map (nx rows s) := by
  apply List.ext_getElem?
  intro i
  rw [List.getElem?_map]
  by_cases hi : i < k
  · rw [List.getElem?_range hi, Option.map_some]
    have := h.sl hs
    rw [List.getElem?_eq_getElem (by omega)]
    unfold nx
    rw [List.getD_eq_getElem?_getD, List.getElem?_eq_getElem (by omega)]
    rfl
  · have := h.sl hs
    rw [List.getElem?_eq_none_iff.mpr (by omega), List.getElem?_eq_none_iff.mpr (by rw [List.length_range]; omega)]
    rfl

/-! ### classes -/
def run (rows : Rows) (s : Nat) (w : List Nat) : Nat := w.foldl (nx rows) s
def Ner (rows : Rows) (k : Nat) (acc : Nat → Bool) (s t : Nat) : Prop := ∀ w : List Nat, (∀ a ∈ w, a < k) → acc (run rows s w) = acc (run rows t w)
theorem Ner.ac {s t : Nat} (h : Ner rows k acc s t) : acc s = acc t := h [] (fun _ z => nomatch z)
theorem Ner.nx {s t : Nat} (h : Ner rows k acc s t) {a : Nat} (ha : a < k) : Ner rows k acc (nx rows s a) (nx rows t a) := fun w hw =>
  h (a :: w) (fun b hb => by
    rcases List.mem_cons.mp hb with rfl | hb
    · exact ha
    · exact hw b hb)
theorem Ner.refl (s : Nat) : Ner rows k acc s s := fun _ _ => rfl
theorem Ner.symm {s t : Nat} (h : Ner rows k acc s t) : Ner rows k acc t s := fun w hw => (h w hw).symm

def Closed (rows : Rows) (k : Nat) (S : List Nat) : Prop := ∀ s ∈ S, s < rows.length ∧ ∀ a, a < k → nx rows s a ∈ S
/-- equal classes: alike accepted, and equal classes next -/
def Stable (rows : Rows) (k : Nat) (acc : Nat → Bool) (S : List Nat) (f : Nat → Nat) : Prop := ∀ s ∈ S, ∀ t ∈ S, f s = f t → acc s = acc t ∧ ∀ a, a < k → f (nx rows s a) = f (nx rows t a)
def Ref (rows : Rows) (k : Nat) (S : List Nat) (f g : Nat → Nat) : Prop := ∀ s ∈ S, ∀ t ∈ S, (g s = g t ↔ f s = f t ∧ ∀ a, a < k → f (nx rows s a) = f (nx rows t a))
/-- what holds behind each turn: no finer than the final classes, and parted by acceptance -/
structure Mid (rows : Rows) (k : Nat) (acc : Nat → Bool) (S : List Nat) (f : Nat → Nat) : Prop where
  ner : ∀ s ∈ S, ∀ t ∈ S, Ner rows k acc s t → f s = f t
  acc_ : ∀ s ∈ S, ∀ t ∈ S, f s = f t → acc s = acc t
def Fine (rows : Rows) (k : Nat) (acc : Nat → Bool) (S : List Nat) (f : Nat → Nat) : Prop := ∀ s ∈ S, ∀ t ∈ S, (f s = f t ↔ Ner rows k acc s t)
variable {S : List Nat} {f g : Nat → Nat}
theorem Mid.start (h : ∀ s ∈ S, f s = (acc s).toNat) : Mid rows k acc S f where
  ner := fun s hs t ht n => by rw [h s hs, h t ht, n.ac]
  acc_ := fun s hs t ht e => by
    rw [h s hs, h t ht] at e
    revert e
    cases acc s <;> cases acc t <;> decide
theorem Mid.next (m : Mid rows k acc S f) (c : Closed rows k S) (r : Ref rows k S f g) : Mid rows k acc S g where
  ner := fun s hs t ht n => (r s hs t ht).mpr ⟨m.ner s hs t ht n, fun a ha => m.ner _ ((c s hs).2 a ha) _ ((c t ht).2 a ha) (n.nx ha)⟩
  acc_ := fun s hs t ht e => m.acc_ s hs t ht ((r s hs t ht).mp e).1
theorem Stable.ner (c : Closed rows k S) (st : Stable rows k acc S f) : ∀ (w : List Nat), (∀ a ∈ w, a < k) → ∀ s ∈ S, ∀ t ∈ S, f s = f t → acc (run rows s w) = acc (run rows t w)
  | [], _, s, hs, t, ht, e => (st s hs t ht e).1
  | a :: w, hw, s, hs, t, ht, e => Stable.ner c st w (fun b hb => hw b (List.mem_cons_of_mem _ hb)) _ ((c s hs).2 a (hw a List.mem_cons_self)) _ ((c t ht).2 a (hw a List.mem_cons_self)) ((st s hs t ht e).2 a (hw a List.mem_cons_self))
theorem Mid.fine (m : Mid rows k acc S f) (c : Closed rows k S) (st : Stable rows k acc S f) : Fine rows k acc S f := fun s hs t ht =>
  ⟨fun e w hw => Stable.ner c st w hw s hs t ht e, m.ner s hs t ht⟩
theorem Fine.stable (h : Fine rows k acc S f) (c : Closed rows k S) : Stable rows k acc S f := fun s hs t ht e =>
  ⟨((h s hs t ht).mp e).ac, fun a ha => (h _ ((c s hs).2 a ha) _ ((c t ht).2 a ha)).mpr (((h s hs t ht).mp e).nx ha)⟩
theorem Fine.sub {S' : List Nat} (h : Fine rows k acc S f) (q : ∀ s ∈ S', s ∈ S) : Fine rows k acc S' f := fun s hs t ht => h s (q s hs) t (q t ht)

/-! ### how many classes -/
def cnt (f : Nat → Nat) (S : List Nat) : Nat := (grow f [] S).length
theorem reps_nodup (f : Nat → Nat) (S : List Nat) : ((grow f [] S).map f).Nodup := grow_nodup f S (by simp)
theorem reps_mem {f : Nat → Nat} {S : List Nat} {x : Nat} (h : x ∈ grow f [] S) : x ∈ S := by
  rcases grow_mem f S h with z | z
  · cases z
  · exact z
theorem reps_of {f : Nat → Nat} {S : List Nat} {x : Nat} (h : x ∈ S) : ∃ r ∈ grow f [] S, f r = f x := by
  obtain ⟨r, hr, e⟩ := List.mem_map.mp (grow_key f S [] x h)
  exact ⟨r, hr, e⟩
theorem cnt_le (f : Nat → Nat) {S B : List Nat} (h : ∀ s ∈ S, s ∈ B) : cnt f S ≤ B.length := by
  have h1 := reps_nodup f S
  have h2 : (grow f [] S).Nodup := by
    have := List.pairwise_map.mp h1
    exact this.imp fun h e => h (congrArg f e)
  exact nodup_sub_le h2 fun x hx => h x (reps_mem hx)
theorem cnt_pos (f : Nat → Nat) {S : List Nat} (h : S ≠ []) : 0 < cnt f S := by
  cases S with
  | nil => exact absurd rfl h
  | cons s S =>
    obtain ⟨r, hr, _⟩ := reps_of (f := f) (S := s :: S) List.mem_cons_self
    exact List.length_pos_of_mem hr
/-- a nodup list of just the values counts them -/
theorem cnt_of {f : Nat → Nat} {S : List Nat} {B : List Nat} (hB : B.Nodup) (h : ∀ v, v ∈ B ↔ ∃ s ∈ S, f s = v) : B.length = cnt f S := by
  have e1 : B.length ≤ ((grow f [] S).map f).length := nodup_sub_le hB fun v hv => by
    obtain ⟨s, hs, e⟩ := (h v).mp hv
    obtain ⟨r, hr, e2⟩ := reps_of (f := f) hs
    exact List.mem_map.mpr ⟨r, hr, e2.trans e⟩
  have e2 : ((grow f [] S).map f).length ≤ B.length := nodup_sub_le (reps_nodup f S) fun v hv => by
    obtain ⟨r, hr, e⟩ := List.mem_map.mp hv
    exact (h v).mpr ⟨r, reps_mem hr, e⟩
  rw [List.length_map] at e1 e2
  unfold cnt
  omega
theorem Ref.grows (r : Ref rows k S f g) (m : Mid rows k acc S f) : Stable rows k acc S f ∨ cnt f S < cnt g S := by
  by_cases h : cnt f S < cnt g S
  · exact .inr h
  · left
    have hsub : ∀ v ∈ (grow f [] S).map f, v ∈ (grow g [] S).map f := fun v hv => by
      obtain ⟨s, hs, e⟩ := List.mem_map.mp hv
      have hsS := reps_mem hs
      obtain ⟨t, ht, e2⟩ := reps_of (f := g) hsS
      exact List.mem_map.mpr ⟨t, ht, (((r t (reps_mem ht) s hsS).mp e2).1).trans e⟩
    have hn : ((grow g [] S).map f).Nodup := nodup_of_sub (reps_nodup f S) hsub (by
      rw [List.length_map, List.length_map]
      unfold cnt at h
      omega)
    intro s hs t ht e
    refine ⟨m.acc_ s hs t ht e, ?_⟩
    obtain ⟨s', hs', e1⟩ := reps_of (f := g) hs
    obtain ⟨t', ht', e2⟩ := reps_of (f := g) ht
    have f1 := ((r s' (reps_mem hs') s hs).mp e1).1
    have f2 := ((r t' (reps_mem ht') t ht).mp e2).1
    have q := inj_of_nodup_map hn s' hs' t' ht' (by rw [f1, f2, e])
    subst q
    exact ((r s hs t ht).mp (e1.symm.trans e2)).2
theorem Ref.stable (r : Ref rows k S f g) (c : Closed rows k S) (st : Stable rows k acc S f) : Stable rows k acc S g := fun s hs t ht e => by
  have h1 := (r s hs t ht).mp e
  have h2 := st s hs t ht h1.1
  refine ⟨h2.1, fun a ha => (r _ ((c s hs).2 a ha) _ ((c t ht).2 a ha)).mpr ⟨h2.2 a ha, fun b hb => ?_⟩⟩
  exact (st _ ((c s hs).2 a ha) _ ((c t ht).2 a ha) (h2.2 a ha)).2 b hb
/-- the program's loop ends: no more classes than the turn before -/
theorem Ref.ends (r : Ref rows k S f g) (m : Mid rows k acc S f) (c : Closed rows k S) (h : cnt g S ≤ cnt f S) : Fine rows k acc S g := by
  rcases r.grows m with st | q
  · exact (m.next c r).fine c (r.stable c st)
  · omega
/-- the law's rounds: behind i of them there are more than i classes, or nothing changes any more -/
def Rnd (rows : Rows) (k : Nat) (acc : Nat → Bool) (S : List Nat) (i : Nat) (f : Nat → Nat) : Prop := Mid rows k acc S f ∧ (Stable rows k acc S f ∨ i < cnt f S)
theorem Rnd.start (h : ∀ s ∈ S, f s = (acc s).toNat) (hS : S ≠ []) : Rnd rows k acc S 0 f := ⟨Mid.start h, .inr (cnt_pos f hS)⟩
theorem Rnd.next {i : Nat} (h : Rnd rows k acc S i f) (c : Closed rows k S) (r : Ref rows k S f g) : Rnd rows k acc S (i + 1) g := by
  refine ⟨h.1.next c r, ?_⟩
  rcases h.2 with st | q
  · exact .inl (r.stable c st)
  · rcases r.grows h.1 with st | z
    · exact .inl (r.stable c st)
    · exact .inr (by omega)
theorem Rnd.ends {n : Nat} (h : Rnd rows k acc S n f) (c : Closed rows k S) (hn : S.length ≤ n) : Fine rows k acc S f := by
  rcases h.2 with st | q
  · exact h.1.fine c st
  · have := cnt_le f (S := S) (B := S) (fun _ z => z)
    omega
end

/-! ### classes of a queue -/
section
variable {k : Nat} {rows : Rows} {acc : Nat → Bool} {m : Nat → Nat}
theorem grow_id (L : List Nat) (y : Nat) : add1 id L y = if y ∈ L then L else L ++ [y] := by
  unfold add1; rw [List.map_id]; rfl
theorem key_of_mem {L : List Nat} {y : Nat} (h : y ∈ L) : m y ∈ (grow m [] L).map m := grow_key m L [] y h
theorem reps_grow (ys : List Nat) : ∀ L : List Nat, grow m [] (grow id L ys) = grow m (grow m [] L) ys := by
  induction ys with
  | nil => intro L; rfl
  | cons y ys ih =>
    intro L
    rw [grow_cons, grow_cons, ih, grow_id]
    by_cases h : y ∈ L
    · rw [if_pos h]
      have e : add1 m (grow m [] L) y = grow m [] L := by unfold add1; rw [if_pos (key_of_mem h)]
      rw [e]
    · rw [if_neg h, grow_snoc]
theorem take_snoc {L : List Nat} {i x : Nat} (h : L[i]? = some x) : L.take (i + 1) = L.take i ++ [x] := by
  rw [List.take_add_one, h]; rfl
/-- the queue of classes follows that of states -/
theorem Qu.reps {s0 : Nat} (tb : Tab k rows) (h0 : s0 < rows.length) (cong : ∀ s t, s < rows.length → t < rows.length → m s = m t → ∀ a, a < k → m (nx rows s a) = m (nx rows t a))
    {i : Nat} {L : List Nat} (h : Qu id (suc rows) s0 i L) : Qu m (suc rows) s0 (grow m [] (L.take i)).length (grow m [] L) := by
  have hlt : ∀ {i : Nat} {L : List Nat}, Qu id (suc rows) s0 i L → ∀ x ∈ L, x < rows.length := fun h => h.mem (P := fun x => x < rows.length) h0 fun x hx y hy => tb.sm hx y hy
  induction h with
  | start => exact Qu.start
  | @step i L x h e ih =>
    have hi := (List.getElem?_eq_some_iff.mp e).1
    obtain ⟨N, hN⟩ := grow_pre id (suc rows x) L
    have e1 : (grow id L (suc rows x)).take (i + 1) = L.take i ++ [x] := by
      rw [hN, List.take_append_of_le_length (by omega), take_snoc e]
    rw [e1, reps_grow, grow_snoc]
    have hx := hlt h x (List.mem_of_getElem? e)
    by_cases hm : m x ∈ (grow m [] (L.take i)).map m
    · have e2 : add1 m (grow m [] (L.take i)) x = grow m [] (L.take i) := by unfold add1; rw [if_pos hm]
      rw [e2]
      obtain ⟨r, hr, er⟩ := List.mem_map.mp hm
      have hrL := reps_mem hr
      obtain ⟨j, hj, ej⟩ := List.mem_iff_getElem.mp hrL
      rw [List.length_take] at hj
      have hjL : L[j]? = some r := by
        rw [List.getElem?_eq_getElem (by omega)]
        rw [List.getElem_take] at ej
        rw [ej]
      have hrlt := hlt h r (List.mem_of_getElem? hjL)
      have e4 : grow m (grow m [] L) (suc rows x) = grow m [] L := by
        refine grow_same m _ ?_
        intro y hy
        obtain ⟨a, ha, rfl⟩ := tb.of_mem hx hy
        rw [← cong r x hrlt hx er a ha]
        refine key_of_mem ?_
        have := h.closed j r (by omega) hjL (nx rows r a) (tb.nx_mem hrlt ha)
        rwa [List.map_id] at this
      rw [e4]
      exact ih
    · have e2 : add1 m (grow m [] (L.take i)) x = grow m [] (L.take i) ++ [x] := by unfold add1; rw [if_neg hm]
      rw [e2, List.length_append]
      refine Qu.step ih ?_
      have e3 : grow m [] L = grow m (grow m [] (L.take i) ++ [x]) (L.drop (i + 1)) := by
        have q : L = L.take i ++ ([x] ++ L.drop (i + 1)) := by
          rw [← List.append_assoc, ← take_snoc e, List.take_append_drop]
        conv => lhs; rw [q]
        rw [grow_append, grow_append]
        show grow m (add1 m (grow m [] (L.take i)) x) _ = _
        rw [e2]
      obtain ⟨M, hM⟩ := grow_pre m (L.drop (i + 1)) (grow m [] (L.take i) ++ [x])
      rw [e3, hM, List.append_assoc, List.getElem?_append_right (Nat.le_refl _), Nat.sub_self]
      rfl
theorem Qu.reps_done {s0 : Nat} (tb : Tab k rows) (h0 : s0 < rows.length) (cong : ∀ s t, s < rows.length → t < rows.length → m s = m t → ∀ a, a < k → m (nx rows s a) = m (nx rows t a))
    {L : List Nat} (h : Qu id (suc rows) s0 L.length L) : Qu m (suc rows) s0 (grow m [] L).length (grow m [] L) := by
  have := h.reps tb h0 cong
  rwa [List.take_length] at this
end
end MW
end S_MathB

section S_MathC
set_option linter.all false
/-! Plain laws: the least table. -/
namespace MW
def ix (m : Nat → Nat) (R : List Nat) (s : Nat) : Nat := (R.map m).idxOf (m s)
def tabR (rows : Rows) (m : Nat → Nat) (R : List Nat) : Rows := R.map fun r => (suc rows r).map (ix m R)
def tabA (acc : Nat → Bool) (R : List Nat) : List Nat := (List.range R.length).filter fun i => acc (R.getD i 0)
/-- T, A: the least table of these rows, its accepted states -/
def Least (k : Nat) (rows : Rows) (acc : Nat → Bool) (s0 : Nat) (T : Rows) (A : List Nat) : Prop :=
  ∃ (S : List Nat) (m : Nat → Nat), Qu id (suc rows) s0 S.length S ∧ Fine rows k acc S m ∧ T = tabR rows m (grow m [] S) ∧ A = tabA acc (grow m [] S)
section
variable {k : Nat} {rows : Rows} {acc : Nat → Bool} {s0 : Nat} {m m' : Nat → Nat} {S R : List Nat}
theorem Qu.lt (tb : Tab k rows) (h0 : s0 < rows.length) {i : Nat} {L : List Nat} (h : Qu id (suc rows) s0 i L) : ∀ x ∈ L, x < rows.length :=
  h.mem (P := fun x => x < rows.length) h0 fun x hx y hy => tb.sm hx y hy
theorem Qu.closed_of (tb : Tab k rows) (h0 : s0 < rows.length) (h : Qu id (suc rows) s0 S.length S) : Closed rows k S := fun s hs => by
  refine ⟨h.lt tb h0 s hs, fun a ha => ?_⟩
  obtain ⟨j, hj, e⟩ := List.mem_iff_getElem.mp hs
  have := h.closed j s hj (by rw [List.getElem?_eq_getElem hj, e]) (nx rows s a) (tb.nx_mem (h.lt tb h0 s hs) ha)
  rwa [List.map_id] at this
theorem closed_all (tb : Tab k rows) : Closed rows k (List.range rows.length) := fun s hs =>
  ⟨List.mem_range.mp hs, fun a ha => List.mem_range.mpr (tb.nx_lt (List.mem_range.mp hs) ha)⟩
theorem Qu.all_done (tb : Tab k rows) (h0 : s0 < rows.length) : ∃ L, Qu id (suc rows) s0 L.length L :=
  Qu.exists_done (B := List.range rows.length) (List.mem_range.mpr h0) fun x hx y hy => List.mem_range.mpr (tb.sm (List.mem_range.mp hx) y hy)

/-! the reps do not ask how the classes are named -/
theorem grow_congr (ys : List Nat) : ∀ L : List Nat, (∀ s ∈ L ++ ys, ∀ t ∈ L ++ ys, (m s = m t ↔ m' s = m' t)) → grow m L ys = grow m' L ys := by
  induction ys with
  | nil => intro L _; rfl
  | cons y ys ih =>
    intro L h
    rw [grow_cons, grow_cons]
    have e : add1 m L y = add1 m' L y := by
      unfold add1
      have q : m y ∈ L.map m ↔ m' y ∈ L.map m' := by
        rw [List.mem_map, List.mem_map]
        constructor
        · rintro ⟨x, hx, e⟩
          exact ⟨x, hx, (h x (List.mem_append_left _ hx) y (by simp)).mp e⟩
        · rintro ⟨x, hx, e⟩
          exact ⟨x, hx, (h x (List.mem_append_left _ hx) y (by simp)).mpr e⟩
      by_cases z : m y ∈ L.map m
      · rw [if_pos z, if_pos (q.mp z)]
      · rw [if_neg z, if_neg (fun w => z (q.mpr w))]
    rw [e]
    refine ih _ fun s hs t ht => h s ?_ t ?_
    · rcases List.mem_append.mp hs with z | z
      · rcases add1_mem m' z with z | z
        · exact List.mem_append_left _ z
        · subst z; simp
      · simp [z]
    · rcases List.mem_append.mp ht with z | z
      · rcases add1_mem m' z with z | z
        · exact List.mem_append_left _ z
        · subst z; simp
      · simp [z]
theorem ix_congr {s : Nat} : ∀ {R : List Nat}, (∀ t ∈ R, (m t = m s ↔ m' t = m' s)) → ix m R s = ix m' R s
  | [], _ => rfl
  | r :: R, h => by
    unfold ix
    rw [List.map_cons, List.map_cons, List.idxOf_cons, List.idxOf_cons]
    have ih := ix_congr (R := R) fun t ht => h t (List.mem_cons_of_mem _ ht)
    unfold ix at ih
    have q := h r List.mem_cons_self
    by_cases z : m r = m s
    · rw [beq_iff_eq.mpr z, beq_iff_eq.mpr (q.mp z)]
      rfl
    · rw [beq_eq_false_iff_ne.mpr z, beq_eq_false_iff_ne.mpr (fun w => z (q.mpr w)), ih]
theorem Least.uniq (tb : Tab k rows) (h0 : s0 < rows.length) {T T' : Rows} {A A' : List Nat} (h : Least k rows acc s0 T A) (h' : Least k rows acc s0 T' A') : T = T' ∧ A = A' := by
  obtain ⟨S, m, q, f, rfl, rfl⟩ := h
  obtain ⟨S', m', q', f', rfl, rfl⟩ := h'
  have e := q.done q'
  subst e
  have hc := q.closed_of tb h0
  have same : ∀ s ∈ S, ∀ t ∈ S, (m s = m t ↔ m' s = m' t) := fun s hs t ht => (f s hs t ht).trans (f' s hs t ht).symm
  have e1 : grow m [] S = grow m' [] S := grow_congr S [] (by simpa using same)
  rw [e1]
  refine ⟨?_, rfl⟩
  unfold tabR
  refine List.map_congr_left fun r hr => List.map_congr_left fun y hy => ix_congr fun t ht => same t (reps_mem ht) y ?_
  have hr' := hc r (reps_mem hr)
  obtain ⟨a, ha, rfl⟩ := tb.of_mem hr'.1 hy
  exact hr'.2 a ha
theorem Least.of_law (tb : Tab k rows) (h0 : s0 < rows.length) (f : Fine rows k acc (List.range rows.length) m) (q : Qu m (suc rows) s0 R.length R) : Least k rows acc s0 (tabR rows m R) (tabA acc R) := by
  obtain ⟨S, hS⟩ := Qu.all_done tb h0
  have st := f.stable (closed_all tb)
  have e := q.done (hS.reps_done tb h0 fun s t hs ht e a ha => (st s (List.mem_range.mpr hs) t (List.mem_range.mpr ht) e).2 a ha)
  exact ⟨S, m, hS, f.sub fun s hs => List.mem_range.mpr (hS.lt tb h0 s hs), by rw [e], by rw [e]⟩

/-! ### what the least table does -/
theorem ix_at {R : List Nat} {s : Nat} (h : m s ∈ R.map m) : ix m R s < R.length ∧ ∃ r, R[ix m R s]? = some r ∧ m r = m s := by
  have h1 : (R.map m).idxOf (m s) < (R.map m).length := List.idxOf_lt_length_iff.mpr h
  have h2 := List.getElem_idxOf h1
  have h3 : ix m R s < R.length := by rw [List.length_map] at h1; exact h1
  refine ⟨h3, R[ix m R s], List.getElem?_eq_getElem h3, ?_⟩
  have e : (R.map m)[(R.map m).idxOf (m s)] = m (R[ix m R s]) := List.getElem_map ..
  exact e.symm.trans h2
theorem ix_self {R : List Nat} (hn : (R.map m).Nodup) {i r : Nat} (h : R[i]? = some r) {s : Nat} (e : m r = m s) : ix m R s = i := by
  have hi := (List.getElem?_eq_some_iff.mp h).1
  have hmem : m s ∈ R.map m := List.mem_map.mpr ⟨r, List.mem_of_getElem? h, e⟩
  obtain ⟨h1, r', h2, h3⟩ := ix_at hmem
  have hp := List.pairwise_iff_getElem.mp hn
  have g1 : ∀ (j : Nat) (hj : j < (R.map m).length), (R.map m)[j] = m (R[j]'(by simpa using hj)) := fun j hj => by simp
  rcases Nat.lt_trichotomy (ix m R s) i with z | z | z
  · exfalso
    refine hp (ix m R s) i (by simpa using h1) (by simpa using hi) z ?_
    rw [g1, g1]
    have a1 := (List.getElem?_eq_some_iff.mp h2).2
    have a2 := (List.getElem?_eq_some_iff.mp h).2
    rw [a1, a2, h3, e]
  · exact z
  · exfalso
    refine hp i (ix m R s) (by simpa using hi) (by simpa using h1) z ?_
    rw [g1, g1]
    have a1 := (List.getElem?_eq_some_iff.mp h2).2
    have a2 := (List.getElem?_eq_some_iff.mp h).2
    rw [a1, a2, h3, e]
theorem ix_pre {M N : List Nat} {s : Nat} (h : m s ∈ M.map m) : ix m (M ++ N) s = ix m M s := by
  unfold ix
  rw [List.map_append, List.idxOf_append, if_pos h]
theorem tab_suc {i r : Nat} (h : R[i]? = some r) : suc (tabR rows m R) i = (suc rows r).map (ix m R) := by
  unfold suc tabR
  rw [List.getD_eq_getElem?_getD, List.getElem?_map, h]
  rfl
structure Fit (k : Nat) (rows : Rows) (acc : Nat → Bool) (s0 : Nat) (S : List Nat) (m : Nat → Nat) : Prop where
  tb : Tab k rows
  h0 : s0 < rows.length
  q : Qu id (suc rows) s0 S.length S
  f : Fine rows k acc S m
section
variable (F : Fit k rows acc s0 S m)
include F
theorem Fit.cl : Closed rows k S := F.q.closed_of F.tb F.h0
theorem Fit.st : Stable rows k acc S m := F.f.stable F.cl
theorem Fit.at {s : Nat} (h : s ∈ S) : ix m (grow m [] S) s < (grow m [] S).length ∧ ∃ r, (grow m [] S)[ix m (grow m [] S) s]? = some r ∧ r ∈ S ∧ m r = m s := by
  obtain ⟨r, hr, e⟩ := reps_of (f := m) h
  obtain ⟨h1, r', h2, h3⟩ := ix_at (R := grow m [] S) (List.mem_map.mpr ⟨r, hr, e⟩)
  exact ⟨h1, r', h2, reps_mem (List.mem_of_getElem? h2), h3⟩
theorem Fit.nx {i r a : Nat} (h : (grow m [] S)[i]? = some r) (ha : a < k) : _root_.MW.nx (tabR rows m (grow m [] S)) i a = ix m (grow m [] S) (_root_.MW.nx rows r a) := by
  have hr := F.cl r (reps_mem (List.mem_of_getElem? h))
  refine nx_at ?_
  rw [tab_suc h, List.getElem?_map]
  have hl := F.tb.sl hr.1
  rw [List.getElem?_eq_getElem (by omega)]
  unfold MW.nx
  rw [List.getD_eq_getElem?_getD, List.getElem?_eq_getElem (by omega)]
  rfl
theorem Fit.tab : Tab k (tabR rows m (grow m [] S)) where
  len := fun r hr => by
    obtain ⟨s, hs, rfl⟩ := List.mem_map.mp hr
    rw [List.length_map]
    exact F.tb.sl (F.cl s (reps_mem hs)).1
  lt := fun r hr x hx => by
    obtain ⟨s, hs, rfl⟩ := List.mem_map.mp hr
    obtain ⟨y, hy, rfl⟩ := List.mem_map.mp hx
    have hc := F.cl s (reps_mem hs)
    obtain ⟨a, ha, rfl⟩ := F.tb.of_mem hc.1 hy
    unfold tabR
    rw [List.length_map]
    exact (F.at (hc.2 a ha)).1
theorem Fit.run : ∀ (w : List Nat), (∀ a ∈ w, a < k) → ∀ (i r s : Nat), (grow m [] S)[i]? = some r → s ∈ S → m r = m s →
    ∃ r', (grow m [] S)[_root_.MW.run (tabR rows m (grow m [] S)) i w]? = some r' ∧ r' ∈ S ∧ _root_.MW.run rows s w ∈ S ∧ m r' = m (_root_.MW.run rows s w)
  | [], _, i, r, s, h, hs, e => ⟨r, h, reps_mem (List.mem_of_getElem? h), hs, e⟩
  | a :: w, hw, i, r, s, h, hs, e => by
    have ha := hw a List.mem_cons_self
    have hr := reps_mem (List.mem_of_getElem? h)
    have hr2 := (F.cl r hr).2 a ha
    have hs2 := (F.cl s hs).2 a ha
    obtain ⟨h1, r1, h2, h3, h4⟩ := F.at hr2
    have e2 : m r1 = m (_root_.MW.nx rows s a) := h4.trans ((F.st r hr s hs e).2 a ha)
    have ih := Fit.run w (fun b hb => hw b (List.mem_cons_of_mem _ hb)) (_root_.MW.nx (tabR rows m (grow m [] S)) i a) r1 (_root_.MW.nx rows s a) (by rw [F.nx h ha]; exact h2) hs2 e2
    exact ih
theorem Fit.mem_acc {i r : Nat} (h : (grow m [] S)[i]? = some r) : decide (i ∈ tabA acc (grow m [] S)) = acc r := by
  unfold tabA
  have hi := (List.getElem?_eq_some_iff.mp h).1
  have e : (grow m [] S).getD i 0 = r := by rw [List.getD_eq_getElem?_getD, h]; rfl
  rw [Bool.eq_iff_iff, decide_eq_true_iff, List.mem_filter, List.mem_range, e]
  exact ⟨fun z => z.2, fun z => ⟨hi, z⟩⟩
theorem Fit.parted {i j r t : Nat} (hi : (grow m [] S)[i]? = some r) (hj : (grow m [] S)[j]? = some t)
    (n : Ner (tabR rows m (grow m [] S)) k (fun i => decide (i ∈ tabA acc (grow m [] S))) i j) : i = j := by
  have hr := reps_mem (List.mem_of_getElem? hi)
  have ht := reps_mem (List.mem_of_getElem? hj)
  have e : m r = m t := (F.f r hr t ht).mpr fun w hw => by
    obtain ⟨r1, a1, a2, a3, a4⟩ := F.run w hw i r r hi hr rfl
    obtain ⟨t1, b1, b2, b3, b4⟩ := F.run w hw j t t hj ht rfl
    have z : decide (_ ∈ tabA acc (grow m [] S)) = decide (_ ∈ tabA acc (grow m [] S)) := n w hw
    rw [F.mem_acc a1, F.mem_acc b1, (F.st r1 a2 _ a3 a4).1, (F.st t1 b2 _ b3 b4).1] at z
    exact z
  have h1 := ix_self (reps_nodup m S) hi (s := t) e
  have h2 := ix_self (reps_nodup m S) hj (s := t) rfl
  omega
theorem Fit.comm {a b : Nat} (ha : a < k) (hb : b < k) (h : ∀ s, s < rows.length → _root_.MW.nx rows (_root_.MW.nx rows s a) b = _root_.MW.nx rows (_root_.MW.nx rows s b) a) {i : Nat} (hi : i < (grow m [] S).length) :
    _root_.MW.nx (tabR rows m (grow m [] S)) (_root_.MW.nx (tabR rows m (grow m [] S)) i a) b = _root_.MW.nx (tabR rows m (grow m [] S)) (_root_.MW.nx (tabR rows m (grow m [] S)) i b) a := by
  have e := List.getElem?_eq_getElem hi
  have hr := reps_mem (List.mem_of_getElem? e)
  obtain ⟨r1, a1, _, _, a4⟩ := F.run [a, b] (by simp [ha, hb]) i _ _ e hr rfl
  obtain ⟨r2, b1, _, _, b4⟩ := F.run [b, a] (by simp [ha, hb]) i _ _ e hr rfl
  have z : m r1 = m r2 := by
    rw [a4, b4]
    exact congrArg m (h _ (F.cl _ hr).1)
  have h1 := ix_self (reps_nodup m S) a1 (s := r2) z
  have h2 := ix_self (reps_nodup m S) b1 (s := r2) rfl
  exact h1.symm.trans h2
end
theorem grow_range (n : Nat) : grow id [] (List.range n) = List.range n := by
  induction n with
  | zero => rfl
  | succ n ih =>
    rw [List.range_succ, grow_snoc, ih, grow_id, if_neg (by simp)]
theorem ix_range {n s : Nat} (h : s < n) : ix id (List.range n) s = s := by
  refine ix_self (m := id) (by rw [List.map_id]; exact List.nodup_range) (i := s) (r := s) (List.getElem?_range h) rfl
theorem tabR_id {T : Rows} (tb : Tab k T) : tabR T id (List.range T.length) = T := by
  apply List.ext_getElem?
  intro i
  by_cases hi : i < T.length
  · unfold tabR
    rw [List.getElem?_map, List.getElem?_range hi, Option.map_some]
    have e : suc T i = T[i] := by
      unfold suc
      rw [List.getD_eq_getElem?_getD, List.getElem?_eq_getElem hi]
      rfl
    rw [List.getElem?_eq_getElem hi, ← e]
    congr 1
    conv => rhs; rw [← List.map_id (suc T i)]
    exact List.map_congr_left fun x hx => ix_range (tb.sm hi x hx)
  · unfold tabR
    rw [List.getElem?_eq_none_iff.mpr (show T.length ≤ i by omega), List.getElem?_eq_none_iff.mpr (show (List.map _ _).length ≤ i by rw [List.length_map, List.length_range]; omega)]
theorem tabA_id (n : Nat) (p : Nat → Bool) : tabA p (List.range n) = (List.range n).filter p := by
  unfold tabA
  rw [List.length_range]
  refine List.filter_congr fun i hi => ?_
  have e : (List.range n).getD i 0 = i := by
    rw [List.getD_eq_getElem?_getD, List.getElem?_range (List.mem_range.mp hi)]
    rfl
  rw [e]
/-- the least table, gone through from its start, is met in its own order -/
theorem Fit.order (F : Fit k rows acc s0 S m) : Qu id (suc (tabR rows m (grow m [] S))) 0 (tabR rows m (grow m [] S)).length (List.range (tabR rows m (grow m [] S)).length) := by
  have hst : ∀ s t, s ∈ S → t ∈ S → m s = m t → ∀ a, a < k → m (_root_.MW.nx rows s a) = m (_root_.MW.nx rows t a) := fun s t hs ht e a ha => (F.st s hs t ht e).2 a ha
  -- the queue of classes of these rows
  have hq : ∀ {i : Nat} {L : List Nat}, Qu id (suc rows) s0 i L → Qu m (suc rows) s0 (grow m [] (L.take i)).length (grow m [] L) := by
    intro i L h
    have hin : ∀ {i : Nat} {L : List Nat}, Qu id (suc rows) s0 i L → ∀ x ∈ L, x ∈ S := by
      intro i L h
      refine h.mem (P := fun x => x ∈ S) (List.mem_of_getElem? F.q.head) fun x hx y hy => ?_
      obtain ⟨a, ha, rfl⟩ := F.tb.of_mem (F.cl x hx).1 hy
      exact (F.cl x hx).2 a ha
    induction h with
    | start => exact Qu.start
    | @step i L x h e ih =>
      have hi := (List.getElem?_eq_some_iff.mp e).1
      obtain ⟨N, hN⟩ := grow_pre id (suc rows x) L
      have e1 : (grow id L (suc rows x)).take (i + 1) = L.take i ++ [x] := by
        rw [hN, List.take_append_of_le_length (by omega), take_snoc e]
      rw [e1, reps_grow, grow_snoc]
      have hx := hin h x (List.mem_of_getElem? e)
      by_cases hm : m x ∈ (grow m [] (L.take i)).map m
      · have e2 : add1 m (grow m [] (L.take i)) x = grow m [] (L.take i) := by unfold add1; rw [if_pos hm]
        rw [e2]
        obtain ⟨r, hr, er⟩ := List.mem_map.mp hm
        have hrL := reps_mem hr
        obtain ⟨j, hj, ej⟩ := List.mem_iff_getElem.mp hrL
        rw [List.length_take] at hj
        have hjL : L[j]? = some r := by
          rw [List.getElem?_eq_getElem (by omega)]
          rw [List.getElem_take] at ej
          rw [ej]
        have hrS := hin h r (List.mem_of_getElem? hjL)
        have e4 : grow m (grow m [] L) (suc rows x) = grow m [] L := by
          refine grow_same m _ ?_
          intro y hy
          obtain ⟨a, ha, rfl⟩ := F.tb.of_mem (F.cl x hx).1 hy
          rw [← hst r x hrS hx er a ha]
          refine key_of_mem ?_
          have := h.closed j r (by omega) hjL (_root_.MW.nx rows r a) (F.tb.nx_mem (F.cl r hrS).1 ha)
          rwa [List.map_id] at this
        rw [e4]
        exact ih
      · have e2 : add1 m (grow m [] (L.take i)) x = grow m [] (L.take i) ++ [x] := by unfold add1; rw [if_neg hm]
        rw [e2, List.length_append]
        refine Qu.step ih ?_
        have e3 : grow m [] L = grow m (grow m [] (L.take i) ++ [x]) (L.drop (i + 1)) := by
          have q : L = L.take i ++ ([x] ++ L.drop (i + 1)) := by
            rw [← List.append_assoc, ← take_snoc e, List.take_append_drop]
          conv => lhs; rw [q]
          rw [grow_append, grow_append]
          show grow m (add1 m (grow m [] (L.take i)) x) _ = _
          rw [e2]
        obtain ⟨M, hM⟩ := grow_pre m (L.drop (i + 1)) (grow m [] (L.take i) ++ [x])
        rw [e3, hM, List.append_assoc, List.getElem?_append_right (Nat.le_refl _), Nat.sub_self]
        rfl
  have hR : Qu m (suc rows) s0 (grow m [] S).length (grow m [] S) := by
    have := hq F.q
    rwa [List.take_length] at this
  have hnR := reps_nodup m S
  -- growing by classes is growing by places
  have hg : ∀ (ys M : List Nat) (N : List Nat), (∀ y ∈ ys, y ∈ S) → grow m [] S = grow m M ys ++ N → grow id (List.range M.length) (ys.map (ix m (grow m [] S))) = List.range (grow m M ys).length := by
    intro ys
    induction ys with
    | nil => intro M N _ _; rfl
    | cons y ys ih =>
      intro M N hy e
      rw [List.map_cons, grow_cons, grow_cons]
      rw [grow_cons] at e
      obtain ⟨M2, hM2⟩ := grow_pre m ys (add1 m M y)
      have e0 : grow m [] S = add1 m M y ++ (M2 ++ N) := by rw [e, hM2, List.append_assoc]
      have step : add1 id (List.range M.length) (ix m (grow m [] S) y) = List.range (add1 m M y).length := by
        rw [grow_id]
        unfold add1
        by_cases hm : m y ∈ M.map m
        · rw [if_pos hm]
          have e1 : add1 m M y = M := by unfold add1; rw [if_pos hm]
          rw [e1] at e0
          have : ix m (grow m [] S) y < M.length := by
            rw [e0, ix_pre hm]
            exact (ix_at hm).1
          rw [if_pos (List.mem_range.mpr this)]
        · rw [if_neg hm]
          have e1 : add1 m M y = M ++ [y] := by unfold add1; rw [if_neg hm]
          rw [e1, List.append_assoc] at e0
          have q : ix m (grow m [] S) y = M.length := by
            refine ix_self hnR (r := y) ?_ rfl
            rw [e0, List.getElem?_append_right (Nat.le_refl _), Nat.sub_self]
            rfl
          rw [q, if_neg (by simp), List.length_append]
          exact List.range_succ.symm
      rw [step]
      exact ih (add1 m M y) N (fun z hz => hy z (List.mem_cons_of_mem _ hz)) e
  have main : ∀ {i : Nat} {M : List Nat}, Qu m (suc rows) s0 i M → i ≤ (grow m [] S).length → Qu id (suc (tabR rows m (grow m [] S))) 0 i (List.range M.length) := by
    intro i M h
    induction h with
    | start => intro _; exact Qu.start
    | @step i M x h e ih =>
      intro hi
      have ih := ih (by omega)
      have hi2 := (List.getElem?_eq_some_iff.mp e).1
      obtain ⟨N, hN⟩ := (Qu.step h e).pre hR hi
      obtain ⟨N0, hN0⟩ := grow_pre m (suc rows x) M
      have ex : (grow m [] S)[i]? = some x := by
        rw [hN, hN0, List.append_assoc, List.getElem?_append_left hi2]
        exact e
      have hx := reps_mem (List.mem_of_getElem? ex)
      have hg2 := hg (suc rows x) M N (fun y hy => by
        obtain ⟨a, ha, rfl⟩ := F.tb.of_mem (F.cl x hx).1 hy
        exact (F.cl x hx).2 a ha) hN
      rw [← hg2, ← tab_suc (rows := rows) ex]
      exact Qu.step ih (List.getElem?_range hi2)
  have := main hR (Nat.le_refl _)
  unfold tabR at this ⊢
  rw [List.length_map]
  exact this
/-- what callers of a least table know of it -/
structure LT (k : Nat) (T : Rows) (A : List Nat) : Prop where
  tab : Tab k T
  pos : 0 < T.length
  acc : A = (List.range T.length).filter fun i => decide (i ∈ A)
  self : Least k T (fun i => decide (i ∈ A)) 0 T A
  order : Qu id (suc T) 0 T.length (List.range T.length)
theorem Least.lt (tb : Tab k rows) (h0 : s0 < rows.length) {T : Rows} {A : List Nat} (h : Least k rows acc s0 T A) : LT k T A := by
  obtain ⟨S, m, q, f, rfl, rfl⟩ := h
  have F : Fit k rows acc s0 S m := ⟨tb, h0, q, f⟩
  have hlen : (tabR rows m (grow m [] S)).length = (grow m [] S).length := by unfold tabR; rw [List.length_map]
  have hpos : 0 < (grow m [] S).length := cnt_pos m (S := S) (by
    intro z
    have := F.q.pos
    rw [z] at this
    exact Nat.lt_irrefl _ this)
  have hacc : tabA acc (grow m [] S) = (List.range (tabR rows m (grow m [] S)).length).filter fun i => decide (i ∈ tabA acc (grow m [] S)) := by
    rw [hlen]
    conv => lhs; unfold tabA
    refine List.filter_congr fun i hi => ?_
    have hi := List.mem_range.mp hi
    rw [F.mem_acc (List.getElem?_eq_getElem hi), List.getD_eq_getElem?_getD, List.getElem?_eq_getElem hi]
    rfl
  refine ⟨F.tab, by rw [hlen]; exact hpos, hacc, ?_, F.order⟩
  refine ⟨List.range (tabR rows m (grow m [] S)).length, id, by rw [List.length_range]; exact F.order, ?_, ?_, ?_⟩
  · intro s hs t ht
    have hs := List.mem_range.mp hs
    have ht := List.mem_range.mp ht
    rw [hlen] at hs ht
    constructor
    · intro e
      cases (show s = t from e)
      exact Ner.refl s
    · exact F.parted (List.getElem?_eq_getElem hs) (List.getElem?_eq_getElem ht)
  · rw [grow_range, tabR_id F.tab]
  · rw [grow_range, tabA_id]
    exact hacc
theorem Least.comm (tb : Tab k rows) (h0 : s0 < rows.length) {T : Rows} {A : List Nat} (h : Least k rows acc s0 T A) {a b : Nat} (ha : a < k) (hb : b < k)
    (hc : ∀ s, s < rows.length → nx rows (nx rows s a) b = nx rows (nx rows s b) a) : ∀ i, i < T.length → nx T (nx T i a) b = nx T (nx T i b) a := by
  obtain ⟨S, m, q, f, rfl, rfl⟩ := h
  have F : Fit k rows acc s0 S m := ⟨tb, h0, q, f⟩
  intro i hi
  have hlen : (tabR rows m (grow m [] S)).length = (grow m [] S).length := by unfold tabR; rw [List.length_map]
  exact F.comm ha hb hc (by rw [← hlen]; exact hi)
end
end MW
end S_MathC

section S_MathD
set_option linter.all false
/-! Plain laws: texts to states, open places. -/
namespace MW
universe u v w
section
variable {ε : Type u} {ζ : Type v} {κ : Type w} [DecidableEq κ] {key : ε → κ} {key' : ζ → κ} {f : ε → ζ}
theorem grow_map (hk : ∀ e, key' (f e) = key e) (es : List ε) : ∀ L : List ε, (grow key L es).map f = grow key' (L.map f) (es.map f) := by
  induction es with
  | nil => intro L; rfl
  | cons e es ih =>
    intro L
    rw [grow_cons, ih, List.map_cons, grow_cons]
    congr 1
    unfold add1
    have e1 : (L.map f).map key' = L.map key := by
      rw [List.map_map]
      exact List.map_congr_left fun x _ => hk x
    rw [e1, hk]
    split
    · rfl
    · rw [List.map_append]; rfl
theorem Qu.map (hk : ∀ e, key' (f e) = key e) {succ : ε → List ε} {succ' : ζ → List ζ} {e0 : ε} {P : ε → Prop} (h0 : P e0) (hP : ∀ x, P x → ∀ y ∈ succ x, P y) (hs : ∀ x, P x → (succ x).map f = succ' (f x))
    {i : Nat} {L : List ε} (h : Qu key succ e0 i L) : Qu key' succ' (f e0) i (L.map f) := by
  induction h with
  | start => exact Qu.start
  | @step i L x h e ih =>
    rw [grow_map hk, hs x (h.mem h0 hP x (List.mem_of_getElem? e))]
    refine Qu.step ih ?_
    rw [List.getElem?_map, e]
    rfl
end

abbrev Txt := List Nat
/-! ### texts that lead to states -/
def sucT (T : Rows) (l : List Nat) (x : Nat × Txt) : List (Nat × Txt) := (List.range l.length).map fun a => (nx T x.1 a, x.2 ++ [l.getD a 0])
abbrev QT (T : Rows) (l : List Nat) : Nat → List (Nat × Txt) → Prop := Qu Prod.fst (sucT T l) (0, [])
section
variable {T : Rows} {A l : List Nat}
theorem QT.states (tb : Tab l.length T) (h0 : 0 < T.length) {i : Nat} {L : List (Nat × Txt)} (h : QT T l i L) : Qu id (suc T) 0 i (L.map Prod.fst) := by
  refine Qu.map (key := Prod.fst) (key' := id) (f := Prod.fst) (fun _ => rfl) (P := fun x => x.1 < T.length) h0 ?_ ?_ h
  · intro x hx y hy
    obtain ⟨a, ha, rfl⟩ := List.mem_map.mp hy
    exact tb.nx_lt hx (List.mem_range.mp ha)
  · intro x hx
    rw [suc_eq tb hx]
    unfold sucT
    rw [List.map_map]
    rfl
theorem range_pre {n : Nat} {M N : List Nat} (h : List.range n = M ++ N) : M = List.range M.length := by
  have := congrArg (List.take M.length) h
  rw [List.take_left, List.take_range] at this
  have hl := congrArg List.length h
  rw [List.length_range, List.length_append] at hl
  rw [Nat.min_eq_left (by omega)] at this
  exact this.symm
/-- in a least table the i-th that is met is i -/
theorem QT.at (tb : LT l.length T A) {i : Nat} {L : List (Nat × Txt)} (h : QT T l i L) : L.map Prod.fst = List.range L.length ∧ L.length ≤ T.length := by
  have q := h.states tb.tab tb.pos
  have hle : (L.map Prod.fst).length ≤ (List.range T.length).length := Qu.len_le (ε := Nat) (key := id) (succ := suc T) (e0 := 0) (B := List.range T.length) (List.mem_range.mpr tb.pos) (fun x hx y hy => List.mem_range.mpr (tb.tab.sm (s := x) (List.mem_range.mp hx) y hy)) q
  rw [List.length_range, List.length_map] at hle
  have hi : i ≤ T.length := by
    have := h.le
    omega
  obtain ⟨N, e⟩ := q.pre tb.order hi
  have := range_pre e
  rw [List.length_map] at this
  exact ⟨this, hle⟩
theorem QT.get (tb : LT l.length T A) {i j : Nat} {L : List (Nat × Txt)} (h : QT T l i L) {x : Nat × Txt} (e : L[j]? = some x) : x.1 = j ∧ j < T.length := by
  have q := h.at tb
  have hj := (List.getElem?_eq_some_iff.mp e).1
  have e1 : (L.map Prod.fst)[j]? = some x.1 := by rw [List.getElem?_map, e]; rfl
  rw [q.1, List.getElem?_range hj] at e1
  exact ⟨(Option.some.inj e1).symm, by omega⟩
theorem QT.end_len (tb : LT l.length T A) {L : List (Nat × Txt)} (h : QT T l L.length L) : L.length = T.length := by
  have q := h.states tb.tab tb.pos
  have e : L.length = (L.map Prod.fst).length := (List.length_map _).symm
  rw [e] at q
  have q2 : Qu id (suc T) 0 (List.range T.length).length (List.range T.length) := by rw [List.length_range]; exact tb.order
  have := congrArg List.length (q.done q2)
  rw [List.length_map, List.length_range] at this
  exact this
/-- t is the text with which state i is met -/
def TextOf (T : Rows) (l : List Nat) (i : Nat) (t : Txt) : Prop := ∃ (j : Nat) (L : List (Nat × Txt)), QT T l j L ∧ L[i]? = some (i, t)
theorem TextOf.uniq {i : Nat} {t t' : Txt} (h : TextOf T l i t) (h' : TextOf T l i t') : t = t' := by
  obtain ⟨j, L, q, e⟩ := h
  obtain ⟨j', L', q', e'⟩ := h'
  rcases Nat.le_total j j' with z | z
  · obtain ⟨N, rfl⟩ := q.pre q' z
    rw [List.getElem?_append_left (List.getElem?_eq_some_iff.mp e).1, e] at e'
    cases e'
    rfl
  · obtain ⟨N, rfl⟩ := q'.pre q z
    rw [List.getElem?_append_left (List.getElem?_eq_some_iff.mp e').1, e'] at e
    cases e
    rfl
theorem TextOf.of (tb : LT l.length T A) {i j : Nat} {L : List (Nat × Txt)} (h : QT T l j L) {x : Nat × Txt} (e : L[i]? = some x) : TextOf T l i x.2 := by
  have := (h.get tb e).1
  refine ⟨j, L, h, ?_⟩
  rw [e, ← this]
/-- every text found is of letters, and not longer than its place -/
theorem text_len {κ : Type} [DecidableEq κ] {succ : κ × Txt → List (κ × Txt)} {s0 : κ} (hs : ∀ x, ∀ y ∈ succ x, ∃ c ∈ l, y.2 = x.2 ++ [c]) {i : Nat} {L : List (κ × Txt)} (h : Qu Prod.fst succ (s0, []) i L) :
    ∀ (j : Nat) (x : κ × Txt), L[j]? = some x → x.2.length ≤ j ∧ ∀ c ∈ x.2, c ∈ l := by
  induction h with
  | start =>
    intro j x e
    have : j = 0 := by
      have := (List.getElem?_eq_some_iff.mp e).1
      simp at this
      exact this
    subst this
    cases (Option.some.inj e)
    exact ⟨Nat.le_refl _, fun c hc => nomatch hc⟩
  | @step i L y h e ih =>
    have hi := (List.getElem?_eq_some_iff.mp e).1
    have hy := ih i y e
    have aux : ∀ (es M : List (κ × Txt)), (∀ z ∈ es, ∃ c ∈ l, z.2 = y.2 ++ [c]) → i < M.length → (∀ (j : Nat) (x : κ × Txt), M[j]? = some x → x.2.length ≤ j ∧ ∀ c ∈ x.2, c ∈ l) → ∀ (j : Nat) (x : κ × Txt), (grow Prod.fst M es)[j]? = some x → x.2.length ≤ j ∧ ∀ c ∈ x.2, c ∈ l := by
      intro es
      induction es with
      | nil => intro M _ _ hM; exact hM
      | cons z es ihs =>
        intro M hz hiM hM
        rw [grow_cons]
        obtain ⟨N, hN⟩ := add1_pre Prod.fst M z
        refine ihs (add1 Prod.fst M z) (fun z hz' => hz z (List.mem_cons_of_mem _ hz')) (by rw [hN, List.length_append]; omega) ?_
        intro j x hx
        unfold add1 at hx
        split at hx
        · exact hM j x hx
        · by_cases hj : j < M.length
          · rw [List.getElem?_append_left hj] at hx
            exact hM j x hx
          · rw [List.getElem?_append_right (by omega)] at hx
            have hj2 : j - M.length = 0 := by
              have := (List.getElem?_eq_some_iff.mp hx).1
              simp at this
              omega
            rw [hj2] at hx
            have hx := Option.some.inj hx
            subst hx
            obtain ⟨c, hc, e⟩ := hz z List.mem_cons_self
            rw [e, List.length_append]
            refine ⟨by simp; omega, fun d hd => ?_⟩
            rcases List.mem_append.mp hd with hd | hd
            · exact hy.2 d hd
            · rw [List.mem_singleton.mp hd]; exact hc
    exact aux (succ y) L (hs y) hi ih
theorem getD_mem {l : List Nat} {a : Nat} (h : a < l.length) : l.getD a 0 ∈ l := by
  rw [List.getD_eq_getElem?_getD, List.getElem?_eq_getElem h]
  exact List.getElem_mem _
theorem TextOf.small (tb : LT l.length T A) {i : Nat} {t : Txt} (h : TextOf T l i t) : i < T.length ∧ t.length ≤ T.length ∧ ∀ c ∈ t, c ∈ l := by
  obtain ⟨j, L, q, e⟩ := h
  have := text_len (l := l) (fun x y hy => by
    obtain ⟨a, ha, rfl⟩ := List.mem_map.mp hy
    exact ⟨_, getD_mem (List.mem_range.mp ha), rfl⟩) q i _ e
  have h2 := (q.get tb e).2
  exact ⟨h2, Nat.le_trans this.1 (Nat.le_of_lt h2), this.2⟩

/-! ### what parts two states -/
def sucP (T : Rows) (l : List Nat) (x : (Nat × Nat) × Txt) : List ((Nat × Nat) × Txt) := (List.range l.length).map fun a => ((nx T x.1.1 a, nx T x.1.2 a), x.2 ++ [l.getD a 0])
abbrev QP (T : Rows) (l : List Nat) (g : Nat × Nat) : Nat → List ((Nat × Nat) × Txt) → Prop := Qu Prod.fst (sucP T l) (g, [])
def differs (A : List Nat) (g : Nat × Nat) : Bool := decide (g.1 ∈ A) != decide (g.2 ∈ A)
def LPart (T : Rows) (l A : List Nat) (g : Nat × Nat) (r : Option Txt) : Prop :=
  (∃ (i : Nat) (L : List ((Nat × Nat) × Txt)) (x : (Nat × Nat) × Txt), QP T l g i L ∧ L[i]? = some x ∧ differs A x.1 = true ∧ (∀ j < i, ∀ y, L[j]? = some y → differs A y.1 = false) ∧ r = some x.2) ∨
  (r = none ∧ ∃ L, QP T l g L.length L ∧ ∀ y ∈ L, differs A y.1 = false)
theorem LPart.uniq {g : Nat × Nat} {r r' : Option Txt} (h : LPart T l A g r) (h' : LPart T l A g r') : r = r' := by
  have aux : ∀ {i : Nat} {L : List ((Nat × Nat) × Txt)} {x : (Nat × Nat) × Txt} {i' : Nat} {L' : List ((Nat × Nat) × Txt)} {x' : (Nat × Nat) × Txt}, QP T l g i L → L[i]? = some x → differs A x.1 = true → QP T l g i' L' → L'[i']? = some x' →
      (∀ j < i', ∀ y, L'[j]? = some y → differs A y.1 = false) → i' ≤ i := by
    intro i L x i' L' x' q e d q' e' n
    rcases Nat.lt_or_ge i i' with z | z
    · exfalso
      obtain ⟨N, rfl⟩ := q.pre q' (Nat.le_of_lt z)
      have := n i z x (by rw [List.getElem?_append_left (List.getElem?_eq_some_iff.mp e).1]; exact e)
      rw [d] at this
      cases this
    · exact z
  have aux2 : ∀ {i : Nat} {L : List ((Nat × Nat) × Txt)} {x : (Nat × Nat) × Txt} {L' : List ((Nat × Nat) × Txt)}, QP T l g i L → L[i]? = some x → differs A x.1 = true → QP T l g L'.length L' → (∀ y ∈ L', differs A y.1 = false) → False := by
    intro i L x L' q e d q' n
    rcases Nat.le_total i L'.length with z | z
    · obtain ⟨N, rfl⟩ := q.pre q' z
      have := n x (List.mem_append_left _ (List.mem_of_getElem? e))
      rw [d] at this
      cases this
    · obtain ⟨N, hN⟩ := q'.pre q z
      by_cases hN0 : N = []
      · rw [hN0, List.append_nil] at hN
        subst hN
        have := n x (List.mem_of_getElem? e)
        rw [d] at this
        cases this
      · -- no turn goes beyond the end
        have key2 : ∀ (j : Nat) (M : List ((Nat × Nat) × Txt)), QP T l g j M → L'.length < j → False := by
          intro j M k
          induction k with
          | start => intro z; omega
          | @step j N x k f ih =>
            intro z
            by_cases q : L'.length < j
            · exact ih q
            · have hj : j = L'.length := by omega
              subst hj
              have q := q'.det k
              subst q
              rw [List.getElem?_eq_none_iff.mpr (Nat.le_refl _)] at f
              cases f
        by_cases z2 : L'.length < i
        · exact key2 i L q z2
        · have : i = L'.length := by omega
          subst this
          have := q'.det q
          subst this
          have := n x (List.mem_of_getElem? e)
          rw [d] at this
          cases this
  rcases h with ⟨i, L, x, q, e, d, n, rfl⟩ | ⟨rfl, L, q, n⟩
  · rcases h' with ⟨i', L', x', q', e', d', n', rfl⟩ | ⟨rfl, L', q', n'⟩
    · have h1 := aux q e d q' e' n'
      have h2 := aux q' e' d' q e n
      have : i = i' := by omega
      subst this
      have := q.det q'
      subst this
      rw [e] at e'
      cases e'
      rfl
    · exact (aux2 q e d q' n').elim
  · rcases h' with ⟨i', L', x', q', e', d', n', rfl⟩ | ⟨rfl, L', q', n'⟩
    · exact (aux2 q' e' d' q n).elim
    · rfl
def pairsB (n : Nat) : List (Nat × Nat) := (List.range n).flatMap fun a => (List.range n).map fun b => (a, b)
theorem pairsB_len (n : Nat) : (pairsB n).length = n * n := by
  unfold pairsB
  rw [List.length_flatMap]
  have : (List.map (fun a => (List.map (fun b => (a, b)) (List.range n)).length) (List.range n)) = List.replicate n n := by
    rw [List.eq_replicate_iff]
    simp
  rw [this, List.sum_replicate_nat]
theorem pairsB_mem {n : Nat} {g : Nat × Nat} : g ∈ pairsB n ↔ g.1 < n ∧ g.2 < n := by
  unfold pairsB
  rw [List.mem_flatMap]
  constructor
  · rintro ⟨a, ha, h⟩
    obtain ⟨b, hb, rfl⟩ := List.mem_map.mp h
    exact ⟨List.mem_range.mp ha, List.mem_range.mp hb⟩
  · intro ⟨h1, h2⟩
    exact ⟨g.1, List.mem_range.mpr h1, List.mem_map.mpr ⟨g.2, List.mem_range.mpr h2, rfl⟩⟩
theorem QP.lt (tb : Tab l.length T) {g : Nat × Nat} (hg : g.1 < T.length ∧ g.2 < T.length) {i : Nat} {L : List ((Nat × Nat) × Txt)} (h : QP T l g i L) : ∀ x ∈ L, x.1.1 < T.length ∧ x.1.2 < T.length := by
  refine h.mem (P := fun x => x.1.1 < T.length ∧ x.1.2 < T.length) hg ?_
  intro x hx y hy
  obtain ⟨a, ha, rfl⟩ := List.mem_map.mp hy
  exact ⟨tb.nx_lt hx.1 (List.mem_range.mp ha), tb.nx_lt hx.2 (List.mem_range.mp ha)⟩
theorem QP.len (tb : Tab l.length T) {g : Nat × Nat} (hg : g.1 < T.length ∧ g.2 < T.length) {i : Nat} {L : List ((Nat × Nat) × Txt)} (h : QP T l g i L) : L.length ≤ T.length * T.length := by
  rw [← pairsB_len]
  refine h.len_le (B := pairsB T.length) (pairsB_mem.mpr hg) fun x hx y hy => ?_
  obtain ⟨a, ha, rfl⟩ := List.mem_map.mp hy
  have hx := pairsB_mem.mp hx
  exact pairsB_mem.mpr ⟨tb.nx_lt hx.1 (List.mem_range.mp ha), tb.nx_lt hx.2 (List.mem_range.mp ha)⟩
theorem QP.texts {g : Nat × Nat} {i : Nat} {L : List ((Nat × Nat) × Txt)} (h : QP T l g i L) : ∀ (j : Nat) (x : (Nat × Nat) × Txt), L[j]? = some x → x.2.length ≤ j ∧ ∀ c ∈ x.2, c ∈ l :=
  text_len (l := l) (fun x y hy => by
    obtain ⟨a, ha, rfl⟩ := List.mem_map.mp hy
    exact ⟨_, getD_mem (List.mem_range.mp ha), rfl⟩) h
theorem LPart.small (tb : Tab l.length T) {g : Nat × Nat} (hg : g.1 < T.length ∧ g.2 < T.length) {t : Txt} (h : LPart T l A g (some t)) : t.length ≤ T.length * T.length ∧ ∀ c ∈ t, c ∈ l := by
  rcases h with ⟨i, L, x, q, e, d, n, hr⟩ | ⟨hr, _⟩
  · cases (Option.some.inj hr)
    have h1 := QP.texts q i x e
    have h2 := QP.len tb hg q
    have h3 := (List.getElem?_eq_some_iff.mp e).1
    exact ⟨by have := h1.1; omega, h1.2⟩
  · cases hr

/-! ### the least open place -/
def parts (T : Rows) (i : Nat) (p : Nat × Nat) : Bool := decide (nx T (nx T i p.1) p.2 ≠ nx T (nx T i p.2) p.1)
def badAt (T : Rows) (LP : List (Nat × Nat)) (i : Nat) : Option (Nat × Nat) := LP.find? (parts T i)
/-- the first state and the first pair that parts behind it -/
def FirstBad (T : Rows) (LP : List (Nat × Nat)) : Option (Nat × (Nat × Nat)) → Prop
  | none => ∀ i, i < T.length → badAt T LP i = none
  | some (i, p) => i < T.length ∧ (∀ j, j < i → badAt T LP j = none) ∧ badAt T LP i = some p
theorem FirstBad.uniq {LP : List (Nat × Nat)} {r r' : Option (Nat × (Nat × Nat))} (h : FirstBad T LP r) (h' : FirstBad T LP r') : r = r' := by
  cases r with
  | none =>
    cases r' with
    | none => rfl
    | some x =>
      have := h x.1 h'.1
      rw [h'.2.2] at this
      cases this
  | some x =>
    cases r' with
    | none =>
      have := h' x.1 h.1
      rw [h.2.2] at this
      cases this
    | some y =>
      obtain ⟨i, p⟩ := x
      obtain ⟨j, q⟩ := y
      rcases Nat.lt_trichotomy i j with z | z | z
      · have := h'.2.1 i z
        rw [h.2.2] at this
        cases this
      · subst z
        have e := h.2.2
        rw [h'.2.2] at e
        cases e
        rfl
      · have := h.2.1 j z
        rw [h'.2.2] at this
        cases this
def goals (T : Rows) (i : Nat) (p : Nat × Nat) : Nat × Nat := (nx T (nx T i p.1) p.2, nx T (nx T i p.2) p.1)
/-- a place: the text ahead, the pair (by the places of its letters), the text behind -/
abbrev Place := Txt × (Nat × Nat) × Option Txt
def Due (T : Rows) (l A : List Nat) (LP : List (Nat × Nat)) : Option Place → Prop
  | none => FirstBad T LP none
  | some (t, p, q) => ∃ i, FirstBad T LP (some (i, p)) ∧ TextOf T l i t ∧ LPart T l A (goals T i p) q
theorem Due.uniq {LP : List (Nat × Nat)} {r r' : Option Place} (h : Due T l A LP r) (h' : Due T l A LP r') : r = r' := by
  cases r with
  | none =>
    cases r' with
    | none => rfl
    | some x =>
      obtain ⟨i, a, _⟩ := h'
      have z := FirstBad.uniq (r := none) h a
      cases z
  | some x =>
    obtain ⟨t, p, q⟩ := x
    obtain ⟨i, a, b, c⟩ := h
    cases r' with
    | none =>
      have z := FirstBad.uniq (r' := none) a h'
      cases z
    | some y =>
      obtain ⟨t', p', q'⟩ := y
      obtain ⟨i', a', b', c'⟩ := h'
      cases (FirstBad.uniq a a')
      rw [b.uniq b', c.uniq c']
theorem FirstBad.none_of {LP : List (Nat × Nat)} (h : ∀ i, i < T.length → ∀ p ∈ LP, nx T (nx T i p.1) p.2 = nx T (nx T i p.2) p.1) : FirstBad T LP none := by
  intro i hi
  unfold badAt
  rw [List.find?_eq_none]
  intro p hp
  unfold parts
  rw [decide_eq_true_iff]
  exact fun z => z (h i hi p hp)
theorem badAt_mem {LP : List (Nat × Nat)} {i : Nat} {p : Nat × Nat} (h : badAt T LP i = some p) : p ∈ LP := List.mem_of_find?_eq_some h
/-- a least table, started anywhere else: the same -/
theorem Due.small {LP : List (Nat × Nat)} (tb : LT l.length T A) (hp : ∀ p ∈ LP, p.1 < l.length ∧ p.2 < l.length) {t : Txt} {p : Nat × Nat} {q : Option Txt} (h : Due T l A LP (some (t, p, q))) :
    p ∈ LP ∧ t.length ≤ T.length ∧ (∀ c ∈ t, c ∈ l) ∧ ∀ r, q = some r → r.length ≤ T.length * T.length ∧ ∀ c ∈ r, c ∈ l := by
  obtain ⟨i, a, b, c⟩ := h
  have hm := badAt_mem a.2.2
  have hb := b.small tb
  refine ⟨hm, hb.2.1, hb.2.2, fun r e => ?_⟩
  subst e
  have h2 := hp p hm
  exact c.small tb.tab ⟨tb.tab.nx_lt (tb.tab.nx_lt hb.1 h2.1) h2.2, tb.tab.nx_lt (tb.tab.nx_lt hb.1 h2.2) h2.1⟩
/-- the two states differ, so some text parts them -/
theorem LPart.parted (tb : LT l.length T A) {a b : Nat} (ha : a < T.length) (hb : b < T.length) (hne : a ≠ b) {r : Option Txt} (h : LPart T l A (a, b) r) : ∃ t, r = some t := by
  cases r with
  | some t => exact ⟨t, rfl⟩
  | none =>
    exfalso
    rcases h with ⟨_, _, _, _, _, _, _, hr⟩ | ⟨_, L, q, n⟩
    · cases hr
    · obtain ⟨S, m, qS, f, e1, e2⟩ := tb.self
      have hS : S = List.range T.length := by
        have q2 : Qu id (suc T) 0 (List.range T.length).length (List.range T.length) := by rw [List.length_range]; exact tb.order
        exact qS.done q2
      -- all pairs reached are alike
      have key : ∀ (w : List Nat), (∀ c ∈ w, c < l.length) → (run T a w, run T b w) ∈ L.map Prod.fst := by
        intro w
        have gen : ∀ (w : List Nat) (x : Nat × Nat), x ∈ L.map Prod.fst → (∀ c ∈ w, c < l.length) → (run T x.1 w, run T x.2 w) ∈ L.map Prod.fst := by
          intro w
          induction w with
          | nil => intro x hx _; exact hx
          | cons c w ih =>
            intro x hx hw
            obtain ⟨y, hy, rfl⟩ := List.mem_map.mp hx
            obtain ⟨j, hj, ej⟩ := List.mem_iff_getElem.mp hy
            have hc := hw c List.mem_cons_self
            have := q.closed j y hj (by rw [List.getElem?_eq_getElem hj, ej]) ((nx T y.1.1 c, nx T y.1.2 c), y.2 ++ [l.getD c 0]) (List.mem_map.mpr ⟨c, List.mem_range.mpr hc, rfl⟩)
            exact ih (nx T y.1.1 c, nx T y.1.2 c) this fun d hd => hw d (List.mem_cons_of_mem _ hd)
        exact gen w (a, b) (List.mem_map.mpr ⟨_, List.mem_of_getElem? q.head, rfl⟩)
      have hn : Ner T l.length (fun i => decide (i ∈ A)) a b := fun w hw => by
        obtain ⟨y, hy, e⟩ := List.mem_map.mp (key w hw)
        have := n y hy
        rw [e] at this
        unfold differs at this
        simpa using this
      have hm : m a = m b := (f a (by rw [hS]; exact List.mem_range.mpr ha) b (by rw [hS]; exact List.mem_range.mpr hb)).mpr hn
      -- the classes of a least table are single
      have hlen : (grow m [] S).length = S.length := by
        have := congrArg List.length e1
        unfold tabR at this
        rw [List.length_map] at this
        rw [← this, hS, List.length_range]
      have hsub : ∀ x ∈ (grow m [] S).map m, x ∈ S.map m := fun x hx => by
        obtain ⟨y, hy, rfl⟩ := List.mem_map.mp hx
        exact List.mem_map.mpr ⟨y, reps_mem hy, rfl⟩
      have hnd := nodup_of_sub (reps_nodup m S) hsub (by rw [List.length_map, List.length_map, hlen]; exact Nat.le_refl _)
      exact hne (inj_of_nodup_map hnd a (by rw [hS]; exact List.mem_range.mpr ha) b (by rw [hS]; exact List.mem_range.mpr hb) hm)
end
/-! ### readers that are closed -/
def Idle (rows : Rows) (a : Nat) : Prop := ∀ s, s < rows.length → nx rows s a = s
theorem Idle.comm {rows : Rows} {k a b : Nat} (tb : Tab k rows) (ha : a < k) (hb : b < k) (h : Idle rows a ∨ Idle rows b) : ∀ s, s < rows.length → nx rows (nx rows s a) b = nx rows (nx rows s b) a := by
  intro s hs
  rcases h with h | h
  · rw [h s hs, h _ (tb.nx_lt hs hb)]
  · rw [h s hs, h _ (tb.nx_lt hs ha)]
theorem count_comm {rows : Rows} {n : Nat} {st : Nat → Nat} {k : Nat} (h : ∀ s a, s < n → a < k → nx rows s a = (s + st a) % n) (hn : 0 < n) {a b : Nat} (ha : a < k) (hb : b < k) : ∀ s, s < n → nx rows (nx rows s a) b = nx rows (nx rows s b) a := by
  intro s hs
  rw [h s a hs ha, h s b hs hb, h _ b (Nat.mod_lt _ hn) hb, h _ a (Nat.mod_lt _ hn) ha]
  rw [Nat.mod_add_mod, Nat.mod_add_mod]
  congr 1
  omega
end MW
end S_MathD

section S_WwTxt
set_option Elab.async false
set_option linter.all false
set_option maxRecDepth 100000
/-! The program's text by places; what its top leaves, as data. -/
namespace Ww
open PySem L2
abbrev PW : Program := PySem.Challenge.pw_webwords_k75_whole_open_places
def top (i : Nat) : Stmt := PW.main.body.getD i (.Pass ⟨0, 0, 0, 0⟩)
abbrev sIsInteger : Stmt := top 11
abbrev sIsFrom : Stmt := top 12
abbrev sIsLetter : Stmt := top 13
abbrev sAreAscending : Stmt := top 14
abbrev sPairOf : Stmt := top 17
abbrev sPairsOf : Stmt := top 18
abbrev sAreLetters : Stmt := top 19
abbrev sAreConflicts : Stmt := top 20
abbrev sCloseRow : Stmt := top 21
abbrev sRequireWeb : Stmt := top 24
abbrev sStatesReached : Stmt := top 27
abbrev sClassesOf : Stmt := top 28
abbrev sMarksOf : Stmt := top 29
abbrev sLeastTable : Stmt := top 30
abbrev sLeastParting : Stmt := top 31
abbrev sFirstOpen : Stmt := top 32
abbrev sIsStateOf : Stmt := top 40
abbrev sAreStateRows : Stmt := top 41
abbrev sAreAccepted : Stmt := top 42
abbrev sIsReadText : Stmt := top 47
abbrev sLawDice : Stmt := top 50
abbrev sLawRoll : Stmt := top 51
abbrev sLawPick : Stmt := top 52
abbrev sLawMixed : Stmt := top 53
abbrev sLawSome : Stmt := top 54
abbrev sLawLetters : Stmt := top 55
abbrev sLawPairs : Stmt := top 56
abbrev sLawConflicts : Stmt := top 57
abbrev sLawText : Stmt := top 58
abbrev sLawReadState : Stmt := top 59
abbrev sLawMarks : Stmt := top 60
abbrev sLawLeastReader : Stmt := top 61
abbrev sLawDrawnRows : Stmt := top 62
abbrev sLawLeastParting : Stmt := top 63
abbrev sLawLoosePairs : Stmt := top 64
abbrev sLawStateTexts : Stmt := top 65
abbrev sLawFirstOpen : Stmt := top 66
abbrev sLawWidened : Stmt := top 67
abbrev sLawCountingRows : Stmt := top 68
abbrev sLawIsOpen : Stmt := top 69
abbrev sLawValues : Stmt := top 70
abbrev sLaw : Stmt := top 71
abbrev sWebInit : Stmt := inClass (top 23) 1
abbrev sWebLoose : Stmt := inClass (top 23) 5
abbrev sReaderInit : Stmt := inClass (top 46) 1
abbrev sReaderLed : Stmt := inClass (top 46) 9
abbrev sReaderLeast : Stmt := inClass (top 46) 12
abbrev sReaderIsClosed : Stmt := inClass (top 46) 19
abbrev sReaderOpenPlace : Stmt := inClass (top 46) 20
abbrev sReaderIsOpenPlace : Stmt := inClass (top 46) 21
open He5 in
abbrev dG (x : Str) (st : Stmt) : DefA := ⟨fun K => He.ga K x, x, x, defArgs st, defBody st, defScope st, [], []⟩
/-- the getter of a property -/
def gt (K : PySem.W.Frag) (C m : Str) : Addr := match PySem.W.recIn K (He.ma K (He.ga K C) m) "property" with
  | some (.ref g :: _) => g
  | _ => 0
def fn : List He5.DefA := [
  dG "is_integer" sIsInteger,
  dG "is_from" sIsFrom,
  dG "is_letter" sIsLetter,
  dG "are_ascending" sAreAscending,
  dG "pair_of" sPairOf,
  dG "pairs_of" sPairsOf,
  dG "are_letters" sAreLetters,
  dG "are_conflicts" sAreConflicts,
  dG "close_row" sCloseRow,
  dG "require_web" sRequireWeb,
  dG "states_reached" sStatesReached,
  dG "classes_of" sClassesOf,
  dG "marks_of" sMarksOf,
  dG "least_table" sLeastTable,
  dG "least_parting" sLeastParting,
  dG "first_open" sFirstOpen,
  dG "is_state_of" sIsStateOf,
  dG "are_state_rows" sAreStateRows,
  dG "are_accepted" sAreAccepted,
  dG "is_read_text" sIsReadText,
  dG "_law_dice" sLawDice,
  dG "_law_roll" sLawRoll,
  dG "_law_pick" sLawPick,
  dG "_law_mixed" sLawMixed,
  dG "_law_some" sLawSome,
  dG "_law_letters" sLawLetters,
  dG "_law_pairs" sLawPairs,
  dG "_law_conflicts" sLawConflicts,
  dG "_law_text" sLawText,
  dG "_law_read_state" sLawReadState,
  dG "_law_marks" sLawMarks,
  dG "_law_least_reader" sLawLeastReader,
  dG "_law_drawn_rows" sLawDrawnRows,
  dG "_law_least_parting" sLawLeastParting,
  dG "_law_loose_pairs" sLawLoosePairs,
  dG "_law_state_texts" sLawStateTexts,
  dG "_law_first_open" sLawFirstOpen,
  dG "_law_widened" sLawWidened,
  dG "_law_counting_rows" sLawCountingRows,
  dG "_law_is_open" sLawIsOpen,
  dG "_law_values" sLawValues,
  dG "law" sLaw,
  ⟨fun K => He.ma K (He.ga K "Web") "__init__", "__init__", "Web.__init__", defArgs sWebInit, defBody sWebInit, defScope sWebInit, [.str "", .adr (He.dflAt ("Web", some "__init__") 1)], []⟩,
  ⟨fun K => gt K "Web" "loose", "loose", "Web.loose", defArgs sWebLoose, defBody sWebLoose, defScope sWebLoose, [], []⟩,
  ⟨fun K => He.ma K (He.ga K "Reader") "__init__", "__init__", "Reader.__init__", defArgs sReaderInit, defBody sReaderInit, defScope sReaderInit, [], [("start", .int 0)]⟩,
  ⟨fun K => He.ma K (He.ga K "Reader") "led", "led", "Reader.led", defArgs sReaderLed, defBody sReaderLed, defScope sReaderLed, [], []⟩,
  ⟨fun K => He.ma K (He.ga K "Reader") "least", "least", "Reader.least", defArgs sReaderLeast, defBody sReaderLeast, defScope sReaderLeast, [], []⟩,
  ⟨fun K => He.ma K (He.ga K "Reader") "is_closed", "is_closed", "Reader.is_closed", defArgs sReaderIsClosed, defBody sReaderIsClosed, defScope sReaderIsClosed, [], []⟩,
  ⟨fun K => He.ma K (He.ga K "Reader") "open_place", "open_place", "Reader.open_place", defArgs sReaderOpenPlace, defBody sReaderOpenPlace, defScope sReaderOpenPlace, [], []⟩,
  ⟨fun K => He.ma K (He.ga K "Reader") "is_open_place", "is_open_place", "Reader.is_open_place", defArgs sReaderIsOpenPlace, defBody sReaderIsOpenPlace, defScope sReaderIsOpenPlace, [], []⟩]
def fa : List He.Fa := [.glo "is_integer", .glo "is_from", .glo "is_letter", .glo "are_ascending", .glo "pair_of", .glo "pairs_of", .glo "are_letters", .glo "are_conflicts", .glo "close_row", .glo "require_web", .glo "states_reached", .glo "classes_of", .glo "marks_of", .glo "least_table", .glo "least_parting", .glo "first_open", .glo "is_state_of", .glo "are_state_rows", .glo "are_accepted", .glo "is_read_text", .glo "_law_dice", .glo "_law_roll", .glo "_law_pick", .glo "_law_mixed", .glo "_law_some", .glo "_law_letters", .glo "_law_pairs", .glo "_law_conflicts", .glo "_law_text", .glo "_law_read_state", .glo "_law_marks", .glo "_law_least_reader", .glo "_law_drawn_rows", .glo "_law_least_parting", .glo "_law_loose_pairs", .glo "_law_state_texts", .glo "_law_first_open", .glo "_law_widened", .glo "_law_counting_rows", .glo "_law_is_open", .glo "_law_values", .glo "law", .glo "Web", .glo "Reader", .free "isinstance", .free "len", .free "zip", .free "all", .free "tuple", .free "list", .free "set", .free "enumerate", .free "range", .free "int", .free "abs", .free "max", .free "min", .free "sorted", .free "str", .free "bool", .int "GREATEST" (10 ^ 60), .int "MAX_LETTERS" 10, .int "MAX_STATES" 200, .int "MAX_READ" 1000, .mkr "Web", .mkr "Reader", .meth "Reader" "led", .meth "Reader" "least", .meth "Reader" "is_closed", .meth "Reader" "open_place", .meth "Reader" "is_open_place"]
/-! ### classes with slots, properties -/
section
open PySem.W
def slotB (K : Frag) (C f : Str) (i : Nat) : Bool := He.eqO (findIn K (.ref (He.ga K C)) f) (some (some (.ref (He.ma K (He.ga K C) f)))) && (He.eqO (specialIn K (.ref (He.ma K (He.ga K C) f)) "__get__") (some (some (.builtin "member_descriptor.__get__"))) &&
  (decide (takesIn K (.ref (He.ma K (He.ga K C) f)) = some true) && (decide (typeIn K (.ref (He.ma K (He.ga K C) f)) = some (.type "member_descriptor")) && decide (slotIn K (He.ma K (He.ga K C) f) (He.ga K C) = some i))))
def clsB (K : Frag) (C : Str) : Bool := plainGet K (He.ga K C) Str.empty && (isClsIn K (He.ga K C) && (plainOver K (He.ga K C) && He.eqO (findIn K (.ref (He.ga K C)) "__setattr__") (some (some (.builtin "object.__setattr__")))))
def isiB (K : Frag) (C : Str) : Bool := He.eqO (findIn K (.ref (He.ga K C)) "__class__") (some (some (.builtin "object.__class__"))) && (He.eqO (specialIn K (.builtin "object.__class__") "__get__") (some (some (.builtin "getset_descriptor.__get__"))) &&
  (decide (takesIn K (.builtin "object.__class__") = some true) && (decide (mroIn K (He.ga K C) (.type "object") = some true) && decide (kitOne K (.ref (He.ga K C)) (.ref (He.ga K C)) = some true))))
def propB (K : Frag) (C f : Str) : Bool := He.eqO (findIn K (.ref (He.ga K C)) f) (some (some (.ref (He.ma K (He.ga K C) f)))) && (He.eqO (specialIn K (.ref (He.ma K (He.ga K C) f)) "__get__") (some (some (.builtin "property.__get__"))) &&
  (decide (takesIn K (.ref (He.ma K (He.ga K C) f)) = some true) && (match recIn K (He.ma K (He.ga K C) f) "property" with
    | some (.ref _ :: _) => true
    | _ => false)))
def ex (K : Frag) : Bool := clsB K "Web" && (clsB K "Reader" && (isiB K "Web" && (propB K "Web" "loose" && (slotB K "Web" "own_close" 0 && (slotB K "Web" "own_conflicts" 1 && (slotB K "Web" "own_letters" 2 &&
  (slotB K "Reader" "own_accepts" 0 && (slotB K "Reader" "own_key" 1 && (slotB K "Reader" "own_rows" 2 && (slotB K "Reader" "own_start" 3 && slotB K "Reader" "own_web" 4))))))))))
end
/-! ### the Hook -/
abbrev Al : Type := He.AlD × Bool
def obsK (K : PySem.W.Frag) : Al := (He5.obsA fa fn K, ex K)
def valK : Al := (He5.valA fn, true)
def obsKG (n : Nat) (g : Addr → Option Obj) : Al := obsK (He.frG g (He.asD g n))
def hookK (n : Nat) : PySem.W.Hook where
  α := Al
  obs := fun s => obsKG n s.heap.get?
  val := fun _ => valK
  says := fun _ h => ∃ K : PySem.W.Frag, K.In h ∧ obsK K = valK
  of := fun _ _ e => ⟨_, He.frG_in, e⟩
  keeps := fun _ _ _ ⟨K, hK, c⟩ k => ⟨K, PySem.W.Frag.In.keeps hK k, c⟩
theorem obsKG_eq {n : Nat} {g : Addr → Option Obj} {s : Shared} (h : ∀ a, g a = s.heap.get? a) : obsKG n g = (hookK n).obs s := by
  have e : g = s.heap.get? := funext h
  rw [e] <;> rfl
end Ww
end S_WwTxt

section S_WwHead
set_option Elab.async false
set_option linter.all false
set_option maxRecDepth 100000
set_option maxHeartbeats 0
namespace Ww
open PySem L2
abbrev RL : PySem.W.OpenRow := PySem.W.OpenLaw.row PySem.Challenge.rw_webwords_k75_whole_open_places
def loose : List Str := (["_wall", "__name__", "WebError", "InvalidWeb", "InvalidText", "InvalidReader", "UnknownName", "TooMany", "Refused", "GREATEST", "is_integer", "is_from", "is_letter", "are_ascending", "MAX_LETTERS", "pair_of", "pairs_of", "are_letters", "are_conflicts", "close_row", "together", "Web", "require_web", "require_letter", "states_reached", "classes_of", "marks_of", "least_table", "least_parting", "first_open"] : List Str) ++ (["MAX_STATES", "MAX_READ", "MAX_PAIRS", "BOTH", "EITHER", "FIRST_ALONE", "is_state_of", "are_state_rows", "are_accepted", "least_reader", "is_joined", "joined_reader", "Reader", "is_read_text", "require_like_reader", "_law_dice", "_law_roll", "_law_pick", "_law_mixed", "_law_some", "_law_letters", "_law_pairs", "_law_conflicts", "_law_text", "_law_read_state", "_law_marks", "_law_least_reader", "_law_drawn_rows", "_law_least_parting", "_law_loose_pairs"] : List Str) ++ (["_law_state_texts", "_law_first_open", "_law_widened", "_law_counting_rows", "_law_is_open", "_law_values"] : List Str)
def ob (s : PySem.W.SharedT) : Al := obsKG 5 (HandSHeadRun.getT s)
theorem ob_eq (s : PySem.W.SharedT) : ob s = (hookK 5).obs s.abs := obsKG_eq (HandSHeadRun.getT_eq s)
noncomputable abbrev EW (w : World) (os : OsState) := HandSHeadRun.endF (HandSHeadRun.stepQ (HandSHeadRun.denQ HandSHeadRun.tabQ) RL.prog w) 20000 RL.prog w os
theorem run1 (w : World) (os : OsState) : (EW w os).map (fun s => (HandSHeadRun.looksF RL.prog (PySem.W.boot_heap w.params) s.abs, HandSHeadRun.seenQ (PySem.W.view RL.prog [71]) loose (importedModules RL.prog.main.body) (fun s => PySem.W.xlAt (PySem.W.view RL.prog [71]) [] s && PySem.W.recOk RL.toRowW.records s) s.abs)) = some (true, PySem.W.openGood (PySem.W.view RL.prog [71]) loose) := by kernel_rfl
theorem run2 (w : World) (os : OsState) : (EW w os).map ob = some valK := by kernel_rfl
theorem map3 {α β γ δ : Type} {o : Option α} {f : α → β} {g : α → γ} {h : α → δ} {x : β} {y : γ} {z : δ} (e1 : o.map (fun s => (f s, g s)) = some (x, y)) (e2 : o.map h = some z) : o.map (fun s => (f s, g s, h s)) = some (x, y, z) := by
  cases o with
  | none => cases e1
  | some a =>
    have h1 := Option.some.inj e1
    have h2 := Option.some.inj e2
    show some (f a, g a, h a) = _
    rw [h2]
    have h3 : f a = x := congrArg Prod.fst h1
    have h4 : g a = y := congrArg Prod.snd h1
    rw [h3, h4]
theorem run (w : World) : HandSHeadRun.RunEq RL (PySem.W.view RL.prog [71]) (hookK 5) ob 20000 loose w := by
  intro os
  exact map3 (run1 w os) (run2 w os)
end Ww
end S_WwHead

section S_WwIter
set_option Elab.async false
set_option linter.all false
set_option maxRecDepth 100000
set_option maxHeartbeats 2000000
/-! Own rules: enumerate over texts, tuples, dicts and their values; zip of two texts. -/
namespace WwR
open PySem PySem.Spec PyProof.Rows L2
/-- n turns, each a new tuple of the items told by rel, while G stands -/
def ItN (n : Nat) (rel : Nat → List V → Prop) (G : Hp → Prop) : It :=
  ⟨fun i H => i < n ∧ G H, fun i H v H' => ∃ T xs, v = .ref T ∧ H T = none ∧ H' = upd H T (.tup xs) ∧ rel i xs, fun i H => i = n ∧ G H⟩
theorem walk_N {n : Nat} {rel : Nat → List V → Prop} {G : Hp → Prop} : Walk (ItN n rel G) n G (fun i H v H' => ∃ T xs, v = .ref T ∧ H T = none ∧ H' = upd H T (.tup xs) ∧ rel i xs) :=
  ⟨fun _ _ h g => ⟨h, g⟩, fun _ g => ⟨rfl, g⟩, fun _ _ _ _ _ _ y => y⟩
section
variable {P : Program} {w : World} {K : PySem.W.Frag} {elts : List Expr} {kk : Nat} {tpos : Pos} {n : Nat} {rel : Nat → List V → Prop} {G : Hp → Prop} {I : Addr} {fp : List Addr} {tn : Nat → Heap → Prop}
theorem turn_WT (hm : I ∈ fp) (hobj : ∀ i h, tn i h → ∀ b ∈ fp, ∃ o, h.get? b = some o ∧ ∀ v, o.data ≠ .cell v)
    (hkeep : ∀ i h h', tn i h → (∀ b ∈ fp, ∀ o, h.get? b = some o → h'.get? b = some o) → tn i h')
    (hself : ∀ (A : Around) (i : Nat) (s : Shared) (Q : Value → Shared → Prop) (E : Value → Shared → Prop), tn i s.heap → Q (.ref I) s → wpAny (model P w) A (pyIter (.ref I)) Q E s)
    (hW : ∀ (X : Cx), X.prog = P → X.w = w → X.K = K → X.calm = true → ∀ (pins : List (Addr × Obj)) (s : Shared) (σ : L2.St) (H : Hp), Inv X pins σ H s → (∀ b ∈ fp, H b = none) → G H →
      ∃ (fpW wr : List Addr) (Pt : Nat → Array Value → Prop) (St : Nat → Heap → Prop) (Mid : Nat → Addr → Heap → Prop), WalksT P w X.A I fpW wr n Pt St Mid ∧ (∀ b ∈ wr, b ∈ fp) ∧ (∀ i, tn i s.heap → St i s.heap) ∧ (∀ i h, St i h → tn i h) ∧
        ∀ i vals, Pt i vals → ∃ (xs : List V) (us : List Value), vals = us.toArray ∧ Vals xs us ∧ xs.length ≤ sizeLine ∧ rel i xs) :
    Turn P w K (.Tuple elts kk tpos) (ItN n rel G) fp I tn where
  mem := hm
  obj := hobj
  keep := hkeep
  item := by
    intro X hP hw hK hc i pins s σ H E J hf st hg
    obtain ⟨hlt, hG⟩ := hg
    obtain ⟨fpW, wr, Pt, St, Mid, W, hwr, h1, h2, h3⟩ := hW X hP hw hK hc pins s σ H J (fun b hb => (hf b hb).1) hG
    subst hP hw hK
    refine W.item i s _ _ hlt (h1 i st) fun T vals h' tk hP hsz hTup hMid hk => ?_
    refine ⟨_, rfl, W.go elts kk tpos i T { s with heap := h', toks := tk } _ _ hMid fun h'' hst hk2 => ?_⟩
    obtain ⟨xs, us, rfl, hv, hz, hr⟩ := h3 i _ hP
    have hTw : T ∉ wr := W.apart i T h' hMid
    obtain ⟨ot, ht, hc2, hd⟩ := hTup
    have hT2 : h''.get? T = some ot := hk2 T ot hTw ht
    have new : ObjOk X.prog X.w (upd H T (.tup xs)) h'' T (.tup xs) := ⟨hz, us, hv, ⟨ot, hT2, hc2, hd⟩⟩
    have I1 : Inv X pins σ (upd H T (.tup xs)) { s with heap := h'', toks := tk } :=
      J.turnedNew (ch := wr) (fun b ob hb q => hk2 b ob hb (hk b ob hb q)) (fun b hb => hf b (hwr b hb)) hsz new
    refine ⟨.ref T, _, I1, rfl, ⟨T, xs, rfl, J.hok.fresh hsz, rfl, hr⟩, h2 _ _ hst, fun b hb => ?_⟩
    obtain ⟨ob, hob, _⟩ := hobj i _ st b hb
    have hb' : b < s.heap.objs.size := Heap.lt_size hob
    rw [upd_ne (Nat.ne_of_lt (Nat.lt_of_lt_of_le hb' hsz))]
    exact (hf b hb).1
  done := by
    intro X hP hw hK hc i pins s σ H E J hf st hg
    obtain ⟨hi, hG⟩ := hg
    obtain ⟨fpW, wr, Pt, St, Mid, W, hwr, h1, h2, h3⟩ := hW X hP hw hK hc pins s σ H J (fun b hb => (hf b hb).1) hG
    subst hP hw hK hi
    exact W.done s _ _ (h1 _ st) fun h' tk hk => ⟨rfl, J.turnedL (t' := tk) (ch := wr) hk fun b hb => hf b (hwr b hb)⟩
  self := hself
end
/-! ### enumerate(v) with one argument, whatever v is -/
set_option maxHeartbeats 4000000 in
theorem meets_enumerate_newB1 {v : Value} {o : Obj} {H : Heap → Prop} (B : Begins v o H) :
    Meets (Builtin.«enumerate.__new__» ⟨[.type "enumerate", v], []⟩) (fun _ R s => H s.heap ∧
      R (.ok (.ret (.ref (s.heap.push o).objs.size))) { s with heap := (s.heap.push o).push { cls := .type "enumerate", data := .fields #[.none, .bool false, .ref s.heap.objs.size, rawInt 0, .none, .none] } }) :=
  .of_wp fun prog w A R s h => by
    obtain ⟨hp, g, d, tk, os⟩ := s; obtain ⟨h1, h⟩ := h
    have hsub := sub_enumerate
    have q1 : ∀ {A' : Around} {E : Value → Shared → Prop} {Q : Value → Shared → Prop}, Q (.ref hp.objs.size) ⟨hp.push o, g, d, tk, os⟩ → wpAny (model prog w) A' (pyIter v) Q E ⟨hp, g, d, tk, os⟩ :=
      fun q => B.iter prog w _ _ ⟨hp, g, d, tk, os⟩ _ h1 q
    wp_walk using q1
    refine wpAny_stack_any fun st => wpAny_pure ?_
    split
    · rename_i c _ _ _ _ _
      cases (c == Value.type "enumerate")
      · wp_walk using q1
        exact ⟨_, rfl, h⟩
      · wp_walk using q1
        exact ⟨_, rfl, h⟩
    · wp_walk using q1
      exact ⟨_, rfl, h⟩
section
variable {prog : Program} {w : World} {A : Around} {E : Value → Shared → Prop} {s : Shared}
theorem enum1 {v : Value} {o : Obj} {H : Heap → Prop} {Q : Value → Shared → Prop} (B : Begins v o H) (h1 : H s.heap)
    (h : ∀ h', IsEnum h' (s.heap.objs.size + 1) s.heap.objs.size 0 .none → h'.get? s.heap.objs.size = some o → h'.objs.size = s.heap.objs.size + 2 →
      (∀ b o, s.heap.get? b = some o → h'.get? b = some o) → Q (.ref (s.heap.objs.size + 1)) { s with heap := h' }) :
    wpAny (model prog w) A (call (.type "enumerate") [v]) Q E s := by
  refine callType_new F.called_enumerate (by decide) (F.typeCall_enumerate_1 _) (F.newCall_enumerate_1 _) (fun obj => F.args_object_init_2 obj _) F.entry_enumerate_new
    (meets_enumerate_newB1 B) ⟨h1, ?_⟩
  have hz : (s.heap.push o).objs.size = s.heap.objs.size + 1 := Heap.size_push ..
  show _ ∧ _
  rw [hz]
  have he : IsEnum ((s.heap.push o).push { cls := .type "enumerate", data := .fields #[.none, .bool false, .ref s.heap.objs.size, rawInt 0, .none, .none] }) (s.heap.objs.size + 1) s.heap.objs.size 0 .none := by
    have := Heap.get?_push_size (s.heap.push o) (o := { cls := .type "enumerate", data := .fields #[.none, .bool false, .ref s.heap.objs.size, rawInt 0, .none, .none] }) rfl
    rw [hz] at this; exact this
  exact ⟨⟨_, he, rfl⟩, h _ he (Heap.get?_push_of_some _ (Heap.get?_push_size _ B.free)) (by rw [Heap.size_push, hz]) fun b o x => Heap.get?_push_of_some _ (Heap.get?_push_of_some _ x)⟩
end
/-! ### what a dict's iterators draw -/
section
variable {prog : Program} {w : World} {A : Around} {E : Value → Shared → Prop} {s : Shared} {it d : Addr} {i n ep : Nat} {od : Obj} {es : Array DictEntry} {en : DictEntry} {Q : Value → Shared → Prop}
theorem no_tuple_k : Builtin.Dict_items.ownsTuple "dict_keyiterator" = false := by decide
theorem no_tuple_v : Builtin.Dict_items.ownsTuple "dict_valueiterator" = false := by decide
/-- the next key, by the iterator's own __next__ -/
theorem draw_key (hit : s.heap.IsKeyIter it d i n ep) (hod : s.heap.get? d = some od) (hdd : od.data = .dict es ep) (hsz : es.size = n) (hx : es[i]? = some en)
    (hQ : ∀ h', h'.IsKeyIter it d (i + 1) n ep → Heap.SameBut it s.heap h' → Q en.key { s with heap := h' }) : wpAny (model prog w) A (Builtin.SmallTypes.nextOf (.ref it)) Q E s := by
  obtain ⟨o, ho, hc, hd⟩ := id hit
  obtain ⟨hlt, hen⟩ := Array.getElem?_eq_some_iff.mp hx
  have gone : (s.heap.update it (Obj.mapFields (·.setIfInBounds 1 (rawInt ((i : Int) + 1))))).IsKeyIter it d (i + 1) n ep :=
    ⟨_, Heap.get?_update_self _ ho (Obj.isFreed_of_fields (Obj.data_mapFields hd _)), (Obj.cls_mapFields ..).trans hc, by rw [Obj.data_mapFields hd]; simp [rawInt]⟩
  unfold Builtin.SmallTypes.nextOf
  refine wpAny_bind (wpAny_callSpecial?_slot (name := Str.ofString "__next__") hit.typeIs F.slot_dict_keyiterator_next (wpAny_call_entry F.slot_dict_keyiterator_next hit.typeIs F.entry_dict_keyiterator_next
    (wpAny_bind (wpAny_pure (wpAny_bind (wpAny_bind (wpAny_bind (wpAny_typeNameOfWhole_keyiter hit.typeIs (wpAny_pure (wpAny_bind (wpAny_fieldsOf ho hd ?_))))))))) (F.args_dict_keyiterator_next_1 _)))
  simp only [no_tuple_k, Bool.false_eq_true, if_false]
  show wpAny _ _ (if (Value.ref d == Value.none) = true then _ else _) _ _ s
  rw [if_neg (show ¬ ((Value.ref d == Value.none) = true) from Bool.false_ne_true)]
  refine wpAny_bind (wpAny_pure (wpAny_bind (wpAny_dictEntries hod hdd ?_)))
  rw [if_neg (by rw [hsz]; simp)]
  refine wpAny_bind (wpAny_pure (wpAny_bind (wpAny_dictEpoch hod hdd ?_)))
  rw [if_neg (by simp)]
  refine wpAny_pure ?_
  simp only [show ¬ ((i : Int) < 0) from by omega, if_false, Int.toNat_natCast, Array.getElem?_eq_getElem hlt]
  refine wpAny_bind (wpAny_bind (wpAny_typeNameOfWhole_keyiter hit.typeIs (wpAny_pure (wpAny_bind (wpAny_isOneOf_keyiter hit.typeIs ?_)))))
  show wpAny _ _ (setField (.ref it) 1 (rawInt ((i : Int) + 1)) >>= _) _ _ s
  refine wpAny_bind (wpAny_setField ho hd (by simp) (wpAny_bind (wpAny_holding (wpAny_bind (wpAny_isOneOf_keyiter (s := { s with heap := s.heap.update it (Obj.mapFields (·.setIfInBounds 1 (rawInt ((i : Int) + 1)))) }) gone.typeIs ?_)))))
  show wpAny _ _ (pure es[i].key) _ _ _
  rw [hen]
  exact wpAny_pure (wpAny_pure ⟨_, rfl, wpAny_pure (hQ _ gone (Heap.SameBut.update ..))⟩)
/-- no key is left: StopIteration -/
theorem draw_key_end (hh : A.handled = none) (hit : s.heap.IsKeyIter it d i n ep) (hod : s.heap.get? d = some od) (hdd : od.data = .dict es ep) (hsz : es.size = n) (hge : n ≤ i)
    (hE : ∀ h' e, Heap.ExtBut it s.heap h' → (∃ o, h'.get? e = some o ∧ o.cls = .type "StopIteration") → E (.ref e) { s with heap := h' }) : wpAny (model prog w) A (Builtin.SmallTypes.nextOf (.ref it)) Q E s := by
  obtain ⟨o, ho, hc, hd⟩ := id hit
  unfold Builtin.SmallTypes.nextOf
  refine wpAny_bind (wpAny_callSpecial?_slot (name := Str.ofString "__next__") hit.typeIs F.slot_dict_keyiterator_next (wpAny_call_entry F.slot_dict_keyiterator_next hit.typeIs F.entry_dict_keyiterator_next
    (wpAny_bind (wpAny_pure (wpAny_bind (wpAny_bind (wpAny_bind (wpAny_typeNameOfWhole_keyiter hit.typeIs (wpAny_pure (wpAny_bind (wpAny_fieldsOf ho hd ?_))))))))) (F.args_dict_keyiterator_next_1 _)))
  simp only [no_tuple_k, Bool.false_eq_true, if_false]
  show wpAny _ _ (if (Value.ref d == Value.none) = true then _ else _) _ _ s
  rw [if_neg (show ¬ ((Value.ref d == Value.none) = true) from Bool.false_ne_true)]
  refine wpAny_bind (wpAny_pure (wpAny_bind (wpAny_dictEntries hod hdd ?_)))
  rw [if_neg (by rw [hsz]; simp)]
  refine wpAny_bind (wpAny_pure (wpAny_bind (wpAny_dictEpoch hod hdd ?_)))
  rw [if_neg (by simp)]
  refine wpAny_pure ?_
  simp only [show ¬ ((i : Int) < 0) from by omega, if_false, Int.toNat_natCast, Array.getElem?_eq_none (show es.size ≤ i by omega)]
  refine wpAny_bind (wpAny_bind (wpAny_typeNameOfWhole_keyiter hit.typeIs (wpAny_pure ?_)))
  show wpAny _ _ (setField (.ref it) 0 .none >>= _) _ _ s
  refine wpAny_bind (wpAny_setField ho hd (by simp) (show wpAny _ _ (newExc (.type "StopIteration") [] >>= _) _ _ _ from wpAny_bind ?_))
  simp only [newExc, newTuple]
  refine wpAny_bind (wpAny_newObj_type (wpAny_bind (m := firstArgMember _ _) (wpAny_of_eq (a := Value.none) (by first | rfl | (simp only [firstArgMember]; rfl)) (wpAny_newObj_type ?_ (by size_fits)))) (by size_fits))
  simp only [raiseNew]
  refine wpAny_bind (wpAny_handled ?_)
  first | rw [show A.in1.handled = none from hh] | rw [hh]
  exact wpAny_bind (wpAny_pure (wpAny_throw (hE _ _ (((Heap.SameBut.update ..).extBut.push _).push _) ⟨_, Heap.get?_push_size _ rfl, rfl⟩)))
/-- the next value -/
theorem draw_val (hit : s.heap.IsValIter it d i n ep) (hod : s.heap.get? d = some od) (hdd : od.data = .dict es ep) (hsz : es.size = n) (hx : es[i]? = some en)
    (hQ : ∀ h', h'.IsValIter it d (i + 1) n ep → Heap.SameBut it s.heap h' → Q en.val { s with heap := h' }) : wpAny (model prog w) A (Builtin.SmallTypes.nextOf (.ref it)) Q E s := by
  obtain ⟨o, ho, hc, hd⟩ := id hit
  obtain ⟨hlt, hen⟩ := Array.getElem?_eq_some_iff.mp hx
  have gone : (s.heap.update it (Obj.mapFields (·.setIfInBounds 1 (rawInt ((i : Int) + 1))))).IsValIter it d (i + 1) n ep :=
    ⟨_, Heap.get?_update_self _ ho (Obj.isFreed_of_fields (Obj.data_mapFields hd _)), (Obj.cls_mapFields ..).trans hc, by rw [Obj.data_mapFields hd]; simp [rawInt]⟩
  unfold Builtin.SmallTypes.nextOf
  refine wpAny_bind (wpAny_callSpecial?_slot (name := Str.ofString "__next__") hit.typeIs F.slot_dict_valueiterator_next (wpAny_call_entry F.slot_dict_valueiterator_next hit.typeIs F.entry_dict_valueiterator_next
    (wpAny_bind (wpAny_pure (wpAny_bind (wpAny_bind (wpAny_bind (wpAny_typeNameOfWhole_valiter hit.typeIs (wpAny_pure (wpAny_bind (wpAny_fieldsOf ho hd ?_))))))))) (F.args_dict_valueiterator_next_1 _)))
  simp only [no_tuple_v, Bool.false_eq_true, if_false]
  show wpAny _ _ (if (Value.ref d == Value.none) = true then _ else _) _ _ s
  rw [if_neg (show ¬ ((Value.ref d == Value.none) = true) from Bool.false_ne_true)]
  refine wpAny_bind (wpAny_pure (wpAny_bind (wpAny_dictEntries hod hdd ?_)))
  rw [if_neg (by rw [hsz]; simp)]
  refine wpAny_bind (wpAny_pure (wpAny_bind (wpAny_dictEpoch hod hdd ?_)))
  rw [if_neg (by simp)]
  refine wpAny_pure ?_
  simp only [show ¬ ((i : Int) < 0) from by omega, if_false, Int.toNat_natCast, Array.getElem?_eq_getElem hlt]
  refine wpAny_bind (wpAny_bind (wpAny_typeNameOfWhole_valiter hit.typeIs (wpAny_pure (wpAny_bind (wpAny_isOneOf_valiter hit.typeIs ?_)))))
  show wpAny _ _ (setField (.ref it) 1 (rawInt ((i : Int) + 1)) >>= _) _ _ s
  refine wpAny_bind (wpAny_setField ho hd (by simp) (wpAny_bind (wpAny_holding (wpAny_bind (wpAny_isOneOf_valiter (s := { s with heap := s.heap.update it (Obj.mapFields (·.setIfInBounds 1 (rawInt ((i : Int) + 1)))) }) gone.typeIs
    (wpAny_bind (wpAny_isOneOf_valiter (s := { s with heap := s.heap.update it (Obj.mapFields (·.setIfInBounds 1 (rawInt ((i : Int) + 1)))) }) gone.typeIs ?_)))))))
  show wpAny _ _ (pure es[i].val) _ _ _
  rw [hen]
  exact wpAny_pure (wpAny_pure ⟨_, rfl, wpAny_pure (hQ _ gone (Heap.SameBut.update ..))⟩)
/-- no value is left -/
theorem draw_val_end (hh : A.handled = none) (hit : s.heap.IsValIter it d i n ep) (hod : s.heap.get? d = some od) (hdd : od.data = .dict es ep) (hsz : es.size = n) (hge : n ≤ i)
    (hE : ∀ h' e, Heap.ExtBut it s.heap h' → (∃ o, h'.get? e = some o ∧ o.cls = .type "StopIteration") → E (.ref e) { s with heap := h' }) : wpAny (model prog w) A (Builtin.SmallTypes.nextOf (.ref it)) Q E s := by
  obtain ⟨o, ho, hc, hd⟩ := id hit
  unfold Builtin.SmallTypes.nextOf
  refine wpAny_bind (wpAny_callSpecial?_slot (name := Str.ofString "__next__") hit.typeIs F.slot_dict_valueiterator_next (wpAny_call_entry F.slot_dict_valueiterator_next hit.typeIs F.entry_dict_valueiterator_next
    (wpAny_bind (wpAny_pure (wpAny_bind (wpAny_bind (wpAny_bind (wpAny_typeNameOfWhole_valiter hit.typeIs (wpAny_pure (wpAny_bind (wpAny_fieldsOf ho hd ?_))))))))) (F.args_dict_valueiterator_next_1 _)))
  simp only [no_tuple_v, Bool.false_eq_true, if_false]
  show wpAny _ _ (if (Value.ref d == Value.none) = true then _ else _) _ _ s
  rw [if_neg (show ¬ ((Value.ref d == Value.none) = true) from Bool.false_ne_true)]
  refine wpAny_bind (wpAny_pure (wpAny_bind (wpAny_dictEntries hod hdd ?_)))
  rw [if_neg (by rw [hsz]; simp)]
  refine wpAny_bind (wpAny_pure (wpAny_bind (wpAny_dictEpoch hod hdd ?_)))
  rw [if_neg (by simp)]
  refine wpAny_pure ?_
  simp only [show ¬ ((i : Int) < 0) from by omega, if_false, Int.toNat_natCast, Array.getElem?_eq_none (show es.size ≤ i by omega)]
  refine wpAny_bind (wpAny_bind (wpAny_typeNameOfWhole_valiter hit.typeIs (wpAny_pure ?_)))
  show wpAny _ _ (setField (.ref it) 0 .none >>= _) _ _ s
  refine wpAny_bind (wpAny_setField ho hd (by simp) (show wpAny _ _ (newExc (.type "StopIteration") [] >>= _) _ _ _ from wpAny_bind ?_))
  simp only [newExc, newTuple]
  refine wpAny_bind (wpAny_newObj_type (wpAny_bind (m := firstArgMember _ _) (wpAny_of_eq (a := Value.none) (by first | rfl | (simp only [firstArgMember]; rfl)) (wpAny_newObj_type ?_ (by size_fits)))) (by size_fits))
  simp only [raiseNew]
  refine wpAny_bind (wpAny_handled ?_)
  first | rw [show A.in1.handled = none from hh] | rw [hh]
  exact wpAny_bind (wpAny_pure (wpAny_throw (hE _ _ (((Heap.SameBut.update ..).extBut.push _).push _) ⟨_, Heap.get?_push_size _ rfl, rfl⟩)))
end
section
variable {prog : Program} {w : World} {A : Around} {od : Obj} {es : Array DictEntry} {ep n : Nat}
theorem draws_keys (hh : A.handled = none) (it d : Addr) (hne : d ≠ it) (hdd : od.data = .dict es ep) (hsz : es.size = n) :
    Draws prog w A it [it, d] n (fun i v => ∃ en, es[i]? = some en ∧ v = en.key) (fun i h => h.IsKeyIter it d i n ep ∧ h.get? d = some od) where
  live := fun _ _ st => let ⟨o, ho, _⟩ := st.1; ⟨o, ho⟩
  frame := fun _ _ _ st hk => ⟨st.1.at fun o e => hk it (by simp) o e, hk d (by simp) _ st.2⟩
  item := fun i s Q E hi st hQ => by
    have hx : es[i]? = some (es[i]'(by omega)) := by simp [show i < es.size by omega]
    exact draw_key st.1 st.2 hdd hsz hx fun h' hit' hs' => hQ _ h' s.toks ⟨_, hx, rfl⟩ ⟨hit', (hs'.2 d hne).trans st.2⟩ hs'
  done := fun s Q E st hE => draw_key_end hh st.1 st.2 hdd hsz (Nat.le_refl _) hE
theorem draws_vals (hh : A.handled = none) (it d : Addr) (hne : d ≠ it) (hdd : od.data = .dict es ep) (hsz : es.size = n) :
    Draws prog w A it [it, d] n (fun i v => ∃ en, es[i]? = some en ∧ v = en.val) (fun i h => h.IsValIter it d i n ep ∧ h.get? d = some od) where
  live := fun _ _ st => let ⟨o, ho, _⟩ := st.1; ⟨o, ho⟩
  frame := fun _ _ _ st hk => ⟨st.1.at fun o e => hk it (by simp) o e, hk d (by simp) _ st.2⟩
  item := fun i s Q E hi st hQ => by
    have hx : es[i]? = some (es[i]'(by omega)) := by simp [show i < es.size by omega]
    exact draw_val st.1 st.2 hdd hsz hx fun h' hit' hs' => hQ _ h' s.toks ⟨_, hx, rfl⟩ ⟨hit', (hs'.2 d hne).trans st.2⟩ hs'
  done := fun s Q E st hE => draw_val_end hh st.1 st.2 hdd hsz (Nat.le_refl _) hE
end
end WwR
end S_WwIter

section S_WwPi
set_option Elab.async false
set_option linter.all false
set_option maxRecDepth 100000
set_option maxHeartbeats 2000000
/-! Own rules: for over enumerate(text | tuple | dict | values), zip(text, text). -/
namespace WwR
open PySem PySem.Spec PyProof.Rows L2
/-- the pairs (i, the i-th sign) -/
def relS (z : Str) (i : Nat) (xs : List V) : Prop := ∃ c, z.cps[i]? = some c ∧ xs = [.int (i : Nat), .str ⟨#[c]⟩]
def relL (ys : List V) (i : Nat) (xs : List V) : Prop := ∃ y, ys[i]? = some y ∧ xs = [.int (i : Nat), y]
def relSS (z z' : Str) (i : Nat) (xs : List V) : Prop := ∃ c c', z.cps[i]? = some c ∧ z'.cps[i]? = some c' ∧ xs = [.str ⟨#[c]⟩, .str ⟨#[c']⟩]
theorem two_line : ([x, y] : List V).length ≤ sizeLine := by show 2 ≤ sizeLine; decide
section
variable {P : Program} {w : World} {K : PySem.W.Frag} {elts : List Expr} {kk : Nat} {tpos : Pos}
abbrev tnE (e it : Addr) (base : Nat → Heap → Prop) (i : Nat) (h : Heap) : Prop := (∃ old, IsEnum h e it ((i : Nat) : Int) old) ∧ base i h ∧ e ≠ it
/-- enumerate over an iterator of any kind -/
theorem turn_enumG {e it : Addr} {n : Nat} {rel : Nat → List V → Prop} {G : Hp → Prop} {base : Nat → Heap → Prop}
    (hobj : ∀ i h, base i h → ∃ o, h.get? it = some o ∧ ∀ v, o.data ≠ .cell v)
    (hkeep : ∀ i h h', base i h → (∀ o, h.get? it = some o → h'.get? it = some o) → base i h')
    (hD : ∀ (X : Cx), X.prog = P → X.w = w → X.K = K → X.calm = true → ∀ (pins : List (Addr × Obj)) (s : Shared) (σ : L2.St) (H : Hp), Inv X pins σ H s → G H → H it = none →
      ∃ (fp : List Addr) (Pv : Nat → Value → Prop) (St : Nat → Heap → Prop), (∀ A : Around, A.handled = none → Draws P w A it fp n Pv St) ∧ it ∈ fp ∧ (∀ b ∈ fp, b = it ∨ ∃ o, H b = some o) ∧ (∀ i, base i s.heap → St i s.heap) ∧ (∀ i h, St i h → base i h) ∧
        ∀ i v, Pv i v → ∃ x, RelV x v ∧ rel i [.int (i : Nat), x]) :
    Turn P w K (.Tuple elts kk tpos) (ItN n rel G) [e, it] e (tnE e it base) := by
  refine turn_WT (by simp) (fun i h st b hb => ?_) (fun i h h' st hk => ?_) (fun A i s Q E st q => ?_) (fun X hP hw hK hc pins s σ H I hf hG => ?_)
  · obtain ⟨⟨old, he⟩, hb2, hne⟩ := st
    rcases (by simpa using hb : b = e ∨ b = it) with z | z
    · rw [z]; exact ⟨_, he, fun v q => nomatch q⟩
    · rw [z]; exact hobj i h hb2
  · obtain ⟨⟨old, he⟩, hb2, hne⟩ := st
    exact ⟨⟨old, hk e (by simp) _ he⟩, hkeep i h h' hb2 (hk it (by simp)), hne⟩
  · obtain ⟨⟨old, he⟩, _⟩ := st
    exact wpAny_pyIter_enum he q
  · obtain ⟨fp, Pv, St, D, hif, hfp, h1, h2, h3⟩ := hD X hP hw hK hc pins s σ H I hG (hf it (by simp))
    by_cases hne : e ≠ it
    · have hef : e ∉ fp := fun z => by
        rcases hfp e z with q | ⟨o, q⟩
        · exact hne q
        · rw [hf e (by simp)] at q; cases q
      have hh : X.A.in1.handled = none := I.ok.hd hc
      refine ⟨_, _, _, _, _, WalksT.enumFrom 0 (D X.A.in1 hh) e hne hef hif, fun b hb => hb, fun i st => ?_, fun i h st => ?_, fun i vals hv => ?_⟩
      · obtain ⟨⟨old, he⟩, hb2, _⟩ := st
        exact ⟨⟨old, by rw [Int.zero_add]; exact he⟩, h1 i hb2⟩
      · obtain ⟨⟨old, he⟩, hb2⟩ := st
        rw [Int.zero_add] at he
        exact ⟨⟨old, he⟩, h2 i h hb2, hne⟩
      · obtain ⟨t, x, hx, ev⟩ := hv
        obtain ⟨y, ry, hr⟩ := h3 i x hx
        rw [Int.zero_add] at ev
        exact ⟨[.int (i : Nat), y], [.int (i : Nat) t, x], ev, .cons ⟨t, rfl⟩ (.cons ry .nil), two_line, hr⟩
    · -- no turn begins with e = it
      have hne' : e = it := Classical.byContradiction hne
      refine ⟨[], [], fun _ _ => False, fun i h => tnE e it base i h, fun _ _ _ => False, ⟨fun b hb => by simp at hb, fun i h h' st hk => ?_, fun i s' Q E hi st hQ => (st.2.2 hne').elim, fun _ _ _ _ _ _ _ _ hM _ => hM.elim, fun _ _ _ hM => hM.elim, fun s' Q E st hQ => (st.2.2 hne').elim, fun i s' Q E st hQ => (st.2.2 hne').elim⟩, fun b hb => by simp at hb, fun i st => st, fun i h st => st, fun i vals hv => hv.elim⟩
      exact (st.2.2 hne').elim
end
section
variable {X : Cx} {e : Expr} {ta : TA} {p pos tpos : Pos} {elts : List Expr} {kk : Nat}
/-- enumerate's new objects laid; the walk is told -/
theorem enum_laid {pins : List (Addr × Obj)} {σ : L2.St} {H : Hp} {s : Shared} {R : It → Hp → Prop} {n : Nat} {rel : Nat → List V → Prop} {G : Hp → Prop} {base : Nat → Heap → Prop} {v : Value} {o : Obj} {HH : Heap → Prop} (I : Inv X pins σ H s)
    (B : Begins v o HH) (h1 : HH s.heap) (hb : ∀ h : Heap, h.get? s.heap.objs.size = some o → base 0 h)
    (T : Turn X.prog X.w X.K (.Tuple elts kk tpos) (ItN n rel G) [s.heap.objs.size + 1, s.heap.objs.size] (s.heap.objs.size + 1) (tnE (s.heap.objs.size + 1) s.heap.objs.size base)) (q : R (ItN n rel G) H) :
    wpAny (model X.prog X.w) X.A (call (.type "enumerate") [v]) (fun v s1 => wpAny (model X.prog X.w) X.A (pyIter v) (PIE X pins σ (.Tuple elts kk tpos) R) X.xe s1) X.xe s := by
  refine enum1 B h1 fun h' he ho hsz hk => wpAny_pyIter_enum he ?_
  have I2 : Inv X pins σ H { s with heap := h' } := I.kept (t' := s.toks) hk
  refine ⟨s.heap.objs.size + 1, [s.heap.objs.size + 1, s.heap.objs.size], _, _, H, rfl, I2, T, ⟨⟨.none, he⟩, hb h' ho, Nat.succ_ne_self _⟩, fun b hb => ?_, q⟩
  have hle : s.heap.objs.size ≤ b := by
    rcases (by simpa using hb : b = s.heap.objs.size + 1 ∨ b = s.heap.objs.size) with z | z
    · rw [z]; exact Nat.le_add_right _ _
    · rw [z]; exact Nat.le_refl _
  exact I.fpOk hle (I.hok.fresh hle)
def iEnumS (ta : TA) : TI := fun σ H R => ta σ H fun vs H1 => ∃ z, vs = [.str z] ∧ R (ItN z.cps.size (relS z) fun _ => True) H1
def iEnumT (ta : TA) : TI := fun σ H R => ta σ H fun vs H1 => ∃ a xs, vs = [.ref a] ∧ H1 a = some (.tup xs) ∧ R (ItN xs.length (relL xs) fun H => H a = some (.tup xs)) H1
def iEnumK (ta : TA) : TI := fun σ H R => ta σ H fun vs H1 => ∃ d o kvs, vs = [.ref d] ∧ H1 d = some (.frz o (.dK kvs)) ∧ R (ItN kvs.length (relL (kvs.map fun kv => kV kv.1)) fun H => H d = some (.frz o (.dK kvs))) H1
theorem pi_enumS (hg : Gl X "enumerate") (hm : X.mg "enumerate" = none) (ha : PA X [e] ta) (hs : starEach [e] X.env = [(false, eval e X.env)] := by rfl) :
    PI X (.Tuple elts kk tpos) (.Call (.Name "enumerate" p) [e] [] pos) (iEnumS ta) := by
  refine ⟨fun pins s σ H R I h => ?_⟩
  refine Call_ (ld_blt I hg hm boot_enumerate (PyProof.Rows.callWith_type1 (thn (ha.run pos pins s σ H _ I h) fun us s1 ⟨vs, H1, I1, r1, z, ex, q⟩ => ?_) hs rfl))
  subst ex
  obtain ⟨u, rfl, t, rfl⟩ := r1.one
  refine enum_laid (base := fun i h => h.IsStrIter s1.heap.objs.size (strIterType z) z t i) I1 (begins_text z t) trivial (fun h ho => ⟨_, ho, rfl, rfl⟩) (turn_enumG (fun i h hb => ?_) (fun i h h' hb hk => ?_) fun X' hP hw hK hc pins' s' σ' H' I' hG hit => ?_) q
  · obtain ⟨o, ho, _, hd⟩ := hb
    exact ⟨o, ho, fun v q => by rw [hd] at q; cases q⟩
  · obtain ⟨o, ho, r⟩ := hb
    exact ⟨o, hk o ho, r⟩
  · refine ⟨_, _, _, fun A hh => Draws.text hh _ z t, by simp, fun b hb => .inl (by simpa using hb), fun i st => st, fun i h st => st, fun i v hv => ?_⟩
    obtain ⟨c, u, hc, rfl⟩ := hv
    exact ⟨.str ⟨#[c]⟩, ⟨u, rfl⟩, c, hc, rfl⟩
theorem pi_enumT (hg : Gl X "enumerate") (hm : X.mg "enumerate" = none) (ha : PA X [e] ta) (hs : starEach [e] X.env = [(false, eval e X.env)] := by rfl) :
    PI X (.Tuple elts kk tpos) (.Call (.Name "enumerate" p) [e] [] pos) (iEnumT ta) := by
  refine ⟨fun pins s σ H R I h => ?_⟩
  refine Call_ (ld_blt I hg hm boot_enumerate (PyProof.Rows.callWith_type1 (thn (ha.run pos pins s σ H _ I h) fun us s1 ⟨vs, H1, I1, r1, a, xs, ex, hx, q⟩ => ?_) hs rfl))
  subst ex
  obtain ⟨u, rfl, rfl⟩ := r1.one
  obtain ⟨its, rv, p', hz⟩ := I1.tuple (SqT.of hx)
  obtain ⟨oT, hoT, cT, nT, dT⟩ := p'
  refine enum_laid (base := fun i h => h.IsTupleIter s1.heap.objs.size a i) I1 (begins_tuple a its.toArray) ⟨oT, hoT, cT, nT, dT⟩ (fun h ho => ⟨_, ho, rfl, rfl⟩) (turn_enumG (fun i h hb => ?_) (fun i h h' hb hk => hb.at fun o e => hk o e) fun X' hP hw hK hc pins' s' σ' H' I' hG hit => ?_) q
  · obtain ⟨o, ho, _, hd⟩ := hb
    exact ⟨o, ho, fun v q => by rw [hd] at q; cases q⟩
  · obtain ⟨its', rv', pt, _⟩ := I'.tuple (SqT.of hG)
    have hne : a ≠ s1.heap.objs.size := fun z => by rw [z, hit] at hG; cases hG
    have hl := rv'.length
    have D : ∀ A : Around, A.handled = none → Draws X.prog X.w A s1.heap.objs.size [s1.heap.objs.size, a] xs.length (fun i v => its'.toArray[i]? = some v) (fun i h => h.IsTupleIter s1.heap.objs.size a i ∧ h.IsTuple a its'.toArray) := fun A hh => by
      have d := Draws.tuple (prog := X.prog) (w := X.w) hh s1.heap.objs.size a hne its'.toArray
      have hq : its'.toArray.size = xs.length := by simp [hl]
      rw [hq] at d
      exact d
    refine ⟨_, _, _, D, by simp, fun b hb => ?_, fun i st => ⟨st, pt⟩, fun i h st => st.1, fun i v hv => ?_⟩
    · rcases (by simpa using hb : b = s1.heap.objs.size ∨ b = a) with z | z
      · exact .inl z
      · exact .inr ⟨_, by rw [z]; exact hG⟩
    · have hv' : its'[i]? = some v := by simpa using hv
      have hi : i < xs.length := by rw [hl]; exact (List.getElem?_eq_some_iff.mp hv').1
      obtain ⟨u, hu, ru⟩ := rv'.get (List.getElem?_eq_getElem hi)
      rw [hv'] at hu
      cases hu
      exact ⟨_, ru, _, List.getElem?_eq_getElem hi, rfl⟩
/-- a locked dict's keys -/
theorem begins_keys {d : Addr} {od : Obj} {es : Array DictEntry} {ep : Nat} (hd : (d == sysModules) = false) (hc : od.ExactDict) (hdat : od.data = .dict es ep) :
    Begins (.ref d) { cls := .type "dict_keyiterator", data := .fields #[.ref d, .int 0 0, .int es.size 0, .int ep 0] } fun h => h.get? d = some od where
  iter := fun prog w A E s Q ho h => iter_keys hd ho hc hdat h
  keeps := fun h h' x hk => hk d _ x
  free := rfl
theorem pi_enumK (hg : Gl X "enumerate") (hm : X.mg "enumerate" = none) (ha : PA X [e] ta) (hs : starEach [e] X.env = [(false, eval e X.env)] := by rfl) :
    PI X (.Tuple elts kk tpos) (.Call (.Name "enumerate" p) [e] [] pos) (iEnumK ta) := by
  refine ⟨fun pins s σ H R I h => ?_⟩
  refine Call_ (ld_blt I hg hm boot_enumerate (PyProof.Rows.callWith_type1 (thn (ha.run pos pins s σ H _ I h) fun us s1 ⟨vs, H1, I1, r1, d, o, kvs, ex, hx, q⟩ => ?_) hs rfl))
  subst ex
  obtain ⟨u, rfl, rfl⟩ := r1.one
  obtain ⟨hsm, hgd, hxd, es, ep, vs, hdt, hsz, kv, hm2⟩ := I1.frzK hx
  refine enum_laid (base := fun i h => h.IsKeyIter s1.heap.objs.size d i es.size ep) I1 (begins_keys hsm hxd hdt) hgd (fun h ho => ⟨_, ho, rfl, rfl⟩) (turn_enumG (fun i h hb => ?_) (fun i h h' hb hk => hb.at fun o e => hk o e) fun X' hP hw hK hc pins' s' σ' H' I' hG hit => ?_) q
  · obtain ⟨o, ho, _, hd⟩ := hb
    exact ⟨o, ho, fun v q => by rw [hd] at q; cases q⟩
  · have hne : d ≠ s1.heap.objs.size := fun z => by rw [z, hit] at hG; cases hG
    obtain ⟨_, hgd', _, es', ep', vs', hdt', hsz', kv', hm'⟩ := I'.frzK hG
    obtain ⟨rfl, rfl⟩ := dict_ep hdt hdt'
    have hl : kvs.length = vs'.length := Paired.length kv'
    have hn : es'.size = kvs.length := by omega
    have D : ∀ A : Around, A.handled = none → Draws X.prog X.w A s1.heap.objs.size [s1.heap.objs.size, d] kvs.length (fun i v => ∃ en, es'[i]? = some en ∧ v = en.key) (fun i h => h.IsKeyIter s1.heap.objs.size d i kvs.length ep' ∧ h.get? d = some o) := fun A hh => draws_keys hh _ d hne hdt' hn
    refine ⟨_, _, _, D, by simp, fun b hb => ?_, fun i st => ⟨by rw [← hn]; exact st, hgd'⟩, fun i h st => by rw [hn]; exact st.1, fun i v hv => ?_⟩
    · rcases (by simpa using hb : b = s1.heap.objs.size ∨ b = d) with z | z
      · exact .inl z
      · exact .inr ⟨_, by rw [z]; exact hG⟩
    · obtain ⟨en, hen, rfl⟩ := hv
      have hi : i < kvs.length := by rw [← hn]; exact (Array.getElem?_eq_some_iff.mp hen).1
      obtain ⟨oo, es2, ho2, _, hd2, _, hp, _⟩ := hm'
      rw [hgd'] at ho2
      cases ho2
      obtain ⟨rfl, _⟩ := dict_ep hdt' hd2
      have hkv : kvs[i]? = some (kvs[i].1, kvs[i].2) := List.getElem?_eq_getElem hi
      obtain ⟨u, hu, ru⟩ := kv_get kv' hkv
      have hk := (hp.get? (e := en) (by rw [Array.getElem?_toList]; exact hen) hu).1
      refine ⟨kV kvs[i].1, relV_key hk, _, ?_, rfl⟩
      rw [List.getElem?_map, hkv]
      rfl
end
end WwR
end S_WwPi

section S_WwPi2
set_option Elab.async false
set_option linter.all false
set_option maxRecDepth 100000
set_option maxHeartbeats 2000000
/-! Own rules: d.values() as a value, list(..) and enumerate(..) of it; zip of two texts; set(list of ints), its len; a pair of signs turned round. -/
namespace WwR
open PySem PySem.Spec PyProof.Rows L2
/-- the view at p of the values of the dict at d -/
def VwO (p d : Addr) : HO := .ext fun h => h.IsValuesView p d
section
variable {X : Cx} {e : Expr} {te : TE} {ta : TA} {p apos cpos pos tpos : Pos} {elts : List Expr} {kk : Nat}
/-- the object of a dict that may be read -/
theorem rd_raw {pins : List (Addr × Obj)} {σ : L2.St} {H : Hp} {s : Shared} {d : Addr} {kvs : List (Key × V)} (I : Inv X pins σ H s) (h : Rd H d (.dK kvs)) :
    (d == sysModules) = false ∧ kvs.length ≤ sizeLine ∧ ∃ (od : Obj) (es : Array DictEntry) (ep : Nat) (vs : List (Key × Value)), s.heap.get? d = some od ∧ od.ExactDict ∧ od.data = .dict es ep ∧ es.size = kvs.length ∧ KV kvs vs ∧ s.heap.DictOf (mixKind X.prog X.w) d vs ∧
      ∀ (i : Nat) (en : DictEntry), es[i]? = some en → ∃ k v, kvs[i]? = some (k, v) ∧ RelV (kV k) en.key ∧ RelV v en.val := by
  obtain ⟨z, lo, vs, kv, dd⟩ := dk_rd I.hok h
  obtain ⟨ep, od, es, ho, hx, hd, hk, hp, hn⟩ := dd.dictAt
  have l1 := hp.length
  have l2 : kvs.length = vs.length := Paired.length kv
  rw [Array.length_toList] at l1
  refine ⟨lo, z, od, es, ep, vs, ho, hx, hd, by omega, kv, dd, fun i en hen => ?_⟩
  have hi : i < kvs.length := by
    have := (Array.getElem?_eq_some_iff.mp hen).1
    omega
  have hkv : kvs[i]? = some (kvs[i].1, kvs[i].2) := List.getElem?_eq_getElem hi
  obtain ⟨u, hu, ru⟩ := kv_get kv hkv
  have q := hp.get? (e := en) (by rw [Array.getElem?_toList]; exact hen) hu
  exact ⟨_, _, hkv, relV_key q.1, by rw [q.2]; exact ru⟩
def tVals (te : TE) : TE := fun σ H Q => te σ H fun x H1 => ∃ d kvs, x = .ref d ∧ Rd H1 d (.dK kvs) ∧ ∀ p, H1 p = none → Q (.ref p) (upd H1 p (VwO p d))
theorem pe_vals (he : PE X e te) (hbase : attributeBase e "values" X.env (eval e X.env) = eval e X.env := by rfl) (hline : (apos.endLine == cpos.line) = true := by rfl) : PE X (.Call (.Attribute e "values" apos) [] [] cpos) (tVals te) := by
  refine ⟨fun pins s σ H Q I h => ?_⟩
  refine wpAny_Call_method (T := "dict") (id := "dict.values") hbase rfl hline F.plainAttrs_dict F.slot_dict_values F.type_dict_values (thn (he.run pins s σ H _ I h) fun u s1 ⟨x, H1, I1, rx, d, kvs, ex, hd, q⟩ => ?_)
  subst ex
  obtain rfl : u = Value.ref d := rx
  obtain ⟨lo, z, od, es, ep, vs, ho, hx, hdt, hsz, kv, dd, _⟩ := rd_raw I1 hd
  refine ⟨dd.typeIs, dd.mapOf.noDict, ?_⟩
  have I2 : Inv X pins σ (upd H1 s1.heap.objs.size (VwO s1.heap.objs.size d)) { s1 with heap := s1.heap.push { cls := .type "dict_values", data := .fields #[.ref d] } } := by
    refine I1.laid (t' := s1.toks) (fun b ob q => Heap.get?_push_of_some _ q) (Nat.le_refl _) ?_
    exact ⟨⟨_, Heap.get?_push_size _ rfl, rfl, rfl⟩, ⟨_, Heap.get?_push_size _ rfl⟩, fun h1 h2 ⟨o, a, b, c⟩ st => ⟨o, st _ a, b, c⟩⟩
  show wpAny _ _ (callWith cpos (.builtin "dict.values") [.ref d] [] []) _ X.xe s1
  exact method_meetsIn F.slot_dict_values F.entry_dict_values rfl (PySem.evalArgs_none ⟨rfl, dd.typeIs, F.args_dict_values_1 _, _, meets_dict_values (mixKind X.prog X.w) d lo, ⟨vs, dd⟩, .ref _, _, I2, rfl, q _ (I1.hok.fresh (Nat.le_refl _))⟩)
/-- list(view) -/
theorem call_listVw (hcalm : X.calm = true) : CallR X (.type "list") (fun xs H Q => ∃ (p d : Addr) (kvs : List (Key × V)), xs = [.ref p] ∧ H p = some (VwO p d) ∧ Rd H d (.dK kvs) ∧ ∀ q, H q = none → Q (.ref q) (upd H q (.lst (kvs.map (·.2))))) := by
  intro pins s σ H xs us Q I r h
  obtain ⟨p, d, kvs, rfl, hp, hd, q⟩ := h
  obtain ⟨u, rfl, rfl⟩ := r.one
  obtain ⟨lo, z, od, es, ep, vs, ho, hx, hdt, hsz, kv, dd, _⟩ := rd_raw I hd
  have hv : s.heap.IsValuesView p d := (I.hok p _ hp).1
  obtain ⟨ep', hat⟩ := dd.dictAt
  have hl : kvs.length = vs.length := Paired.length kv
  refine PySem.W.kdl_call (PySem.W.kdl_values (knd := mixKind X.prog X.w) (kvs := vs) (ep := ep')) (I.ok.hd hcalm) ⟨hv, hat⟩ (by omega) fun h' tk acc c' hk hD hacc => ?_
  have hvs : Vals (kvs.map (·.2)) acc.toList := by
    have key : ∀ {kvs : List (Key × V)} {vs : List (Key × Value)} {ws : List Value}, KV kvs vs → ws.length = vs.length → (∀ (j : Nat) (v : Value), ws[j]? = some v → ∃ k, vs[j]? = some (k, v)) → Vals (kvs.map (·.2)) ws := by
      intro kvs vs ws h
      induction h generalizing ws with
      | nil => intro hl _; cases ws with
        | nil => exact .nil
        | cons _ _ => cases hl
      | cons r t ih => intro hl hj; cases ws with
        | nil => cases hl
        | cons w ws =>
          obtain ⟨k, e⟩ := hj 0 w rfl
          have e := Option.some.inj e
          refine .cons ?_ (ih (Nat.succ.inj hl) fun j v e => hj (j + 1) v e)
          have r2 := r.2
          rw [e] at r2
          exact r2
    exact key kv (by rw [Array.length_toList]; exact hacc.1) fun (j : Nat) (v : Value) e => hacc.2 j v (by rw [← Array.getElem?_toList]; exact e)
  refine ⟨.ref s.heap.objs.size, _, I.laid (t' := tk) hk (Nat.le_refl _)
    (show ObjOk X.prog X.w _ _ _ (.lst (kvs.map (·.2))) from ⟨by rw [List.length_map]; exact z, acc.toList, c', hvs, by rw [Array.toArray_toList]; exact hD⟩), rfl, q _ (I.hok.fresh (Nat.le_refl _))⟩
/-- enumerate(view) of a locked dict -/
def iEnumV (ta : TA) : TI := fun σ H R => ta σ H fun vs H1 => ∃ p d o kvs, vs = [.ref p] ∧ H1 p = some (VwO p d) ∧ H1 d = some (.frz o (.dK kvs)) ∧ R (ItN kvs.length (relL (kvs.map fun kv => kv.2)) fun H => H d = some (.frz o (.dK kvs))) H1
theorem begins_vals {v d : Addr} {es : Array DictEntry} {ep : Nat} :
    Begins (.ref v) { cls := .type "dict_valueiterator", data := .fields #[.ref d, .int 0 0, .int es.size 0, .int ep 0] } fun h => h.IsValuesView v d ∧ h.DictRaw d es ep where
  iter := fun prog w A E s Q ho h => wpAny_pyIter_values_raw ho.1 ho.2 h
  keeps := fun h h' x hk => ⟨let ⟨o, a, b⟩ := x.1; ⟨o, hk _ _ a, b⟩, x.2.at fun o e => hk d o e⟩
  free := rfl
theorem pi_enumV (hg : Gl X "enumerate") (hm : X.mg "enumerate" = none) (ha : PA X [e] ta) (hs : starEach [e] X.env = [(false, eval e X.env)] := by rfl) :
    PI X (.Tuple elts kk tpos) (.Call (.Name "enumerate" p) [e] [] pos) (iEnumV ta) := by
  refine ⟨fun pins s σ H R I h => ?_⟩
  refine Call_ (ld_blt I hg hm boot_enumerate (PyProof.Rows.callWith_type1 (thn (ha.run pos pins s σ H _ I h) fun us s1 ⟨vs, H1, I1, r1, v, d, o, kvs, ex, hv, hx, q⟩ => ?_) hs rfl))
  subst ex
  obtain ⟨u, rfl, rfl⟩ := r1.one
  have hview : s1.heap.IsValuesView v d := (I1.hok v _ hv).1
  obtain ⟨hsm, hgd, hxd, es, ep, vs, hdt, hsz, kv, hm2⟩ := I1.frzK hx
  refine enum_laid (base := fun i h => h.IsValIter s1.heap.objs.size d i es.size ep) I1 begins_vals ⟨hview, ⟨o, hgd, hxd, hdt⟩⟩ (fun h ho => ⟨_, ho, rfl, rfl⟩) (turn_enumG (fun i h hb => ?_) (fun i h h' hb hk => hb.at fun o e => hk o e) fun X' hP hw hK hc pins' s' σ' H' I' hG hit => ?_) q
  · obtain ⟨o, ho, _, hd⟩ := hb
    exact ⟨o, ho, fun v q => by rw [hd] at q; cases q⟩
  · have hne : d ≠ s1.heap.objs.size := fun z => by rw [z, hit] at hG; cases hG
    obtain ⟨_, _, od', es', ep', vs', hgd', _, hdt', hsz', _, _, hent⟩ := rd_raw I' (.inr ⟨o, hG⟩)
    obtain ⟨_, hgo, _⟩ := I'.frzK hG
    rw [hgo] at hgd'
    cases hgd'
    obtain ⟨rfl, rfl⟩ := dict_ep hdt hdt'
    have D : ∀ A : Around, A.handled = none → Draws X.prog X.w A s1.heap.objs.size [s1.heap.objs.size, d] kvs.length (fun i v => ∃ en, es'[i]? = some en ∧ v = en.val) (fun i h => h.IsValIter s1.heap.objs.size d i kvs.length ep' ∧ h.get? d = some o) := fun A hh => draws_vals hh _ d hne hdt' hsz'
    refine ⟨_, _, _, D, by simp, fun b hb => ?_, fun i st => ⟨by rw [← hsz']; exact st, hgo⟩, fun i h st => by rw [hsz']; exact st.1, fun i v hv => ?_⟩
    · rcases (by simpa using hb : b = s1.heap.objs.size ∨ b = d) with z | z
      · exact .inl z
      · exact .inr ⟨_, by rw [z]; exact hG⟩
    · obtain ⟨en, hen, rfl⟩ := hv
      obtain ⟨k, v, hkv, _, rv⟩ := hent i en hen
      refine ⟨v, rv, _, ?_, rfl⟩
      rw [List.getElem?_map, hkv]
      rfl
/-! ### zip of two texts -/
def iZipS (ta : TA) : TI := fun σ H R => ta σ H fun vs H1 => ∃ z z', vs = [.str z, .str z'] ∧ R (ItN (min z.cps.size z'.cps.size) (relSS z z') fun _ => True) H1
theorem pi_zipS {e2 : Expr} (hg : Gl X "zip") (hm : X.mg "zip" = none) (ha : PA X [e, e2] ta)
    (hs : starEach [e, e2] X.env = (false, eval e X.env) :: starEach [e2] X.env := by rfl) (hpl : (backTo pos (starEach [e2] X.env)).any (·.1) = false := by rfl) :
    PI X (.Tuple elts kk tpos) (.Call (.Name "zip" p) [e, e2] [] pos) (iZipS ta) := by
  refine ⟨fun pins s σ H R I h => ?_⟩
  refine Call_ (ld_blt I hg hm PyProof.Rows.boot_zip (PyProof.Rows.callWith_type1 (thn (ha.run pos pins s σ H _ I h) fun us s1 ⟨vs, H1, I1, r1, z, z', ex, q⟩ => ?_) hs hpl))
  subst ex
  obtain ⟨u1, u2, rfl, ⟨t1, rfl⟩, ⟨t2, rfl⟩⟩ := r1.two
  refine zip_begins2 (begins_text z t1) (begins_text z' t2) trivial trivial fun h' hz hTI hTO h1 h2 hsz hk => wpAny_pyIter_zip hz ?_
  have I2 : Inv X pins σ H1 { s1 with heap := h' } := I1.kept (t' := s1.toks) hk
  have sep := zip_sep2 (N := s1.heap.objs.size) (fp1 := []) (fp2 := []) (fun b hb => by simp at hb) (fun b hb => by simp at hb)
  have mem5 : ∀ c, c ∈ [s1.heap.objs.size + 4, s1.heap.objs.size + 2, s1.heap.objs.size + 3, s1.heap.objs.size, s1.heap.objs.size + 1] → s1.heap.objs.size ≤ c := fun c hc => by
    rcases (by simpa using hc : c = s1.heap.objs.size + 4 ∨ c = s1.heap.objs.size + 2 ∨ c = s1.heap.objs.size + 3 ∨ c = s1.heap.objs.size ∨ c = s1.heap.objs.size + 1) with z | z | z | z | z <;> rw [z] <;> first | exact Nat.le_refl _ | exact Nat.le_add_right _ _
  refine ⟨s1.heap.objs.size + 4, [s1.heap.objs.size + 4, s1.heap.objs.size + 2, s1.heap.objs.size + 3, s1.heap.objs.size, s1.heap.objs.size + 1],
    (fun i h => IsZip h (s1.heap.objs.size + 4) (s1.heap.objs.size + 2) (s1.heap.objs.size + 3) .none ∧ IsTupOf2 h (s1.heap.objs.size + 2) (.ref s1.heap.objs.size) (.ref (s1.heap.objs.size + 1)) ∧ (∃ a1 a2, IsTupOf2 h (s1.heap.objs.size + 3) a1 a2) ∧
      h.IsStrIter s1.heap.objs.size (strIterType z) z t1 i ∧ h.IsStrIter (s1.heap.objs.size + 1) (strIterType z') z' t2 i), _, H1, rfl, I2, turn_WT (by simp) (fun i h st c hc => ?_) (fun i h h' st hk => ?_) (fun A i s Q E st q => wpAny_pyIter_zip st.1 q) (fun X' hP hw hK hc pins' s' σ' H' I' hf hG => ?_), ⟨hz, hTI, ⟨_, _, hTO⟩, ⟨_, h1, rfl, rfl⟩, ⟨_, h2, rfl, rfl⟩⟩, fun c hc => I1.fpOk (mem5 c hc) (I1.hok.fresh (mem5 c hc)), q⟩
  · obtain ⟨a1, a2, ⟨x, y, a3⟩, ⟨o1, b1, _, d1⟩, ⟨o2, b2, _, d2⟩⟩ := st
    rcases (by simpa using hc : c = s1.heap.objs.size + 4 ∨ c = s1.heap.objs.size + 2 ∨ c = s1.heap.objs.size + 3 ∨ c = s1.heap.objs.size ∨ c = s1.heap.objs.size + 1) with z | z | z | z | z <;> rw [z]
    · exact ⟨_, a1, fun v q => nomatch q⟩
    · exact ⟨_, a2, fun v q => nomatch q⟩
    · exact ⟨_, a3, fun v q => nomatch q⟩
    · exact ⟨_, b1, fun v q => by rw [d1] at q; cases q⟩
    · exact ⟨_, b2, fun v q => by rw [d2] at q; cases q⟩
  · obtain ⟨a1, a2, ⟨x, y, a3⟩, ⟨o1, b1, c1⟩, ⟨o2, b2, c2⟩⟩ := st
    exact ⟨hk _ (by simp) _ a1, hk _ (by simp) _ a2, ⟨x, y, hk _ (by simp) _ a3⟩, ⟨o1, hk _ (by simp) _ b1, c1⟩, ⟨o2, hk _ (by simp) _ b2, c2⟩⟩
  · have hh : X'.A.in1.handled = none := I'.ok.hd hc
    refine ⟨_, _, _, _, _, WalksT.zipD2 sep (Draws.text (prog := X.prog) (w := X.w) hh _ z t1) (Draws.text hh _ z' t2), fun b hb => ?_, fun i st => st, fun i h st => st, fun i vals hv => ?_⟩
    · rcases (by simpa using hb : b = s1.heap.objs.size + 4 ∨ b = s1.heap.objs.size + 3 ∨ b = s1.heap.objs.size ∨ b = s1.heap.objs.size + 1) with z | z | z | z <;> simp [z]
    · obtain ⟨x1, x2, ⟨c1, u1, e1, rfl⟩, ⟨c2, u2, e2, rfl⟩, ev⟩ := hv
      exact ⟨[.str ⟨#[c1]⟩, .str ⟨#[c2]⟩], [.str ⟨#[c1]⟩ u1, .str ⟨#[c2]⟩ u2], ev, .cons ⟨u1, rfl⟩ (.cons ⟨u2, rfl⟩ .nil), two_line, c1, c2, e1, e2, rfl⟩
/-! ### set(list of ints), its length -/
/-- B: the values of ns, each once -/
def OneEach (ns B : List Int) : Prop := B.Nodup ∧ ∀ v, v ∈ B ↔ v ∈ ns
theorem dedup_one : ∀ (ms acc : List Int), acc.Nodup → OneEach (acc ++ ms) (ms.foldl step_dedup acc)
  | [], acc, h => by rw [List.append_nil]; exact ⟨h, fun _ => Iff.rfl⟩
  | m :: ms, acc, h => by
    rw [List.foldl_cons]
    have hn : (step_dedup acc m).Nodup ∧ ∀ v, v ∈ step_dedup acc m ↔ v ∈ acc ∨ v = m := by
      unfold step_dedup
      split
      · rename_i hm
        obtain ⟨x, hx, e⟩ := List.any_eq_true.mp hm
        have e := beq_iff_eq.mp e
        subst e
        exact ⟨h, fun v => ⟨.inl, fun z => z.elim id fun z => z ▸ hx⟩⟩
      · rename_i hm
        refine ⟨?_, fun v => by simp⟩
        rw [List.nodup_append]
        refine ⟨h, by simp, fun a ha b hb e => hm ?_⟩
        rw [List.mem_singleton.mp hb] at e
        exact List.any_eq_true.mpr ⟨a, ha, beq_iff_eq.mpr e⟩
    obtain ⟨i1, i2⟩ := dedup_one ms _ hn.1
    refine ⟨i1, fun v => (i2 v).trans ?_⟩
    rw [List.mem_append, List.mem_append, List.mem_cons, hn.2]
    exact ⟨fun z => z.elim (fun z => z.elim .inl fun z => .inr (.inl z)) fun z => .inr (.inr z), fun z => z.elim (fun z => .inl (.inl z)) fun z => z.elim (fun z => .inl (.inr z)) .inr⟩
theorem firstMet_one (ns : List Int) : OneEach ns (firstMet (fun i => ns.getD i 0) ns.length) := by
  unfold firstMet
  have e : (List.range ns.length).map (fun i => ns.getD i 0) = ns := by
    apply List.ext_getElem?
    intro i
    rw [List.getElem?_map]
    by_cases hi : i < ns.length
    · rw [List.getElem?_range hi, Option.map_some, List.getD_eq_getElem?_getD, List.getElem?_eq_getElem hi]
      rfl
    · rw [List.getElem?_eq_none_iff.mpr (by rw [List.length_range]; omega), List.getElem?_eq_none_iff.mpr (by omega)]
      rfl
  rw [e]
  have := dedup_one ns [] List.nodup_nil
  rwa [List.nil_append] at this
theorem ints_of : ∀ {ns : List Int} {us : List Value}, Vals (ns.map V.int) us → PyProof.Rows.IntsAre us ns
  | [], [], _ => .nil
  | [], _ :: _, h => nomatch h
  | n :: ns, [], h => nomatch h
  | n :: ns, u :: us, .cons r t => by
    obtain ⟨k, rfl⟩ := r
    exact .cons _ _ (ints_of t)
theorem cr_setL (hc : X.calm = true) : CallR X (.type "set") (fun xs H Q => ∃ (a : Addr) (ns : List Int), xs = [.ref a] ∧ SqL X.K H a (ns.map V.int) ∧ ns.length < 4000 ∧ ∀ (p : Addr) (S : Int → Bool) (B : List Int), H p = none → OneEach ns B → Q (.ref p) (upd H p (.set S B.length))) := by
  intro pins s σ H xs us Q I r h
  obtain ⟨a, ns, rfl, ha, hl, q⟩ := h
  obtain ⟨u, rfl, rfl⟩ := r.one
  obtain ⟨its, rv, pl, hz⟩ := I.list ha
  have e : its.length = ns.length := by rw [← rv.length, List.length_map]
  have hs : its.toArray.size = ns.length := by rw [List.size_toArray, e]
  refine PySem.call_set_list (items := its.toArray) (ns := ns) (I.ok.hd hc) pl.isList (by simpa using ints_of rv) (by rw [hs]; unfold scanBound; omega) fun h' tk hS hk => ?_
  rw [hs] at hS
  refine ⟨.ref _, _, I.laid (t' := tk) (fun b o q => hk b o (Heap.lt_size q) q) (Nat.le_refl _) (show ObjOk X.prog X.w _ _ _ (.set _ _) from hS), rfl, q _ _ _ (I.hok.fresh (Nat.le_refl _)) (firstMet_one ns)⟩
theorem call_lenSet : CallR X (.builtin "len") (fun xs H Q => ∃ (a : Addr) (S : Int → Bool) (n : Nat), xs = [.ref a] ∧ H a = some (.set S n) ∧ Q (.int n) H) := by
  intro pins s σ H xs us Q I r h
  obtain ⟨a, S, n, rfl, ha, q⟩ := h
  obtain ⟨u, rfl, rfl⟩ := r.one
  obtain ⟨o, es, ep, t, ho, hx, hd, _, _, hb, hf, hn⟩ := I.hok a _ ha
  have h2 : (es.size : Int) < 2 ^ 63 := by unfold scanBound at hb; omega
  refine call_len_set ho hx hd hf h2 ?_
  rw [hn]
  exact ⟨.int n, H, I.tok _, ⟨_, rfl⟩, q⟩
/-! ### a pair of signs, turned round -/
theorem two_back : Builtin.Str.strSliceIndices none none (-1) 2 = [1, 0] := by decide +kernel
def tRevP (te : TE) : TE := fun σ H Q => te σ H fun x H1 => ∃ c d, x = .str ⟨#[c, d]⟩ ∧ Q (.str ⟨#[d, c]⟩) H1
theorem pe_revP {k : Nat} {p1 p2 p3 : Pos} (he : PE X e te) : PE X (.Subscript e (.Slice none none (some (.UnaryOp .USub (.Constant (.int 1) k p1) p2)) p3) pos) (tRevP te) := by
  refine ⟨fun pins s σ H Q I h => ?_⟩
  refine Subscript_ (thn (he.run pins s σ H _ I h) fun v s1 ⟨x, H1, I1, r1, c, d, ex, q⟩ => ?_)
  subst ex
  obtain ⟨t, rfl⟩ := r1
  have hst : PO X (some (.UnaryOp .USub (.Constant (.int 1) k p1) p2)) (tPart (tUn (rU fun i => .int (-i)) (tC (.int 1)))) := po_some (pe_un un_neg pe_int)
  refine wpAny_Slice (thn (po_none.run pins s1 σ H1 (fun o H2 => o = none ∧ H2 = H1) I1 ⟨rfl, rfl⟩) fun vl s2 ⟨l, H2, I2, pl, el, e2⟩ => ?_)
  subst el e2
  refine thn (po_none.run pins s2 σ H2 (fun o H3 => o = none ∧ H3 = H2) I2 ⟨rfl, rfl⟩) fun vu s3 ⟨u, H3, I3, pu, eu, e3⟩ => ?_
  subst eu e3
  refine thn (hst.run pins s3 σ H3 (fun o H4 => o = some (-1) ∧ H4 = H3) I3 ⟨1, rfl, -1, rfl, rfl, rfl⟩) fun vs s4 ⟨o, H4, I4, ps, eo, e4⟩ => ?_
  subst eo e4
  have I5 : Inv X pins σ H4 { s4 with heap := s4.heap.push { cls := .type "slice", data := .fields #[vl, vu, vs] } } := I4.kept (t' := s4.toks) fun b ob q => Heap.get?_push_of_some _ q
  obtain ⟨l, rfl, hl⟩ := IsPart.raw pl
  obtain ⟨u, rfl, hu⟩ := IsPart.raw pu
  obtain ⟨w, rfl, hw⟩ := IsPart.raw ps
  obtain rfl : l = none := by cases l with | none => rfl | some z => cases hl
  obtain rfl : u = none := by cases u with | none => rfl | some z => cases hu
  obtain ⟨tk, rfl⟩ : ∃ tk, w = some (-1, tk) := by
    cases w with
    | none => cases hw
    | some z =>
      obtain ⟨i, tk⟩ := z
      have : i = -1 := Option.some.inj hw
      subst this
      exact ⟨tk, rfl⟩
  have hS : (s4.heap.push { cls := .type "slice", data := .fields #[partValue none, partValue none, partValue (some (-1, tk))] }).get? s4.heap.objs.size = some { cls := .type "slice", data := .fields #[partValue none, partValue none, partValue (some (-1, tk))] } := Heap.get?_push_size _ rfl
  show wpAny (model X.prog X.w) X.A (subscriptTail e (.Slice none none (some (.UnaryOp .USub (.Constant (.int 1) k p1) p2)) p3) (.str ⟨#[c, d]⟩ t) (.ref s4.heap.objs.size)) (EP X pins σ Q) X.xe { s4 with heap := s4.heap.push { cls := .type "slice", data := .fields #[partValue none, partValue none, partValue (some (-1, tk))] } }
  refine tail_any (ops := [.str ⟨#[c, d]⟩ t, .ref s4.heap.objs.size]) (typeIs_str _ _ _) F.slot_str_getitem.lookup ?_ (by with_unfolding_all rfl)
  refine wpAny_getItem_str_slice (l := none) (u := none) (st := some (-1, tk)) ⟨_, hS, rfl, rfl⟩ rfl ?_
  have hm : sliceMade ⟨#[c, d]⟩ t none none (some (-1, tk)) = Made.str ⟨#[d, c]⟩ := by
    unfold sliceMade slicePicked
    rw [show Builtin.Str.strSliceIndices (Option.map (·.1) (none : Option (Int × Tok))) (Option.map (·.1) (none : Option (Int × Tok))) ((Option.map (·.1) (some ((-1 : Int), tk))).getD 1) (⟨#[c, d]⟩ : Str).length = [1, 0] from two_back]
    rfl
  rw [hm]
  exact ⟨by show 2 ≤ sizeLine; decide, .str _, H4, I5.tok _, ⟨_, rfl⟩, q⟩
end
end WwR
end S_WwPi2

section S_WwNd
set_option Elab.async false
set_option linter.all false
set_option maxRecDepth 100000
set_option maxHeartbeats 2000000
/-! Own rules: a dict whose keys are (int, tuple of ints); {(a, b): v}; list(text); the list behind a draw, told by what it is. -/
namespace WwR
open PySem PySem.Spec PyProof.Rows L2
/-! ### keys (int, tuple of ints) -/
abbrev NK := Int × List Int
def nk (k : NK) : NestedKey := .tup [.num k.1, .tup (k.2.map .num)]
theorem nk_nums_inj : ∀ {a b : List Int}, a.map NestedKey.num = b.map NestedKey.num → a = b
  | [], [], _ => rfl
  | [], _ :: _, h => by cases h
  | _ :: _, [], h => by cases h
  | x :: a, y :: b, h => by
    rw [List.map_cons, List.map_cons] at h
    injection h with h1 h2
    injection h1 with h1
    rw [h1, nk_nums_inj h2]
theorem nk_inj {a b : NK} (h : nk a = nk b) : a = b := by
  unfold nk at h
  injection h with h
  injection h with h1 h2
  injection h1 with h1
  injection h2 with h2 _
  injection h2 with h2
  exact Prod.ext h1 (nk_nums_inj h2)
theorem depth_nums : ∀ js : List Int, NestedKey.depthAll (js.map .num) = 0
  | [] => by simp [NestedKey.depthAll]
  | j :: js => by simp [NestedKey.depthAll, NestedKey.depth, depth_nums js]
theorem nk_depth (k : NK) : (nk k).depth ≤ 8 := by
  unfold nk
  simp [NestedKey.depthAll, NestedKey.depth, depth_nums]
/-- at a stands the key's tuple -/
def NTup (H : Hp) (a : Addr) (k : NK) : Prop := ∃ b, H a = some (.tup [.int k.1, .ref b]) ∧ H b = some (.tup (k.2.map V.int))
theorem nested_ints {h : Heap} : ∀ {js : List Int} {us : List Value}, Vals (js.map V.int) us → NestedAll h (js.map .num) us
  | [], [], _ => .nil
  | [], _ :: _, h => nomatch h
  | _ :: _, [], h => nomatch h
  | j :: js, u :: us, .cons r t => by
    obtain ⟨k, rfl⟩ := r
    exact .cons (.int j k) (nested_ints t)
theorem NTup.is {X : Cx} {pins : List (Addr × Obj)} {σ : L2.St} {H : Hp} {s : Shared} {a : Addr} {k : NK} (I : Inv X pins σ H s) (h : NTup H a k) : (nestedKind X.prog X.w).is s.heap (nk k) a := by
  obtain ⟨b, h1, h2⟩ := h
  obtain ⟨us, r1, ⟨o1, e1, c1, n1, d1⟩, _⟩ := I.tuple (SqT.of h1)
  obtain ⟨ws, r2, ⟨o2, e2, c2, n2, d2⟩, _⟩ := I.tuple (SqT.of h2)
  obtain ⟨u1, u2, rfl, ⟨t1, rfl⟩, rfl⟩ := r1.two
  exact ⟨.tup e1 c1 d1 (.cons (.int k.1 t1) (.cons (.tup e2 c2 d2 (nested_ints r2)) .nil)), nk_depth k⟩
section
variable (P : Program) (w : World)
def NdR (d : Addr) (xs : List (NestedKey × Addr × Value)) (h : Heap) : Prop := ∃ o es ep, h.get? d = some o ∧ o.ExactDict ∧ o.data = .dict es ep ∧ es.toList = xs.map (entryOfKey (nestedKind P w)) ∧ (xs.map (·.1)).Nodup
def NdO (d : Addr) (xs : List (NestedKey × Addr × Value)) : HO := .ext (NdR P w d xs)
/-- at d stands a dict with these keys and ints -/
def NDict (H : Hp) (d : Addr) (kvs : List (NK × Int)) : Prop := (d == sysModules) = false ∧ ∃ xs : List (NestedKey × Addr × Value), H d = some (NdO P w d xs) ∧ Paired (fun (p : NK × Int) (q : NestedKey × Addr × Value) => q.1 = nk p.1 ∧ NTup H q.2.1 p.1 ∧ ∃ t, q.2.2 = .int p.2 t) kvs xs
end
def ndGet (kvs : List (NK × Int)) (k : NK) : Option Int := (kvs.find? fun p => decide (p.1 = k)).map (·.2)
theorem ndGet_at {P : Program} {w : World} {H : Hp} {k : NK} : ∀ {kvs : List (NK × Int)} {xs : List (NestedKey × Addr × Value)}, Paired (fun (p : NK × Int) (q : NestedKey × Addr × Value) => q.1 = nk p.1 ∧ NTup H q.2.1 p.1 ∧ ∃ t, q.2.2 = .int p.2 t) kvs xs →
    (ndGet kvs k = none → atKey xs (nk k) = none) ∧ ∀ v, ndGet kvs k = some v → ∃ p, atKey xs (nk k) = some p ∧ ∃ t, p.2 = .int v t
  | [], [], _ => And.intro (fun _ => rfl) (fun v (h : none = some v) => by cases h)
  | [], _ :: _, h => nomatch h
  | _ :: _, [], h => nomatch h
  | p :: kvs, q :: xs, .cons r t => by
    have ih := ndGet_at (P := P) (w := w) (k := k) t
    by_cases e : p.1 = k
    · have e2 : q.1 = nk k := by rw [r.1, e]
      have g1 : ndGet (p :: kvs) k = some p.2 := by simp [ndGet, e]
      have g2 : atKey (q :: xs) (nk k) = some q.2 := by simp [atKey, e2]
      refine ⟨fun z => (by rw [g1] at z; cases z), fun v z => ?_⟩
      rw [g1] at z
      cases z
      exact ⟨_, g2, r.2.2⟩
    · have e2 : ¬ q.1 = nk k := fun z => e (nk_inj (r.1.symm.trans z))
      have g1 : ndGet (p :: kvs) k = ndGet kvs k := by simp [ndGet, e]
      have g2 : atKey (q :: xs) (nk k) = atKey xs (nk k) := by simp [atKey, e2]
      rw [g1, g2]
      exact ih
theorem NDict.heap {X : Cx} {pins : List (Addr × Obj)} {σ : L2.St} {H : Hp} {s : Shared} {d : Addr} {kvs : List (NK × Int)} (I : Inv X pins σ H s) (h : NDict X.prog X.w H d kvs) :
    ∃ xs, H d = some (NdO X.prog X.w d xs) ∧ s.heap.DictOfH (nestedKind X.prog X.w) d xs ∧ xs.length = kvs.length ∧ Paired (fun (p : NK × Int) (q : NestedKey × Addr × Value) => q.1 = nk p.1 ∧ NTup H q.2.1 p.1 ∧ ∃ t, q.2.2 = .int p.2 t) kvs xs := by
  obtain ⟨_, xs, hd, r⟩ := h
  obtain ⟨⟨o, es, ep, ho, hx, hdt, he, hn⟩, _⟩ := I.hok d _ hd
  refine ⟨xs, hd, ⟨o, es, ep, ho, hx, hdt, he, fun x hxm => ?_, hn⟩, (Paired.length r).symm, r⟩
  have key : ∀ {kvs : List (NK × Int)} {xs : List (NestedKey × Addr × Value)}, Paired (fun (p : NK × Int) (q : NestedKey × Addr × Value) => q.1 = nk p.1 ∧ NTup H q.2.1 p.1 ∧ ∃ t, q.2.2 = .int p.2 t) kvs xs → ∀ x ∈ xs, ∃ k, x.1 = nk k ∧ NTup H x.2.1 k := by
    intro kvs xs h
    induction h with
    | nil => intro x hx; cases hx
    | cons r t ih =>
      intro x hx
      rcases List.mem_cons.mp hx with rfl | hx
      · exact ⟨_, r.1, r.2.1⟩
      · exact ih x hx
  obtain ⟨k, e1, e2⟩ := key r x hxm
  rw [e1]
  exact e2.is I
theorem NDict.mono {P : Program} {w : World} {H H' : Hp} {d : Addr} {kvs : List (NK × Int)} (h : NDict P w H d kvs) (hd : H' d = H d) (ht : ∀ a xs, H a = some (.tup xs) → H' a = some (.tup xs)) : NDict P w H' d kvs := by
  obtain ⟨a, xs, b, r⟩ := h
  refine ⟨a, xs, hd.trans b, L2.Paired.mapP r fun p q z => ⟨z.1, ?_, z.2.2⟩⟩
  obtain ⟨c, e1, e2⟩ := z.2.1
  exact ⟨c, ht _ _ e1, ht _ _ e2⟩
section
variable {X : Cx} {pos : Pos}
theorem ndr_at {P : Program} {w : World} {d : Addr} {xs : List (NestedKey × Addr × Value)} {h : Heap} (x : NdR P w d xs h) (H : Hp) : ObjOk P w H h d (NdO P w d xs) := by
  obtain ⟨o, es, ep, ho, r⟩ := x
  exact ⟨⟨o, es, ep, ho, r⟩, ⟨o, ho⟩, fun h1 h2 ⟨o', es', ep', ho', r'⟩ st => ⟨o', es', ep', st _ ho', r'⟩⟩
theorem pe_dnewN : PE X (.Dict [] [] pos) (fun _ H Q => ∀ p, H p = none → NDict X.prog X.w (upd H p (NdO X.prog X.w p [])) p [] → Q (.ref p) (upd H p (NdO X.prog X.w p []))) := by
  refine ⟨fun pins s σ H Q I h => ?_⟩
  have hb : (s.heap.objs.size == sysModules) = false := beq_eq_false_iff_ne.mpr (Ne.symm (Nat.ne_of_lt I.big))
  refine wpAny_Dict_empty ⟨.ref s.heap.objs.size, _, I.laid (a := s.heap.objs.size) (o := NdO X.prog X.w s.heap.objs.size []) (t' := s.toks) (fun _ _ q => Heap.get?_push_of_some _ q) (Nat.le_refl _) (ndr_at ?_ _), rfl, h _ (I.hok.fresh (Nat.le_refl _)) ⟨hb, [], upd_same, .nil⟩⟩
  exact ⟨_, #[], 0, Heap.get?_push_size _ rfl, ⟨rfl, rfl, rfl⟩, rfl, rfl, List.nodup_nil⟩
def tyNd (X : Cx) (x : V) (H : Hp) : Prop := ∃ d kvs, x = .ref d ∧ NDict X.prog X.w H d kvs
theorem ty_nd : TyOk X "dict" (tyNd X) := by
  intro pins σ H s x v I r ty
  obtain ⟨d, kvs, rfl, m⟩ := ty
  cases r
  obtain ⟨xs, _, ⟨o, es, ep, ho, hx, _⟩, _⟩ := m.heap I
  refine ⟨⟨o, ho, hx.1⟩, fun b e => ?_⟩
  cases e
  exact ⟨o, ho, hx.2.1⟩
theorem mt_ndset (hu : X.A.units + 64 < cLine) : MtR X "dict.setdefault" (fun x vs H Q => ∃ d a k v kvs, x = .ref d ∧ vs = [.ref a, .int v] ∧ NDict X.prog X.w H d kvs ∧ NTup H a k ∧ kvs.length ≤ 1000 ∧ (∀ u, ndGet kvs k = some u → Q (.int u) H) ∧
    (ndGet kvs k = none → ∀ o, NDict X.prog X.w (upd H d o) d (kvs ++ [(k, v)]) → Q (.int v) (upd H d o))) := by
  intro pins s σ H x vs v us Q I rx rv h
  obtain ⟨d, a, k, v, kvs, rfl, rfl, hN, hT, hl, q1, q2⟩ := h
  cases rx
  obtain ⟨u1, u2, rfl, rfl, ⟨t, rfl⟩⟩ := rv.two
  obtain ⟨xs, hd, hm, hxl, rel⟩ := hN.heap I
  obtain ⟨g1, g2⟩ := ndGet_at (P := X.prog) (w := X.w) (k := k) rel
  have hroom : (nestedKind X.prog X.w).room X.A.in1 := by show X.A.units + 1 + 8 < cLine; omega
  refine call_setdefault_heap (hsz := by rw [hxl, sizeLine_eq]; omega) hroom (hT.is I) hN.1 hm (fun p hp => ?_) fun hn h' hm' hs' => ?_
  · cases e : ndGet kvs k with
    | none => rw [g1 e] at hp; cases hp
    | some u =>
      obtain ⟨p', hp', t', e'⟩ := g2 u e
      rw [hp'] at hp
      cases hp
      rw [e']
      exact ⟨.int u, H, I.tok _, ⟨t', rfl⟩, q1 u e⟩
  · have hnone : ndGet kvs k = none := by
      cases e : ndGet kvs k with
      | none => rfl
      | some u =>
        obtain ⟨p', hp', _⟩ := g2 u e
        rw [hp'] at hn
        cases hn
    rw [storedH_new hn] at hm'
    obtain ⟨o, es, ep, ho, hx, hdt, he, _, hnd⟩ := hm'
    have I2 : Inv X pins σ (upd H d (NdO X.prog X.w d (xs ++ [(nk k, a, .int v t)]))) { s with heap := h', toks := s.toks + (nestedKind X.prog X.w).draws (nk k) } :=
      d_write I (by rw [hd]; exact True.intro) hs' ⟨o, ho⟩ (ndr_at ⟨o, es, ep, ho, hx, hdt, he, hnd⟩ _)
    refine ⟨.int v, _, I2, ⟨t, rfl⟩, q2 hnone _ ⟨hN.1, _, upd_same, ?_⟩⟩
    have ext : ∀ {b : Addr} {j : NK}, NTup H b j → NTup (upd H d (NdO X.prog X.w d (xs ++ [(nk k, a, .int v t)]))) b j := fun ⟨c, e1, e2⟩ => by
      have n1 : ∀ {b : Addr} {ys : List V}, H b = some (.tup ys) → b ≠ d := fun e z => by
        rw [z, hd] at e
        unfold NdO at e
        cases e
      exact ⟨c, by rw [upd_ne (n1 e1)]; exact e1, by rw [upd_ne (n1 e2)]; exact e2⟩
    have app : ∀ {A B : Type} {F : A → B → Prop} {l : List A} {m : List B} {x : A} {y : B}, Paired F l m → F x y → Paired F (l ++ [x]) (m ++ [y]) := by
      intro A B F l m x y h
      induction h with
      | nil => intro q; exact .cons q .nil
      | cons r t ih => intro q; exact .cons r (ih q)
    exact app (L2.Paired.mapP rel fun p q z => ⟨z.1, ext z.2.1, z.2.2⟩) ⟨rfl, ext hT, t, rfl⟩
theorem ix_nd (hu : X.A.units + 64 < cLine) : IxR X (fun x y H Q => ∃ d a k v kvs, x = .ref d ∧ y = .ref a ∧ NDict X.prog X.w H d kvs ∧ NTup H a k ∧ ndGet kvs k = some v ∧ Q (.int v) H) := by
  intro value slice pins s σ H x y v u Q I rx ry h hs
  obtain ⟨d, a, k, v, kvs, rfl, rfl, hN, hT, hg, q⟩ := h
  cases rx
  cases ry
  obtain ⟨xs, hd, hm, hxl, rel⟩ := hN.heap I
  obtain ⟨p, hp, t, e⟩ := (ndGet_at (P := X.prog) (w := X.w) (k := k) rel).2 v hg
  have hroom : (nestedKind X.prog X.w).room X.A.in1 := by show X.A.units + 1 + 8 < cLine; omega
  refine subscriptTail_builtinR (x := .int v t) hm.typeIs slot_dict_getitem.lookup (wpAny_getItem_heap (Q := fun r s' => r = .int v t ∧ EP X pins σ Q r s') hroom (hT.is I) hm hp ?_) hs
  rw [e]
  exact ⟨rfl, .int v, H, I.tok _, ⟨t, rfl⟩, q⟩
theorem call_lenNd : CallR X (.builtin "len") (fun xs H Q => ∃ d kvs, xs = [.ref d] ∧ NDict X.prog X.w H d kvs ∧ kvs.length ≤ 1000 ∧ Q (.int (kvs.length : Nat)) H) := by
  intro pins s σ H xs us Q I r h
  obtain ⟨d, kvs, rfl, hN, hl, q⟩ := h
  obtain ⟨u, rfl, rfl⟩ := r.one
  obtain ⟨ys, hd, hm, hxl, rel⟩ := hN.heap I
  refine PyProof.Rows.call_len_slot (n := (kvs.length : Int)) hm.typeIs F.slot_dict_len (fun Q' hq => len_keyed (kvs := pairsH ys) hN.1 ⟨ys, hm, rfl⟩ ?_) (by omega) (by omega) ?_
  · rw [pairsH_length, hxl]
    exact hq
  · exact ⟨.int (kvs.length : Nat), H, I.tok _, ⟨_, rfl⟩, q⟩
/-! ### {(a, b): v} -/
def tDisp1T (tk tv : TE) : TE := fun σ H Q => ∀ p, H p = none → tk σ (upd H p (.dT [])) fun y H1 => tv σ H1 fun v H2 => H2 p = some (.dT []) ∧ ∃ (b : Addr) (k : List Key), y = .ref b ∧ H2 b = some (.tup (k.map kV)) ∧ Q (.ref p) (upd H2 p (.dT [(k, v)]))
theorem pe_disp1T {k v : Expr} {tk tv : TE} (hu : X.A.units + 64 < cLine) (hk : PE X k tk) (hv : PE X v tv) : PE X (.Dict [some k] [v] pos) (tDisp1T tk tv) := by
  refine ⟨fun pins s σ H Q I q => ?_⟩
  have hn := I.hok.fresh (Nat.le_refl s.heap.objs.size)
  have I1 := I.laid (a := s.heap.objs.size) (o := .dT []) (h' := s.heap.push { cls := .type "dict", data := .dict #[] }) (t' := s.toks) (fun _ _ q => Heap.get?_push_of_some _ q) (Nat.le_refl _) (dt_empty s.heap I.big)
  have shape : (evalEachOpt [some k] X.env).zip ((evalEach [v] X.env).map fun v => do let x ← v; standAt pos; pure x) = (pairTrees [some k] [v] X.env pos).map fun p => (some p.1, p.2) := rfl
  rw [arm_eval_Dict, shape, dictDisplay_pairs (pairTrees [some k] [v] X.env pos) (by intro z; cases z) (by show 1 < 17; decide)]
  refine wpAny_bind (wpAny_standAt (wpAny_bind (wpAny_subDictH (knd := tupleKind (mixKind X.prog X.w)) (Q := fun d s' => wpAny (model X.prog X.w) X.A (pure (Value.ref d)) (EP X pins σ Q) X.xe s') (by show X.A.units < cLine; omega) (by show 1 ≤ 15; decide) ?_)))
  refine pairTrees_cons_walk (thn (hk.run pins _ σ _ _ I1 (q _ hn)) fun u s2 ⟨y, H2, I2, ry, q1⟩ => thn (hv.run pins s2 σ H2 _ I2 q1) fun w2 s3 ⟨z, H3, I3, rz, e, b, kk, ey, hb, q2⟩ => pairTrees_nil_walk ?_)
  subst ey
  obtain rfl : u = Value.ref b := ry
  obtain ⟨_, hsm, xs, r0, hm⟩ := dt_of I3.hok e
  cases r0
  refine ⟨[(kk, b, w2)], ⟨rfl, rfl, key_of I3.hok hb, trivial⟩, hm, fun h' tk' hm' hs' => wpAny_pure ?_⟩
  obtain ⟨o, es, ep, ho, hx, hd, he, his, hnd⟩ := hm'
  refine ⟨.ref _, _, d_write (ob := .dT [(kk, z)]) I3 (by rw [e]; exact True.intro) hs' ⟨o, ho⟩ ⟨by show 1 ≤ sizeLine; decide, hsm, [(kk, b, w2)], .cons ⟨rfl, ?_, rz⟩ .nil, o, es, ep, ho, hx, hd, he, hnd⟩, rfl, q2⟩
  have nb : b ≠ s.heap.objs.size := fun z => by
    rw [z, e] at hb
    cases hb
  rw [upd_ne nb]
  exact hb
/-! ### list(text) -/
theorem call_listS (hcalm : X.calm = true) : CallR X (.type "list") (fun xs H Q => ∃ z, xs = [.str z] ∧ z.cps.size ≤ sizeLine ∧ ∀ q, H q = none → Q (.ref q) (upd H q (.lst (z.cps.toList.map fun c => .str ⟨#[c]⟩)))) := by
  intro pins s σ H xs us Q I r h
  obtain ⟨z, rfl, hz, q⟩ := h
  obtain ⟨u, rfl, t, rfl⟩ := r.one
  refine call_list_str (hn := hz) (I.ok.hd hcalm) z t fun h' tk acc c' hk hD hacc => ?_
  have hvs : Vals (z.cps.toList.map fun c => V.str ⟨#[c]⟩) acc.toList := by
    have key : ∀ {cs : List Nat} {ws : List Value}, ws.length = cs.length → (∀ (j : Nat) (v : Value), ws[j]? = some v → ∃ c u, cs[j]? = some c ∧ v = .str ⟨#[c]⟩ u) → Vals (cs.map fun c => V.str ⟨#[c]⟩) ws := by
      intro cs
      induction cs with
      | nil => intro ws hl _; cases ws with
        | nil => exact .nil
        | cons _ _ => cases hl
      | cons c cs ih => intro ws hl hj; cases ws with
        | nil => cases hl
        | cons w ws =>
          obtain ⟨c', u, e, ew⟩ := hj 0 w rfl
          have e := Option.some.inj e
          subst e
          exact .cons ⟨u, ew⟩ (ih (Nat.succ.inj hl) fun j v e => hj (j + 1) v e)
    refine key (by rw [Array.length_toList]; simpa using hacc.1) fun (j : Nat) (v : Value) e => ?_
    obtain ⟨c, u, e1, e2⟩ := hacc.2 j v (by rw [← Array.getElem?_toList]; exact e)
    exact ⟨c, u, by rw [Array.getElem?_toList]; exact e1, e2⟩
  refine ⟨.ref s.heap.objs.size, _, I.laid (t' := tk) hk (Nat.le_refl _)
    (show ObjOk X.prog X.w _ _ _ (.lst _) from ⟨by rw [List.length_map]; simpa using hz, acc.toList, c', hvs, by rw [Array.toArray_toList]; exact hD⟩), rfl, q _ (I.hok.fresh (Nat.le_refl _))⟩
/-! ### the draws' list: three ints, whichever -/
def DiceP (a : Addr) (h : Heap) : Prop := ∃ (x y z : Int) (t u v : Tok) (n : Nat), h.get? a = some { cls := .type "list", data := .seq #[.int x t, .int y u, .int z v] n }
def DiceO (a : Addr) : HO := .ext (DiceP a)
theorem dice_ok {P : Program} {w : World} {H : Hp} {h : Heap} {a : Addr} (x : DiceP a h) : ObjOk P w H h a (DiceO a) := by
  refine ⟨x, ?_, fun h1 h2 x st => ?_⟩
  · obtain ⟨x, y, z, t, u, v, n, e⟩ := x
    exact ⟨_, e⟩
  · obtain ⟨x, y, z, t, u, v, n, e⟩ := x
    exact ⟨x, y, z, t, u, v, n, st _ e⟩
theorem dice_open {pins : List (Addr × Obj)} {σ : L2.St} {H : Hp} {s : Shared} {a : Addr} (I : Inv X pins σ H s) (h : H a = some (DiceO a)) : ∃ x y z : Int, Inv X pins σ (upd H a (.lst [.int x, .int y, .int z])) s := by
  obtain ⟨⟨x, y, z, t, u, v, n, e⟩, _⟩ := I.hok a _ h
  refine ⟨x, y, z, I.write (e := a) (h' := s.heap) (t' := s.toks) (by rw [h]; exact True.intro) (.inl rfl) (fun _ _ _ q => q) ⟨_, e⟩ ⟨by show 3 ≤ sizeLine; decide, [.int x t, .int y u, .int z v], n, .cons ⟨t, rfl⟩ (.cons ⟨u, rfl⟩ (.cons ⟨v, rfl⟩ .nil)), e⟩⟩
theorem dice_shut {pins : List (Addr × Obj)} {σ : L2.St} {H : Hp} {s : Shared} {a : Addr} {x y z : Int} (I : Inv X pins σ H s) (h : H a = some (.lst [.int x, .int y, .int z])) : Inv X pins σ (upd H a (DiceO a)) s := by
  obtain ⟨_, its, n, r, e⟩ := I.hok a _ h
  obtain ⟨u1, u2, u3, rfl, ⟨t, rfl⟩, ⟨u, rfl⟩, ⟨v, rfl⟩⟩ : ∃ u1 u2 u3, its = [u1, u2, u3] ∧ RelV (.int x) u1 ∧ RelV (.int y) u2 ∧ RelV (.int z) u3 := by
    cases r with
    | cons r1 r =>
      cases r with
      | cons r2 r =>
        cases r with
        | cons r3 r =>
          cases r
          exact ⟨_, _, _, rfl, r1, r2, r3⟩
  exact I.write (e := a) (h' := s.heap) (t' := s.toks) (by rw [h]; exact True.intro) (.inl rfl) (fun _ _ _ q => q) ⟨_, e⟩ (dice_ok ⟨x, y, z, t, u, v, n, e⟩)
/-- ahead of statements: the draws' list is told as three ints -/
theorem pss_diceOpen {st : List Stmt} {t : TS} (h : PSs X st t) : PSs X st (fun D σ H => ∃ a, H a = some (DiceO a) ∧ ∀ x y z : Int, t D σ (upd H a (.lst [.int x, .int y, .int z]))) := by
  refine ⟨fun pins s σ H D I q => ?_⟩
  obtain ⟨a, ha, q⟩ := q
  obtain ⟨x, y, z, I2⟩ := dice_open I ha
  exact h.run pins s σ _ D I2 (q x y z)
/-- a return, the list told as the draws' again -/
theorem pe_diceShut {e : Expr} {t : TE} (h : PE X e t) : PE X e (fun σ H Q => t σ H fun v H1 => ∃ a, ∃ x y z : Int, H1 a = some (.lst [.int x, .int y, .int z]) ∧ Q v (upd H1 a (DiceO a))) := by
  refine ⟨fun pins s σ H Q I q => thn (h.run pins s σ H _ I q) fun u s1 ⟨v, H1, I1, r, a, x, y, z, ha, q⟩ => ⟨v, _, dice_shut I1 ha, r, q⟩⟩
end
end WwR
end S_WwNd

section S_WwEnv
set_option Elab.async false
set_option linter.all false
set_option maxRecDepth 100000
set_option maxHeartbeats 2000000
/-! What the top leaves; helpers of the walks. -/
namespace Ww
open PySem PySem.Spec PyProof.Rows L2 WwR SlX
open C8 (Cal pe_c)
abbrev wbC (K : PySem.W.Frag) : Addr := He.ga K "Web"
abbrev rdC (K : PySem.W.Frag) : Addr := He.ga K "Reader"
/-- a def of the top, under its name -/
structure FA (K : PySem.W.Frag) (mg : Str → Option Value) (x : Str) (st : Stmt) : Prop where
  ex : ∃ f fd, FunD K x x (defArgs st) (defBody st) (defScope st) [] [] f fd ∧ mg x = some (.ref f)
/-- what the top leaves, as the walks use it -/
structure En (P : Program) (w : World) (K : PySem.W.Frag) (mg : Str → Option Value) (base : Heap) : Prop where
  isinstance_ : mg "isinstance" = none
  len_ : mg "len" = none
  zip_ : mg "zip" = none
  all_ : mg "all" = none
  tuple_ : mg "tuple" = none
  list_ : mg "list" = none
  set_ : mg "set" = none
  enumerate_ : mg "enumerate" = none
  range_ : mg "range" = none
  int_ : mg "int" = none
  abs_ : mg "abs" = none
  max_ : mg "max" = none
  min_ : mg "min" = none
  sorted_ : mg "sorted" = none
  str_ : mg "str" = none
  bool_ : mg "bool" = none
  GREATEST : ∃ u, mg "GREATEST" = some u ∧ RelV (.int (10 ^ 60)) u
  MAX_LETTERS : ∃ u, mg "MAX_LETTERS" = some u ∧ RelV (.int 10) u
  MAX_STATES : ∃ u, mg "MAX_STATES" = some u ∧ RelV (.int 200) u
  MAX_READ : ∃ u, mg "MAX_READ" = some u ∧ RelV (.int 1000) u
  f_is_integer : FA K mg "is_integer" sIsInteger
  f_is_from : FA K mg "is_from" sIsFrom
  f_is_letter : FA K mg "is_letter" sIsLetter
  f_are_ascending : FA K mg "are_ascending" sAreAscending
  f_pair_of : FA K mg "pair_of" sPairOf
  f_pairs_of : FA K mg "pairs_of" sPairsOf
  f_are_letters : FA K mg "are_letters" sAreLetters
  f_are_conflicts : FA K mg "are_conflicts" sAreConflicts
  f_close_row : FA K mg "close_row" sCloseRow
  f_require_web : FA K mg "require_web" sRequireWeb
  f_states_reached : FA K mg "states_reached" sStatesReached
  f_classes_of : FA K mg "classes_of" sClassesOf
  f_marks_of : FA K mg "marks_of" sMarksOf
  f_least_table : FA K mg "least_table" sLeastTable
  f_least_parting : FA K mg "least_parting" sLeastParting
  f_first_open : FA K mg "first_open" sFirstOpen
  f_is_state_of : FA K mg "is_state_of" sIsStateOf
  f_are_state_rows : FA K mg "are_state_rows" sAreStateRows
  f_are_accepted : FA K mg "are_accepted" sAreAccepted
  f_is_read_text : FA K mg "is_read_text" sIsReadText
  f_law_dice : FA K mg "_law_dice" sLawDice
  f_law_roll : FA K mg "_law_roll" sLawRoll
  f_law_pick : FA K mg "_law_pick" sLawPick
  f_law_mixed : FA K mg "_law_mixed" sLawMixed
  f_law_some : FA K mg "_law_some" sLawSome
  f_law_letters : FA K mg "_law_letters" sLawLetters
  f_law_pairs : FA K mg "_law_pairs" sLawPairs
  f_law_conflicts : FA K mg "_law_conflicts" sLawConflicts
  f_law_text : FA K mg "_law_text" sLawText
  f_law_read_state : FA K mg "_law_read_state" sLawReadState
  f_law_marks : FA K mg "_law_marks" sLawMarks
  f_law_least_reader : FA K mg "_law_least_reader" sLawLeastReader
  f_law_drawn_rows : FA K mg "_law_drawn_rows" sLawDrawnRows
  f_law_least_parting : FA K mg "_law_least_parting" sLawLeastParting
  f_law_loose_pairs : FA K mg "_law_loose_pairs" sLawLoosePairs
  f_law_state_texts : FA K mg "_law_state_texts" sLawStateTexts
  f_law_first_open : FA K mg "_law_first_open" sLawFirstOpen
  f_law_widened : FA K mg "_law_widened" sLawWidened
  f_law_counting_rows : FA K mg "_law_counting_rows" sLawCountingRows
  f_law_is_open : FA K mg "_law_is_open" sLawIsOpen
  f_law_values : FA K mg "_law_values" sLawValues
  f_law : FA K mg "law" sLaw
  f_Web_loose : ∃ fd, FunD K "loose" "Web.loose" (defArgs sWebLoose) (defBody sWebLoose) (defScope sWebLoose) [] [] (gt K "Web" "loose") fd
  f_Reader_init : ∃ fd, FunD K "__init__" "Reader.__init__" (defArgs sReaderInit) (defBody sReaderInit) (defScope sReaderInit) [] [("start", .int 0)] (He.ma K (rdC K) "__init__") fd
  f_Reader_led : ∃ fd, FunD K "led" "Reader.led" (defArgs sReaderLed) (defBody sReaderLed) (defScope sReaderLed) [] [] (He.ma K (rdC K) "led") fd
  f_Reader_least : ∃ fd, FunD K "least" "Reader.least" (defArgs sReaderLeast) (defBody sReaderLeast) (defScope sReaderLeast) [] [] (He.ma K (rdC K) "least") fd
  f_Reader_is_closed : ∃ fd, FunD K "is_closed" "Reader.is_closed" (defArgs sReaderIsClosed) (defBody sReaderIsClosed) (defScope sReaderIsClosed) [] [] (He.ma K (rdC K) "is_closed") fd
  f_Reader_open_place : ∃ fd, FunD K "open_place" "Reader.open_place" (defArgs sReaderOpenPlace) (defBody sReaderOpenPlace) (defScope sReaderOpenPlace) [] [] (He.ma K (rdC K) "open_place") fd
  f_Reader_is_open_place : ∃ fd, FunD K "is_open_place" "Reader.is_open_place" (defArgs sReaderIsOpenPlace) (defBody sReaderIsOpenPlace) (defScope sReaderIsOpenPlace) [] [] (He.ma K (rdC K) "is_open_place") fd
  f_Web_init : ∃ fd dv, FunD K "__init__" "Web.__init__" (defArgs sWebInit) (defBody sWebInit) (defScope sWebInit) [.str "", dv] [] (He.ma K (wbC K) "__init__") fd
  cW : SCls K (wbC K)
  cR : SCls K (rdC K)
  iW : SIsi K (wbC K)
  kW : PySem.W.kitOne K (.ref (wbC K)) (.ref (wbC K)) = some true
  s_own_close : Slot1 K (wbC K) "own_close" (He.ma K (wbC K) "own_close") 0
  s_own_conflicts : Slot1 K (wbC K) "own_conflicts" (He.ma K (wbC K) "own_conflicts") 1
  s_own_letters : Slot1 K (wbC K) "own_letters" (He.ma K (wbC K) "own_letters") 2
  s_own_accepts : Slot1 K (rdC K) "own_accepts" (He.ma K (rdC K) "own_accepts") 0
  s_own_key : Slot1 K (rdC K) "own_key" (He.ma K (rdC K) "own_key") 1
  s_own_rows : Slot1 K (rdC K) "own_rows" (He.ma K (rdC K) "own_rows") 2
  s_own_start : Slot1 K (rdC K) "own_start" (He.ma K (rdC K) "own_start") 3
  s_own_web : Slot1 K (rdC K) "own_web" (He.ma K (rdC K) "own_web") 4
  pr_at : PySem.W.findIn K (.ref (wbC K)) "loose" = some (some (.ref (He.ma K (wbC K) "loose")))
  pr_get : PySem.W.specialIn K (.ref (He.ma K (wbC K) "loose")) "__get__" = some (some (.builtin "property.__get__"))
  pr_tk : PySem.W.takesIn K (.ref (He.ma K (wbC K) "loose")) = some true
  pr_rc : ∃ rest, PySem.W.recIn K (He.ma K (wbC K) "loose") "property" = some (.ref (gt K "Web" "loose") :: rest)
  gW : mg "Web" = some (.ref (wbC K))
  gR : mg "Reader" = some (.ref (rdC K))
  mW : Mk K (wbC K) (He.ma K (wbC K) "__init__")
  mR : Mk K (rdC K) (He.ma K (rdC K) "__init__")
  m_led : Meth K (rdC K) "led" (He.ma K (rdC K) "led")
  m_least : Meth K (rdC K) "least" (He.ma K (rdC K) "least")
  m_is_closed : Meth K (rdC K) "is_closed" (He.ma K (rdC K) "is_closed")
  m_open_place : Meth K (rdC K) "open_place" (He.ma K (rdC K) "open_place")
  m_is_open_place : Meth K (rdC K) "is_open_place" (He.ma K (rdC K) "is_open_place")
section
variable {P : Program} {w : World} {K : PySem.W.Frag} {mg : Str → Option Value} {base : Heap}
/-- a def's promise, by its body -/
theorem cal_mk {x : Str} {st : Stmt} {N ps : List Str} {k : Nat} {sp : Sp} (F : FA K mg x st) (S : FnScope N ps (defScope st))
    (bd : ∀ (kV doc pm : Value) (an : Option Addr) (cdv ct : Value) (us : List Value), us.length = ps.length → bindArgs (PySem.W.fnOf x x (defArgs st) (defBody st) (defScope st) .none kV doc pm an cdv ct) ⟨us, []⟩ = pure (ps.zip us))
    (len : ∀ vs H Q E, sp vs H Q E → vs.length = ps.length)
    (hbody : ∀ (f : Addr) (cdv : Value) (A : Around) (outer : List Env) (s : Shared) (H : Hp) (vs : List V) (Q : VK) (E : XK), Room k (A.deeper (envOfC x (defScope st) s.heap.objs.size f cdv)) → sp vs H Q E →
      ∃ t, PSs (cxOf C8.CX0 P w K mg base N x (defScope st) f cdv A outer s H E).nox (defBody st) t ∧ t { nx := fun _ H' => Q .non H', rt := Q } (start N vs) H) : Cal P w K mg base (k + 1) x sp [] := by
  obtain ⟨f, fd, F, hm⟩ := F.ex
  refine ⟨f, fd, ps, [], F.ok S len fun cdv A outer s H vs Q E hr h => ?_, hm, F.kp, F.bindsN bd, .nil⟩
  obtain ⟨t, h1, h2⟩ := hbody f cdv A outer s H vs Q E hr h
  exact ⟨t, h1.nox, h2⟩
/-- a method's promise, by its body -/
structure MetS (P : Program) (w : World) (K : PySem.W.Frag) (mg : Str → Option Value) (base : Heap) (k : Nat) (g : Addr) (sp : Sp) : Prop where
  run : FnR P w K mg base C8.CX0 k g sp
theorem met_mk {x q : Str} {st : Stmt} {N ps : List Str} {k : Nat} {sp : Sp} {g : Addr} (F : ∃ fd, FunD K x q (defArgs st) (defBody st) (defScope st) [] [] g fd) (S : FnScope N ps (defScope st))
    (bd : ∀ (kV doc pm : Value) (an : Option Addr) (cdv ct : Value) (us : List Value), us.length = ps.length → bindArgs (PySem.W.fnOf x q (defArgs st) (defBody st) (defScope st) .none kV doc pm an cdv ct) ⟨us, []⟩ = pure (ps.zip us))
    (len : ∀ vs H Q E, sp vs H Q E → vs.length = ps.length)
    (hbody : ∀ (f : Addr) (cdv : Value) (A : Around) (outer : List Env) (s : Shared) (H : Hp) (vs : List V) (Q : VK) (E : XK), Room k (A.deeper (envOfC q (defScope st) s.heap.objs.size f cdv)) → sp vs H Q E →
      ∃ t, PSs (cxOf C8.CX0 P w K mg base N q (defScope st) f cdv A outer s H E).nox (defBody st) t ∧ t { nx := fun _ H' => Q .non H', rt := Q } (start N vs) H) : MetS P w K mg base (k + 1) g sp := by
  obtain ⟨fd, F⟩ := F
  have ok : FnOk P w K mg base C8.CX0 (k + 1) g fd ps sp := F.ok S len fun cdv A outer s H vs Q E hr h => by
    obtain ⟨t, h1, h2⟩ := hbody g cdv A outer s H vs Q E hr h
    exact ⟨t, h1.nox, h2⟩
  exact ⟨(ok.raw (F.bindsN bd) .nil).imp fun vs H Q E h => by rw [List.append_nil]; exact h⟩
end

/-! ### values -/
/-- a text by its code points -/
abbrev tx (l : List Nat) : V := .str ⟨l.toArray⟩
abbrev nv (n : Nat) : V := .int (n : Int)
theorem tx_sg (c : Nat) : V.str ⟨#[c]⟩ = tx [c] := rfl
theorem str_eta (z : Str) : z = ⟨z.cps.toList.toArray⟩ := by cases z; simp
theorem tx_app (l m : List Nat) : (⟨l.toArray⟩ ++ ⟨m.toArray⟩ : Str) = ⟨(l ++ m).toArray⟩ := by
  show (⟨l.toArray ++ m.toArray⟩ : Str) = _
  rw [List.append_toArray]
/-! ### heaps -/
theorem same_upd {H : Hp} {p : Addr} {o : HO} (h : H p = none) : Same H (upd H p o) := fun b u e => by
  rw [upd_ne (ne_of_none e h)]; exact e
theorem same_to {H0 H : Hp} {p : Addr} {o : HO} (s : Same H0 H) (h : H p = none) : Same H0 (upd H p o) := s.trans (same_upd h)
/-- an object that is not of H0 changes -/
theorem same_at {H0 H : Hp} {p : Addr} {o : HO} (s : Same H0 H) (h : H0 p = none) : Same H0 (upd H p o) := fun b u e => by
  rw [upd_ne (ne_of_none e h)]; exact s b u e
/-- tuples stay -/
def Tx (H H' : Hp) : Prop := ∀ a xs, H a = some (.tup xs) → H' a = some (.tup xs)
theorem Tx.of {H H' : Hp} (s : Same H H') : Tx H H' := fun a xs h => s a _ h
theorem Tx.trans {H H1 H2 : Hp} (a : Tx H H1) (b : Tx H1 H2) : Tx H H2 := fun c o h => b c o (a c o h)
theorem Tx.upd {H : Hp} {p : Addr} {xs : List V} {o : HO} (h : H p = some (.lst xs)) : Tx H (L2.upd H p o) := fun a ys e => by
  rw [upd_ne (fun z => by rw [z, h] at e; cases e)]; exact e
theorem Slt.same {H H' : Hp} {a C dx : Addr} {vs : List (Option V)} (s : Same H H') (h : Slt H a C dx vs) : Slt H' a C dx vs := by
  rcases h with ⟨h, e⟩ | ⟨h, e⟩
  · exact .inl ⟨s _ _ h, e⟩
  · exact .inr ⟨s _ _ h, s _ _ e⟩
/-- at a stands the table R: a tuple of tuples of numbers -/
def Tb (H : Hp) (a : Addr) (R : List (List Nat)) : Prop := ∃ bs : List Addr, H a = some (.tup (bs.map V.ref)) ∧ bs.length = R.length ∧ ∀ (i : Nat) (b : Addr) (r : List Nat), bs[i]? = some b → R[i]? = some r → H b = some (.tup (r.map nv))
theorem Tb.tx {H H' : Hp} {a : Addr} {R : List (List Nat)} (s : Tx H H') (h : Tb H a R) : Tb H' a R := by
  obtain ⟨bs, h1, h2, h3⟩ := h
  exact ⟨bs, s _ _ h1, h2, fun i b r e1 e2 => s _ _ (h3 i b r e1 e2)⟩
theorem Tb.same {H H' : Hp} {a : Addr} {R : List (List Nat)} (s : Same H H') (h : Tb H a R) : Tb H' a R := h.tx (.of s)
/-- its row i -/
theorem Tb.row {H : Hp} {a : Addr} {R : List (List Nat)} (h : Tb H a R) : ∃ bs : List Addr, H a = some (.tup (bs.map V.ref)) ∧ bs.length = R.length ∧ ∀ i, i < R.length → ∃ b, bs[i]? = some b ∧ (bs.map V.ref)[i]? = some (.ref b) ∧ H b = some (.tup ((R.getD i []).map nv)) := by
  obtain ⟨bs, h1, h2, h3⟩ := h
  refine ⟨bs, h1, h2, fun i hi => ?_⟩
  have hb : i < bs.length := by omega
  refine ⟨bs[i], List.getElem?_eq_getElem hb, by rw [List.getElem?_map, List.getElem?_eq_getElem hb]; rfl, h3 i _ _ (List.getElem?_eq_getElem hb) ?_⟩
  rw [List.getD_eq_getElem?_getD, List.getElem?_eq_getElem hi]
  rfl
/-! ### comprehensions -/
theorem yes {F e : Hp → Prop} {σ : L2.St} {H : Hp} (h : F H) : tYes σ H (fun b H3 => if b = true then F H3 else e H3) := by
  show if true = true then F H else e H
  exact iteT h
section
variable {J : It} {n : Nat} {G : Hp → Prop} {Y : Nat → Hp → V → Hp → Prop} {g : TG} {tt : TT} {te : TE} {vs : List Nat} {σ : L2.St} {H1 : Hp} {D : Addr} {Qd : Hp → Prop}
/-- what they make, in order, of the turns that are kept -/
theorem lc_flt (w : Walk J n G Y) (c : Nat → Bool) (f : Nat → V) (hD : H1 D = none) (hn : n < sizeLine) (hG : ∀ H, Same H1 H → G H)
    (hs : ∀ i x H H', i < n → Same H1 H → Y i H x H' → ∀ Pn : Hp → Prop, (∀ H4, Same H H4 → c i = true → ∃ acc, H4 D = some (.lst acc) ∧ acc.length < sizeLine ∧ Pn (upd H4 D (.lst (acc ++ [f i])))) → (∀ H4, Same H H4 → c i = false → Pn H4) →
      g x (wipe σ vs) H' fun σ2 H2 => wipe σ2 vs = wipe σ vs ∧ tt σ2 H2 fun b H3 => if b = true then te σ2 H3 fun y H4 => ∃ acc, H4 D = some (.lst acc) ∧ acc.length < sizeLine ∧ Pn (upd H4 D (.lst (acc ++ [y]))) else Pn H3)
    (hd : ∀ H, Same H1 H → H D = some (.lst (((List.range n).filter c).map f)) → Qd H) :
    ∃ W : Nat → Nat → Hp → Prop, (∃ m, W 0 m (upd H1 D (.lst []))) ∧ ∀ i m H, W i m H →
      (J.stop i H ∧ Qd H) ∨ (J.go i H ∧ ∃ Nx : Hp → Prop, (∀ H', Nx H' → ∃ m', m' < m ∧ W (i + 1) m' H') ∧ ∀ x H', J.yld i H x H' → g x (wipe σ vs) H' fun σ2 H2 => wipe σ2 vs = wipe σ vs ∧ tt σ2 H2 fun b H3 =>
        if b = true then te σ2 H3 fun y H4 => ∃ acc, H4 D = some (.lst acc) ∧ acc.length < sizeLine ∧ Nx (upd H4 D (.lst (acc ++ [y]))) else Nx H3) := by
  refine lc_it w (fun i H => i ≤ n ∧ Same H1 H ∧ H D = some (.lst (((List.range i).filter c).map f))) ⟨Nat.zero_le _, same_upd hD, upd_same⟩ (fun i H _ h => hG H h.2.1) (fun i x H H' hi ⟨_, s, hl⟩ y => ?_) fun H ⟨_, s, hl⟩ => hd H s hl
  refine hs i x H H' hi s y _ (fun H4 s4 hc => ⟨_, s4 _ _ hl, ?_, hi, same_at (s.trans s4) hD, ?_⟩) fun H4 s4 hc => ⟨hi, s.trans s4, ?_⟩
  · rw [List.length_map]
    refine Nat.lt_of_le_of_lt (List.length_filter_le _ _) ?_
    rw [List.length_range]
    omega
  · rw [upd_same, List.range_succ, List.filter_append, List.map_append]
    simp [hc]
  · rw [s4 _ _ hl, List.range_succ, List.filter_append, List.map_append]
    simp [hc]
theorem lc_map (w : Walk J n G Y) (f : Nat → V) (hD : H1 D = none) (hn : n < sizeLine) (hG : ∀ H, Same H1 H → G H)
    (hs : ∀ i x H H', i < n → Same H1 H → Y i H x H' → ∀ Pn : Hp → Prop, (∀ H4, Same H H4 → ∃ acc, H4 D = some (.lst acc) ∧ acc.length < sizeLine ∧ Pn (upd H4 D (.lst (acc ++ [f i])))) →
      g x (wipe σ vs) H' fun σ2 H2 => wipe σ2 vs = wipe σ vs ∧ tt σ2 H2 fun b H3 => if b = true then te σ2 H3 fun y H4 => ∃ acc, H4 D = some (.lst acc) ∧ acc.length < sizeLine ∧ Pn (upd H4 D (.lst (acc ++ [y]))) else Pn H3)
    (hd : ∀ H, Same H1 H → H D = some (.lst ((List.range n).map f)) → Qd H) :
    ∃ W : Nat → Nat → Hp → Prop, (∃ m, W 0 m (upd H1 D (.lst []))) ∧ ∀ i m H, W i m H →
      (J.stop i H ∧ Qd H) ∨ (J.go i H ∧ ∃ Nx : Hp → Prop, (∀ H', Nx H' → ∃ m', m' < m ∧ W (i + 1) m' H') ∧ ∀ x H', J.yld i H x H' → g x (wipe σ vs) H' fun σ2 H2 => wipe σ2 vs = wipe σ vs ∧ tt σ2 H2 fun b H3 =>
        if b = true then te σ2 H3 fun y H4 => ∃ acc, H4 D = some (.lst acc) ∧ acc.length < sizeLine ∧ Nx (upd H4 D (.lst (acc ++ [y]))) else Nx H3) :=
  lc_flt w (fun _ => true) f hD hn hG (fun i x H H' hi s y Pn k1 _ => hs i x H H' hi s y Pn fun H4 s4 => k1 H4 s4 rfl) fun H s hl => hd H s (by rw [hl, List.filter_eq_self.mpr (fun _ _ => rfl)])
/-- things that are told by the tuples -/
theorem lc_rel (w : Walk J n G Y) (R : Nat → V → Hp → Prop) (hR : ∀ i y H H', Tx H H' → R i y H → R i y H') (hD : H1 D = none) (hn : n < sizeLine) (hG : ∀ H, Same H1 H → G H)
    (hs : ∀ i x H H', i < n → Same H1 H → Y i H x H' → ∀ Pn : Hp → Prop, (∀ y H4, Same H H4 → R i y H4 → ∃ acc, H4 D = some (.lst acc) ∧ acc.length < sizeLine ∧ Pn (upd H4 D (.lst (acc ++ [y])))) →
      g x (wipe σ vs) H' fun σ2 H2 => wipe σ2 vs = wipe σ vs ∧ tt σ2 H2 fun b H3 => if b = true then te σ2 H3 fun y H4 => ∃ acc, H4 D = some (.lst acc) ∧ acc.length < sizeLine ∧ Pn (upd H4 D (.lst (acc ++ [y]))) else Pn H3)
    (hd : ∀ H ys, Same H1 H → H D = some (.lst ys) → ys.length = n → (∀ i y, ys[i]? = some y → R i y H) → Qd H) :
    ∃ W : Nat → Nat → Hp → Prop, (∃ m, W 0 m (upd H1 D (.lst []))) ∧ ∀ i m H, W i m H →
      (J.stop i H ∧ Qd H) ∨ (J.go i H ∧ ∃ Nx : Hp → Prop, (∀ H', Nx H' → ∃ m', m' < m ∧ W (i + 1) m' H') ∧ ∀ x H', J.yld i H x H' → g x (wipe σ vs) H' fun σ2 H2 => wipe σ2 vs = wipe σ vs ∧ tt σ2 H2 fun b H3 =>
        if b = true then te σ2 H3 fun y H4 => ∃ acc, H4 D = some (.lst acc) ∧ acc.length < sizeLine ∧ Nx (upd H4 D (.lst (acc ++ [y]))) else Nx H3) := by
  refine lc_it w (fun i H => i ≤ n ∧ Same H1 H ∧ ∃ ys, H D = some (.lst ys) ∧ ys.length = i ∧ ∀ j y, ys[j]? = some y → R j y H) ⟨Nat.zero_le _, same_upd hD, [], upd_same, rfl, fun j y e => by simp at e⟩ (fun i H _ h => hG H h.2.1) (fun i x H H' hi ⟨_, s, ys, hl, hlen, hr⟩ y => ?_) fun H ⟨_, s, ys, hl, hlen, hr⟩ => hd H ys s hl hlen hr
  refine hs i x H H' hi s y _ fun y H4 s4 r => ⟨ys, s4 _ _ hl, by omega, hi, same_at (s.trans s4) hD, ys ++ [y], upd_same, by rw [List.length_append, hlen]; rfl, fun j z e => ?_⟩
  have t4 : Tx H4 (upd H4 D (.lst (ys ++ [y]))) := Tx.upd (s4 _ _ hl)
  by_cases hj : j < ys.length
  · rw [List.getElem?_append_left hj] at e
    exact hR j z _ _ ((Tx.of s4).trans t4) (hr j z e)
  · rw [List.getElem?_append_right (by omega)] at e
    have : j - ys.length = 0 := by
      have := (List.getElem?_eq_some_iff.mp e).1
      simp at this
      omega
    rw [this] at e
    have e := Option.some.inj e
    have : j = i := by omega
    subst this
    subst e
    exact hR _ _ _ _ t4 r
end
/-! ### comprehensions of two for -/
section
variable {J J1 : It} {n : Nat} {G : Hp → Prop} {Y : Nat → Hp → V → Hp → Prop} {g g1 : TG} {tt tt1 : TT} {te : TE} {wi1 : TI} {vs vs1 : List Nat} {σ σ2 : L2.St} {H0 H1 : Hp} {D : Addr} {Qd Nx : Hp → Prop}
theorem lc2_it (w : Walk J n G Y) (Pv : Nat → Hp → Prop) (h0 : Pv 0 (upd H1 D (.lst []))) (hG : ∀ i H, i ≤ n → Pv i H → G H)
    (hs : ∀ i x H H', i < n → Pv i H → Y i H x H' → g x (wipe σ vs) H' fun σ2 H2 => wipe σ2 vs = wipe σ vs ∧ tt σ2 H2 fun b H3 =>
      if b = true then wi1 σ2 H3 fun J1 H4 => ∃ W1 : Nat → Nat → Hp → Prop, (∃ m, W1 0 m H4) ∧ ∀ j k H, W1 j k H →
        (J1.stop j H ∧ Pv (i + 1) H) ∨ (J1.go j H ∧ ∃ Nx1 : Hp → Prop, (∀ H', Nx1 H' → ∃ k', k' < k ∧ W1 (j + 1) k' H') ∧ ∀ x H', J1.yld j H x H' → g1 x (wipe σ2 vs1) H' fun σ3 H5 => wipe σ3 vs1 = wipe σ2 vs1 ∧ tt1 σ3 H5 fun b H6 =>
          if b = true then te σ3 H6 fun y H7 => ∃ acc, H7 D = some (.lst acc) ∧ acc.length < sizeLine ∧ Nx1 (upd H7 D (.lst (acc ++ [y]))) else Nx1 H6)
      else Pv (i + 1) H3) (hd : ∀ H, Pv n H → Qd H) :
    ∃ W : Nat → Nat → Hp → Prop, (∃ m, W 0 m (upd H1 D (.lst []))) ∧ ∀ i m H, W i m H →
      (J.stop i H ∧ Qd H) ∨ (J.go i H ∧ ∃ Nx : Hp → Prop, (∀ H', Nx H' → ∃ m', m' < m ∧ W (i + 1) m' H') ∧ ∀ x H', J.yld i H x H' → g x (wipe σ vs) H' fun σ2 H2 => wipe σ2 vs = wipe σ vs ∧ tt σ2 H2 fun b H3 =>
        if b = true then wi1 σ2 H3 fun J1 H4 => ∃ W1 : Nat → Nat → Hp → Prop, (∃ m, W1 0 m H4) ∧ ∀ j k H, W1 j k H →
          (J1.stop j H ∧ Nx H) ∨ (J1.go j H ∧ ∃ Nx1 : Hp → Prop, (∀ H', Nx1 H' → ∃ k', k' < k ∧ W1 (j + 1) k' H') ∧ ∀ x H', J1.yld j H x H' → g1 x (wipe σ2 vs1) H' fun σ3 H5 => wipe σ3 vs1 = wipe σ2 vs1 ∧ tt1 σ3 H5 fun b H6 =>
            if b = true then te σ3 H6 fun y H7 => ∃ acc, H7 D = some (.lst acc) ∧ acc.length < sizeLine ∧ Nx1 (upd H7 D (.lst (acc ++ [y]))) else Nx1 H6)
        else Nx H3) := by
  refine ⟨fun i m H => m = n - i ∧ i ≤ n ∧ Pv i H, ⟨n, by simp, Nat.zero_le _, h0⟩, ?_⟩
  rintro i m H ⟨rfl, hi, p⟩
  have q := hG i H hi p
  by_cases hlt : i < n
  · exact .inr ⟨w.goes i H hlt q, Pv (i + 1), fun H' p' => ⟨n - (i + 1), by omega, rfl, hlt, p'⟩, fun x H' y => hs i x H H' hlt p (w.yields i H x H' hlt q y)⟩
  · have e : i = n := by omega
    subst e
    exact .inl ⟨w.stops H q, hd H p⟩
theorem in_it (w : Walk J1 n G Y) (Pv : Nat → Hp → Prop) (h0 : Pv 0 H0) (hG : ∀ i H, i ≤ n → Pv i H → G H)
    (hs : ∀ i x H H', i < n → Pv i H → Y i H x H' → g1 x (wipe σ2 vs1) H' fun σ3 H5 => wipe σ3 vs1 = wipe σ2 vs1 ∧ tt1 σ3 H5 fun b H6 =>
      if b = true then te σ3 H6 fun y H7 => ∃ acc, H7 D = some (.lst acc) ∧ acc.length < sizeLine ∧ Pv (i + 1) (upd H7 D (.lst (acc ++ [y]))) else Pv (i + 1) H6) (hd : ∀ H, Pv n H → Nx H) :
    ∃ W1 : Nat → Nat → Hp → Prop, (∃ m, W1 0 m H0) ∧ ∀ j k H, W1 j k H →
      (J1.stop j H ∧ Nx H) ∨ (J1.go j H ∧ ∃ Nx1 : Hp → Prop, (∀ H', Nx1 H' → ∃ k', k' < k ∧ W1 (j + 1) k' H') ∧ ∀ x H', J1.yld j H x H' → g1 x (wipe σ2 vs1) H' fun σ3 H5 => wipe σ3 vs1 = wipe σ2 vs1 ∧ tt1 σ3 H5 fun b H6 =>
        if b = true then te σ3 H6 fun y H7 => ∃ acc, H7 D = some (.lst acc) ∧ acc.length < sizeLine ∧ Nx1 (upd H7 D (.lst (acc ++ [y]))) else Nx1 H6) := by
  refine ⟨fun i m H => m = n - i ∧ i ≤ n ∧ Pv i H, ⟨n, by simp, Nat.zero_le _, h0⟩, ?_⟩
  rintro i m H ⟨rfl, hi, p⟩
  have q := hG i H hi p
  by_cases hlt : i < n
  · exact .inr ⟨w.goes i H hlt q, Pv (i + 1), fun H' p' => ⟨n - (i + 1), by omega, rfl, hlt, p'⟩, fun x H' y => hs i x H H' hlt p (w.yields i H x H' hlt q y)⟩
  · have e : i = n := by omega
    subst e
    exact .inl ⟨w.stops H q, hd H p⟩
end
/-- zip of two tuples -/
theorem walk_zipT {K : PySem.W.Frag} {a b : Addr} {xs ys : List V} {n : Nat} (hn : n = min xs.length ys.length) : Walk (RZ.ItzT K a b) n (fun H => SqT K H a xs ∧ SqT K H b ys) (YPair (fun i => xs[i]?) (fun i => ys[i]?)) := by
  subst hn
  refine ⟨fun i _ hi q => ?_, fun _ q => ⟨xs, ys, q.1, q.2, by omega⟩, fun i H v H' _ q y => ?_⟩
  · have h1 : i < xs.length := by omega
    have h2 : i < ys.length := by omega
    exact ⟨xs, ys, xs[i], ys[i], q.1, q.2, by simp [h1], by simp [h2]⟩
  · obtain ⟨T, x, z, h1, h2, h3, h4, h5⟩ := y
    exact ⟨T, x, z, h1, h2, h3, h4 xs q.1, h5 ys q.2⟩
/-! ### pairs of letters -/
/-- the places of the pairs of n letters, in order -/
def ixp (n : Nat) : List (Nat × Nat) := (List.range n).flatMap fun i => (List.range (n - (i + 1))).map fun j => (i, i + 1 + j)
/-- a pair's text -/
def pt (l : List Nat) (p : Nat × Nat) : List Nat := [l.getD p.1 0, l.getD p.2 0]
def prs (l : List Nat) : List (List Nat) := (ixp l.length).map (pt l)
theorem ixp_lt {n : Nat} {p : Nat × Nat} (h : p ∈ ixp n) : p.1 < p.2 ∧ p.2 < n := by
  unfold ixp at h
  obtain ⟨i, hi, h⟩ := List.mem_flatMap.mp h
  obtain ⟨j, hj, rfl⟩ := List.mem_map.mp h
  have := List.mem_range.mp hi
  have := List.mem_range.mp hj
  show i < i + 1 + j ∧ i + 1 + j < n
  omega
theorem ixp_of {n i j : Nat} (h : i < j) (hj : j < n) : (i, j) ∈ ixp n := by
  unfold ixp
  refine List.mem_flatMap.mpr ⟨i, List.mem_range.mpr (by omega), List.mem_map.mpr ⟨j - (i + 1), List.mem_range.mpr (by omega), ?_⟩⟩
  show (i, i + 1 + (j - (i + 1))) = (i, j)
  congr 1
  omega
theorem ixp_len (n : Nat) : (ixp n).length ≤ n * n := by
  unfold ixp
  rw [List.length_flatMap]
  have : ∀ k, k ≤ n → ((List.range k).map fun i => ((List.range (n - (i + 1))).map fun j => (i, i + 1 + j)).length).sum ≤ k * n := by
    intro k hk
    induction k with
    | zero => simp
    | succ k ih =>
      rw [List.range_succ, List.map_append, List.sum_append, Nat.succ_mul]
      have := ih (by omega)
      simp only [List.map_cons, List.map_nil, List.sum_cons, List.sum_nil, List.length_map, List.length_range] at this ⊢
      omega
  exact this n (Nat.le_refl _)
/-! ### rules with the written part told -/
section
variable {X : Cx} {K : PySem.W.Frag}
theorem op_in_seqK (K : PySem.W.Frag) (e : X.K = K) : OpR X (compareOp .In) (rIn K false) := e ▸ op_in_seq
theorem op_notIn_seqK (K : PySem.W.Frag) (e : X.K = K) : OpR X (compareOp .NotIn) (rIn K true) := e ▸ op_notIn_seq
theorem ix_listK (K : PySem.W.Frag) (e : X.K = K) : IxR X (rIxL K) := e ▸ ix_list
theorem ix_tupK (K : PySem.W.Frag) (e : X.K = K) : IxR X (rIxT K) := e ▸ ix_tup
theorem call_isiK (K : PySem.W.Frag) (e : X.K = K) : CallR X (.builtin "isinstance") (rIsi K) := e ▸ call_isi
theorem call_len_seqK (K : PySem.W.Frag) (e : X.K = K) : CallR X (.builtin "len") (fun xs H Q => ∃ p ys, xs = [.ref p] ∧ (SqL K H p ys ∨ SqT K H p ys) ∧ Q (.int ys.length) H) := e ▸ call_len_seq
theorem pe_tupleOfK (K : PySem.W.Frag) (e : X.K = K) {a : Expr} {ta : TE} {p pos : Pos} (hg : Gl X "tuple") (hm : X.mg "tuple" = none) (ha : PE X a ta) (na : starEach [a] X.env = (false, eval a X.env) :: starEach [] X.env := by rfl) :
    PE X (.Call (.Name "tuple" p) [a] [] pos) (tThen ta (kTup K)) := e ▸ pe_tupleOf hg hm ha na
theorem pi_tupK (K : PySem.W.Frag) (e : X.K = K) {tg l : Expr} {tl : TE} (hl : PE X l tl) : PI X tg l (iTup K tl) := e ▸ pi_tup hl
theorem pi_listK (K : PySem.W.Frag) (e : X.K = K) {tg l : Expr} {tl : TE} (hl : PE X l tl) : PI X tg l (iList K tl) := e ▸ pi_list hl
theorem pe_slK (K : PySem.W.Frag) (h : X.K = K) {e : Expr} {f : Str} {ta : TE} {pos : Pos} (he : PE X e ta) (hb : attributeBase e f X.env (eval e X.env) = eval e X.env := by rfl) : PE X (.Attribute e f pos) (SlX.tSl K ta f) := h ▸ SlX.pe_sl he hb
end
/-! ### dicts -/
section
variable {κ : Type} [DecidableEq κ]
theorem putK_new {kvs : List (κ × V)} {k : κ} {v : V} (h : ∀ p ∈ kvs, p.1 ≠ k) : putK kvs k v = kvs ++ [(k, v)] := by
  unfold putK
  rw [if_neg]
  intro z
  obtain ⟨p, hp, e⟩ := List.any_eq_true.mp z
  exact h p hp (by simpa using e)
theorem putK_len {kvs : List (κ × V)} {k : κ} {v : V} : (putK kvs k v).length ≤ kvs.length + 1 := by
  unfold putK
  split
  · rw [List.length_map]; omega
  · rw [List.length_append]; exact Nat.le_refl _
theorem valV_map {α : Type} {key : α → κ} {f : α → V} : ∀ {L : List α} {x : α}, (∀ y ∈ L, key y = key x → f y = f x) → x ∈ L → valV (L.map fun y => (key y, f y)) (key x) = some (f x)
  | [], _, _, h => by cases h
  | a :: L, x, hi, h => by
    rw [List.map_cons]
    by_cases e : key a = key x
    · rw [valV_pos (p := (key a, f a)) e]
      exact congrArg some (hi a List.mem_cons_self e)
    · have : x ∈ L := by
        rcases List.mem_cons.mp h with z | z
        · rw [z] at e; exact absurd rfl e
        · exact z
      have ih := valV_map (L := L) (fun y hy => hi y (List.mem_cons_of_mem _ hy)) this
      unfold valV at ih ⊢
      rw [List.find?_cons_of_neg (by simpa using e)]
      exact ih
theorem valV_no {α : Type} {key : α → κ} {f : α → V} {L : List α} {k : κ} (h : ∀ y ∈ L, key y ≠ k) : valV (L.map fun y => (key y, f y)) k = none := by
  unfold valV
  rw [List.find?_eq_none.mpr]
  · rfl
  · intro p hp
    obtain ⟨y, hy, rfl⟩ := List.mem_map.mp hp
    simpa using h y hy
end
section
variable {J : It} {n : Nat} {G : Hp → Prop} {Y : Nat → Hp → V → Hp → Prop} {g : TG} {tt : TT} {tk tv : TE} {vs : List Nat} {σ : L2.St} {H1 : Hp} {D : Addr} {Qd : Hp → Prop}
theorem dc_it (w : Walk J n G Y) (Pv : Nat → Hp → Prop) (h0 : Pv 0 (upd H1 D (.dK []))) (hG : ∀ i H, i ≤ n → Pv i H → G H)
    (hs : ∀ i x H H', i < n → Pv i H → Y i H x H' → g x (wipe σ vs) H' fun σ2 H2 => wipe σ2 vs = wipe σ vs ∧ tt σ2 H2 fun b H3 =>
      if b = true then tk σ2 H3 fun y H4 => tv σ2 H4 fun z H5 => ∃ kvs k, y = kV k ∧ H5 D = some (.dK kvs) ∧ kvs.length < sizeLine ∧ Pv (i + 1) (upd H5 D (.dK (putK kvs k z))) else Pv (i + 1) H3) (hd : ∀ H, Pv n H → Qd H) :
    ∃ W : Nat → Nat → Hp → Prop, (∃ m, W 0 m (upd H1 D (.dK []))) ∧ ∀ i m H, W i m H →
      (J.stop i H ∧ Qd H) ∨ (J.go i H ∧ ∃ Nx : Hp → Prop, (∀ H', Nx H' → ∃ m', m' < m ∧ W (i + 1) m' H') ∧ ∀ x H', J.yld i H x H' → g x (wipe σ vs) H' fun σ2 H2 => wipe σ2 vs = wipe σ vs ∧ tt σ2 H2 fun b H3 =>
        if b = true then tk σ2 H3 fun y H4 => tv σ2 H4 fun z H5 => ∃ kvs k, y = kV k ∧ H5 D = some (.dK kvs) ∧ kvs.length < sizeLine ∧ Nx (upd H5 D (.dK (putK kvs k z))) else Nx H3) := by
  refine ⟨fun i m H => m = n - i ∧ i ≤ n ∧ Pv i H, ⟨n, by simp, Nat.zero_le _, h0⟩, ?_⟩
  rintro i m H ⟨rfl, hi, p⟩
  have q := hG i H hi p
  by_cases hlt : i < n
  · exact .inr ⟨w.goes i H hlt q, Pv (i + 1), fun H' p' => ⟨n - (i + 1), by omega, rfl, hlt, p'⟩, fun x H' y => hs i x H H' hlt p (w.yields i H x H' hlt q y)⟩
  · have e : i = n := by omega
    subst e
    exact .inl ⟨w.stops H q, hd H p⟩
/-- some dict is made -/
theorem dc_any (w : Walk J n G Y) (hD : H1 D = none) (hn : n < sizeLine) (hG : ∀ H, Same H1 H → G H)
    (hs : ∀ i x H H', i < n → Same H1 H → Y i H x H' → ∀ Pn : Hp → Prop, (∀ z H4, Same H H4 → ∃ kvs, H4 D = some (.dK kvs) ∧ kvs.length < sizeLine ∧ ∀ k, Pn (upd H4 D (.dK (putK kvs k z)))) →
      g x (wipe σ vs) H' fun σ2 H2 => wipe σ2 vs = wipe σ vs ∧ tt σ2 H2 fun b H3 => if b = true then tk σ2 H3 fun y H4 => tv σ2 H4 fun z H5 => ∃ kvs k, y = kV k ∧ H5 D = some (.dK kvs) ∧ kvs.length < sizeLine ∧ Pn (upd H5 D (.dK (putK kvs k z))) else Pn H3)
    (hd : ∀ H, Same H1 H → Qd H) :
    ∃ W : Nat → Nat → Hp → Prop, (∃ m, W 0 m (upd H1 D (.dK []))) ∧ ∀ i m H, W i m H →
      (J.stop i H ∧ Qd H) ∨ (J.go i H ∧ ∃ Nx : Hp → Prop, (∀ H', Nx H' → ∃ m', m' < m ∧ W (i + 1) m' H') ∧ ∀ x H', J.yld i H x H' → g x (wipe σ vs) H' fun σ2 H2 => wipe σ2 vs = wipe σ vs ∧ tt σ2 H2 fun b H3 =>
        if b = true then tk σ2 H3 fun y H4 => tv σ2 H4 fun z H5 => ∃ kvs k, y = kV k ∧ H5 D = some (.dK kvs) ∧ kvs.length < sizeLine ∧ Nx (upd H5 D (.dK (putK kvs k z))) else Nx H3) := by
  refine dc_it w (fun i H => i ≤ n ∧ Same H1 H ∧ ∃ kvs, H D = some (.dK kvs) ∧ kvs.length ≤ i) ⟨Nat.zero_le _, same_upd hD, [], upd_same, Nat.le_refl _⟩ (fun i H _ h => hG H h.2.1) (fun i x H H' hi ⟨_, s, kvs, hl, hle⟩ y => ?_) fun H h => hd H h.2.1
  exact hs i x H H' hi s y _ fun z H4 s4 => ⟨kvs, s4 _ _ hl, by omega, fun k => ⟨hi, same_at (s.trans s4) hD, _, upd_same, Nat.le_trans putK_len (by omega)⟩⟩
/-- keys that differ, each with its value -/
theorem dc_map (w : Walk J n G Y) (key : Nat → Key) (f : Nat → V) (inj : ∀ i j, i < n → j < n → key i = key j → i = j) (hD : H1 D = none) (hn : n < sizeLine) (hG : ∀ H, Same H1 H → G H)
    (hs : ∀ i x H H', i < n → Same H1 H → Y i H x H' → ∀ Pn : Hp → Prop, (∀ H4, Same H H4 → ∃ kvs k, kV (key i) = kV k ∧ H4 D = some (.dK kvs) ∧ kvs.length < sizeLine ∧ Pn (upd H4 D (.dK (putK kvs k (f i))))) →
      g x (wipe σ vs) H' fun σ2 H2 => wipe σ2 vs = wipe σ vs ∧ tt σ2 H2 fun b H3 => if b = true then tk σ2 H3 fun y H4 => tv σ2 H4 fun z H5 => ∃ kvs k, y = kV k ∧ H5 D = some (.dK kvs) ∧ kvs.length < sizeLine ∧ Pn (upd H5 D (.dK (putK kvs k z))) else Pn H3)
    (hd : ∀ H, Same H1 H → H D = some (.dK ((List.range n).map fun i => (key i, f i))) → Qd H) :
    ∃ W : Nat → Nat → Hp → Prop, (∃ m, W 0 m (upd H1 D (.dK []))) ∧ ∀ i m H, W i m H →
      (J.stop i H ∧ Qd H) ∨ (J.go i H ∧ ∃ Nx : Hp → Prop, (∀ H', Nx H' → ∃ m', m' < m ∧ W (i + 1) m' H') ∧ ∀ x H', J.yld i H x H' → g x (wipe σ vs) H' fun σ2 H2 => wipe σ2 vs = wipe σ vs ∧ tt σ2 H2 fun b H3 =>
        if b = true then tk σ2 H3 fun y H4 => tv σ2 H4 fun z H5 => ∃ kvs k, y = kV k ∧ H5 D = some (.dK kvs) ∧ kvs.length < sizeLine ∧ Nx (upd H5 D (.dK (putK kvs k z))) else Nx H3) := by
  refine dc_it w (fun i H => i ≤ n ∧ Same H1 H ∧ H D = some (.dK ((List.range i).map fun i => (key i, f i)))) ⟨Nat.zero_le _, same_upd hD, upd_same⟩ (fun i H _ h => hG H h.2.1) (fun i x H H' hi ⟨_, s, hl⟩ y => ?_) fun H h => hd H h.2.1 h.2.2
  refine hs i x H H' hi s y _ fun H4 s4 => ⟨_, key i, rfl, s4 _ _ hl, by rw [List.length_map, List.length_range]; omega, hi, same_at (s.trans s4) hD, ?_⟩
  rw [upd_same, putK_new, List.range_succ, List.map_append]
  · rfl
  · intro p hp
    obtain ⟨j, hj, rfl⟩ := List.mem_map.mp hp
    have hj := List.mem_range.mp hj
    intro z
    have := inj j i (by omega) hi z
    omega
end
/-! ### webs -/
/-- at a stands a web of the letters l and the conflicts cs -/
def WebAt (K : PySem.W.Frag) (H : Hp) (a : Addr) (l : List Nat) (cs : List (List Nat)) : Prop :=
  ∃ (dx ca : Addr) (vs : List (Option V)), Slt H a (wbC K) dx vs ∧ vs[1]? = some (some (.ref ca)) ∧ vs[2]? = some (some (tx l)) ∧ H ca = some (.tup (cs.map tx))
theorem WebAt.same {K : PySem.W.Frag} {H H' : Hp} {a : Addr} {l : List Nat} {cs : List (List Nat)} (s : Same H H') (h : WebAt K H a l cs) : WebAt K H' a l cs := by
  obtain ⟨dx, ca, vs, h1, h2, h3, h4⟩ := h
  exact ⟨dx, ca, vs, Slt.same s h1, h2, h3, s _ _ h4⟩
/-- while, by a number that grows up to N -/
theorem while_n {c : TT} {tb : TS} {D : Ends} {σ : L2.St} {H : Hp} (N : Nat) (Pv : Nat → L2.St → Hp → Prop) {i0 : Nat} (hi0 : i0 ≤ N) (h0 : Pv i0 σ H)
    (hs : ∀ i σ H, i ≤ N → Pv i σ H → c σ H fun b H1 => if b = true then tb { D with nx := fun σ' H' => ∃ j, i < j ∧ j ≤ N ∧ Pv j σ' H', ct := fun σ' H' => ∃ j, i < j ∧ j ≤ N ∧ Pv j σ' H', bk := D.nx } σ H1 else D.nx σ H1)
    (mono : ∀ σ H Q Q', (∀ b H1, Q b H1 → Q' b H1) → c σ H Q → c σ H Q') : tWhile c tb D σ H := by
  refine ⟨fun m σ H => ∃ i, i ≤ N ∧ m = N - i ∧ Pv i σ H, ⟨_, i0, hi0, rfl, h0⟩, ?_⟩
  rintro m σ H ⟨i, hi, rfl, p⟩
  refine mono σ H _ _ (fun b H1 q => ?_) (hs i σ H hi p)
  cases b with
  | true => exact ⟨_, fun σ' H' ⟨j, h1, h2, p'⟩ => ⟨N - j, by omega, j, h2, rfl, p'⟩, q⟩
  | false => exact q
end Ww
end S_WwEnv

section S_Ww1
set_option Elab.async false
set_option linter.all false
set_option maxRecDepth 100000
set_option maxHeartbeats 2000000
/-! Walks 1: the plain checks. -/
namespace Ww
open PySem PySem.Spec PyProof.Rows L2 WwR SlX
open C8 (Cal pe_c)
section
variable {P : Program} {w : World} {K : PySem.W.Frag} {mg : Str → Option Value} {base : Heap}
theorem isi {K : PySem.W.Frag} {H : Hp} {x : V} {a b : String} {r : Bool} {Q : VK} (h : TyX K H x (.type a)) (k : kitB a b = some r) (q : Q (.bl r) H) : rIsi K [x, .ty b] H Q :=
  ⟨_, _, _, _, r, rfl, .ty _, h, kit_ty k, q⟩
theorem bl_t {c : Prop} [Decidable c] {Q : VK} {H : Hp} (h : c) (q : Q (.bl true) H) : Q (.bl (decide c)) H := by rw [decide_eq_true h]; exact q

def spIsInteger : Sp := fun vs H Q _ => ∃ i : Int, vs = [.int i] ∧ -(10 ^ 60) < i ∧ i < 10 ^ 60 ∧ Q (.bl true) H
theorem scIsInteger : FnScope ["value"] ["value"] (defScope sIsInteger) := ⟨rfl, rfl, rfl, by decide +kernel, rfl, by decide +kernel, by decide +kernel⟩
theorem c_is_integer (B : En P w K mg base) : Cal P w K mg base 1 "is_integer" (spIsInteger) [] := by
  refine cal_mk B.f_is_integer scIsInteger (fun _ _ _ _ _ _ us hl => match us, hl with | [_], _ => rfl) (fun vs H Q E h => ?_) fun f cdv A outer s H vs Q E hr h => ?_
  · obtain ⟨i, rfl, _⟩ := h
    rfl
  · obtain ⟨i, rfl, h1, h2, q⟩ := h
    have hu := hu_of hr
    have hu64 := hr.units
    refine ⟨_, (pss_one (ps_ret (pe_and (pe_callB (call_isiK K rfl) (by rfl) B.isinstance_ boot_isinstance (pa_cons (pv 0) (pa_cons (pe_bltn (v := .ty "int") (by rfl) B.int_ boot_int rfl) pa_nil))) (pe_and (pe_not (pe_callB (call_isiK K rfl) (by rfl) B.isinstance_ boot_isinstance (pa_cons (pv 0) (pa_cons (pe_bltn (v := .ty "bool") (by rfl) B.bool_ boot_bool rfl) pa_nil)))) (pe_one (pe_chain op_lt op_lt (pe_un un_neg (C8.pe_gc (by rfl) B.GREATEST)) (pv 0) (C8.pe_gc (by rfl) B.GREATEST))))))), ?_⟩
    refine ⟨_, rfl, _, _, _, _, true, rfl, .ty _, .base (.int _), kit_ty (by decide +kernel), true, rfl, iteT ?_⟩
    refine ⟨_, rfl, _, _, _, _, false, rfl, .ty _, .base (.int _), kit_ty (by decide +kernel), false, rfl, true, rfl, iteT ?_⟩
    refine ⟨_, rfl, _, rfl, _, _, rfl, rfl, true, ?_, iteT ?_⟩
    · exact congrArg V.bl (decide_eq_true h1)
    exact ⟨_, _, rfl, rfl, bl_t h2 q⟩
def spIsFrom : Sp := fun vs H Q _ => ∃ i a b : Int, vs = [.int i, .int a, .int b] ∧ -(10 ^ 60) < i ∧ i < 10 ^ 60 ∧ a ≤ i ∧ i ≤ b ∧ Q (.bl true) H
theorem scIsFrom : FnScope ["value", "least", "most"] ["value", "least", "most"] (defScope sIsFrom) := ⟨rfl, rfl, rfl, by decide +kernel, rfl, by decide +kernel, by decide +kernel⟩
theorem c_is_from (B : En P w K mg base) : Cal P w K mg base 2 "is_from" (spIsFrom) [] := by
  refine cal_mk B.f_is_from scIsFrom (fun _ _ _ _ _ _ us hl => match us, hl with | [_, _, _], _ => rfl) (fun vs H Q E h => ?_) fun f cdv A outer s H vs Q E hr h => ?_
  · obtain ⟨i, x, y, rfl, _⟩ := h
    rfl
  · obtain ⟨i, x, y, rfl, h1, h2, h3, h4, q⟩ := h
    have hu := hu_of hr
    have hu64 := hr.units
    refine ⟨_, (pss_one (ps_ret (pe_and (pe_c (c_is_integer B) hr (by decide) (by rfl) (pa_cons (pv 0) pa_nil)) (pe_one (pe_chain op_le op_le (pv 1) (pv 0) (pv 2)))))), ?_⟩
    refine ⟨_, rfl, i, rfl, h1, h2, true, rfl, iteT ?_⟩
    refine ⟨_, rfl, _, rfl, _, _, rfl, rfl, true, ?_, iteT ?_⟩
    · exact congrArg V.bl (decide_eq_true h3)
    exact ⟨_, rfl, _, _, rfl, rfl, bl_t h4 q⟩
def spIsLetter : Sp := fun vs H Q _ => ∃ c : Nat, vs = [tx [c]] ∧ 97 ≤ c ∧ c ≤ 122 ∧ Q (.bl true) H
theorem sg_le {a b : Nat} : (decide (([a] : List Nat) ≤ [b])) = decide (a ≤ b) := by
  have : ([a] ≤ [b]) ↔ a ≤ b := by
    rw [← List.not_lt, List.cons_lt_cons_iff]
    simp
  exact decide_eq_decide.mpr this
theorem sg_lt {a b : Nat} : (decide (([a] : List Nat) < [b])) = decide (a < b) := by
  have : ([a] < [b]) ↔ a < b := by
    rw [List.cons_lt_cons_iff]
    simp
  exact decide_eq_decide.mpr this
theorem scIsLetter : FnScope ["value"] ["value"] (defScope sIsLetter) := ⟨rfl, rfl, rfl, by decide +kernel, rfl, by decide +kernel, by decide +kernel⟩
theorem c_is_letter (B : En P w K mg base) : Cal P w K mg base 1 "is_letter" (spIsLetter) [] := by
  refine cal_mk B.f_is_letter scIsLetter (fun _ _ _ _ _ _ us hl => match us, hl with | [_], _ => rfl) (fun vs H Q E h => ?_) fun f cdv A outer s H vs Q E hr h => ?_
  · obtain ⟨c, rfl, _⟩ := h
    rfl
  · obtain ⟨c, rfl, h1, h2, q⟩ := h
    have hu := hu_of hr
    have hu64 := hr.units
    refine ⟨_, (pss_one (ps_ret (pe_and (pe_callB (call_isiK K rfl) (by rfl) B.isinstance_ boot_isinstance (pa_cons (pv 0) (pa_cons (pe_bltn (v := .ty "str") (by rfl) B.str_ boot_str rfl) pa_nil))) (pe_and (pe_cmpR op_eq (pe_callB call_len (by rfl) B.len_ boot_len (pa_cons (pv 0) pa_nil)) pe_int (nomark _)) (pe_one (pe_chain op_le_str op_le_str pe_str (pv 0) pe_str)))))), ?_⟩
    refine ⟨_, rfl, _, _, _, _, true, rfl, .ty _, .base (.str _), kit_ty (by decide +kernel), true, rfl, iteT ?_⟩
    refine ⟨_, rfl, _, 1, rfl, ⟨(by show 1 ≤ sizeLine; decide), rfl⟩, rfl, true, rfl, iteT ?_⟩
    refine ⟨_, rfl, _, _, rfl, rfl, true, ?_, iteT ?_⟩
    · show V.bl (!decide (([c] : List Nat) < [97])) = _
      rw [sg_lt, decide_eq_false (by omega)]; rfl
    refine ⟨_, _, rfl, rfl, ?_⟩
    show Q (V.bl (!decide (([122] : List Nat) < [c]))) H
    rw [sg_lt, decide_eq_false (by omega)]
    exact q
theorem cut1 (l : List Nat) : cutS ⟨l.toArray⟩ (some 1) none = ⟨(l.drop 1).toArray⟩ := by
  unfold cutS
  have e1 : HT.sIx (Str.length ⟨l.toArray⟩) 0 (some 1) = min 1 l.length := by
    rw [show (1 : Int) = ((1 : Nat) : Int) from rfl, HT.sIx_nat]
    rfl
  rw [e1, HT.sIx_none]
  show (⟨((l.drop (min 1 l.length)).take (l.length - min 1 l.length)).toArray⟩ : Str) = _
  congr 2
  rw [List.take_of_length_le (by rw [List.length_drop]; omega)]
  cases l with
  | nil => rfl
  | cons a l => rw [Nat.min_eq_left (by rw [List.length_cons]; omega)]
theorem cutV1 (xs : List V) : cutV xs (some 1) none = xs.drop 1 := by
  unfold cutV
  rw [show (1 : Int) = ((1 : Nat) : Int) from rfl, HT.sIx_nat, HT.sIx_none]
  rw [List.take_of_length_le (by rw [List.length_drop]; omega)]
  cases xs with
  | nil => rfl
  | cons a l => rw [Nat.min_eq_left (by rw [List.length_cons]; omega)]
theorem all_true (n : Nat) : ((List.range n).map fun _ => V.bl true) = (List.replicate n true).map V.bl := by
  rw [List.map_replicate]
  exact List.map_eq_replicate_iff.mpr (fun _ _ => rfl) |>.trans (by rw [List.length_range])
theorem all_rep (n : Nat) : (List.replicate n true).all id = true := by
  rw [List.all_eq_true]
  intro x hx
  rw [List.eq_of_mem_replicate hx]
  rfl
/-- each below the next -/
def Asc (R : α → α → Prop) (l : List α) : Prop := ∀ (i : Nat) (x y : α), l[i]? = some x → l[i + 1]? = some y → R x y
def spAscS : Sp := fun vs H Q _ => ∃ l : List Nat, vs = [tx l] ∧ l.length ≤ 1000 ∧ Asc (· < ·) l ∧ ∀ H', Same H H' → Q (.bl true) H'
def spAscT (K : PySem.W.Frag) : Sp := fun vs H Q _ => ∃ (p : Addr) (cs : List (List Nat)), vs = [.ref p] ∧ H p = some (.tup (cs.map tx)) ∧ cs.length ≤ 1000 ∧ Asc (· < ·) cs ∧ ∀ H', Same H H' → Q (.bl true) H'
def spAscI (K : PySem.W.Frag) : Sp := fun vs H Q _ => ∃ (p : Addr) (cs : List Nat), vs = [.ref p] ∧ H p = some (.tup (cs.map nv)) ∧ cs.length ≤ 1000 ∧ Asc (· < ·) cs ∧ ∀ H', Same H H' → Q (.bl true) H'
theorem scAreAscending : FnScope ["items", "one", "other"] ["items"] (defScope sAreAscending) := ⟨rfl, rfl, rfl, by decide +kernel, rfl, by decide +kernel, by decide +kernel⟩
theorem c_are_ascending (B : En P w K mg base) : Cal P w K mg base 1 "are_ascending" (spAscS) [] := by
  refine cal_mk B.f_are_ascending scAreAscending (fun _ _ _ _ _ _ us hl => match us, hl with | [_], _ => rfl) (fun vs H Q E h => ?_) fun f cdv A outer s H vs Q E hr h => ?_
  · obtain ⟨l, rfl, _⟩ := h
    rfl
  · obtain ⟨l, rfl, hl, asc, q⟩ := h
    have hu := hu_of hr
    have hu64 := hr.units
    refine ⟨_, (pss_one (ps_ret (pe_callB (cr_all rfl) (by rfl) B.all_ boot_all (pa_cons (pe_lc (own := [("one", 1), ("other", 2)]) (g := gTup K 2 (gCons (gName 1) (gCons (gName 2) gNil))) (tt := tYes) rfl scAreAscending.nd (pi_zipS (by rfl) B.zip_ (pa_cons (pv 0) (pa_cons (pe_slice sl_str (pv 0) (po_some pe_int) po_none) pa_nil))) (blkOk_by (own := [("one", 1), ("other", 2)]) (N := ["items", "one", "other"]) (sc := defScope sAreAscending) (by decide +kernel)) (fun _ _ _ _ _ => (pg_tup rfl (pgs_cons (pg_name (i := 1) scAreAscending.nd rfl (Or.inl rfl)) (pgs_cons (pg_name (i := 2) scAreAscending.nd rfl (Or.inl rfl)) pgs_nil)))) (fun _ _ _ _ _ => pts_nil) (fun _ _ _ _ _ => (pe_cmpR op_lt_str (pv 1) (pv 2) (nomark _)))) pa_nil)))), ?_⟩
    refine ⟨_, rfl, ⟨_, rfl, _, rfl, _, rfl, Nat.le_trans hl (by decide), _, _, rfl, fun D hD => lc_map walk_N (fun _ => .bl true) hD ?_ (fun _ _ => trivial) (fun i x H1 H2 hi s y Pn k => ?_) (fun H1 s hl => ?_)⟩⟩
    · rw [cut1]
      exact Nat.lt_of_le_of_lt (Nat.min_le_left _ _) (Nat.lt_of_le_of_lt hl (by decide))
    · obtain ⟨T, xs, rfl, hT, rfl, c, c', e1, e2, rfl⟩ := y
      refine ⟨T, _, rfl, SqT.of upd_same, rfl, _, _, rfl, _, _, rfl, rfl, rfl, yes ⟨_, rfl, _, rfl, _, _, rfl, rfl, ?_⟩⟩
      have hc : c < c' := asc i c c' (by simpa using e1) (by rw [cut1] at e2; simpa [Nat.add_comm] using e2)
      have e : decide (([c] : List Nat) < [c']) = true := by rw [sg_lt]; exact decide_eq_true hc
      show ∃ acc, upd H1 T _ D = _ ∧ _ ∧ Pn (upd _ _ (.lst (acc ++ [.bl (decide (([c] : List Nat) < [c']))])))
      rw [e]
      exact k _ (same_upd hT)
    · rw [all_true] at hl
      refine ⟨_, _, rfl, SqL.of hl, ?_⟩
      rw [all_rep]
      exact q _ s
end
end Ww
end S_Ww1

section S_Ww1b
set_option Elab.async false
set_option linter.all false
set_option maxRecDepth 100000
set_option maxHeartbeats 2000000
/-! Walks 1b: ascending tuples, pairs, letters, conflicts. -/
namespace Ww
open PySem PySem.Spec PyProof.Rows L2 WwR SlX
open C8 (Cal pe_c)
section
variable {P : Program} {w : World} {K : PySem.W.Frag} {mg : Str → Option Value} {base : Heap}

theorem sqt_same {K : PySem.W.Frag} {H H' : Hp} {a : Addr} {xs : List V} (e : Same H H') (h : SqT K H a xs) : SqT K H' a xs := by
  rcases h with (h | ⟨o, h⟩) | h
  · exact .inl (.inl (e _ _ h))
  · exact .inl (.inr ⟨o, e _ _ h⟩)
  · exact .inr h
theorem c_are_ascendingT (B : En P w K mg base) : Cal P w K mg base 1 "are_ascending" (spAscT K) [] := by
  refine cal_mk B.f_are_ascending scAreAscending (fun _ _ _ _ _ _ us hl => match us, hl with | [_], _ => rfl) (fun vs H Q E h => ?_) fun f cdv A outer s H vs Q E hr h => ?_
  · obtain ⟨p, cs, rfl, _⟩ := h
    rfl
  · obtain ⟨p, cs, rfl, hp, hl, asc, q⟩ := h
    have hu := hu_of hr
    have hu64 := hr.units
    refine ⟨_, (pss_one (ps_ret (pe_callB (cr_all rfl) (by rfl) B.all_ boot_all (pa_cons (pe_lc (own := [("one", 1), ("other", 2)]) (g := gTup K 2 (gCons (gName 1) (gCons (gName 2) gNil))) (tt := tYes) rfl scAreAscending.nd (RZ.pi_zipA (by rfl) B.zip_ (pa_cons (pv 0) (pa_cons (pe_slice sl_tupA (pv 0) (po_some pe_int) po_none) pa_nil))) (blkOk_by (own := [("one", 1), ("other", 2)]) (N := ["items", "one", "other"]) (sc := defScope sAreAscending) (by decide +kernel)) (fun _ _ _ _ _ => (pg_tup rfl (pgs_cons (pg_name (i := 1) scAreAscending.nd rfl (Or.inl rfl)) (pgs_cons (pg_name (i := 2) scAreAscending.nd rfl (Or.inl rfl)) pgs_nil)))) (fun _ _ _ _ _ => pts_nil) (fun _ _ _ _ _ => (pe_cmpR op_lt_str (pv 1) (pv 2) (nomark _)))) pa_nil)))), ?_⟩
    have hlen : cs.length ≤ sizeLine := Nat.le_trans hl (by decide)
    refine ⟨_, rfl, _, rfl, _, rfl, _, _, rfl, SqT.of hp, fun hw => ?_, fun _ q1 hr => ?_⟩
    · have s1 := Same.refl H
      have hq1 : SqT K H p ((cs.map tx).drop 1) := by
        have : cs = [] := by
          have := hw.1
          rw [show (1 : Int) = ((1 : Nat) : Int) from rfl, HT.sIx_nat, List.length_map] at this
          cases cs with
          | nil => rfl
          | cons c cs => rw [List.length_cons] at this; omega
        subst this
        exact SqT.of hp
      have hp1 := s1 _ _ hp
      refine ⟨p, p, _, _, rfl, .inr ⟨SqT.of hp1, hq1, fun D hD => lc_map (walk_zipT rfl) (fun _ => .bl true) hD ?_ (fun H2 s2 => ⟨SqT.of (s2 _ _ hp1), sqt_same s2 hq1⟩) (fun i x H2 H3 hi s y Pn k => ?_) (fun H2 s hl => ?_)⟩⟩
      · refine Nat.lt_of_le_of_lt (Nat.min_le_left _ _) ?_
        rw [List.length_map]
        exact Nat.lt_of_le_of_lt hl (by decide)
      · obtain ⟨T, x1, x2, rfl, hT, rfl, e1, e2⟩ := y
        have e1 : (cs.map tx)[i]? = some x1 := e1
        have e2 : ((cs.map tx).drop 1)[i]? = some x2 := e2
        rw [List.getElem?_map] at e1
        rw [List.getElem?_drop, List.getElem?_map] at e2
        obtain ⟨c, e3, rfl⟩ := Option.map_eq_some_iff.mp e1
        obtain ⟨c', e4, rfl⟩ := Option.map_eq_some_iff.mp e2
        refine ⟨T, _, rfl, SqT.of upd_same, rfl, _, _, rfl, _, _, rfl, rfl, rfl, yes ⟨_, rfl, _, rfl, _, _, rfl, rfl, ?_⟩⟩
        have hc : c < c' := asc i c c' e3 (by rw [Nat.add_comm]; exact e4)
        show ∃ acc, upd H2 T _ D = _ ∧ _ ∧ Pn (upd _ _ (.lst (acc ++ [.bl (decide (c < c'))])))
        rw [decide_eq_true (p := c < c') hc]
        exact k _ (same_upd hT)
      · rw [all_true] at hl
        refine ⟨_, _, rfl, SqL.of hl, ?_⟩
        rw [all_rep]
        exact q _ (s1.trans s)
    · have s1 := same_upd (o := .tup (cutV (cs.map tx) (some 1) none)) hr
      have hq1 : SqT K (upd H q1 (.tup (cutV (cs.map tx) (some 1) none))) q1 ((cs.map tx).drop 1) := SqT.of (by rw [← cutV1]; exact upd_same)
      have hp1 := s1 _ _ hp
      refine ⟨p, q1, _, _, rfl, .inr ⟨SqT.of hp1, hq1, fun D hD => lc_map (walk_zipT rfl) (fun _ => .bl true) hD ?_ (fun H2 s2 => ⟨SqT.of (s2 _ _ hp1), sqt_same s2 hq1⟩) (fun i x H2 H3 hi s y Pn k => ?_) (fun H2 s hl => ?_)⟩⟩
      · refine Nat.lt_of_le_of_lt (Nat.min_le_left _ _) ?_
        rw [List.length_map]
        exact Nat.lt_of_le_of_lt hl (by decide)
      · obtain ⟨T, x1, x2, rfl, hT, rfl, e1, e2⟩ := y
        have e1 : (cs.map tx)[i]? = some x1 := e1
        have e2 : ((cs.map tx).drop 1)[i]? = some x2 := e2
        rw [List.getElem?_map] at e1
        rw [List.getElem?_drop, List.getElem?_map] at e2
        obtain ⟨c, e3, rfl⟩ := Option.map_eq_some_iff.mp e1
        obtain ⟨c', e4, rfl⟩ := Option.map_eq_some_iff.mp e2
        refine ⟨T, _, rfl, SqT.of upd_same, rfl, _, _, rfl, _, _, rfl, rfl, rfl, yes ⟨_, rfl, _, rfl, _, _, rfl, rfl, ?_⟩⟩
        have hc : c < c' := asc i c c' e3 (by rw [Nat.add_comm]; exact e4)
        show ∃ acc, upd H2 T _ D = _ ∧ _ ∧ Pn (upd _ _ (.lst (acc ++ [.bl (decide (c < c'))])))
        rw [decide_eq_true (p := c < c') hc]
        exact k _ (same_upd hT)
      · rw [all_true] at hl
        refine ⟨_, _, rfl, SqL.of hl, ?_⟩
        rw [all_rep]
        exact q _ (s1.trans s)
theorem c_are_ascendingI (B : En P w K mg base) : Cal P w K mg base 1 "are_ascending" (spAscI K) [] := by
  refine cal_mk B.f_are_ascending scAreAscending (fun _ _ _ _ _ _ us hl => match us, hl with | [_], _ => rfl) (fun vs H Q E h => ?_) fun f cdv A outer s H vs Q E hr h => ?_
  · obtain ⟨p, cs, rfl, _⟩ := h
    rfl
  · obtain ⟨p, cs, rfl, hp, hl, asc, q⟩ := h
    have hu := hu_of hr
    have hu64 := hr.units
    refine ⟨_, (pss_one (ps_ret (pe_callB (cr_all rfl) (by rfl) B.all_ boot_all (pa_cons (pe_lc (own := [("one", 1), ("other", 2)]) (g := gTup K 2 (gCons (gName 1) (gCons (gName 2) gNil))) (tt := tYes) rfl scAreAscending.nd (RZ.pi_zipA (by rfl) B.zip_ (pa_cons (pv 0) (pa_cons (pe_slice sl_tupA (pv 0) (po_some pe_int) po_none) pa_nil))) (blkOk_by (own := [("one", 1), ("other", 2)]) (N := ["items", "one", "other"]) (sc := defScope sAreAscending) (by decide +kernel)) (fun _ _ _ _ _ => (pg_tup rfl (pgs_cons (pg_name (i := 1) scAreAscending.nd rfl (Or.inl rfl)) (pgs_cons (pg_name (i := 2) scAreAscending.nd rfl (Or.inl rfl)) pgs_nil)))) (fun _ _ _ _ _ => pts_nil) (fun _ _ _ _ _ => (pe_cmpR op_lt (pv 1) (pv 2) (nomark _)))) pa_nil)))), ?_⟩
    have hlen : cs.length ≤ sizeLine := Nat.le_trans hl (by decide)
    refine ⟨_, rfl, _, rfl, _, rfl, _, _, rfl, SqT.of hp, fun hw => ?_, fun _ q1 hr => ?_⟩
    · have s1 := Same.refl H
      have hq1 : SqT K H p ((cs.map nv).drop 1) := by
        have : cs = [] := by
          have := hw.1
          rw [show (1 : Int) = ((1 : Nat) : Int) from rfl, HT.sIx_nat, List.length_map] at this
          cases cs with
          | nil => rfl
          | cons c cs => rw [List.length_cons] at this; omega
        subst this
        exact SqT.of hp
      have hp1 := s1 _ _ hp
      refine ⟨p, p, _, _, rfl, .inr ⟨SqT.of hp1, hq1, fun D hD => lc_map (walk_zipT rfl) (fun _ => .bl true) hD ?_ (fun H2 s2 => ⟨SqT.of (s2 _ _ hp1), sqt_same s2 hq1⟩) (fun i x H2 H3 hi s y Pn k => ?_) (fun H2 s hl => ?_)⟩⟩
      · refine Nat.lt_of_le_of_lt (Nat.min_le_left _ _) ?_
        rw [List.length_map]
        exact Nat.lt_of_le_of_lt hl (by decide)
      · obtain ⟨T, x1, x2, rfl, hT, rfl, e1, e2⟩ := y
        have e1 : (cs.map nv)[i]? = some x1 := e1
        have e2 : ((cs.map nv).drop 1)[i]? = some x2 := e2
        rw [List.getElem?_map] at e1
        rw [List.getElem?_drop, List.getElem?_map] at e2
        obtain ⟨c, e3, rfl⟩ := Option.map_eq_some_iff.mp e1
        obtain ⟨c', e4, rfl⟩ := Option.map_eq_some_iff.mp e2
        refine ⟨T, _, rfl, SqT.of upd_same, rfl, _, _, rfl, _, _, rfl, rfl, rfl, yes ⟨_, rfl, _, rfl, _, _, rfl, rfl, ?_⟩⟩
        have hc : c < c' := asc i c c' e3 (by rw [Nat.add_comm]; exact e4)
        show ∃ acc, upd H2 T _ D = _ ∧ _ ∧ Pn (upd _ _ (.lst (acc ++ [.bl (decide ((c : Int) < c'))])))
        rw [decide_eq_true (p := (c : Int) < c') (by omega)]
        exact k _ (same_upd hT)
      · rw [all_true] at hl
        refine ⟨_, _, rfl, SqL.of hl, ?_⟩
        rw [all_rep]
        exact q _ (s1.trans s)
    · have s1 := same_upd (o := .tup (cutV (cs.map nv) (some 1) none)) hr
      have hq1 : SqT K (upd H q1 (.tup (cutV (cs.map nv) (some 1) none))) q1 ((cs.map nv).drop 1) := SqT.of (by rw [← cutV1]; exact upd_same)
      have hp1 := s1 _ _ hp
      refine ⟨p, q1, _, _, rfl, .inr ⟨SqT.of hp1, hq1, fun D hD => lc_map (walk_zipT rfl) (fun _ => .bl true) hD ?_ (fun H2 s2 => ⟨SqT.of (s2 _ _ hp1), sqt_same s2 hq1⟩) (fun i x H2 H3 hi s y Pn k => ?_) (fun H2 s hl => ?_)⟩⟩
      · refine Nat.lt_of_le_of_lt (Nat.min_le_left _ _) ?_
        rw [List.length_map]
        exact Nat.lt_of_le_of_lt hl (by decide)
      · obtain ⟨T, x1, x2, rfl, hT, rfl, e1, e2⟩ := y
        have e1 : (cs.map nv)[i]? = some x1 := e1
        have e2 : ((cs.map nv).drop 1)[i]? = some x2 := e2
        rw [List.getElem?_map] at e1
        rw [List.getElem?_drop, List.getElem?_map] at e2
        obtain ⟨c, e3, rfl⟩ := Option.map_eq_some_iff.mp e1
        obtain ⟨c', e4, rfl⟩ := Option.map_eq_some_iff.mp e2
        refine ⟨T, _, rfl, SqT.of upd_same, rfl, _, _, rfl, _, _, rfl, rfl, rfl, yes ⟨_, rfl, _, rfl, _, _, rfl, rfl, ?_⟩⟩
        have hc : c < c' := asc i c c' e3 (by rw [Nat.add_comm]; exact e4)
        show ∃ acc, upd H2 T _ D = _ ∧ _ ∧ Pn (upd _ _ (.lst (acc ++ [.bl (decide ((c : Int) < c'))])))
        rw [decide_eq_true (p := (c : Int) < c') (by omega)]
        exact k _ (same_upd hT)
      · rw [all_true] at hl
        refine ⟨_, _, rfl, SqL.of hl, ?_⟩
        rw [all_rep]
        exact q _ (s1.trans s)
end
end Ww
end S_Ww1b

section S_Ww1c
set_option Elab.async false
set_option linter.all false
set_option maxRecDepth 100000
set_option maxHeartbeats 2000000
/-! Walks 1c: pairs, letters, conflicts, rows of near letters. -/
namespace Ww
open PySem PySem.Spec PyProof.Rows L2 WwR SlX
open C8 (Cal pe_c)
section
variable {P : Program} {w : World} {K : PySem.W.Frag} {mg : Str → Option Value} {base : Heap}
theorem tx_inj {a b : List Nat} : tx a = tx b ↔ a = b := by
  constructor
  · intro h
    have := congrArg (fun v : V => match v with | .str z => z.cps.toList | _ => []) h
    simpa using this
  · intro h; rw [h]
theorem dec_tx {a b : List Nat} : decide (tx a = tx b) = decide (a = b) := decide_eq_decide.mpr tx_inj
theorem inV_tx {c : List Nat} {ps : List (List Nat)} : inV (tx c) (ps.map tx) = decide (c ∈ ps) := by
  unfold inV
  rw [Bool.eq_iff_iff, List.any_eq_true, decide_eq_true_iff]
  constructor
  · rintro ⟨x, hx, e⟩
    obtain ⟨d, hd, rfl⟩ := List.mem_map.mp hx
    have : (⟨d.toArray⟩ : Str) = ⟨c.toArray⟩ := by
      have e : ((⟨d.toArray⟩ : Str) == ⟨c.toArray⟩) = true := e
      exact beq_iff_eq.mp e
    have h2 := congrArg (fun z : Str => z.cps.toList) this
    simp at h2
    rw [← h2]; exact hd
  · intro h
    exact ⟨tx c, List.mem_map.mpr ⟨c, h, rfl⟩, by show ((⟨c.toArray⟩ : Str) == ⟨c.toArray⟩) = true; exact beq_iff_eq.mpr rfl⟩
theorem flat_tx (ps : List (List Nat)) : (ps.map tx).all flatV = true := by
  rw [List.all_eq_true]
  intro x hx
  obtain ⟨d, _, rfl⟩ := List.mem_map.mp hx
  rfl

def spPairOf : Sp := fun vs H Q _ => ∃ c d : Nat, vs = [tx [c], tx [d]] ∧ Q (tx (if c < d then [c, d] else [d, c])) H
theorem scPairOf : FnScope ["one", "other"] ["one", "other"] (defScope sPairOf) := ⟨rfl, rfl, rfl, by decide +kernel, rfl, by decide +kernel, by decide +kernel⟩
theorem c_pair_of (B : En P w K mg base) : Cal P w K mg base 1 "pair_of" (spPairOf) [] := by
  refine cal_mk B.f_pair_of scPairOf (fun _ _ _ _ _ _ us hl => match us, hl with | [_, _], _ => rfl) (fun vs H Q E h => ?_) fun f cdv A outer s H vs Q E hr h => ?_
  · obtain ⟨c, d, rfl, _⟩ := h
    rfl
  · obtain ⟨c, d, rfl, q⟩ := h
    have hu := hu_of hr
    have hu64 := hr.units
    refine ⟨_, (pss_one (ps_ret (pe_ifExp (pt_cmpR op_lt_str (pv 0) (pv 1) (nomark _)) (pe_op op_add_str (pv 0) (pv 1)) (pe_op op_add_str (pv 1) (pv 0))))), ?_⟩
    refine ⟨_, rfl, _, rfl, _, _, rfl, rfl, _, rfl, ?_⟩
    show if decide (([c] : List Nat) < [d]) = true then _ else _
    rw [sg_lt]
    refine ite2 (fun h => ?_) (fun h => ?_)
    · rw [decide_eq_true_iff] at h
      rw [if_pos h] at q
      exact ⟨_, rfl, _, rfl, _, _, rfl, rfl, (by show 2 ≤ sizeLine; decide), q⟩
    · rw [decide_eq_true_iff] at h
      rw [if_neg h] at q
      exact ⟨_, rfl, _, rfl, _, _, rfl, rfl, (by show 2 ≤ sizeLine; decide), q⟩
def spPairsOf : Sp := fun vs H Q _ => ∃ l : List Nat, vs = [tx l] ∧ l.length ≤ 10 ∧ ∀ H' p, Same H H' → H p = none → H' p = some (.lst ((prs l).map tx)) → Q (.ref p) H'
theorem cutk (l : List Nat) (k : Nat) : cutS ⟨l.toArray⟩ (some ((k : Nat) : Int)) none = ⟨(l.drop k).toArray⟩ := by
  unfold cutS
  rw [HT.sIx_nat, HT.sIx_none]
  show (⟨((l.drop (min k l.length)).take (l.length - min k l.length)).toArray⟩ : Str) = _
  congr 2
  rw [List.take_of_length_le (by rw [List.length_drop]; omega)]
  by_cases h : k ≤ l.length
  · rw [Nat.min_eq_left h]
  · rw [Nat.min_eq_right (by omega), List.drop_of_length_le (Nat.le_refl _), List.drop_of_length_le (by omega)]
/-- what stands behind i rows of pairs -/
def prsI (l : List Nat) (i : Nat) : List (List Nat) := ((List.range i).flatMap fun i => (List.range (l.length - (i + 1))).map fun j => (i, i + 1 + j)).map (pt l)
theorem prsI_succ (l : List Nat) (i : Nat) : prsI l (i + 1) = prsI l i ++ (List.range (l.length - (i + 1))).map fun j => [l.getD i 0, l.getD (i + 1 + j) 0] := by
  unfold prsI
  rw [List.range_succ, List.flatMap_append, List.map_append]
  simp [pt, Function.comp_def]
theorem prsI_len (l : List Nat) {i : Nat} (h : i ≤ l.length) : (prsI l i).length ≤ i * l.length := by
  induction i with
  | zero => simp [prsI]
  | succ i ih =>
    rw [prsI_succ, List.length_append, List.length_map, List.length_range, Nat.succ_mul]
    have := ih (by omega)
    omega
theorem getD_of {l : List Nat} {i c : Nat} (h : l[i]? = some c) : l.getD i 0 = c := by rw [List.getD_eq_getElem?_getD, h]; rfl
theorem scPairsOf : FnScope ["letters", "at", "one", "other"] ["letters"] (defScope sPairsOf) := ⟨rfl, rfl, rfl, by decide +kernel, rfl, by decide +kernel, by decide +kernel⟩
theorem c_pairs_of (B : En P w K mg base) : Cal P w K mg base 1 "pairs_of" (spPairsOf) [] := by
  refine cal_mk B.f_pairs_of scPairsOf (fun _ _ _ _ _ _ us hl => match us, hl with | [_], _ => rfl) (fun vs H Q E h => ?_) fun f cdv A outer s H vs Q E hr h => ?_
  · obtain ⟨l, rfl, _⟩ := h
    rfl
  · obtain ⟨l, rfl, hl, q⟩ := h
    have hu := hu_of hr
    have hu64 := hr.units
    refine ⟨_, (pss_one (ps_ret (pe_lc2 (own := [("at", 1), ("one", 2), ("other", 3)]) (g := gTup K 2 (gCons (gName 1) (gCons (gName 2) gNil))) (vs1 := [3]) (g1 := gName 3) (tt1 := tYes) (tt := tYes) rfl scPairsOf.nd (pi_enumS (by rfl) B.enumerate_ (pa_cons (pv 0) pa_nil)) (blkOk_by (own := [("at", 1), ("one", 2), ("other", 3)]) (N := ["letters", "at", "one", "other"]) (sc := defScope sPairsOf) (by decide +kernel)) (by decide) (fun _ _ _ _ _ => (pg_tup rfl (pgs_cons (pg_name (i := 1) scPairsOf.nd rfl (Or.inl rfl)) (pgs_cons (pg_name (i := 2) scPairsOf.nd rfl (Or.inl rfl)) pgs_nil)))) (fun _ _ _ _ _ => pts_nil) (fun _ _ _ _ _ => (pi_str (pe_slice sl_str (pv 0) (po_some (pe_op op_add (pv 1) pe_int)) po_none))) (fun _ _ _ _ _ => (pg_name (i := 3) scPairsOf.nd rfl (Or.inl rfl))) (fun _ _ _ _ _ => pts_nil) (fun _ _ _ _ _ => (pe_op op_add_str (pv 2) (pv 3)))))), ?_⟩
    have hsz : ∀ i, i ≤ l.length → i * l.length ≤ 100 := fun i hi => Nat.le_trans (Nat.mul_le_mul hi (Nat.le_refl _)) (Nat.le_trans (Nat.mul_le_mul hl hl) (by decide))
    refine ⟨_, rfl, _, rfl, fun D hD => lc2_it walk_N (fun i H2 => i ≤ l.length ∧ Same H H2 ∧ H2 D = some (.lst ((prsI l i).map tx))) ⟨Nat.zero_le _, same_upd hD, upd_same⟩ (fun _ _ _ _ => trivial) (fun i x H2 H3 hi ⟨_, s, hDl⟩ y => ?_) (fun H2 ⟨_, s, hDl⟩ => ?_)⟩
    · obtain ⟨T, xs, rfl, hT, rfl, c, e1, rfl⟩ := y
      have e1 : l[i]? = some c := by simpa using e1
      have hi : i < l.length := (List.getElem?_eq_some_iff.mp e1).1
      refine ⟨T, _, rfl, SqT.of upd_same, rfl, _, _, rfl, _, _, rfl, rfl, rfl, yes ?_⟩
      refine ⟨_, rfl, _, rfl, _, _, rfl, rfl, _, rfl, _, rfl, Nat.le_trans hl (by decide), _, rfl, ?_⟩
      refine in_it walk_str (fun j H2 => j ≤ l.length - (i + 1) ∧ Same H H2 ∧ H2 D = some (.lst ((prsI l i ++ (List.range j).map fun j => [l.getD i 0, l.getD (i + 1 + j) 0]).map tx))) ⟨Nat.zero_le _, s.trans (same_upd hT), ?_⟩ (fun _ _ _ _ => trivial) (fun j x H4 H5 hj ⟨_, s4, h4⟩ y => ?_) fun H4 ⟨_, s4, h4⟩ => ⟨hi, s4, ?_⟩
      · rw [List.range_zero, List.map_nil, List.append_nil]
        exact same_upd hT _ _ hDl
      · obtain ⟨rfl, d, e2, rfl⟩ := y
        have hcut : cutS ⟨l.toArray⟩ (some ((i : Int) + 1)) none = ⟨(l.drop (i + 1)).toArray⟩ := cutk l (i + 1)
        rw [hcut] at e2 hj
        have e2 : l[i + 1 + j]? = some d := by simpa [List.getElem?_drop] using e2
        have hj : j < l.length - (i + 1) := by simpa using hj
        refine ⟨rfl, yes ⟨_, rfl, _, rfl, _, _, rfl, rfl, (by show 2 ≤ sizeLine; decide), _, h4, ?_, hj, same_at s4 hD, ?_⟩⟩
        · rw [List.length_map, List.length_append, List.length_map, List.length_range]
          have := prsI_len l (Nat.le_of_lt hi)
          have := hsz i (Nat.le_of_lt hi)
          refine Nat.lt_of_le_of_lt (m := 110) ?_ (by decide)
          omega
        · rw [upd_same, List.range_succ, List.map_append (l₁ := List.range j), ← List.append_assoc, List.map_append (l₂ := List.map _ [j]), List.map_cons, List.map_nil, getD_of e1, getD_of e2]
          rfl
      · rw [h4, prsI_succ]
        have hcut : cutS ⟨l.toArray⟩ (some ((i : Int) + 1)) none = ⟨(l.drop (i + 1)).toArray⟩ := cutk l (i + 1)
        rw [hcut]
        simp
    · refine q _ D s hD ?_
      rw [hDl]
      simp [prsI, prs, ixp]
end
end Ww
end S_Ww1c

section S_Ww1d
set_option Elab.async false
set_option linter.all false
set_option maxRecDepth 100000
set_option maxHeartbeats 2000000
/-! Walks 1d: letters, conflicts, rows of near letters. -/
namespace Ww
open PySem PySem.Spec PyProof.Rows L2 WwR SlX
open C8 (Cal pe_c)
section
variable {P : Program} {w : World} {K : PySem.W.Frag} {mg : Str → Option Value} {base : Heap}

def spAreLetters : Sp := fun vs H Q _ => ∃ l : List Nat, vs = [tx l] ∧ l.length ≤ 1000 ∧ (∀ c ∈ l, 97 ≤ c ∧ c ≤ 122) ∧ Asc (· < ·) l ∧ ∀ H', Same H H' → Q (.bl true) H'
theorem scAreLetters : FnScope ["value", "sign"] ["value"] (defScope sAreLetters) := ⟨rfl, rfl, rfl, by decide +kernel, rfl, by decide +kernel, by decide +kernel⟩
theorem c_are_letters (B : En P w K mg base) : Cal P w K mg base 2 "are_letters" (spAreLetters) [] := by
  refine cal_mk B.f_are_letters scAreLetters (fun _ _ _ _ _ _ us hl => match us, hl with | [_], _ => rfl) (fun vs H Q E h => ?_) fun f cdv A outer s H vs Q E hr h => ?_
  · obtain ⟨l, rfl, _⟩ := h
    rfl
  · obtain ⟨l, rfl, hl, hc, asc, q⟩ := h
    have hu := hu_of hr
    have hu64 := hr.units
    refine ⟨_, (pss_one (ps_ret (pe_and (pe_callB (call_isiK K rfl) (by rfl) B.isinstance_ boot_isinstance (pa_cons (pv 0) (pa_cons (pe_bltn (v := .ty "str") (by rfl) B.str_ boot_str rfl) pa_nil))) (pe_and (pe_callB (cr_all rfl) (by rfl) B.all_ boot_all (pa_cons (pe_lc (own := [("sign", 1)]) (g := gName 1) (tt := tYes) rfl scAreLetters.nd (pi_str (pv 0)) (blkOk_by (own := [("sign", 1)]) (N := ["value", "sign"]) (sc := defScope sAreLetters) (by decide +kernel)) (fun _ _ _ _ _ => (pg_name (i := 1) scAreLetters.nd rfl (Or.inl rfl))) (fun _ _ _ _ _ => pts_nil) (fun _ _ _ _ _ => (pe_c (c_is_letter B) hr (by decide) (by rfl) (pa_cons (pv 1) pa_nil)))) pa_nil)) (pe_one (pe_c (c_are_ascending B) hr (by decide) (by rfl) (pa_cons (pv 0) pa_nil))))))), ?_⟩
    refine ⟨_, rfl, _, _, _, _, true, rfl, .ty _, .base (.str _), kit_ty (by decide +kernel), true, rfl, iteT ?_⟩
    refine ⟨_, rfl, _, rfl, fun D hD => lc_map walk_str (fun _ => .bl true) hD (Nat.lt_of_le_of_lt (m := 1000) (by simpa using hl) (by decide)) (fun _ _ => trivial) (fun i x H1 H2 hi s y Pn k => ?_) (fun H1 s hDl => ?_)⟩
    · obtain ⟨rfl, c, e1, rfl⟩ := y
      have hm := hc c (List.mem_of_getElem? (by simpa using e1))
      exact ⟨rfl, yes ⟨_, rfl, c, rfl, hm.1, hm.2, k _ (Same.refl _)⟩⟩
    · rw [all_true] at hDl
      refine ⟨_, _, rfl, SqL.of hDl, _, rfl, ?_⟩
      rw [all_rep]
      exact iteT ⟨_, rfl, l, rfl, hl, asc, fun H' s' => q _ (s.trans s')⟩
def spAreConflicts : Sp := fun vs H Q _ => ∃ (l : List Nat) (p : Addr) (cs : List (List Nat)), vs = [tx l, .ref p] ∧ H p = some (.tup (cs.map tx)) ∧ l.length ≤ 10 ∧ cs.length ≤ 1000 ∧ (∀ c ∈ cs, c ∈ prs l) ∧ Asc (· < ·) cs ∧ ∀ H', Same H H' → Q (.bl true) H'
theorem scAreConflicts : FnScope ["letters", "value", "pairs", "one"] ["letters", "value"] (defScope sAreConflicts) := ⟨rfl, rfl, rfl, by decide +kernel, rfl, by decide +kernel, by decide +kernel⟩
theorem c_are_conflicts (B : En P w K mg base) : Cal P w K mg base 2 "are_conflicts" (spAreConflicts) [] := by
  refine cal_mk B.f_are_conflicts scAreConflicts (fun _ _ _ _ _ _ us hl => match us, hl with | [_, _], _ => rfl) (fun vs H Q E h => ?_) fun f cdv A outer s H vs Q E hr h => ?_
  · obtain ⟨l, p, cs, rfl, _⟩ := h
    rfl
  · obtain ⟨l, p, cs, rfl, hp, hl, hcl, hcs, asc, q⟩ := h
    have hu := hu_of hr
    have hu64 := hr.units
    refine ⟨_, (pss_cons (ps_if (pt_not (pt_val (pe_callB (call_isiK K rfl) (by rfl) B.isinstance_ boot_isinstance (pa_cons (pv 1) (pa_cons (pe_bltn (v := .ty "tuple") (by rfl) B.tuple_ boot_tuple rfl) pa_nil))))) (pss_one (ps_ret pe_bl)) pss_nil)
    (pss_cons (ps_set (i := 2) scAreConflicts.nd rfl (Or.inr rfl) (pe_c (c_pairs_of B) hr (by decide) (by rfl) (pa_cons (pv 0) pa_nil)))
    (pss_one (ps_ret (pe_and (pe_callB (cr_all rfl) (by rfl) B.all_ boot_all (pa_cons (pe_lc (own := [("one", 3)]) (g := gName 3) (tt := tYes) rfl scAreConflicts.nd (pi_tupK K rfl (pv 1)) (blkOk_by (own := [("one", 3)]) (N := ["letters", "value", "pairs", "one"]) (sc := defScope sAreConflicts) (by decide +kernel)) (fun _ _ _ _ _ => (pg_name (i := 3) scAreConflicts.nd rfl (Or.inl rfl))) (fun _ _ _ _ _ => pts_nil) (fun _ _ _ _ _ => (pe_and (pe_callB (call_isiK K rfl) (by rfl) B.isinstance_ boot_isinstance (pa_cons (pv 3) (pa_cons (pe_bltn (v := .ty "str") (by rfl) B.str_ boot_str rfl) pa_nil))) (pe_one (pe_cmpR (op_in_seqK K rfl) (pv 3) (pv 2) rfl))))) pa_nil)) (pe_one (pe_c (c_are_ascendingT B) hr (by decide) (by rfl) (pa_cons (pv 1) pa_nil)))))))), ?_⟩
    refine ⟨_, rfl, _, _, _, _, true, rfl, .ty _, .base (.tup hp), kit_ty (by decide +kernel), true, rfl, iteF ?_⟩
    refine ⟨_, rfl, l, rfl, hl, fun H1 pp s1 hpp hl1 => ?_⟩
    have hp1 := s1 _ _ hp
    refine ⟨_, rfl, p, rfl, ⟨_, SqT.of hp1⟩, fun D hD => lc_map walk_tup (fun _ => .bl true) hD (by rw [List.length_map]; exact Nat.lt_of_le_of_lt hcl (by decide)) (fun H2 s2 => SqT.of (s2 _ _ hp1)) (fun i x H2 H3 hi s y Pn k => ?_) (fun H2 s hDl => ?_)⟩
    · obtain ⟨rfl, e1⟩ := y
      rw [List.getElem?_map] at e1
      obtain ⟨c, e3, rfl⟩ := Option.map_eq_some_iff.mp e1
      have hm := hcs c (List.mem_of_getElem? e3)
      refine ⟨rfl, yes ⟨_, rfl, _, _, _, _, true, rfl, .ty _, .base (.str _), kit_ty (by decide +kernel), true, rfl, iteT ?_⟩⟩
      refine ⟨_, rfl, _, rfl, _, _, rfl, .inl (SqL.of (s _ _ hl1)), rfl, flat_tx _, ?_⟩
      show ∃ acc, H3 D = _ ∧ _ ∧ Pn (upd _ _ (.lst (acc ++ [.bl (inV (tx c) ((prs l).map tx))])))
      rw [inV_tx, decide_eq_true hm]
      exact k _ (Same.refl _)
    · rw [all_true] at hDl
      refine ⟨_, _, rfl, SqL.of hDl, _, rfl, ?_⟩
      rw [all_rep]
      exact iteT ⟨_, rfl, p, cs, rfl, s _ _ hp1, hcl, asc, fun H' s' => q _ ((s1.trans s).trans s')⟩
def spCloseRow : Sp := fun vs H Q _ => ∃ (l : List Nat) (p : Addr) (cs : List (List Nat)) (c : Nat), vs = [tx l, .ref p, tx [c]] ∧ H p = some (.tup (cs.map tx)) ∧ l.length ≤ 10 ∧ ∀ H' z, Same H H' → Q (tx z) H'
theorem txs_sum (ys : List (List Nat)) : (ys.map fun l => (⟨l.toArray⟩ : Str)).map V.str = ys.map tx := by rw [List.map_map]; rfl
/-- which letters stand in a row -/
def nearB (l : List Nat) (cs : List (List Nat)) (c i : Nat) : Bool := decide (l.getD i 0 = c) || decide ((if c < l.getD i 0 then [c, l.getD i 0] else [l.getD i 0, c]) ∈ cs)
theorem scCloseRow : FnScope ["letters", "conflicts", "letter", "other"] ["letters", "conflicts", "letter"] (defScope sCloseRow) := ⟨rfl, rfl, rfl, by decide +kernel, rfl, by decide +kernel, by decide +kernel⟩
theorem c_close_row (B : En P w K mg base) : Cal P w K mg base 2 "close_row" (spCloseRow) [] := by
  refine cal_mk B.f_close_row scCloseRow (fun _ _ _ _ _ _ us hl => match us, hl with | [_, _, _], _ => rfl) (fun vs H Q E h => ?_) fun f cdv A outer s H vs Q E hr h => ?_
  · obtain ⟨l, p, cs, c, rfl, _⟩ := h
    rfl
  · obtain ⟨l, p, cs, c, rfl, hp, hl, q⟩ := h
    have hu := hu_of hr
    have hu64 := hr.units
    refine ⟨_, (pss_one (ps_ret (pe_join pe_str (pe_lc (own := [("other", 3)]) (g := gName 3) rfl scCloseRow.nd (pi_str (pv 0)) (blkOk_by (own := [("other", 3)]) (N := ["letters", "conflicts", "letter", "other"]) (sc := defScope sCloseRow) (by decide +kernel)) (fun _ _ _ _ _ => (pg_name (i := 3) scCloseRow.nd rfl (Or.inl rfl))) (fun _ _ _ _ _ => pts_one (PW.pt (pw_or (pt_cmpR op_eq (pv 3) (pv 2) (nomark _)) (pw_or1 (pt_cmpR (op_in_seqK K rfl) (pe_c (c_pair_of B) hr (by decide) (by rfl) (pa_cons (pv 2) (pa_cons (pv 3) pa_nil))) (pv 1) rfl))))) (fun _ _ _ _ _ => (pv 3)))))), ?_⟩
    refine ⟨⟨_, rfl⟩, _, rfl, _, rfl, fun D hD => lc_flt walk_str (nearB l cs c) (fun i => tx [l.getD i 0]) hD (Nat.lt_of_le_of_lt (m := 10) (by simpa using hl) (by decide)) (fun _ _ => trivial) (fun i x H1 H2 hi s y Pn k kn => ?_) (fun H1 s hDl => ?_)⟩
    · obtain ⟨rfl, d, e1, rfl⟩ := y
      have e1 : l[i]? = some d := by simpa using e1
      have e2 := getD_of e1
      refine ⟨rfl, _, rfl, _, rfl, rfl, _, rfl, ?_⟩
      show if decide (tx [d] = tx [c]) = true then _ else _
      rw [dec_tx]
      refine ite2 (fun h => ?_) (fun h => ?_)
      · have hd : d = c := by simpa using h
        refine iteT ⟨_, rfl, ?_⟩
        have := k H2 (Same.refl _) (by unfold nearB; rw [e2]; simp [hd])
        rw [e2] at this
        exact this
      · have hd : d ≠ c := by simpa using h
        refine ⟨_, rfl, _, rfl, c, d, rfl, _, rfl, p, _, rfl, .inr (SqT.of (s _ _ hp)), rfl, flat_tx _, _, rfl, ?_⟩
        show if inV (tx _) (cs.map tx) = true then _ else _
        rw [inV_tx]
        refine ite2 (fun h => ?_) (fun h => ?_)
        · refine ⟨_, rfl, ?_⟩
          have := k H2 (Same.refl _) (by unfold nearB; rw [e2]; simp [hd]; simpa using h)
          rw [e2] at this
          exact this
        · exact kn H2 (Same.refl _) (by unfold nearB; rw [e2]; simp [hd]; simpa using h)
    · have e : ((List.range (Array.size (Str.cps ⟨l.toArray⟩))).filter (nearB l cs c)).map (fun i => tx [l.getD i 0]) = ((((List.range l.length).filter (nearB l cs c)).map fun i => [l.getD i 0]).map fun l => (⟨l.toArray⟩ : Str)).map V.str := by
        rw [txs_sum, List.map_map]
        rfl
      rw [e] at hDl
      refine ⟨_, _, _, rfl, rfl, .inl (SqL.of hDl), ?_, ?_⟩
      · have : ((List.range l.length).filter (nearB l cs c)).length ≤ l.length := Nat.le_trans (List.length_filter_le _ _) (by rw [List.length_range]; exact Nat.le_refl _)
        have h1 : ∀ L : List Nat, (List.map (fun z : Str => z.length) ((L.map fun i => [l.getD i 0]).map fun l => (⟨l.toArray⟩ : Str))).sum = L.length := by
          intro L
          induction L with
          | nil => rfl
          | cons a L ih => rw [List.map_cons, List.map_cons, List.map_cons, List.sum_cons, ih, List.length_cons]; show 1 + _ = _; omega
        refine Nat.le_trans (m := 10) ?_ (by decide)
        show (List.map (fun z : Str => z.length) _).sum + _ * 0 ≤ 10
        rw [h1]
        omega
      · have := q H1 (Txt.join (Str.ofString "") ((((List.range l.length).filter (nearB l cs c)).map fun i => [l.getD i 0]).map fun l => (⟨l.toArray⟩ : Str))).cps.toList s
        rw [tx, ← str_eta] at this
        exact this
end
end Ww
end S_Ww1d

section S_Ww2
set_option Elab.async false
set_option linter.all false
set_option maxRecDepth 100000
set_option maxHeartbeats 2000000
/-! Walks 2: webs. -/
namespace Ww
open PySem PySem.Spec PyProof.Rows L2 WwR SlX
open C8 (Cal pe_c)
section
variable {P : Program} {w : World} {K : PySem.W.Frag} {mg : Str → Option Value} {base : Heap}

def spRequireWeb (K : PySem.W.Frag) : Sp := fun vs H Q _ => ∃ (p : Addr) (l : List Nat) (cs : List (List Nat)), vs = [.ref p] ∧ WebAt K H p l cs ∧ Q .non H
theorem scRequireWeb : FnScope ["value"] ["value"] (defScope sRequireWeb) := ⟨rfl, rfl, rfl, by decide +kernel, rfl, by decide +kernel, by decide +kernel⟩
theorem c_require_web (B : En P w K mg base) : Cal P w K mg base 1 "require_web" (spRequireWeb K) [] := by
  refine cal_mk B.f_require_web scRequireWeb (fun _ _ _ _ _ _ us hl => match us, hl with | [_], _ => rfl) (fun vs H Q E h => ?_) fun f cdv A outer s H vs Q E hr h => ?_
  · obtain ⟨p, l, cs, rfl, _⟩ := h
    rfl
  · obtain ⟨p, l, cs, rfl, ⟨dx, ca, ws, h1, _⟩, q⟩ := h
    have hu := hu_of hr
    have hu64 := hr.units
    refine ⟨_, (pss_one (ps_if (pt_not (pt_val (pe_callB (call_isiSl (.ref (wbC K))) (by rfl) B.isinstance_ boot_isinstance (pa_cons (pv 0) (pa_cons (pe_glob (v := .ref (wbC K)) (by rfl) B.gW rfl) pa_nil))))) (pss_one ps_never) pss_nil)), ?_⟩
    exact ⟨_, rfl, p, wbC K, dx, ws, _, true, rfl, rfl, fun _ h => h, h1, B.cW, B.iW, B.kW, true, rfl, iteF q⟩
def spWebInit (K : PySem.W.Frag) : Sp := fun vs H Q _ => ∃ (x dx p : Addr) (l : List Nat) (cs : List (List Nat)), vs = [.ref x, tx l, .ref p] ∧ H x = some (.ins (wbC K) dx []) ∧ H dx = some (.own x) ∧ H p = some (.tup (cs.map tx)) ∧
  l.length ≤ 10 ∧ (∀ c ∈ l, 97 ≤ c ∧ c ≤ 122) ∧ Asc (· < ·) l ∧ cs.length ≤ 1000 ∧ (∀ c ∈ cs, c ∈ prs l) ∧ Asc (· < ·) cs ∧
  ∀ H', (∀ b o, H b = some o → b ≠ x → b ≠ dx → H' b = some o) → WebAt K H' x l cs → Q .non H'
theorem same_slH {H0 H : Hp} {a C dx : Addr} {vs : List (Option V)} (s : ∀ b o, H0 b = some o → b ≠ a → b ≠ dx → H b = some o) : ∀ b o, H0 b = some o → b ≠ a → b ≠ dx → slH H a C dx vs b = some o := fun b o e h1 h2 => by
  rw [slH_ne h1 h2]; exact s b o e h1 h2
theorem scWebInit : FnScope ["self", "letters", "conflicts", "letter"] ["self", "letters", "conflicts"] (defScope sWebInit) := ⟨rfl, rfl, rfl, by decide +kernel, rfl, by decide +kernel, by decide +kernel⟩
theorem ok_web (B : En P w K mg base) : ∃ fd ds, FnOk P w K mg base C8.CX0 3 (He.ma K (wbC K) "__init__") fd ["self", "letters", "conflicts"] (spWebInit K) ∧ Binds K fd ["self", "letters", "conflicts"] ds ∧ Vals [] ds := by
  obtain ⟨fd, dv, F⟩ := B.f_Web_init
  obtain ⟨ds, hd, hb⟩ := F.binds1 (ps := ["self", "letters", "conflicts"]) 3 2 (by simp) rfl (fun T kV doc pm an cdv ct us its h1 h2 => by
    match us, its, h1, h2 with
    | [_, _, _], [_, _], _, _ => exact ⟨_, rfl, rfl⟩)
  refine ⟨fd, ds, F.ok scWebInit (fun vs H Q E h => ?_) fun cdv A outer s H vs Q E hr h => ?_, hb, hd⟩
  · obtain ⟨x, dx, p, l, cs, rfl, _⟩ := h
    rfl
  · obtain ⟨x, dx, p, l, cs, rfl, hx, hdx, hp, hl, hc, asc, hcl, hcs, asc2, q⟩ := h
    have hu := hu_of hr
    have hu64 := hr.units
    have nd : dx ≠ x := ne_of hdx hx (fun z => nomatch z)
    have px : p ≠ x := ne_of hp hx (fun z => nomatch z)
    have pd : p ≠ dx := ne_of hp hdx (fun z => nomatch z)
    suffices hh : ∃ t, PSs (cxOf C8.CX0 P w K mg base ["self", "letters", "conflicts", "letter"] "Web.__init__" (defScope sWebInit) (He.ma K (wbC K) "__init__") cdv A outer s H E).nox (defBody sWebInit) t ∧ t { nx := fun _ H' => Q .non H', rt := Q } (start ["self", "letters", "conflicts", "letter"] [.ref x, tx l, .ref p]) H by
      obtain ⟨t, h1, h2⟩ := hh
      exact ⟨t, h1.nox, h2⟩
    refine ⟨_, (pss_cons (ps_if (PW.pt (pw_or (pt_not (pt_val (pe_c (c_are_letters B) hr (by decide) (by rfl) (pa_cons (pv 1) pa_nil)))) (pw_or1 (pt_cmpR op_gt (pe_callB call_len (by rfl) B.len_ boot_len (pa_cons (pv 1) pa_nil)) (C8.pe_gc (by rfl) B.MAX_LETTERS) (nomark _))))) (pss_one ps_never) pss_nil)
    (pss_cons (ps_if (pt_not (pt_val (pe_c (c_are_conflicts B) hr (by decide) (by rfl) (pa_cons (pv 1) (pa_cons (pv 2) pa_nil))))) (pss_one ps_never) pss_nil)
    (pss_cons (SlX.ps_sl (pv 0) (pv 1))
    (pss_cons (SlX.ps_sl (pv 0) (pv 2))
    (pss_one (SlX.ps_sl (pv 0) (pe_dc (own := [("letter", 3)]) (g := gName 3) (tt := tYes) rfl scWebInit.nd (pi_str (pv 1)) (blkOk_by (own := [("letter", 3)]) (N := ["self", "letters", "conflicts", "letter"]) (sc := defScope sWebInit) (by decide +kernel)) (fun _ _ _ _ _ => (pg_name (i := 3) scWebInit.nd rfl (Or.inl rfl))) (fun _ _ _ _ _ => pts_nil) (fun _ _ _ _ _ => (pv 3)) (fun _ _ _ _ _ => (pe_c (c_close_row B) hr (by decide) (by rfl) (pa_cons (pv 1) (pa_cons (pv 2) (pa_cons (pv 3) pa_nil)))))))))))), ?_⟩
    refine ⟨_, rfl, l, rfl, Nat.le_trans hl (by decide), hc, asc, fun H1 s1 => ⟨true, rfl, iteF ?_⟩⟩
    refine ⟨_, rfl, _, l.length, rfl, ⟨Nat.le_trans hl (by decide), rfl⟩, _, _, rfl, rfl, _, rfl, ite2 (fun h => absurd h (by simp; omega)) fun _ => ?_⟩
    refine ⟨_, rfl, _, rfl, l, p, cs, rfl, s1 _ _ hp, hl, hcl, hcs, asc2, fun H2 s2 => ⟨true, rfl, iteF ?_⟩⟩
    have s12 := s1.trans s2
    refine ⟨_, rfl, _, rfl, x, wbC K, dx, _, [], 2, rfl, .inl ⟨s12 _ _ hx, rfl⟩, B.cW, B.s_own_letters, ?_⟩
    refine ⟨_, rfl, _, rfl, x, wbC K, dx, _, _, 1, rfl, slH_slt nd, B.cW, B.s_own_conflicts, ?_⟩
    rw [slH_twice nd]
    have keep : ∀ (ws : List (Option V)) b o, H b = some o → b ≠ x → b ≠ dx → slH H2 x (wbC K) dx ws b = some o := fun ws => same_slH fun b o e _ _ => s12 b o e
    have hp2 : slH H2 x (wbC K) dx (putS 1 (.ref p) (putS 2 (tx l) [])) p = some (.tup (cs.map tx)) := keep _ p _ hp px pd
    refine ⟨_, rfl, _, rfl, fun D hD => dc_any walk_str hD (Nat.lt_of_le_of_lt (m := 10) (by simpa using hl) (by decide)) (fun _ _ => trivial) (fun i y H3 H4 hi s3 yy Pn k => ?_) (fun H3 s3 => ?_)⟩
    · obtain ⟨rfl, c, e1, rfl⟩ := yy
      refine ⟨rfl, yes ⟨_, rfl, _, rfl, _, rfl, _, rfl, l, p, cs, c, rfl, s3 _ _ hp2, hl, fun H5 z s5 => ?_⟩⟩
      obtain ⟨kvs, h1, h2, h3⟩ := k (tx z) H5 s5
      exact ⟨kvs, .inr _, rfl, h1, h2, h3 _⟩
    · refine ⟨_, rfl, x, wbC K, dx, _, _, 0, rfl, Slt.same s3 (slH_slt nd), B.cW, B.s_own_close, ?_⟩
      refine q _ (same_slH fun b o e n1 n2 => s3 _ _ (keep _ b o e n1 n2)) ⟨dx, p, _, slH_slt nd, rfl, rfl, ?_⟩
      rw [slH_ne px pd]
      exact s3 _ _ hp2
def spLoose (K : PySem.W.Frag) : Sp := fun vs H Q _ => ∃ (p : Addr) (l : List Nat) (cs : List (List Nat)), vs = [.ref p] ∧ WebAt K H p l cs ∧ l.length ≤ 10 ∧
  ∀ H' t, Same H H' → H t = none → H' t = some (.tup (((prs l).filter fun c => decide (c ∉ cs)).map tx)) → Q (.ref t) H'
theorem filt_map {α β γ : Type} (L : List α) (d : α) (c : α → Bool) (f : α → β) : ((List.range L.length).filter fun i => c (L.getD i d)).map (fun i => f (L.getD i d)) = (L.filter c).map f := by
  have : L = (List.range L.length).map fun i => L.getD i d := by
    apply List.ext_getElem?
    intro i
    rw [List.getElem?_map]
    by_cases h : i < L.length
    · rw [List.getElem?_range h, List.getElem?_eq_getElem h]
      simp [h]
    · rw [List.getElem?_eq_none_iff.mpr (by omega), List.getElem?_eq_none_iff.mpr (by rw [List.length_range]; omega)]
      rfl
  conv => rhs; rw [this, List.filter_map, List.map_map]
  rfl
theorem scWebLoose : FnScope ["self", "pair"] ["self"] (defScope sWebLoose) := ⟨rfl, rfl, rfl, by decide +kernel, rfl, by decide +kernel, by decide +kernel⟩
theorem m_Web_loose (B : En P w K mg base) : MetS P w K mg base 2 (gt K "Web" "loose") (spLoose K) := by
  refine met_mk B.f_Web_loose scWebLoose (fun _ _ _ _ _ _ us hl => match us, hl with | [_], _ => rfl) (fun vs H Q E h => ?_) fun f cdv A outer s H vs Q E hr h => ?_
  · obtain ⟨p, l, cs, rfl, _⟩ := h
    rfl
  · obtain ⟨p, l, cs, rfl, hw, hl, q⟩ := h
    have hu := hu_of hr
    have hu64 := hr.units
    refine ⟨_, (pss_one (ps_ret (pe_tupleOfK K rfl (by rfl) B.tuple_ (pe_lc (own := [("pair", 1)]) (g := gName 1) rfl scWebLoose.nd (pi_listK K rfl (pe_c (c_pairs_of B) hr (by decide) (by rfl) (pa_cons (pe_slK K rfl (pv 0)) pa_nil))) (blkOk_by (own := [("pair", 1)]) (N := ["self", "pair"]) (sc := defScope sWebLoose) (by decide +kernel)) (fun _ _ _ _ _ => (pg_name (i := 1) scWebLoose.nd rfl (Or.inl rfl))) (fun _ _ _ _ _ => pts_one (pt_cmpR (op_notIn_seqK K rfl) (pv 1) (pe_slK K rfl (pv 0)) rfl)) (fun _ _ _ _ _ => (pv 1)))))), ?_⟩
    obtain ⟨dx, ca, ws, h1, h2, h3, h4⟩ := hw
    refine ⟨_, rfl, p, _, dx, _, _, 2, _, rfl, h1, B.cW, B.s_own_letters, h3, l, rfl, hl, fun H1 a s1 ha hpl => ?_⟩
    have hpl2 := hpl
    refine ⟨a, rfl, ⟨_, SqL.of hpl⟩, fun D hD => lc_flt (n := ((prs l).map tx).length) walk_list (fun i => decide ((prs l).getD i [] ∉ cs)) (fun i => tx ((prs l).getD i [])) hD ?_ (fun H2 s2 => SqL.of (s2 _ _ hpl)) (fun i x H2 H3 hi s y Pn k kn => ?_) (fun H2 s hDl => ?_)⟩
    · rw [List.length_map]
      unfold prs
      rw [List.length_map]
      exact Nat.lt_of_le_of_lt (ixp_len _) (Nat.lt_of_le_of_lt (Nat.mul_le_mul hl hl) (by decide))
    · obtain ⟨rfl, e1⟩ := y
      rw [List.getElem?_map] at e1
      obtain ⟨c, e3, rfl⟩ := Option.map_eq_some_iff.mp e1
      have e4 : (prs l).getD i [] = c := by rw [List.getD_eq_getElem?_getD, e3]; rfl
      rw [e4] at k kn
      refine ⟨rfl, _, rfl, _, rfl, p, _, dx, _, _, 1, _, rfl, Slt.same (s1.trans s) h1, B.cW, B.s_own_conflicts, h2, ca, _, rfl, .inr (SqT.of (s _ _ (s1 _ _ h4))), rfl, flat_tx _, _, rfl, ?_⟩
      show if (!inV (tx c) (cs.map tx)) = true then _ else _
      rw [inV_tx]
      refine ite2 (fun h => ?_) (fun h => ?_)
      · exact ⟨_, rfl, k H3 (Same.refl _) (by simpa using h)⟩
      · exact kn H3 (Same.refl _) (by simpa using h)
    · rw [List.length_map, filt_map (γ := Nat) (prs l) [] (fun c => decide (c ∉ cs)) tx] at hDl
      refine .inl ⟨D, _, rfl, SqL.of hDl, fun t ht => q _ t (s1.trans (same_to s ht)) (Same.free s1 (Same.free s ht)) upd_same⟩
theorem pe_loose {X : Cx} {P : Program} {w : World} {K : PySem.W.Frag} {mg : Str → Option Value} {base : Heap} (B : En P w K mg base) (e1 : X.prog = P) (e2 : X.w = w) (e3 : X.K = K) (e4 : X.mg = mg) (e5 : X.base = base) {j : Nat} (hr : Room j X.A) (hj : 3 ≤ j) {e : Expr} {ta : TE} {pos : Pos} (he : PE X e ta)
    (hb : attributeBase e "loose" X.env (eval e X.env) = eval e X.env := by rfl) : PE X (.Attribute e "loose" pos) (tPropSl (wbC K) (spLoose K) C8.E0 ta) := by
  subst e1 e2 e3 e4 e5
  exact pe_propSl he B.cW B.pr_at B.pr_get B.pr_tk B.pr_rc (m_Web_loose B).run (hr.mono hj) (fun _ _ _ _ h => h) hb
end
end Ww
end S_Ww2

section S_Ww3
set_option Elab.async false
set_option linter.all false
set_option maxRecDepth 100000
set_option maxHeartbeats 2000000
/-! Walks 3: marks, states reached. -/
namespace Ww
open PySem PySem.Spec PyProof.Rows L2 WwR SlX
open C8 (Cal pe_c)
open MW (Rows suc nx Tab Qu add1 grow)
/-! ### layer != [] -/
theorem dp_ints {K : PySem.W.Frag} {H : Hp} : ∀ ns : List Nat, DpAll K H (ns.map nv) (ns.map fun n : Nat => PyData.int (n : Int))
  | [] => .nil
  | _ :: ns => .cons (.int _) (dp_ints ns)
theorem lay_ints : ∀ ns : List Nat, PyData.canLayAll0 (ns.map fun n : Nat => PyData.int (n : Int)) = true
  | [] => rfl
  | n :: ns => by
    show (PyData.canLay0 (.int _) && PyData.canLayAll0 _) = true
    rw [lay_ints ns]; rfl
theorem depth_ints : ∀ ns : List Nat, PyData.depthAll (ns.map fun n : Nat => PyData.int (n : Int)) = 0
  | [] => rfl
  | n :: ns => by
    show max (PyData.depth (.int _)) (PyData.depthAll _) = 0
    rw [depth_ints ns]; rfl
theorem shp_ints (ns : List Nat) : SeqAt.shaped (.list (ns.map fun n : Nat => PyData.int (n : Int))) = true := by
  show (PyData.canLayAll0 _ && decide (PyData.depthAll _ + 1 ≤ 64)) = true
  rw [lay_ints, depth_ints]; rfl
theorem shp_nil : SeqAt.shaped (.list []) = true := rfl
theorem while_ne {K : PySem.W.Frag} {σ : L2.St} {H : Hp} {Q : Bool → Hp → Prop} {i : Nat} {a : Addr} {xs : List V} {ds : List PyData} (hi : σ[i]? = some (some (.ref a))) (ha : H a = some (.lst xs)) (hd : ∀ H', Same H H' → DpAll K H' xs ds) (sh : SeqAt.shaped (.list ds) = true)
    (q : ∀ p, H p = none → Q (!ds.isEmpty) (upd H p (.lst []))) : tTest (tOp (rNeD K) (tVar i) (tLst tNil)) σ H Q := by
  refine ⟨_, hi, Nat.zero_le _, fun p hp => ⟨_, _, .lst (SqL.of (same_upd hp _ _ ha)) (hd _ (same_upd hp)), .lst (SqL.of upd_same) .nil, sh, shp_nil, _, rfl, ?_⟩⟩
  have e : (!PyData.eqv (.list ds) (.list [])) = !ds.isEmpty := by
    cases ds <;> rfl
  rw [e]
  exact q p hp
theorem mono_ne {K : PySem.W.Frag} {i : Nat} : ∀ (σ : L2.St) (H : Hp) (Q Q' : Bool → Hp → Prop), (∀ b H1, Q b H1 → Q' b H1) → tTest (tOp (rNeD K) (tVar i) (tLst tNil)) σ H Q → tTest (tOp (rNeD K) (tVar i) (tLst tNil)) σ H Q' := by
  rintro σ H Q Q' h ⟨x, hx, hz, k⟩
  refine ⟨x, hx, hz, fun p hp => ?_⟩
  obtain ⟨d, e, h1, h2, h3, h4, b, h5, h6⟩ := k p hp
  exact ⟨d, e, h1, h2, h3, h4, b, h5, h _ _ h6⟩
/-! ### dicts whose keys are numbers, all True -/
def kT (L : List Nat) : List (Key × V) := L.map fun s : Nat => (.inl (s : Int), .bl true)
theorem key_inj {a b : Nat} : (Sum.inl (a : Int) : Key) = .inl (b : Int) ↔ a = b := by
  constructor
  · intro h; injection h with h; omega
  · intro h; rw [h]
theorem kT_in {L : List Nat} {s : Nat} (h : s ∈ L) : valV (kT L) (.inl (s : Int)) = some (.bl true) :=
  valV_map (key := fun s : Nat => (.inl (s : Int) : Key)) (f := fun _ => .bl true) (fun _ _ _ => rfl) h
theorem kT_no {L : List Nat} {s : Nat} (h : s ∉ L) : valV (kT L) (.inl (s : Int)) = none :=
  valV_no (key := fun s : Nat => (.inl (s : Int) : Key)) (f := fun _ => .bl true) fun y hy z => h (by rw [← key_inj.mp z]; exact hy)
theorem kT_put (L : List Nat) (s : Nat) : putK (kT L) (.inl (s : Int)) (.bl true) = kT (add1 id L s) := by
  rw [MW.grow_id]
  by_cases h : s ∈ L
  · rw [if_pos h]
    unfold putK
    rw [if_pos]
    · unfold kT
      rw [List.map_map]
      refine List.map_congr_left fun x _ => ?_
      show (if (Sum.inl (x : Int) : Key) = .inl (s : Int) then _ else _) = _
      split <;> rfl
    · rw [List.any_eq_true]
      exact ⟨(.inl (s : Int), .bl true), List.mem_map.mpr ⟨s, h, rfl⟩, by simp⟩
  · rw [if_neg h, putK_new]
    · unfold kT; rw [List.map_append]; rfl
    · intro p hp
      obtain ⟨y, hy, rfl⟩ := List.mem_map.mp hp
      exact fun z => h (by rw [← key_inj.mp (show (Sum.inl (y : Int) : Key) = .inl (s : Int) from z)]; exact hy)
theorem kT_len (L : List Nat) : (kT L).length = L.length := by unfold kT; rw [List.length_map]
theorem kT_keys (L : List Nat) : (kT L).map (fun kv => kV kv.1) = L.map nv := by unfold kT; rw [List.map_map]; rfl
theorem add1_in {F M : List Nat} {s : Nat} (h : s ∈ F) : add1 id (F ++ M) s = F ++ M := by
  rw [MW.grow_id, if_pos (List.mem_append_left _ h)]
theorem add1_out {F M : List Nat} {s : Nat} (h : s ∉ F) : add1 id (F ++ M) s = F ++ add1 id M s := by
  rw [MW.grow_id, MW.grow_id]
  by_cases z : s ∈ M
  · rw [if_pos (List.mem_append_right _ z), if_pos z]
  · rw [if_neg (by intro w; rcases List.mem_append.mp w with w | w; exact h w; exact z w), if_neg z, List.append_assoc]
theorem atN {α : Type} {xs : List α} {j : Nat} {v : α} (h : xs[j]? = some v) : ixN xs.length (j : Int) = some j := by
  have hj : j < xs.length := (List.getElem?_eq_some_iff.mp h).1
  unfold ixN
  rw [if_pos (by omega), if_pos (by omega), Int.toNat_natCast]
section
variable {P : Program} {w : World} {K : PySem.W.Frag} {mg : Str → Option Value} {base : Heap}

def spMarksOf : Sp := fun vs H Q _ => ∃ (n : Nat) (p : Addr) (A : List Nat), vs = [.int (n : Int), .ref p] ∧ H p = some (.tup (A.map nv)) ∧ n ≤ 200 ∧ (∀ x ∈ A, x < n) ∧
  ∀ H' q, Same H H' → H q = none → H' q = some (.lst ((List.range n).map fun i => .bl (decide (i ∈ A)))) → Q (.ref q) H'
theorem scMarksOf : FnScope ["many", "accepts", "found", "state"] ["many", "accepts"] (defScope sMarksOf) := ⟨rfl, rfl, rfl, by decide +kernel, rfl, by decide +kernel, by decide +kernel⟩
theorem c_marks_of (B : En P w K mg base) : Cal P w K mg base 1 "marks_of" (spMarksOf) [] := by
  refine cal_mk B.f_marks_of scMarksOf (fun _ _ _ _ _ _ us hl => match us, hl with | [_, _], _ => rfl) (fun vs H Q E h => ?_) fun f cdv A outer s H vs Q E hr h => ?_
  · obtain ⟨n, p, A, rfl, _⟩ := h
    rfl
  · obtain ⟨n, p, A, rfl, hp, hn, hA, q⟩ := h
    have hu := hu_of hr
    have hu64 := hr.units
    refine ⟨_, (pss_cons (ps_setLc (i := 2) (own := [("state", 3)]) (g := gName 3) (tt := tYes) rfl scMarksOf.nd rfl rfl (sw_true rfl rfl rfl (by decide +kernel)) (pi_range1 rfl B.range_ (pa_cons (pv 0) pa_nil)) (blkOk_by (own := [("state", 3)]) (N := ["many", "accepts", "found", "state"]) (sc := defScope sMarksOf) (by decide +kernel)) (fun _ _ _ _ _ => (pg_name (i := 3) scMarksOf.nd rfl (Or.inl rfl))) (fun _ _ _ _ _ => pts_nil) (fun _ _ _ _ _ => pe_bl))
    (pss_cons (ps_for PassesOwn.never rfl (pi_tupK K rfl (pv 1)) (pg_name (i := 3) scMarksOf.nd rfl (Or.inl rfl)) (pss_one (ps_asg pe_bl (pg_sub (pv 2) (pv 3) set_list))))
    (pss_one (ps_ret (pv 2))))), ?_⟩
    have hs1 : n < sizeLine := Nat.lt_of_le_of_lt hn (by decide)
    refine ⟨_, rfl, _, rfl, by omega, by omega, fun D hD => lc_map walk_range (fun _ => .bl false) hD hs1 (fun _ _ => trivial) (fun i x H1 H2 hi s y Pn k => ?_) (fun H1 s hDl => ?_)⟩
    · obtain ⟨rfl, rfl⟩ := y
      exact ⟨rfl, yes (k _ (Same.refl _))⟩
    refine ⟨_, rfl, p, rfl, ⟨_, SqT.of (s _ _ hp)⟩, for_tup (fun i σ H1 => σ = [some (.int (n : Int)), some (.ref p), some (.ref D), σ[3]?.join] ∧ Same H H1 ∧ H1 D = some (.lst ((List.range n).map fun j => .bl (decide (j ∈ A.take i))))) ⟨rfl, s, ?_⟩ (fun i σ H1 _ h => SqT.of (h.2.1 _ _ hp)) (fun i x σ H1 hx h => ?_) (fun σ H1 h => ?_)⟩
    · rw [hDl]; simp
    · obtain ⟨hσ, s1, h1⟩ := h
      rw [List.getElem?_map] at hx
      obtain ⟨c, e3, rfl⟩ := Option.map_eq_some_iff.mp hx
      have hc := hA c (List.mem_of_getElem? e3)
      rw [hσ]
      refine ⟨_, rfl, _, rfl, D, _, _, c, rfl, rfl, h1, ?_, rfl, same_at s1 hD, ?_⟩
      · unfold ixN
        rw [List.length_map, List.length_range, if_pos (by omega), if_pos (by omega), Int.toNat_natCast]
      · rw [upd_same, MW.take_snoc e3]
        congr 2
        apply List.ext_getElem?
        intro j
        rw [List.getElem?_set, List.getElem?_map, List.getElem?_map, List.length_map, List.length_range]
        by_cases hj : c = j
        · subst hj
          rw [if_pos rfl, if_pos hc, List.getElem?_range hc]
          simp
        · rw [if_neg hj]
          by_cases hjn : j < n
          · rw [List.getElem?_range hjn]
            simp [Ne.symm hj]
          · rw [List.getElem?_eq_none_iff.mpr (by rw [List.length_range]; omega)]; rfl
    · obtain ⟨hσ, s1, h1⟩ := h
      rw [hσ]
      refine ⟨_, rfl, q _ D s1 hD ?_⟩
      rw [h1]
      congr 2
      refine List.map_congr_left fun i _ => ?_
      rw [List.length_map, List.take_of_length_le (Nat.le_refl _)]
end
end Ww
end S_Ww3

section S_Ww3b
set_option Elab.async false
set_option linter.all false
set_option maxRecDepth 100000
set_option maxHeartbeats 2000000
/-! Walks 3b: states reached. -/
namespace Ww
open PySem PySem.Spec PyProof.Rows L2 WwR SlX
open C8 (Cal pe_c)
open MW (Rows suc nx Tab Qu add1 grow)
section
variable {P : Program} {w : World} {K : PySem.W.Frag} {mg : Str → Option Value} {base : Heap}
theorem suc_row {H : Hp} {a : Addr} {R : Rows} (h : Tb H a R) : ∃ bs : List Addr, H a = some (.tup (bs.map V.ref)) ∧ bs.length = R.length ∧ ∀ i, i < R.length → ∃ b, bs[i]? = some b ∧ (bs.map V.ref)[i]? = some (.ref b) ∧ H b = some (.tup ((suc R i).map nv)) := h.row
theorem qu_le {k : Nat} {R : Rows} (tb : Tab k R) {s0 i : Nat} (h0 : s0 < R.length) {F : List Nat} (h : Qu id (suc R) s0 i F) : F.length ≤ R.length := by
  have := h.len_le (B := List.range R.length) (List.mem_range.mpr h0) fun x hx y hy => List.mem_range.mpr (tb.sm (s := x) (List.mem_range.mp hx) y hy)
  rwa [List.length_range] at this

def spReached : Sp := fun vs H Q _ => ∃ (p : Addr) (R : Rows) (k s0 : Nat), vs = [.ref p, nv s0] ∧ Tb H p R ∧ Tab k R ∧ s0 < R.length ∧ R.length ≤ 200 ∧
  ∀ H' q S, Same H H' → H q = none → Qu id (suc R) s0 S.length S → H' q = some (.lst (S.map nv)) → Q (.ref q) H'
/-- while: i turns of the queue, F found, the rest of F is the layer -/
def InvR (H0 : Hp) (R : Rows) (s0 : Nat) (p fp : Addr) (i : Nat) (σ : L2.St) (H : Hp) : Prop := ∃ (F : List Nat) (lp : Addr) (x4 x5 x6 : Option V), σ = [some (.ref p), some (nv s0), some (.ref fp), some (.ref lp), x4, x5, x6] ∧ Same H0 H ∧ H0 lp = none ∧
  H fp = some (.dK (kT F)) ∧ H lp = some (.lst ((F.drop i).map nv)) ∧ i ≤ F.length ∧ Qu id (suc R) s0 i F
theorem scStatesReached : FnScope ["rows", "start", "found", "layer", "later", "state", "to"] ["rows", "start"] (defScope sStatesReached) := ⟨rfl, rfl, rfl, by decide +kernel, rfl, by decide +kernel, by decide +kernel⟩
theorem c_states_reached (B : En P w K mg base) : Cal P w K mg base 1 "states_reached" (spReached) [] := by
  refine cal_mk B.f_states_reached scStatesReached (fun _ _ _ _ _ _ us hl => match us, hl with | [_, _], _ => rfl) (fun vs H Q E h => ?_) fun f cdv A outer s H vs Q E hr h => ?_
  · obtain ⟨p, R, k, s0, rfl, _⟩ := h
    rfl
  · obtain ⟨p, R, k, s0, rfl, hT, tb, h0, hR, q⟩ := h
    have hu := hu_of hr
    have hu64 := hr.units
    refine ⟨_, (pss_cons (ps_set (i := 2) scStatesReached.nd rfl (Or.inl rfl) (pe_disp (pps_cons (pv 1) pe_bl pps_nil) (by rfl) (by rfl) (fun z => by cases z) (by decide)))
    (pss_cons (ps_set (i := 3) scStatesReached.nd rfl (Or.inl rfl) (pe_lst (pa_cons (pv 1) pa_nil)))
    (pss_cons (ps_while PassesOwn.never (pt_cmpR (op_neD hu64) (pv 3) (pe_lst pa_nil) (nomark _)) (pss_cons (ps_set (i := 4) scStatesReached.nd rfl (Or.inl rfl) pe_dnewK)
    (pss_cons (ps_for PassesOwn.never rfl (pi_listK K rfl (pv 3)) (pg_name (i := 5) scStatesReached.nd rfl (Or.inl rfl)) (pss_one (ps_for PassesOwn.never rfl (pi_tupK K rfl (pe_ix (ix_tupK K rfl) (pv 0) (pv 5) (fun _ _ => rfl))) (pg_name (i := 6) scStatesReached.nd rfl (Or.inl rfl)) (pss_one (ps_if (pt_cmp (pc_dnotin hu (pv 6) (pv 2))) (pss_one (ps_dput hu (pv 4) (pv 6) pe_bl rfl)) pss_nil)))))
    (pss_cons (ps_set (i := 3) scStatesReached.nd rfl (Or.inl rfl) (pe_callTy (call_list_dK rfl) (by rfl) B.list_ boot_list (pa_cons (pv 4) pa_nil)))
    (pss_one (ps_for PassesOwn.never rfl (pi_listK K rfl (pv 3)) (pg_name (i := 5) scStatesReached.nd rfl (Or.inl rfl)) (pss_one (ps_dput hu (pv 2) (pv 5) pe_bl rfl))))))))
    (pss_one (ps_ret (pe_callTy (call_list_dK rfl) (by rfl) B.list_ boot_list (pa_cons (pv 2) pa_nil))))))), ?_⟩
    obtain ⟨bs, hp, hbl, hrow⟩ := suc_row hT
    refine fun fp hfp => ⟨_, rfl, upd_same, [(.inl (s0 : Int), .bl true)], rfl, by simp, ?_⟩
    have hk : mergeK [] [((.inl (s0 : Int) : Key), V.bl true)] = kT [s0] := rfl
    rw [hk, upd_upd]
    refine ⟨_, rfl, by show 1 ≤ sizeLine; decide, fun lp hlp => ?_⟩
    have n1 : lp ≠ fp := fun z => by rw [z, upd_same] at hlp; cases hlp
    refine while_n R.length (InvR H R s0 p fp) (Nat.zero_le _) ⟨[s0], lp, none, none, none, rfl, ?_, ?_, ?_, upd_same, Nat.zero_le _, Qu.start⟩ (fun i σ H1 hiN h => ?_) mono_ne
    · exact same_to (same_upd hfp) hlp
    · rw [upd_ne n1] at hlp; exact hlp
    · rw [upd_ne n1.symm]; exact upd_same
    obtain ⟨F, lp, x4, x5, x6, rfl, s1, l0, hF, hL, hi, hq⟩ := h
    have hFl := qu_le tb h0 hq
    have hFm : ∀ x ∈ F, x < R.length := hq.mem (P := fun x => x < R.length) h0 fun x hx y hy => tb.sm hx y hy
    refine while_ne (a := lp) (xs := (F.drop i).map nv) (ds := (F.drop i).map fun n : Nat => PyData.int (n : Int)) rfl hL (fun _ _ => dp_ints _) (shp_ints _) fun e1 he1 => ?_
    have s2 : Same H1 (upd H1 e1 (.lst [])) := same_upd he1
    refine ite2 (fun hne => ?_) (fun hne => ?_)
    · -- a layer
      have hlt : i < F.length := by
        by_cases z : i < F.length
        · exact z
        · rw [List.drop_of_length_le (by omega)] at hne
          exact absurd hne (by simp)
      refine fun tp htp => ?_
      have s3 : Same H1 (upd (upd H1 e1 (.lst [])) tp (.dK [])) := same_to s2 htp
      have tl : tp ≠ lp := fun z => by rw [z, s2 _ _ hL] at htp; cases htp
      have tf : tp ≠ fp := fun z => by rw [z, s2 _ _ hF] at htp; cases htp
      have t0 : H tp = none := s1.free (s2.free htp)
      have f0 : H fp = none := hfp
      refine ⟨_, rfl, lp, rfl, ⟨_, SqL.of (s3 _ _ hL)⟩, for_list (xs := (F.drop i).map nv) (fun j σ H2 => ∃ (M : List Nat) (x5 x6 : Option V), σ = [some (.ref p), some (nv s0), some (.ref fp), some (.ref lp), some (.ref tp), x5, x6] ∧ Same H H2 ∧ H2 fp = some (.dK (kT F)) ∧ H2 lp = some (.lst ((F.drop i).map nv)) ∧ H2 tp = some (.dK (kT M)) ∧ Qu id (suc R) s0 (i + j) (F ++ M)) ⟨[], x5, x6, rfl, s1.trans s3, s3 _ _ hF, s3 _ _ hL, upd_same, by rw [List.append_nil]; exact hq⟩ (fun j σ H2 _ h => ?_) (fun j x σ H2 hx h => ?_) (fun σ H2 h => ?_)⟩
      · obtain ⟨M, y5, y6, _, _, _, h3, _⟩ := h
        exact SqL.of h3
      · obtain ⟨M, y5, y6, rfl, g1, g2, g3, g4, g5⟩ := h
        rw [List.getElem?_map, List.getElem?_drop] at hx
        obtain ⟨c, e3, rfl⟩ := Option.map_eq_some_iff.mp hx
        have hc := hFm c (List.mem_of_getElem? e3)
        obtain ⟨b, hb1, hb2, hb3⟩ := hrow c hc
        have hcl : F.length = F.length := rfl
        have hqs := Qu.step g5 (show (F ++ M)[i + j]? = some c by rw [List.getElem?_append_left (List.getElem?_eq_some_iff.mp e3).1]; exact e3)
        refine ⟨_, rfl, _, rfl, p, _, _, _, rfl, rfl, SqT.of (g1 _ _ hp), atI_nat hb2, b, rfl, ⟨_, SqT.of (g1 _ _ hb3)⟩, for_tup (xs := (suc R c).map nv) (fun t σ H3 => ∃ (M' : List Nat) (x6 : Option V), σ = [some (.ref p), some (nv s0), some (.ref fp), some (.ref lp), some (.ref tp), some (nv c), x6] ∧ Same H H3 ∧ H3 fp = some (.dK (kT F)) ∧ H3 lp = some (.lst ((F.drop i).map nv)) ∧ H3 tp = some (.dK (kT M')) ∧ F ++ M' = grow id (F ++ M) ((suc R c).take t)) ⟨M, y6, rfl, g1, g2, g3, g4, rfl⟩ (fun t σ H3 _ h => ?_) (fun t x σ H3 hx h => ?_) (fun σ H3 h => ?_)⟩
        · obtain ⟨M', z6, _, h1, _⟩ := h
          exact SqT.of (h1 _ _ hb3)
        · obtain ⟨M', z6, rfl, k1, k2, k3, k4, k5⟩ := h
          rw [List.getElem?_map] at hx
          obtain ⟨d, e5, rfl⟩ := Option.map_eq_some_iff.mp hx
          have hM' : M'.length ≤ R.length := by
            have h5 : (F ++ M').length ≤ (grow id (F ++ M) (suc R c)).length := by
              rw [k5]
              obtain ⟨N, hN⟩ := MW.grow_pre id ((suc R c).drop t) (grow id (F ++ M) ((suc R c).take t))
              rw [← MW.grow_append, List.take_append_drop] at hN
              rw [hN, List.length_append]
              omega
            have := qu_le tb h0 hqs
            rw [List.length_append] at h5
            omega
          have tk : (suc R c).take (t + 1) = (suc R c).take t ++ [d] := MW.take_snoc e5
          by_cases hd : d ∈ F
          · refine ⟨_, rfl, _, rfl, fp, _, rfl, DGet.k (k := Sum.inl (d : Int)) k2, _, rfl, ?_⟩
            rw [kT_in hd]
            exact iteF ⟨M', _, rfl, k1, k2, k3, k4, by rw [tk, MW.grow_snoc, ← k5, add1_in hd]⟩
          · refine ⟨_, rfl, _, rfl, fp, _, rfl, DGet.k (k := Sum.inl (d : Int)) k2, _, rfl, ?_⟩
            rw [kT_no hd]
            refine iteT ⟨_, rfl, _, rfl, tp, _, rfl, DPut.k (k := Sum.inl (d : Int)) k4 (by rw [kT_len]; exact Nat.lt_of_le_of_lt (Nat.le_trans hM' hR) (by decide)), ?_⟩
            refine ⟨add1 id M' d, _, rfl, same_at k1 t0, ?_, ?_, ?_, by rw [tk, MW.grow_snoc, ← k5, add1_out hd]⟩
            · rw [upd_ne tf.symm]; exact k2
            · rw [upd_ne tl.symm]; exact k3
            · rw [upd_same, kT_put]
        · obtain ⟨M', z6, rfl, k1, k2, k3, k4, k5⟩ := h
          refine ⟨M', _, _, rfl, k1, k2, k3, k4, ?_⟩
          rw [k5, List.length_map, List.take_of_length_le (Nat.le_refl _)]
          exact hqs
      · obtain ⟨M, y5, y6, rfl, g1, g2, g3, g4, g5⟩ := h
        rw [List.length_map, List.length_drop, show i + (F.length - i) = F.length by omega] at g5
        have hFM := qu_le tb h0 g5
        rw [List.length_append] at hFM
        refine ⟨_, rfl, tp, _, rfl, g4, fun lq hlq => ?_⟩
        have hkm : (kT M).map (fun kv => kV kv.1) = M.map nv := kT_keys M
        rw [hkm]
        have q0 : H lq = none := g1.free hlq
        have qf : fp ≠ lq := fun z => by rw [← z, g2] at hlq; cases hlq
        refine ⟨_, rfl, lq, rfl, ⟨_, SqL.of upd_same⟩, for_list (xs := M.map nv) (fun j σ H3 => ∃ (x5 : Option V), σ = [some (.ref p), some (nv s0), some (.ref fp), some (.ref lq), some (.ref tp), x5, y6] ∧ Same H H3 ∧ H3 fp = some (.dK (kT (F ++ M.take j))) ∧ H3 lq = some (.lst (M.map nv))) ⟨y5, rfl, same_to g1 hlq, ?_, upd_same⟩ (fun j σ H3 _ h => ?_) (fun j x σ H3 hx h => ?_) (fun σ H3 h => ?_)⟩
        · rw [upd_ne qf, List.take_zero, List.append_nil]; exact g2
        · obtain ⟨_, _, _, _, h3⟩ := h
          exact SqL.of h3
        · obtain ⟨z5, rfl, k1, k2, k3⟩ := h
          rw [List.getElem?_map] at hx
          obtain ⟨d, e5, rfl⟩ := Option.map_eq_some_iff.mp hx
          have hd : d ∉ F ++ M.take j := by
            have nd := g5.nodup
            rw [List.map_id, ← List.take_append_drop j M, ← List.append_assoc, List.nodup_append] at nd
            have hdm : d ∈ M.drop j := by
              refine List.mem_of_getElem? (i := 0) ?_
              rw [List.getElem?_drop]; exact e5
            exact fun z => nd.2.2 d z d hdm rfl
          refine ⟨_, rfl, _, rfl, fp, _, rfl, DPut.k (k := Sum.inl (d : Int)) k2 (by rw [kT_len, List.length_append, List.length_take]; exact Nat.lt_of_le_of_lt (m := 400) (by omega) (by decide)), ?_⟩
          refine ⟨_, rfl, same_at k1 f0, ?_, ?_⟩
          · rw [upd_same, kT_put, MW.grow_id, if_neg hd, MW.take_snoc e5, List.append_assoc]
          · rw [upd_ne qf.symm]; exact k3
        · obtain ⟨z5, rfl, k1, k2, k3⟩ := h
          rw [List.length_map, List.take_of_length_le (Nat.le_refl _)] at k2
          refine ⟨F.length, hlt, hFl, F ++ M, lq, _, _, _, rfl, k1, q0, k2, ?_, ?_, g5⟩
          · rw [List.drop_left]; exact k3
          · rw [List.length_append]; omega
    · -- the end
      have hie : i = F.length := by
        by_cases z : i < F.length
        · exfalso
          refine hne ?_
          have : (F.drop i).length ≠ 0 := by rw [List.length_drop]; omega
          cases hh : F.drop i with
          | nil => rw [hh] at this; exact absurd rfl this
          | cons _ _ => rfl
        · omega
      subst hie
      refine ⟨_, rfl, fp, _, rfl, s2 _ _ hF, fun rq hrq => ?_⟩
      have hkm : (kT F).map (fun kv => kV kv.1) = F.map nv := kT_keys F
      rw [hkm]
      exact q _ rq F (same_to (s1.trans s2) hrq) (s1.free (s2.free hrq)) hq upd_same
end
end Ww
end S_Ww3b

section S_Ww3c
set_option Elab.async false
set_option linter.all false
set_option maxRecDepth 100000
set_option maxHeartbeats 2000000
/-! Walks 3c: classes. -/
namespace Ww
open PySem PySem.Spec PyProof.Rows L2 WwR SlX
open C8 (Cal pe_c)
open MW (Rows suc nx Tab Qu add1 grow Closed Ref Mid Fine cnt)
/-! ### keys in the order of their coming -/
def numF (n : Nat) : List NK → List (NK × Int)
  | [] => []
  | k :: L => (k, (n : Int)) :: numF (n + 1) L
theorem numF_len : ∀ (L : List NK) (n : Nat), (numF n L).length = L.length
  | [], _ => rfl
  | _ :: L, n => congrArg Nat.succ (numF_len L (n + 1))
theorem numF_app : ∀ (L : List NK) (n : Nat) (k : NK), numF n (L ++ [k]) = numF n L ++ [(k, ((n + L.length : Nat) : Int))]
  | [], n, k => rfl
  | x :: L, n, k => by
    show (x, _) :: numF (n + 1) (L ++ [k]) = (x, _) :: (numF (n + 1) L ++ _)
    rw [numF_app L (n + 1) k, List.length_cons, show n + 1 + L.length = n + (L.length + 1) by omega]
theorem numF_get : ∀ (L : List NK) (n : Nat) (k : NK), ndGet (numF n L) k = if k ∈ L then some ((n + L.idxOf k : Nat) : Int) else none
  | [], n, k => rfl
  | x :: L, n, k => by
    unfold ndGet numF
    by_cases e : x = k
    · subst e
      rw [List.find?_cons_of_pos (by simp), if_pos List.mem_cons_self, List.idxOf_cons_self]
      rfl
    · rw [List.find?_cons_of_neg (by simpa using e)]
      have ih := numF_get L (n + 1) k
      unfold ndGet at ih
      rw [ih, List.idxOf_cons, show (x == k) = false from by simpa using e, cond_false]
      by_cases h : k ∈ L
      · rw [if_pos h, if_pos (List.mem_cons_of_mem _ h), show n + 1 + L.idxOf k = n + (L.idxOf k + 1) by omega]
      · rw [if_neg h, if_neg (by intro z; rcases List.mem_cons.mp z with z | z; exact e z.symm; exact h z)]
abbrev num (L : List NK) : List (NK × Int) := numF 0 L
theorem num_get (L : List NK) (k : NK) : ndGet (num L) k = if k ∈ L then some ((L.idxOf k : Nat) : Int) else none := by
  rw [numF_get, Nat.zero_add]
theorem num_app (L : List NK) (k : NK) : num (L ++ [k]) = num L ++ [(k, ((L.length : Nat) : Int))] := by
  show numF 0 (L ++ [k]) = numF 0 L ++ _
  rw [numF_app, Nat.zero_add]
/-- a state's key: its class, the classes next -/
def sig (f : Nat → Nat) (R : Rows) (s : Nat) : NK := ((f s : Int), (suc R s).map fun t : Nat => (f t : Int))
theorem cast_inj {L M : List Nat} (h : L.map (fun t : Nat => (t : Int)) = M.map fun t : Nat => (t : Int)) : L = M := by
  induction L generalizing M with
  | nil => cases M with
    | nil => rfl
    | cons _ _ => cases h
  | cons a L ih => cases M with
    | nil => cases h
    | cons b M =>
      rw [List.map_cons, List.map_cons] at h
      injection h with h1 h2
      rw [ih h2, Int.ofNat.inj h1]
theorem sig_eq {k : Nat} {f : Nat → Nat} {R : Rows} (tb : Tab k R) {s t : Nat} (hs : s < R.length) (ht : t < R.length) : sig f R s = sig f R t ↔ f s = f t ∧ ∀ a, a < k → f (nx R s a) = f (nx R t a) := by
  have e : ∀ s, s < R.length → (suc R s).map (fun t : Nat => (f t : Int)) = ((List.range k).map fun a => f (nx R s a)).map fun t : Nat => (t : Int) := fun s hs => by
    rw [MW.suc_eq tb hs, List.map_map, List.map_map]
    rfl
  unfold sig
  rw [e s hs, e t ht]
  constructor
  · intro h
    injection h with h1 h2
    refine ⟨Int.ofNat.inj h1, fun a ha => ?_⟩
    have h3 := cast_inj h2
    have h4 := congrArg (fun l : List Nat => l[a]?) h3
    simp only [List.getElem?_map, List.getElem?_range ha, Option.map_some] at h4
    exact Option.some.inj h4
  · rintro ⟨h1, h2⟩
    rw [h1, List.map_congr_left fun a ha => h2 a (List.mem_range.mp ha)]
theorem idx_inj {L : List NK} {a b : NK} (ha : a ∈ L) (hb : b ∈ L) : L.idxOf a = L.idxOf b ↔ a = b := by
  constructor
  · intro h
    have h1 := List.getElem_idxOf (List.idxOf_lt_length_of_mem ha)
    have h2 := List.getElem_idxOf (List.idxOf_lt_length_of_mem hb)
    rw [← h1, ← h2]
    congr 1
  · intro h; rw [h]
theorem sig_ref {k : Nat} {f : Nat → Nat} {R : Rows} {S : List Nat} {L : List NK} (tb : Tab k R) (hS : ∀ s ∈ S, s < R.length) (h : ∀ s ∈ S, sig f R s ∈ L) : Ref R k S f fun s => L.idxOf (sig f R s) := fun s hs t ht => by
  show L.idxOf _ = L.idxOf _ ↔ _
  rw [idx_inj (h s hs) (h t ht)]
  exact sig_eq tb (hS s hs) (hS t ht)
theorem idx_app {L M : List NK} {a : NK} (h : a ∈ L) : (L ++ M).idxOf a = L.idxOf a := by rw [List.idxOf_append, if_pos h]
/-- numbers by keys -/
def kM (f : Nat → Nat) (S : List Nat) : List (Key × V) := S.map fun s : Nat => (.inl (s : Int), nv (f s))
theorem kM_get {f : Nat → Nat} {S : List Nat} {s : Nat} (h : s ∈ S) : valV (kM f S) (.inl (s : Int)) = some (nv (f s)) :=
  valV_map (key := fun s : Nat => (.inl (s : Int) : Key)) (f := fun s => nv (f s)) (fun y _ e => by rw [key_inj.mp e]) h
theorem kM_no {f : Nat → Nat} {S : List Nat} {s : Nat} (h : s ∉ S) : valV (kM f S) (.inl (s : Int)) = none :=
  valV_no (key := fun s : Nat => (.inl (s : Int) : Key)) (f := fun s => nv (f s)) fun y hy z => h (by rw [← key_inj.mp z]; exact hy)
theorem kM_put {f : Nat → Nat} {S : List Nat} {s : Nat} (h : s ∉ S) : putK (kM f S) (.inl (s : Int)) (nv (f s)) = kM f (S ++ [s]) := by
  rw [putK_new]
  · unfold kM; rw [List.map_append]; rfl
  · intro p hp
    obtain ⟨y, hy, rfl⟩ := List.mem_map.mp hp
    exact fun z => h (by rw [← key_inj.mp (show (Sum.inl (y : Int) : Key) = .inl (s : Int) from z)]; exact hy)
theorem kM_len {f : Nat → Nat} {S : List Nat} : (kM f S).length = S.length := by unfold kM; rw [List.length_map]
theorem kM_congr {f g : Nat → Nat} {S : List Nat} (h : ∀ s ∈ S, f s = g s) : kM f S = kM g S := by
  unfold kM
  exact List.map_congr_left fun s hs => by rw [h s hs]
theorem kM_vals {f : Nat → Nat} {S : List Nat} : (kM f S).map (·.2) = ((S.map f).map fun n : Nat => (n : Int)).map V.int := by
  unfold kM; rw [List.map_map, List.map_map, List.map_map]; rfl
theorem map_getD {α β : Type} (L : List α) (d : α) (f : α → β) : (List.range L.length).map (fun i => f (L.getD i d)) = L.map f := by
  have := filt_map (γ := Nat) L d (fun _ => true) f
  rwa [List.filter_eq_self.mpr (fun _ _ => rfl), List.filter_eq_self.mpr (fun _ _ => rfl)] at this
/-- how many values there are -/
theorem one_cnt {f : Nat → Nat} {S : List Nat} {B : List Int} (h : OneEach ((S.map f).map fun n : Nat => (n : Int)) B) : B.length = cnt f S := by
  have hb : ∀ v ∈ B, ∃ s ∈ S, (f s : Int) = v := fun v hv => by
    obtain ⟨n, hn, rfl⟩ := List.mem_map.mp ((h.2 v).mp hv)
    obtain ⟨s, hs, rfl⟩ := List.mem_map.mp hn
    exact ⟨s, hs, rfl⟩
  have e : (B.map Int.toNat).length = B.length := List.length_map _
  rw [← e]
  refine MW.cnt_of ?_ fun v => ?_
  · rw [List.nodup_iff_pairwise_ne, List.pairwise_map]
    refine List.Pairwise.imp_of_mem (fun {a b} ha hb' hab z => hab ?_) (List.nodup_iff_pairwise_ne.mp h.1)
    obtain ⟨s, _, rfl⟩ := hb a ha
    obtain ⟨t, _, rfl⟩ := hb b hb'
    have z2 : f s = f t := by simpa using z
    rw [z2]
  · constructor
    · intro hv
      obtain ⟨x, hx, rfl⟩ := List.mem_map.mp hv
      obtain ⟨s, hs, rfl⟩ := hb x hx
      exact ⟨s, hs, by simp⟩
    · rintro ⟨s, hs, rfl⟩
      exact List.mem_map.mpr ⟨(f s : Int), (h.2 _).mpr (List.mem_map.mpr ⟨f s, List.mem_map.mpr ⟨s, hs, rfl⟩, rfl⟩), by simp⟩
theorem nd_inj {α : Type} {S : List α} (h : S.Nodup) {i j : Nat} (hi : i < S.length) (hj : j < S.length) (e : S[i] = S[j]) : i = j := by
  have hp := List.pairwise_iff_getElem.mp (List.nodup_iff_pairwise_ne.mp h)
  rcases Nat.lt_trichotomy i j with z | z | z
  · exact absurd e (hp i j hi hj z)
  · exact z
  · exact absurd e.symm (hp j i hj hi z)
theorem fresh_seq {α : Type} {S : List α} {j : Nat} {d : α} (hn : S.Nodup) (e : S[j]? = some d) : d ∉ S.take j := by
  rw [← List.take_append_drop j S, List.nodup_append] at hn
  have hdm : d ∈ S.drop j := List.mem_of_getElem? (i := 0) (by rw [List.getElem?_drop]; exact e)
  exact fun z => hn.2.2 d z d hdm rfl
section
variable {P : Program} {w : World} {K : PySem.W.Frag} {mg : Str → Option Value} {base : Heap}

def spClasses : Sp := fun vs H Q _ => ∃ (p qa r : Addr) (R : Rows) (k : Nat) (S : List Nat) (acc : Nat → Bool), vs = [.ref p, .ref qa, .ref r] ∧ Tb H p R ∧ Tab k R ∧ R.length ≤ 200 ∧ k ≤ 10 ∧ H qa = some (.lst (S.map nv)) ∧ Closed R k S ∧ S.Nodup ∧ S ≠ [] ∧ S.length ≤ 200 ∧
  H r = some (.lst ((List.range R.length).map fun i => .bl (acc i))) ∧
  ∀ H' d m, Same H H' → H d = none → Fine R k acc S m → H' d = some (.dK (kM m S)) → Q (.ref d) H'
theorem mono_cnt {i j : Nat} {r1 r2 r3 : List V → Hp → VK → Prop} (m1 : ∀ xs H Q Q', (∀ v H1, Q v H1 → Q' v H1) → r1 xs H Q → r1 xs H Q') (m2 : ∀ xs H Q Q', (∀ v H1, Q v H1 → Q' v H1) → r2 xs H Q → r2 xs H Q') (m3 : ∀ xs H Q Q', (∀ v H1, Q v H1 → Q' v H1) → r3 xs H Q → r3 xs H Q') {f : Int → Int → V} :
    ∀ (σ : L2.St) (H : Hp) (Q Q' : Bool → Hp → Prop), (∀ b H1, Q b H1 → Q' b H1) → tTest (tOp (rI0 f) (tCB r1 (tCons (tCB r2 (tCons (tCB r3 (tCons (tVals (tVar i)) tNil)) tNil)) tNil)) (tVar j)) σ H Q → tTest (tOp (rI0 f) (tCB r1 (tCons (tCB r2 (tCons (tCB r3 (tCons (tVals (tVar i)) tNil)) tNil)) tNil)) (tVar j)) σ H Q' := by
  rintro σ H Q Q' h ⟨x, hx, d, kvs, e, hr, k⟩
  refine ⟨x, hx, d, kvs, e, hr, fun p hp => m3 _ _ _ _ (fun v3 H3 q3 => m2 _ _ _ _ (fun v2 H2 q2 => m1 _ _ _ _ (fun v1 H1 q1 => ?_) q2) q3) (k p hp)⟩
  obtain ⟨y, hy, i', j', e1, e2, b, e3, q⟩ := q1
  exact ⟨y, hy, i', j', e1, e2, b, e3, h _ _ q⟩
theorem scClassesOf : FnScope ["rows", "states", "accepted", "found", "state", "many", "numbers", "later", "key", "to"] ["rows", "states", "accepted"] (defScope sClassesOf) := ⟨rfl, rfl, rfl, by decide +kernel, rfl, by decide +kernel, by decide +kernel⟩
theorem c_classes_of (B : En P w K mg base) : Cal P w K mg base 1 "classes_of" (spClasses) [] := by
  refine cal_mk B.f_classes_of scClassesOf (fun _ _ _ _ _ _ us hl => match us, hl with | [_, _, _], _ => rfl) (fun vs H Q E h => ?_) fun f cdv A outer s H vs Q E hr h => ?_
  · obtain ⟨p, qa, r, R, k, S, acc, rfl, _⟩ := h
    rfl
  · obtain ⟨p, qa, r, R, k, S, acc, rfl, hT, tb, hR, hk, hS, cl, nd, ne, hSl, hr0, q⟩ := h
    have hu := hu_of hr
    have hu64 := hr.units
    refine ⟨_, (pss_cons (ps_set (i := 3) scClassesOf.nd rfl (Or.inr rfl) (pe_dc (own := [("state", 4)]) (g := gName 4) (tt := tYes) rfl scClassesOf.nd (pi_listK K rfl (pv 1)) (blkOk_by (own := [("state", 4)]) (N := ["rows", "states", "accepted", "found", "state", "many", "numbers", "later", "key", "to"]) (sc := defScope sClassesOf) (by decide +kernel)) (fun _ _ _ _ _ => (pg_name (i := 4) scClassesOf.nd rfl (Or.inl rfl))) (fun _ _ _ _ _ => pts_nil) (fun _ _ _ _ _ => (pv 4)) (fun _ _ _ _ _ => (pe_callTy call_int1 (by rfl) B.int_ boot_int (pa_cons (pe_ix (ix_listK K rfl) (pv 2) (pv 4) (fun _ _ => rfl)) pa_nil)))))
    (pss_cons (ps_set (i := 5) scClassesOf.nd rfl (Or.inl rfl) pe_int)
    (pss_cons (ps_while PassesOwn.never (pt_cmpR op_gt (pe_callB call_lenSet (by rfl) B.len_ boot_len (pa_cons (pe_callTy (cr_setL rfl) (by rfl) B.set_ boot_set (pa_cons (pe_callTy (call_listVw rfl) (by rfl) B.list_ boot_list (pa_cons (pe_vals (pv 3)) pa_nil)) pa_nil)) pa_nil)) (pv 5) (nomark _)) (pss_cons (ps_set (i := 5) scClassesOf.nd rfl (Or.inl rfl) (pe_callB call_lenSet (by rfl) B.len_ boot_len (pa_cons (pe_callTy (cr_setL rfl) (by rfl) B.set_ boot_set (pa_cons (pe_callTy (call_listVw rfl) (by rfl) B.list_ boot_list (pa_cons (pe_vals (pv 3)) pa_nil)) pa_nil)) pa_nil)))
    (pss_cons (ps_set (i := 6) scClassesOf.nd rfl (Or.inl rfl) pe_dnewN)
    (pss_cons (ps_set (i := 7) scClassesOf.nd rfl (Or.inl rfl) pe_dnewK)
    (pss_cons (ps_for PassesOwn.never rfl (pi_listK K rfl (pv 1)) (pg_name (i := 4) scClassesOf.nd rfl (Or.inl rfl)) (pss_cons (ps_set (i := 8) scClassesOf.nd rfl (Or.inl rfl) (pe_tup (pa_cons (pe_dget hu (pv 3) (pv 4) (fun _ _ => rfl)) (pa_cons (pe_tupleOfK K rfl (by rfl) B.tuple_ (pe_lc (own := [("to", 9)]) (g := gName 9) (tt := tYes) rfl scClassesOf.nd (pi_tupK K rfl (pe_ix (ix_tupK K rfl) (pv 0) (pv 4) (fun _ _ => rfl))) (blkOk_by (own := [("to", 9)]) (N := ["rows", "states", "accepted", "found", "state", "many", "numbers", "later", "key", "to"]) (sc := defScope sClassesOf) (by decide +kernel)) (fun _ _ _ _ _ => (pg_name (i := 9) scClassesOf.nd rfl (Or.inl rfl))) (fun _ _ _ _ _ => pts_nil) (fun _ _ _ _ _ => (pe_dget hu (pv 3) (pv 9) (fun _ _ => rfl))))) pa_nil))))
    (pss_cons (ps_expr (pe_mG ty_nd PySem.F.plainAttrs_dict PySem.F.slot_dict_setdefault PySem.F.type_dict_setdefault (mt_ndset hu64) (pv 6) (pa_cons (pv 8) (pa_cons (pe_callB call_lenNd (by rfl) B.len_ boot_len (pa_cons (pv 6) pa_nil)) pa_nil))))
    (pss_one (ps_dput hu (pv 7) (pv 4) (pe_ix (ix_nd hu64) (pv 6) (pv 8) (fun _ _ => rfl)) rfl)))))
    (pss_one (ps_set (i := 3) scClassesOf.nd rfl (Or.inr rfl) (pv 7))))))))
    (pss_one (ps_ret (pv 3)))))), ?_⟩
    obtain ⟨bs, hp, hbl, hrow⟩ := suc_row hT
    have hlt : ∀ s ∈ S, s < R.length := fun s hs => (cl s hs).1
    refine ⟨_, rfl, qa, rfl, ⟨_, SqL.of hS⟩, fun fp hfp => dc_map (n := (S.map nv).length) walk_list (fun i => .inl ((S.getD i 0 : Nat) : Int)) (fun i => nv ((acc (S.getD i 0)).toNat)) ?_ hfp ?_ (fun H1 s1 => SqL.of (s1 _ _ hS)) (fun i x H1 H2 hi s y Pn kk => ?_) (fun H1 s hD => ?_)⟩
    · intro i j hi hj e
      rw [List.length_map] at hi hj
      have e := key_inj.mp e
      rw [List.getD_eq_getElem?_getD, List.getD_eq_getElem?_getD, List.getElem?_eq_getElem hi, List.getElem?_eq_getElem hj] at e
      exact nd_inj nd hi hj e
    · rw [List.length_map]; exact Nat.lt_of_le_of_lt hSl (by decide)
    · obtain ⟨rfl, e1⟩ := y
      rw [List.getElem?_map] at e1
      obtain ⟨c, e3, rfl⟩ := Option.map_eq_some_iff.mp e1
      have hc := hlt c (List.mem_of_getElem? e3)
      have e4 : S.getD i 0 = c := getD_of e3
      rw [e4] at kk
      refine ⟨rfl, yes ⟨_, rfl, _, rfl, _, rfl, r, _, _, .bl (acc c), rfl, rfl, SqL.of (s _ _ hr0), atI_nat ?_, .inr ⟨_, rfl, ?_⟩⟩⟩
      · rw [List.getElem?_map, List.getElem?_range hc]; rfl
      · have : (V.int (if acc c = true then 1 else 0)) = nv ((acc c).toNat) := by cases acc c <;> rfl
        rw [this]
        exact kk _ (Same.refl _)
    have hD : H1 fp = some (.dK (kM (fun s => (acc s).toNat) S)) := by
      rw [hD, List.length_map]
      have := map_getD S 0 (fun s : Nat => ((.inl (s : Int), nv ((acc s).toNat)) : Key × V))
      exact congrArg some (congrArg HO.dK this)
    refine while_n S.length (fun i σ H2 => ∃ (f : Nat → Nat) (fp : Addr) (x4 x6 x7 x8 x9 : Option V), σ = [some (.ref p), some (.ref qa), some (.ref r), some (.ref fp), x4, some (nv i), x6, x7, x8, x9] ∧ Same H H2 ∧ H fp = none ∧ H2 fp = some (.dK (kM f S)) ∧ Mid R k acc S f ∧ (i = 0 ∨ ∃ f', Mid R k acc S f' ∧ Ref R k S f' f ∧ i = cnt f' S)) (Nat.zero_le _) ⟨_, fp, _, _, _, _, _, rfl, s, hfp, hD, Mid.start fun _ _ => rfl, .inl rfl⟩ (fun i σ H2 hiN h => ?_) ?_
    · obtain ⟨f, fp, x4, x6, x7, x8, x9, rfl, s1, f0, hF, mid, hi⟩ := h
      have hB : (((S.map f).map fun n : Nat => (n : Int))).length < 4000 := by rw [List.length_map, List.length_map]; omega
      refine ⟨_, rfl, fp, _, rfl, .inl hF, fun v1 hv1 => ⟨v1, fp, _, rfl, upd_same, .inl ((same_upd hv1) _ _ hF), fun l1 hl1 => ?_⟩⟩
      rw [kM_vals]
      refine ⟨l1, _, rfl, SqL.of upd_same, hB, fun t1 S1 B1 ht1 ob1 => ⟨t1, _, _, rfl, upd_same, _, rfl, _, _, rfl, rfl, _, rfl, ?_⟩⟩
      have sa := same_to (same_to (same_upd hv1 (o := VwO v1 fp)) hl1 (o := .lst (((S.map f).map fun n : Nat => (n : Int)).map V.int))) ht1 (o := .set S1 B1.length)
      rw [one_cnt ob1] at sa ⊢
      generalize upd (upd (upd H2 v1 (VwO v1 fp)) l1 (.lst (((S.map f).map fun n : Nat => (n : Int)).map V.int))) t1 (.set S1 (cnt f S)) = H3 at sa ⊢
      have s3 := s1.trans sa
      refine ite2 (fun hg => ?_) (fun hg => ?_)
      · have hg : i < cnt f S := by simpa using hg
        have hF3 := sa _ _ hF
        refine ⟨_, rfl, fp, _, rfl, .inl hF3, fun v2 hv2 => ⟨v2, fp, _, rfl, upd_same, .inl ((same_upd hv2) _ _ hF3), fun l2 hl2 => ?_⟩⟩
        rw [kM_vals]
        refine ⟨l2, _, rfl, SqL.of upd_same, hB, fun t2 S2 B2 ht2 ob2 => ⟨t2, _, _, rfl, upd_same, ?_⟩⟩
        have sb := same_to (same_to (same_upd hv2 (o := VwO v2 fp)) hl2 (o := .lst (((S.map f).map fun n : Nat => (n : Int)).map V.int))) ht2 (o := .set S2 B2.length)
        rw [one_cnt ob2] at sb ⊢
        generalize upd (upd (upd H3 v2 (VwO v2 fp)) l2 (.lst (((S.map f).map fun n : Nat => (n : Int)).map V.int))) t2 (.set S2 (cnt f S)) = H4 at sb ⊢
        have s4 := s3.trans sb
        have hF4 := sb _ _ hF3
        refine fun np hnp hN0 => ?_
        refine fun lp hlp => ?_
        have hlp : upd H4 np (NdO P w np []) lp = none := hlp
        have s5 := same_to (same_upd hnp (o := NdO P w np [])) hlp (o := .dK [])
        have nl : np ≠ lp := fun z => by rw [← z, upd_same] at hlp; cases hlp
        have np0 : H np = none := s4.free hnp
        have lp0 : H lp = none := s4.free ((same_upd hnp (o := NdO P w np [])).free hlp)
        have nf : np ≠ fp := fun z => by rw [z, hF4] at hnp; cases hnp
        have lf : lp ≠ fp := fun z => by rw [z, same_upd hnp (o := NdO P w np []) _ _ hF4] at hlp; cases hlp
        refine ⟨_, rfl, qa, rfl, ⟨_, SqL.of ((s4.trans s5) _ _ hS)⟩, for_list (xs := S.map nv) (fun j σ H5 => ∃ (L : List NK) (x4 x8 x9 : Option V), σ = [some (.ref p), some (.ref qa), some (.ref r), some (.ref fp), x4, some (nv (cnt f S)), some (.ref np), some (.ref lp), x8, x9] ∧ Same H H5 ∧ H5 fp = some (.dK (kM f S)) ∧ NDict P w H5 np (num L) ∧ L.length ≤ j ∧ (∀ s ∈ S.take j, sig f R s ∈ L) ∧ H5 lp = some (.dK (kM (fun s => L.idxOf (sig f R s)) (S.take j)))) ⟨[], _, _, _, rfl, s4.trans s5, s5 _ _ hF4, hN0.mono (upd_ne nl) (Tx.of (same_upd hlp)), Nat.le_refl _, fun s hs => by simp at hs, upd_same⟩ (fun j σ H5 _ h => ?_) (fun j x σ H5 hx h => ?_) (fun σ H5 h => ?_)⟩
        · obtain ⟨L, _, _, _, _, g1, _⟩ := h
          exact SqL.of (g1 _ _ hS)
        · obtain ⟨L, y4, y8, y9, rfl, g1, g2, g3, g4, g5, g6⟩ := h
          rw [List.getElem?_map] at hx
          obtain ⟨c, e3, rfl⟩ := Option.map_eq_some_iff.mp hx
          have hcS := List.mem_of_getElem? e3
          have hc := hlt c hcS
          obtain ⟨b, hb1, hb2, hb3⟩ := hrow c hc
          have hb5 := g1 _ _ hb3
          have hj : j < S.length := (List.getElem?_eq_some_iff.mp e3).1
          -- the key
          refine ⟨_, rfl, _, rfl, fp, nv (f c), rfl, ?_, ?_⟩
          · have := DGet.k (k := Sum.inl (c : Int)) g2
            rw [kM_get hcS] at this
            exact this
          refine ⟨_, rfl, _, rfl, p, _, _, _, rfl, rfl, SqT.of (g1 _ _ hp), atI_nat hb2, b, rfl, ⟨_, SqT.of hb5⟩, fun D1 hD1 => lc_map (n := ((suc R c).map nv).length) walk_tup (fun i => nv (f ((suc R c).getD i 0))) hD1 ?_ (fun H6 s6 => SqT.of (s6 _ _ hb5)) (fun i x H6 H7 hi s y Pn kk => ?_) (fun H6 s6 hDl => ?_)⟩
          · rw [List.length_map, tb.sl hc]; exact Nat.lt_of_le_of_lt hk (by decide)
          · obtain ⟨rfl, e1⟩ := y
            rw [List.getElem?_map] at e1
            obtain ⟨d, e5, rfl⟩ := Option.map_eq_some_iff.mp e1
            have e6 : (suc R c).getD i 0 = d := getD_of e5
            rw [e6] at kk
            have hdS : d ∈ S := by
              obtain ⟨a, ha, e⟩ := tb.of_mem hc (List.mem_of_getElem? e5)
              rw [e]
              exact (cl c hcS).2 a ha
            refine ⟨rfl, yes ⟨_, rfl, _, rfl, fp, _, rfl, ?_, kk _ (Same.refl _)⟩⟩
            have := DGet.k (k := Sum.inl (d : Int)) (s _ _ g2)
            rw [kM_get hdS] at this
            exact this
          rw [List.length_map, map_getD (suc R c) 0 (fun d => nv (f d))] at hDl
          refine .inl ⟨D1, _, rfl, SqL.of hDl, fun t3 ht3 => ⟨by show 2 ≤ sizeLine; decide, fun kp hkp => ?_⟩⟩
          have t3k : t3 ≠ kp := fun z => by rw [← z, upd_same] at hkp; cases hkp
          have s7 : Same H5 (upd (upd H6 t3 (.tup ((suc R c).map fun d => nv (f d)))) kp (.tup [nv (f c), .ref t3])) := same_to (same_to s6 ht3) hkp
          have hK : NTup (upd (upd H6 t3 (.tup ((suc R c).map fun d => nv (f d)))) kp (.tup [nv (f c), .ref t3])) kp (sig f R c) := by
            refine ⟨t3, upd_same, ?_⟩
            rw [upd_ne t3k, upd_same]
            unfold sig
            rw [List.map_map]
            rfl
          generalize upd (upd H6 t3 (.tup ((suc R c).map fun d => nv (f d)))) kp (.tup [nv (f c), .ref t3]) = H7 at s7 hK ⊢
          have n5 : NDict P w H7 np (num L) := g3.mono (by obtain ⟨_, xs, e, _⟩ := g3; rw [e]; exact s7 _ _ e) (Tx.of s7)
          have hl7 := s7 _ _ g6
          have nl2 : ∀ {H : Hp} {kvs : List (NK × Int)} {k2 : List (Key × V)}, NDict P w H np kvs → H lp = some (.dK k2) → lp ≠ np := fun h1 h2 z => by
            obtain ⟨_, xs, e, _⟩ := h1
            rw [z, e] at h2
            unfold NdO at h2
            cases h2
          have nf2 : fp ≠ np := nf.symm
          have hL1 : (num L).length ≤ 1000 := by rw [numF_len]; omega
          refine ⟨_, rfl, ⟨np, _, rfl, n5⟩, _, rfl, _, rfl, np, _, rfl, n5, hL1, np, kp, sig f R c, _, num L, rfl, rfl, n5, hK, hL1, fun u hu5 => ?_, fun hnone o hN => ?_⟩
          · -- it was there
            rw [num_get] at hu5
            have hin : sig f R c ∈ L := by
              by_cases z : sig f R c ∈ L
              · exact z
              · rw [if_neg z] at hu5; cases hu5
            refine ⟨_, rfl, _, rfl, np, kp, sig f R c, _, _, rfl, rfl, n5, hK, by rw [num_get, if_pos hin], _, rfl, _, rfl, lp, _, rfl, DPut.k (k := Sum.inl (c : Int)) hl7 (by rw [kM_len, List.length_take]; exact Nat.lt_of_le_of_lt (m := 200) (by omega) (by decide)), ?_⟩
            refine ⟨L, _, _, _, rfl, same_at (g1.trans s7) lp0, by rw [upd_ne lf.symm]; exact s7 _ _ g2, n5.mono (upd_ne (nl2 n5 hl7).symm) (fun a xs h => by rw [upd_ne (fun z => by rw [z, hl7] at h; cases h)]; exact h), by omega, ?_, ?_⟩
            · intro s hs
              rw [MW.take_snoc e3] at hs
              rcases List.mem_append.mp hs with z | z
              · exact g5 s z
              · rw [List.mem_singleton.mp z]; exact hin
            · rw [upd_same, MW.take_snoc e3]
              exact congrArg some (congrArg HO.dK (kM_put (f := fun s => L.idxOf (sig f R s)) (fresh_seq nd e3)))
          · -- it is new
            rw [num_get] at hnone
            have hout : sig f R c ∉ L := by
              intro z
              rw [if_pos z] at hnone; cases hnone
            have hlen : (num L).length = L.length := numF_len L 0
            have hN : NDict P w (upd H7 np o) np (num (L ++ [sig f R c])) := by rw [num_app, ← hlen]; exact hN
            have hl8 : upd H7 np o lp = some (.dK (kM (fun s => L.idxOf (sig f R s)) (S.take j))) := by rw [upd_ne (nl2 n5 hl7)]; exact hl7
            have hf8 : upd H7 np o fp = some (.dK (kM f S)) := by rw [upd_ne nf2]; exact s7 _ _ g2
            have hK8 : NTup (upd H7 np o) kp (sig f R c) := by
              obtain ⟨b2, k1, k2⟩ := hK
              have nn : ∀ a xs, H7 a = some (.tup xs) → a ≠ np := fun a xs h z => by
                obtain ⟨_, ys, e, _⟩ := n5
                rw [z, e] at h
                unfold NdO at h
                cases h
              exact ⟨b2, by rw [upd_ne (nn _ _ k1)]; exact k1, by rw [upd_ne (nn _ _ k2)]; exact k2⟩
            have hidx : (L ++ [sig f R c]).idxOf (sig f R c) = L.length := by
              rw [List.idxOf_append, if_neg hout, List.idxOf_cons_self]; omega
            refine ⟨_, rfl, _, rfl, np, kp, sig f R c, _, _, rfl, rfl, hN, hK8, by rw [num_get, if_pos (by simp)], _, rfl, _, rfl, lp, _, rfl, DPut.k (k := Sum.inl (c : Int)) hl8 (by rw [kM_len, List.length_take]; exact Nat.lt_of_le_of_lt (m := 200) (by omega) (by decide)), ?_⟩
            refine ⟨L ++ [sig f R c], _, _, _, rfl, same_at (same_at (g1.trans s7) np0) lp0, by rw [upd_ne lf.symm]; exact hf8, hN.mono (upd_ne (nl2 hN hl8).symm) (fun a xs h => by rw [upd_ne (fun z => by rw [z, hl8] at h; cases h)]; exact h), by rw [List.length_append]; show L.length + 1 ≤ j + 1; omega, ?_, ?_⟩
            · intro s hs
              rw [MW.take_snoc e3] at hs
              rcases List.mem_append.mp hs with z | z
              · exact List.mem_append_left _ (g5 s z)
              · rw [List.mem_singleton.mp z]; simp
            · have e8 : kM (fun s => L.idxOf (sig f R s)) (S.take j) = kM (fun s => (L ++ [sig f R c]).idxOf (sig f R s)) (S.take j) := kM_congr fun s hs => (idx_app (g5 s hs)).symm
              rw [upd_same, e8, MW.take_snoc e3]
              exact congrArg some (congrArg HO.dK (kM_put (f := fun s => (L ++ [sig f R c]).idxOf (sig f R s)) (fresh_seq nd e3)))
        · obtain ⟨L, y4, y8, y9, rfl, g1, g2, g3, g4, g5, g6⟩ := h
          rw [List.length_map, List.take_of_length_le (Nat.le_refl _)] at g5 g6
          have rf := sig_ref (f := f) tb hlt g5
          refine ⟨_, rfl, cnt f S, hg, MW.cnt_le f (fun _ z => z), _, lp, _, _, _, _, _, rfl, g1, lp0, g6, mid.next cl rf, .inr ⟨f, mid, rf, rfl⟩⟩
      · have hg : ¬ i < cnt f S := by simpa using hg
        refine ⟨_, rfl, q _ fp f s3 f0 ?_ (sa _ _ hF)⟩
        rcases hi with rfl | ⟨f', mid', rf, rfl⟩
        · have := MW.cnt_pos f ne
          omega
        · exact rf.ends mid' cl (by omega)
    · refine mono_cnt (fun xs H Q Q' h hh => ?_) (fun xs H Q Q' h hh => ?_) (fun xs H Q Q' h hh => ?_)
      · obtain ⟨a, S, n, h1, h2, h3⟩ := hh
        exact ⟨a, S, n, h1, h2, h _ _ h3⟩
      · obtain ⟨a, ns, h1, h2, h3, h4⟩ := hh
        exact ⟨a, ns, h1, h2, h3, fun p S B hp ho => h _ _ (h4 p S B hp ho)⟩
      · obtain ⟨a, d, kvs, h1, h2, h3, h4⟩ := hh
        exact ⟨a, d, kvs, h1, h2, h3, fun p hp => h _ _ (h4 p hp)⟩
end
end Ww
end S_Ww3c

section S_Ww3d
set_option Elab.async false
set_option linter.all false
set_option maxRecDepth 100000
set_option maxHeartbeats 2000000
/-! Walks 3d: the least table. -/
namespace Ww
open PySem PySem.Spec PyProof.Rows L2 WwR SlX
open C8 (Cal pe_c)
open MW (Rows suc nx Tab Qu add1 grow Closed Ref Mid Fine cnt Least ix tabR tabA)
theorem same_lock {H H' : Hp} {d : Addr} {u o : HO} (hd : H d = some u) (s : Same (upd H d o) H') : Same H (upd H' d u) := fun b v e => by
  by_cases z : b = d
  · rw [z, hd] at e
    cases e
    rw [z, upd_same]
  · rw [upd_ne z]
    exact s _ _ (by rw [upd_ne z]; exact e)
theorem upd_back {H : Hp} {d : Addr} {u : HO} {b : Addr} (h : b ≠ d) : upd H d u b = H b := upd_ne h
theorem ix_val {m : Nat → Nat} {G : List Nat} {s : Nat} (hn : (G.map m).Nodup) (h : m s ∈ G.map m) : valV ((List.range G.length).map fun i => ((.inl ((m (G.getD i 0) : Nat) : Int), nv i) : Key × V)) (.inl ((m s : Nat) : Int)) = some (nv (ix m G s)) := by
  obtain ⟨h1, r, h2, h3⟩ := MW.ix_at h
  have e : m (G.getD (ix m G s) 0) = m s := by rw [getD_of h2, h3]
  rw [← e]
  refine valV_map (key := fun i : Nat => (.inl ((m (G.getD i 0) : Nat) : Int) : Key)) (f := fun i => nv i) (fun y hy e2 => ?_) (List.mem_range.mpr h1)
  have e3 : m (G.getD y 0) = m s := by rw [key_inj.mp e2, e]
  have hy := List.mem_range.mp hy
  have e4 : G[y]? = some (G.getD y 0) := by rw [List.getD_eq_getElem?_getD, List.getElem?_eq_getElem hy]; rfl
  rw [MW.ix_self hn e4 e3]
theorem g_mem {m : Nat → Nat} {S : List Nat} {s : Nat} (h : s ∈ S) : m s ∈ (grow m [] S).map m := by
  obtain ⟨r, hr, e⟩ := MW.reps_of (f := m) h
  exact List.mem_map.mpr ⟨r, hr, e⟩
section
variable {P : Program} {w : World} {K : PySem.W.Frag} {mg : Str → Option Value} {base : Heap}

def spLeastTable : Sp := fun vs H Q _ => ∃ (p q : Addr) (R : Rows) (A0 : List Nat) (k s0 : Nat), vs = [.ref p, .ref q, nv s0] ∧ Tb H p R ∧ H q = some (.tup (A0.map nv)) ∧ Tab k R ∧ s0 < R.length ∧ R.length ≤ 200 ∧ k ≤ 10 ∧ (∀ x ∈ A0, x < R.length) ∧
  ∀ H' t a b T A, Same H H' → H t = none → H' t = some (.tup [.ref a, .ref b]) → Tb H' a T → H' b = some (.tup (A.map nv)) → Least k R (fun s => decide (s ∈ A0)) s0 T A → Q (.ref t) H'
theorem scLeastTable : FnScope ["rows", "accepts", "start", "accepted", "states", "classes", "first", "state", "numbers", "at", "mark", "found", "to"] ["rows", "accepts", "start"] (defScope sLeastTable) := ⟨rfl, rfl, rfl, by decide +kernel, rfl, by decide +kernel, by decide +kernel⟩
theorem c_least_table (B : En P w K mg base) : Cal P w K mg base 2 "least_table" (spLeastTable) [] := by
  refine cal_mk B.f_least_table scLeastTable (fun _ _ _ _ _ _ us hl => match us, hl with | [_, _, _], _ => rfl) (fun vs H Q E h => ?_) fun f cdv A outer s H vs Q E hr h => ?_
  · obtain ⟨p, q0, R, A0, k, s0, rfl, _⟩ := h
    rfl
  · obtain ⟨p, q0, R, A0, k, s0, rfl, hT, hA, tb, h0, hR, hk, hAl, q⟩ := h
    have hu := hu_of hr
    have hu64 := hr.units
    refine ⟨_, (pss_cons (ps_asg (pe_tup (pa_cons (pe_c (c_marks_of B) hr (by decide) (by rfl) (pa_cons (pe_callB (call_len_seqK K rfl) (by rfl) B.len_ boot_len (pa_cons (pv 0) pa_nil)) (pa_cons (pv 1) pa_nil))) (pa_cons (pe_c (c_states_reached B) hr (by decide) (by rfl) (pa_cons (pv 0) (pa_cons (pv 2) pa_nil))) pa_nil))) (pg_tup rfl (pgs_cons (pg_name (i := 3) scLeastTable.nd rfl (Or.inr rfl)) (pgs_cons (pg_name (i := 4) scLeastTable.nd rfl (Or.inl rfl)) pgs_nil))))
    (pss_cons (ps_set (i := 5) scLeastTable.nd rfl (Or.inr rfl) (pe_c (c_classes_of B) hr (by decide) (by rfl) (pa_cons (pv 0) (pa_cons (pv 4) (pa_cons (pv 3) pa_nil)))))
    (pss_cons (ps_set (i := 6) scLeastTable.nd rfl (Or.inl rfl) pe_dnewK)
    (pss_cons (ps_for PassesOwn.never rfl (pi_listK K rfl (pv 4)) (pg_name (i := 7) scLeastTable.nd rfl (Or.inl rfl)) (pss_one (ps_expr (pe_dsetd (pv 6) (pe_dget hu (pv 5) (pv 7) (fun _ _ => rfl)) (pv 7) ⟨rfl, rfl, rfl, rfl⟩))))
    (pss_cons (ps_set (i := 8) scLeastTable.nd rfl (Or.inr rfl) (pe_lock (pe_dc (own := [("at", 9), ("mark", 10)]) (g := gTup K 2 (gCons (gName 9) (gCons (gName 10) gNil))) (tt := tYes) rfl scLeastTable.nd (pi_enumK (by rfl) B.enumerate_ (pa_cons (pv 6) pa_nil)) (blkOk_by (own := [("at", 9), ("mark", 10)]) (N := ["rows", "accepts", "start", "accepted", "states", "classes", "first", "state", "numbers", "at", "mark", "found", "to"]) (sc := defScope sLeastTable) (by decide +kernel)) (fun _ _ _ _ _ => (pg_tup rfl (pgs_cons (pg_name (i := 9) scLeastTable.nd rfl (Or.inl rfl)) (pgs_cons (pg_name (i := 10) scLeastTable.nd rfl (Or.inl rfl)) pgs_nil)))) (fun _ _ _ _ _ => pts_nil) (fun _ _ _ _ _ => (pv 10)) (fun _ _ _ _ _ => (pv 9)))))
    (pss_cons (ps_set (i := 11) scLeastTable.nd rfl (Or.inl rfl) (pe_tupleOfK K rfl (by rfl) B.tuple_ (pe_lock (pe_lc (own := [("state", 7)]) (g := gName 7) (tt := tYes) rfl scLeastTable.nd (pi_values (pv 6)) (blkOk_by (own := [("state", 7)]) (N := ["rows", "accepts", "start", "accepted", "states", "classes", "first", "state", "numbers", "at", "mark", "found", "to"]) (sc := defScope sLeastTable) (by decide +kernel)) (fun _ _ _ _ _ => (pg_name (i := 7) scLeastTable.nd rfl (Or.inl rfl))) (fun _ _ _ _ _ => pts_nil) (fun _ _ _ _ _ => (pe_tupleOfK K rfl (by rfl) B.tuple_ (pe_lc (own := [("to", 12)]) (g := gName 12) (tt := tYes) rfl scLeastTable.nd (pi_tupK K rfl (pe_ix (ix_tupK K rfl) (pv 0) (pv 7) (fun _ _ => rfl))) (blkOk_by (own := [("to", 12)]) (by kernel_rfl)) (fun _ _ _ _ _ => (pg_name (i := 12) scLeastTable.nd rfl (Or.inl rfl))) (fun _ _ _ _ _ => pts_nil) (fun _ _ _ _ _ => (pe_dget hu (pv 8) (pe_dget hu (pv 5) (pv 12) (fun _ _ => rfl)) (fun _ _ => rfl))))))))))
    (pss_one (ps_ret (pe_tup (pa_cons (pv 11) (pa_cons (pe_tupleOfK K rfl (by rfl) B.tuple_ (pe_lock (pe_lc (own := [("at", 9), ("state", 7)]) (g := gTup K 2 (gCons (gName 9) (gCons (gName 7) gNil))) rfl scLeastTable.nd (pi_enumV (by rfl) B.enumerate_ (pa_cons (pe_vals (pv 6)) pa_nil)) (blkOk_by (own := [("at", 9), ("state", 7)]) (N := ["rows", "accepts", "start", "accepted", "states", "classes", "first", "state", "numbers", "at", "mark", "found", "to"]) (sc := defScope sLeastTable) (by decide +kernel)) (fun _ _ _ _ _ => (pg_tup rfl (pgs_cons (pg_name (i := 9) scLeastTable.nd rfl (Or.inl rfl)) (pgs_cons (pg_name (i := 7) scLeastTable.nd rfl (Or.inl rfl)) pgs_nil)))) (fun _ _ _ _ _ => pts_one (pt_val (pe_ix (ix_listK K rfl) (pv 3) (pv 7) (fun _ _ => rfl)))) (fun _ _ _ _ _ => (pv 9))))) pa_nil))))))))))), ?_⟩
    obtain ⟨bs, hp, hbl, hrow⟩ := suc_row hT
    refine ⟨_, rfl, p, _, rfl, .inr (SqT.of hp), ?_⟩
    rw [List.length_map, hbl]
    refine ⟨_, rfl, R.length, q0, A0, rfl, hA, hR, hAl, fun H1 r s1 r0 hr1 => ?_⟩
    refine ⟨_, rfl, _, rfl, p, R, k, s0, rfl, hT.same s1, tb, h0, hR, fun H2 sa S s2 sa0 hq hS => ?_⟩
    refine ⟨by show 2 ≤ sizeLine; decide, fun t1 ht1 => ⟨t1, _, rfl, SqT.of upd_same, rfl, _, _, rfl, _, _, rfl, rfl, ?_⟩⟩
    have s3 := (s1.trans s2).trans (same_upd ht1 (o := .tup [.ref r, .ref sa]))
    have hr3 := (same_upd ht1 (o := .tup [.ref r, .ref sa])) _ _ (s2 _ _ hr1)
    have hS3 := (same_upd ht1 (o := .tup [.ref r, .ref sa])) _ _ hS
    generalize upd H2 t1 (.tup [.ref r, .ref sa]) = H3 at s3 hr3 hS3 ⊢
    have cl : Closed R k S := hq.closed_of tb h0
    have nd : S.Nodup := by have := hq.nodup; rwa [List.map_id] at this
    have hSl : S.length ≤ 200 := Nat.le_trans (qu_le tb h0 hq) hR
    have hSn : S ≠ [] := fun z => by have := hq.pos; rw [z] at this; exact absurd this (by simp)
    refine ⟨_, rfl, _, rfl, _, rfl, p, sa, r, R, k, S, (fun s => decide (s ∈ A0)), rfl, hT.same s3, tb, hR, hk, hS3, cl, nd, hSn, hSl, hr3, fun H4 cp m s4 cp0 fine hc => ?_⟩
    have hlt : ∀ s ∈ S, s < R.length := fun s hs => (cl s hs).1
    have s34 := s3.trans s4
    refine fun fp hfp => ?_
    have cf : cp ≠ fp := fun z => by rw [← z, hc] at hfp; cases hfp
    have fp0 : H fp = none := s34.free hfp
    have s5 : Same H (upd H4 fp (.dK [])) := same_to s34 hfp
    have hS4 := s4 _ _ hS3
    have sf : sa ≠ fp := fun z => by rw [← z, hS4] at hfp; cases hfp
    -- the first state of each class
    refine ⟨_, rfl, sa, rfl, ⟨_, SqL.of (same_upd hfp _ _ hS4)⟩, for_list (xs := S.map nv) (fun j σ H5 => ∃ (x7 x8 x9 x10 x11 x12 : Option V), σ = [some (.ref p), some (.ref q0), some (nv s0), some (.ref r), some (.ref sa), some (.ref cp), some (.ref fp), x7, x8, x9, x10, x11, x12] ∧ Same H4 H5 ∧ H5 fp = some (.dK ((grow m [] (S.take j)).map fun x : Nat => ((.inl ((m x : Nat) : Int), nv x) : Key × V)))) ⟨_, _, _, _, _, _, rfl, same_upd hfp, upd_same⟩ (fun j σ H5 _ h => ?_) (fun j x σ H5 hx h => ?_) (fun σ H5 h => ?_)⟩
    · obtain ⟨_, _, _, _, _, _, _, g1, _⟩ := h
      exact SqL.of (g1 _ _ hS4)
    · obtain ⟨y7, y8, y9, y10, y11, y12, rfl, g1, g2⟩ := h
      rw [List.getElem?_map] at hx
      obtain ⟨c, e3, rfl⟩ := Option.map_eq_some_iff.mp hx
      have hcS := List.mem_of_getElem? e3
      refine ⟨_, rfl, fp, rfl, .inl ⟨_, .inl g2⟩, _, rfl, _, rfl, cp, nv (m c), rfl, ?_, _, rfl, _, .inl ((m c : Nat) : Int), g2, rfl, ?_, fun v hv => ?_, fun hv => ?_⟩
      · have := DGet.k (k := Sum.inl (c : Int)) (g1 _ _ hc)
        rw [kM_get hcS] at this
        exact this
      · rw [List.length_map]
        have : (grow m [] (S.take j)).length ≤ (S.take j).length := MW.cnt_le m (fun _ z => z)
        rw [List.length_take] at this
        exact Nat.lt_of_le_of_lt (m := 200) (by omega) (by decide)
      · have hin : m c ∈ (grow m [] (S.take j)).map m := by
          by_cases z : m c ∈ (grow m [] (S.take j)).map m
          · exact z
          · rw [valV_no (key := fun x : Nat => (.inl ((m x : Nat) : Int) : Key)) (f := fun x => nv x) (fun y hy e => z (List.mem_map.mpr ⟨y, hy, key_inj.mp e⟩))] at hv
            cases hv
        refine ⟨_, _, _, _, _, _, rfl, g1, ?_⟩
        rw [g2, MW.take_snoc e3, MW.grow_snoc]
        unfold add1
        rw [if_pos hin]
      · have hout : m c ∉ (grow m [] (S.take j)).map m := by
          intro z
          obtain ⟨y, hy, e⟩ := List.mem_map.mp z
          rw [← e, valV_map (key := fun x : Nat => (.inl ((m x : Nat) : Int) : Key)) (f := fun x => nv x) (fun y' hy' e' => by
            have := MW.inj_of_nodup_map (MW.reps_nodup m (S.take j)) y' hy' y hy (key_inj.mp e')
            rw [this]) hy] at hv
          cases hv
        refine ⟨_, _, _, _, _, _, rfl, same_at g1 hfp, ?_⟩
        rw [upd_same, MW.take_snoc e3, MW.grow_snoc]
        unfold add1
        rw [if_neg hout, putK_new, List.map_append]
        · rfl
        · intro pp hpp e
          obtain ⟨y, hy, rfl⟩ := List.mem_map.mp hpp
          exact hout (List.mem_map.mpr ⟨y, hy, key_inj.mp e⟩)
    obtain ⟨y7, y8, y9, y10, y11, y12, rfl, g1, g2⟩ := h
    rw [List.length_map, List.take_of_length_le (Nat.le_refl _)] at g2
    have hGl : (grow m [] S).length ≤ 200 := Nat.le_trans (MW.cnt_le m (fun _ z => z)) hSl
    have hGn : ((grow m [] S).map m).Nodup := MW.reps_nodup m S
    have hGS : ∀ x ∈ grow m [] S, x ∈ S := fun x hx => MW.reps_mem hx
    have hmem : ∀ s ∈ S, m s ∈ (grow m [] S).map m := fun s hs => g_mem hs
    have lst : Least k R (fun s => decide (s ∈ A0)) s0 (tabR R m (grow m [] S)) (tabA (fun s => decide (s ∈ A0)) (grow m [] S)) := ⟨S, m, hq, fine, rfl, rfl⟩
    generalize grow m [] S = G at g2 hGl hGn hGS hmem lst
    -- numbers
    refine ⟨fp, _, g2, trivial, fun od => ⟨_, rfl, fp, _, _, rfl, upd_same, fun np hnp => ?_⟩⟩
    have e0 : ((G.map fun x : Nat => ((.inl ((m x : Nat) : Int), nv x) : Key × V))).length = G.length := List.length_map _
    have hGg : ∀ {i : Nat}, i < G.length → G[i]? = some (G.getD i 0) := fun {i} hi => by rw [List.getD_eq_getElem?_getD, List.getElem?_eq_getElem hi]; rfl
    refine dc_map (n := (G.map fun x : Nat => ((.inl ((m x : Nat) : Int), nv x) : Key × V)).length) walk_N (fun i => .inl ((m (G.getD i 0) : Nat) : Int)) (fun i => nv i) (fun i j hi hj e => ?_) hnp ?_ (fun H6 s6 => s6 _ _ upd_same) (fun i x H6 H7 hi s y Pn kk => ?_) (fun H6 s6 hD => ?_)
    · rw [e0] at hi hj
      have e1 := MW.ix_self hGn (hGg hi) (s := G.getD j 0) (key_inj.mp e)
      have e2 := MW.ix_self hGn (hGg hj) (s := G.getD j 0) rfl
      exact e1.symm.trans e2
    · rw [e0]; exact Nat.lt_of_le_of_lt hGl (by decide)
    · obtain ⟨T, xs, rfl, hT2, rfl, y, e1, rfl⟩ := y
      rw [e0] at hi
      rw [List.map_map, List.getElem?_map, hGg hi] at e1
      have e1 := Option.some.inj e1
      have ey : y = nv (m (G.getD i 0)) := e1.symm
      subst ey
      refine ⟨T, _, rfl, SqT.of upd_same, rfl, _, _, rfl, _, _, rfl, rfl, rfl, yes ⟨_, rfl, _, rfl, kk _ (same_upd hT2)⟩⟩
    rw [e0] at hD
    refine ⟨s6 _ _ upd_same, ?_⟩
    have s7 : Same H5 (upd H6 fp (.dK (G.map fun x : Nat => ((.inl ((m x : Nat) : Int), nv x) : Key × V)))) := same_lock g2 s6
    have nf : np ≠ fp := fun z => by rw [z, upd_same] at hnp; cases hnp
    have hD7 : upd H6 fp (.dK (G.map fun x : Nat => ((.inl ((m x : Nat) : Int), nv x) : Key × V))) np = some (.dK ((List.range G.length).map fun i => ((.inl ((m (G.getD i 0) : Nat) : Int), nv i) : Key × V))) := by rw [upd_ne nf]; exact hD
    have g7 : upd H6 fp (.dK (G.map fun x : Nat => ((.inl ((m x : Nat) : Int), nv x) : Key × V))) fp = some (.dK (G.map fun x : Nat => ((.inl ((m x : Nat) : Int), nv x) : Key × V))) := upd_same
    generalize upd H6 fp (.dK (G.map fun x : Nat => ((.inl ((m x : Nat) : Int), nv x) : Key × V))) = H7 at s7 hD7 g7 ⊢
    -- the rows
    have s47 := g1.trans s7
    have hc7 := s47 _ _ hc
    have hr7 := s47 _ _ (s4 _ _ hr3)
    have hp7 := s47 _ _ (s34 _ _ hp)
    have s07 := s34.trans s47
    refine ⟨fp, _, g7, trivial, fun od2 => ⟨_, rfl, fp, _, _, rfl, upd_same, fun D hDn => ?_⟩⟩
    have lk : ∀ {o : HO} {H : Hp} {b : Addr} {v : HO}, H b = some v → b ≠ fp → upd H fp o b = some v := fun e h => by rw [upd_ne h]; exact e
    have pf : p ≠ fp := fun z => by rw [z, g7] at hp7; cases hp7
    have nc : cp ≠ fp := cf
    have nr : r ≠ fp := fun z => by rw [z, g7] at hr7; cases hr7
    refine lc_rel (n := (G.map fun x : Nat => ((.inl ((m x : Nat) : Int), nv x) : Key × V)).length) walk_values (fun i y H => ∃ b, y = .ref b ∧ H b = some (.tup (((suc R (G.getD i 0)).map (ix m G)).map nv))) (fun i y H H' t ⟨b, h1, h2⟩ => ⟨b, h1, t _ _ h2⟩) hDn ?_ (fun H6 s6 => s6 _ _ upd_same) (fun i x H8 H9 hi s y Pn kk => ?_) (fun H8 ys s8 hDl hyl hys => ?_)
    · rw [e0]; exact Nat.lt_of_le_of_lt hGl (by decide)
    · obtain ⟨rfl, k1, e1⟩ := y
      rw [e0] at hi
      rw [List.getElem?_map, hGg hi] at e1
      have e1 := Option.some.inj e1
      have ex : x = nv (G.getD i 0) := (congrArg Prod.snd e1).symm
      subst ex
      have hcS : G.getD i 0 ∈ S := hGS _ (List.mem_of_getElem? (hGg hi))
      generalize G.getD i 0 = c at hcS kk
      have hcR := hlt c hcS
      obtain ⟨b, hb1, hb2, hb3⟩ := hrow c hcR
      have bf : b ≠ fp := fun z => by have := s07 _ _ hb3; rw [z, g7] at this; cases this
      have hb9 := s _ _ (lk (s07 _ _ hb3) bf)
      refine ⟨rfl, yes ⟨_, rfl, _, rfl, p, _, _, _, rfl, rfl, SqT.of (s _ _ (lk hp7 pf)), atI_nat hb2, b, rfl, ⟨_, SqT.of hb9⟩, fun D2 hD2 => lc_map (n := ((suc R c).map nv).length) walk_tup (fun i => nv (ix m G ((suc R c).getD i 0))) hD2 ?_ (fun H6 s6 => SqT.of (s6 _ _ hb9)) (fun i x H10 H11 hi s2 y Pn2 kk2 => ?_) (fun H10 s10 hDl => ?_)⟩⟩
      · rw [List.length_map, tb.sl hcR]; exact Nat.lt_of_le_of_lt hk (by decide)
      · obtain ⟨rfl, e1⟩ := y
        rw [List.getElem?_map] at e1
        obtain ⟨d, e5, rfl⟩ := Option.map_eq_some_iff.mp e1
        have e6 : (suc R c).getD i 0 = d := getD_of e5
        rw [e6] at kk2
        have hdS : d ∈ S := by
          obtain ⟨a, ha, e⟩ := tb.of_mem hcR (List.mem_of_getElem? e5)
          rw [e]
          exact (cl c hcS).2 a ha
        have sx := s.trans s2
        refine ⟨rfl, yes ⟨_, rfl, _, rfl, _, rfl, cp, nv (m d), rfl, ?_, np, _, rfl, ?_, kk2 _ (Same.refl _)⟩⟩
        · have := DGet.k (k := Sum.inl (d : Int)) (sx _ _ (lk hc7 nc))
          rw [kM_get hdS] at this
          exact this
        · have := DGet.k (k := Sum.inl ((m d : Nat) : Int)) (sx _ _ (lk hD7 nf))
          rw [ix_val hGn (hmem d hdS)] at this
          exact this
      · rw [List.length_map, map_getD (suc R c) 0 (fun d => nv (ix m G d))] at hDl
        refine .inl ⟨D2, _, rfl, SqL.of hDl, fun t3 ht3 => kk _ _ (same_to s10 ht3) ⟨t3, rfl, ?_⟩⟩
        rw [upd_same, List.map_map]
        rfl
    rw [e0] at hyl
    refine ⟨s8 _ _ upd_same, ?_⟩
    have s9 : Same H7 (upd H8 fp (.dK (G.map fun x : Nat => ((.inl ((m x : Nat) : Int), nv x) : Key × V)))) := same_lock g7 s8
    have Df : D ≠ fp := fun z => by rw [z, upd_same] at hDn; cases hDn
    have hD9 : upd H8 fp (.dK (G.map fun x : Nat => ((.inl ((m x : Nat) : Int), nv x) : Key × V))) D = some (.lst ys) := by rw [upd_ne Df]; exact hDl
    have hys9 : ∀ i y, ys[i]? = some y → ∃ b, y = .ref b ∧ upd H8 fp (.dK (G.map fun x : Nat => ((.inl ((m x : Nat) : Int), nv x) : Key × V))) b = some (.tup (((suc R (G.getD i 0)).map (ix m G)).map nv)) := fun i y e => by
      obtain ⟨b, h1, h2⟩ := hys i y e
      refine ⟨b, h1, ?_⟩
      rw [upd_ne (fun z => by rw [z, s8 _ _ upd_same] at h2; cases h2)]
      exact h2
    have g9 : upd H8 fp (.dK (G.map fun x : Nat => ((.inl ((m x : Nat) : Int), nv x) : Key × V))) fp = some (.dK (G.map fun x : Nat => ((.inl ((m x : Nat) : Int), nv x) : Key × V))) := upd_same
    generalize upd H8 fp (.dK (G.map fun x : Nat => ((.inl ((m x : Nat) : Int), nv x) : Key × V))) = H9 at s9 hD9 hys9 g9 ⊢
    refine .inl ⟨D, _, rfl, SqL.of hD9, fun tt htt => ?_⟩
    have s10 : Same H9 (upd H9 tt (.tup ys)) := same_upd htt
    have g10 := s10 _ _ g9
    have hr10 := s10 _ _ (s9 _ _ hr7)
    have htt10 : upd H9 tt (.tup ys) tt = some (.tup ys) := upd_same
    have hys10 : ∀ i y, ys[i]? = some y → ∃ b, y = .ref b ∧ upd H9 tt (.tup ys) b = some (.tup (((suc R (G.getD i 0)).map (ix m G)).map nv)) := fun i y e => by
      obtain ⟨b, h1, h2⟩ := hys9 i y e
      exact ⟨b, h1, s10 _ _ h2⟩
    have s010 := (s07.trans s9).trans s10
    have tt0 : H tt = none := (s07.trans s9).free htt
    generalize upd H9 tt (.tup ys) = H10 at s10 g10 hr10 htt10 hys10 s010 ⊢
    -- the accepted ones
    refine ⟨_, rfl, fp, _, g10, trivial, fun od3 => ⟨_, rfl, fp, _, rfl, .inr ⟨_, upd_same⟩, fun vw hvw => ⟨vw, fp, od3, _, rfl, upd_same, (same_upd hvw) _ _ upd_same, fun D3 hD3 => ?_⟩⟩⟩
    have vf : vw ≠ fp := fun z => by rw [z, upd_same] at hvw; cases hvw
    refine lc_flt (n := (G.map fun x : Nat => ((.inl ((m x : Nat) : Int), nv x) : Key × V)).length) walk_N (fun i => decide (G.getD i 0 ∈ A0)) (fun i => nv i) hD3 ?_ (fun H6 s6 => s6 _ _ ((same_upd hvw) _ _ upd_same)) (fun i x H8 H9 hi s y Pn kk kn => ?_) (fun H11 s11 hDl => ?_)
    · rw [e0]; exact Nat.lt_of_le_of_lt hGl (by decide)
    · obtain ⟨T, xs, rfl, hT2, rfl, y, e1, rfl⟩ := y
      rw [e0] at hi
      rw [List.map_map, List.getElem?_map, hGg hi] at e1
      have e1 := Option.some.inj e1
      have ey : y = nv (G.getD i 0) := e1.symm
      subst ey
      have hcR := hlt _ (hGS _ (List.mem_of_getElem? (hGg hi)))
      have sT := same_upd hT2 (o := .tup [.int (i : Nat), nv (G.getD i 0)])
      refine ⟨T, _, rfl, SqT.of upd_same, rfl, _, _, rfl, _, _, rfl, rfl, rfl, _, rfl, _, rfl, r, _, _, .bl (decide (G.getD i 0 ∈ A0)), rfl, rfl, SqL.of (sT _ _ (s _ _ ((same_upd hvw) _ _ (lk hr10 nr)))), atI_nat ?_, _, rfl, ?_⟩
      · rw [List.getElem?_map, List.getElem?_range hcR]; rfl
      · refine ite2 (fun h => ?_) (fun h => ?_)
        · exact ⟨_, rfl, kk _ sT h⟩
        · exact kn _ sT (by simpa using h)
    rw [e0] at hDl
    have s12 := same_lock g10 ((same_upd hvw).trans s11)
    refine ⟨s11 _ _ ((same_upd hvw) _ _ upd_same), ?_⟩
    have D3f : D3 ≠ fp := fun z => by rw [z, (same_upd hvw) _ _ upd_same] at hD3; cases hD3
    have hD12 : upd H11 fp (.dK (G.map fun x : Nat => ((.inl ((m x : Nat) : Int), nv x) : Key × V))) D3 = some (.lst ((tabA (fun s => decide (s ∈ A0)) G).map nv)) := by rw [upd_ne D3f]; exact hDl
    generalize upd H11 fp (.dK (G.map fun x : Nat => ((.inl ((m x : Nat) : Int), nv x) : Key × V))) = H12 at s12 hD12 ⊢
    refine .inl ⟨D3, _, rfl, SqL.of hD12, fun ta hta => ⟨by show 2 ≤ sizeLine; decide, fun tr htr => ?_⟩⟩
    have s13 := same_to (same_upd hta (o := .tup ((tabA (fun s => decide (s ∈ A0)) G).map nv))) htr (o := .tup [.ref tt, .ref ta])
    have s0e := (s010.trans s12).trans s13
    refine q _ tr tt ta _ _ s0e ((s010.trans s12).free ((same_upd hta (o := .tup ((tabA (fun s => decide (s ∈ A0)) G).map nv))).free htr)) upd_same ?_ ?_ lst
    · refine Tb.same (s12.trans s13) ?_
      have hall : ∀ y ∈ ys, ∃ b, y = .ref b := fun y hy => by
        obtain ⟨i, e⟩ := List.getElem?_of_mem hy
        obtain ⟨b, h1, _⟩ := hys10 i y e
        exact ⟨b, h1⟩
      refine ⟨ys.map fun y => match y with | .ref b => b | _ => 0, ?_, ?_, fun i b rr e1 e2 => ?_⟩
      · rw [htt10, List.map_map]
        congr 2
        refine (List.map_id' ys).symm.trans (List.map_congr_left fun y hy => ?_)
        obtain ⟨b, rfl⟩ := hall y hy
        rfl
      · rw [List.length_map, hyl]
        unfold tabR
        rw [List.length_map]
      · rw [List.getElem?_map] at e1
        obtain ⟨y, e3, e4⟩ := Option.map_eq_some_iff.mp e1
        obtain ⟨b2, rfl, h2⟩ := hys10 i y e3
        have e4 : b2 = b := e4
        subst e4
        rw [h2]
        unfold tabR at e2
        rw [List.getElem?_map, hGg (by rw [← hyl]; exact (List.getElem?_eq_some_iff.mp e3).1)] at e2
        rw [← Option.some.inj e2]
    · rw [upd_ne (fun z => by rw [← z, upd_same] at htr; cases htr), upd_same]
end
end Ww
end S_Ww3d

section S_Ww4
set_option Elab.async false
set_option linter.all false
set_option maxRecDepth 100000
set_option maxHeartbeats 2000000
/-! Walks 4: the least parting text. -/
namespace Ww
open PySem PySem.Spec PyProof.Rows L2 WwR SlX
open C8 (Cal pe_c)
open MW (Rows suc nx Tab Qu add1 grow QP sucP differs LPart)
/-! ### dicts whose keys are pairs, all True -/
abbrev PT3 := (Nat × Nat) × List Nat
def kp (g : Nat × Nat) : List Key := [.inl (g.1 : Int), .inl (g.2 : Int)]
theorem kp_inj {g h : Nat × Nat} : kp g = kp h ↔ g = h := by
  constructor
  · intro e
    injection e with e1 e2
    injection e2 with e2 _
    exact Prod.ext (key_inj.mp e1) (key_inj.mp e2)
  · intro e; rw [e]
def kP (L : List PT3) : List (List Key × V) := L.map fun x : PT3 => (kp x.1, .bl true)
theorem kP_in {L : List PT3} {g : Nat × Nat} (h : g ∈ L.map Prod.fst) : valV (kP L) (kp g) = some (.bl true) := by
  obtain ⟨x, hx, rfl⟩ := List.mem_map.mp h
  exact valV_map (key := fun x : PT3 => kp x.1) (f := fun _ => .bl true) (fun _ _ _ => rfl) hx
theorem kP_no {L : List PT3} {g : Nat × Nat} (h : g ∉ L.map Prod.fst) : valV (kP L) (kp g) = none :=
  valV_no (key := fun x : PT3 => kp x.1) (f := fun _ => .bl true) fun y hy z => h (List.mem_map.mpr ⟨y, hy, kp_inj.mp z⟩)
theorem kP_put {L : List PT3} {x : PT3} (h : x.1 ∉ L.map Prod.fst) : putK (kP L) (kp x.1) (.bl true) = kP (L ++ [x]) := by
  rw [putK_new]
  · unfold kP; rw [List.map_append]; rfl
  · intro p hp
    obtain ⟨y, hy, rfl⟩ := List.mem_map.mp hp
    exact fun z => h (List.mem_map.mpr ⟨y, hy, kp_inj.mp z⟩)
theorem kP_len {L : List PT3} : (kP L).length = L.length := by unfold kP; rw [List.length_map]
/-! ### layers: tuples of a pair and its text -/
def LyE (H : Hp) (v : V) (x : PT3) : Prop := ∃ e pa, v = .ref e ∧ H e = some (.tup [.ref pa, tx x.2]) ∧ H pa = some (.tup [nv x.1.1, nv x.1.2])
theorem LyE.tx {H H' : Hp} {v : V} {x : PT3} (t : Tx H H') (h : LyE H v x) : LyE H' v x := by
  obtain ⟨e, pa, h1, h2, h3⟩ := h
  exact ⟨e, pa, h1, t _ _ h2, t _ _ h3⟩
def Ly (H : Hp) (ys : List V) (L : List PT3) : Prop := Paired (LyE H) ys L
theorem Ly.tx {H H' : Hp} {ys : List V} {L : List PT3} (t : Tx H H') (h : Ly H ys L) : Ly H' ys L := L2.Paired.mapP h fun _ _ q => q.tx t
theorem pr_len {α β : Type} {F : α → β → Prop} {l : List α} {m : List β} (h : Paired F l m) : l.length = m.length := by
  induction h with
  | nil => rfl
  | cons _ _ ih => rw [List.length_cons, List.length_cons, ih]
theorem pr_app {α β : Type} {F : α → β → Prop} {l l' : List α} {m m' : List β} (h : Paired F l m) (h' : Paired F l' m') : Paired F (l ++ l') (m ++ m') := by
  induction h with
  | nil => exact h'
  | cons r _ ih => exact .cons r ih
theorem pr_get {α β : Type} {F : α → β → Prop} {l : List α} {m : List β} (h : Paired F l m) : ∀ {i : Nat} {a : α}, l[i]? = some a → ∃ b, m[i]? = some b ∧ F a b := by
  induction h with
  | nil => intro i a e; simp at e
  | cons r _ ih =>
    intro i a e
    cases i with
    | zero => cases (Option.some.inj e); exact ⟨_, rfl, r⟩
    | succ i => exact ih (by simpa using e)
def dLy (x : PT3) : PyData := .tuple [.tuple [.int (x.1.1 : Int), .int (x.1.2 : Int)], .str ⟨x.2.toArray⟩]
theorem ly_dp {K : PySem.W.Frag} {H : Hp} {ys : List V} {L : List PT3} (h : Ly H ys L) : DpAll K H ys (L.map dLy) := by
  unfold Ly at h
  induction h with
  | nil => exact .nil
  | cons r _ ih =>
    obtain ⟨e, pa, rfl, h2, h3⟩ := r
    exact .cons (.tup (SqT.of h2) (.cons (.tup (SqT.of h3) (.cons (.int _) (.cons (.int _) .nil))) (.cons (.str _) .nil))) ih
theorem strOk_of {t : List Nat} (h : ∀ c ∈ t, c < 0x110000) : PyData.strOk ⟨t.toArray⟩ = true := by
  unfold PyData.strOk
  rw [Array.all_eq_true]
  intro i hi
  exact decide_eq_true (h _ (by simp))
theorem ly_shp {L : List PT3} (h : ∀ x ∈ L, ∀ c ∈ x.2, c < 0x110000) : SeqAt.shaped (.list (L.map dLy)) = true := by
  have h1 : ∀ L : List PT3, (∀ x ∈ L, ∀ c ∈ x.2, c < 0x110000) → PyData.canLayAll0 (L.map dLy) = true := by
    intro L
    induction L with
    | nil => intro _; rfl
    | cons x L ih =>
      intro h
      show (PyData.canLay0 (dLy x) && PyData.canLayAll0 (L.map dLy)) = true
      rw [ih fun y hy => h y (List.mem_cons_of_mem _ hy)]
      show ((true && (true && (true && true))) && (PyData.strOk ⟨x.2.toArray⟩ && true)) && true = true
      rw [strOk_of (h x List.mem_cons_self)]
      rfl
  have h2 : ∀ L : List PT3, PyData.depthAll (L.map dLy) ≤ 2 := by
    intro L
    induction L with
    | nil => exact Nat.zero_le _
    | cons x L ih => exact Nat.max_le.mpr ⟨by show 2 ≤ 2; exact Nat.le_refl _, ih⟩
  show (PyData.canLayAll0 _ && decide (PyData.depthAll _ + 1 ≤ 64)) = true
  rw [h1 L h, decide_eq_true (by have := h2 L; omega)]
  rfl
theorem map_empty {α β : Type} (L : List α) (f : α → β) : (L.map f).isEmpty = L.isEmpty := by cases L <;> rfl
theorem take_snocG {α : Type} {L : List α} {i : Nat} {x : α} (h : L[i]? = some x) : L.take (i + 1) = L.take i ++ [x] := by
  rw [List.take_succ, h]
  rfl
/-! ### the queue's turn, letter by letter -/
theorem sucP_take {T : Rows} {l : List Nat} {x : PT3} {t : Nat} (h : t < l.length) : (sucP T l x).take (t + 1) = (sucP T l x).take t ++ [((nx T x.1.1 t, nx T x.1.2 t), x.2 ++ [l.getD t 0])] := by
  refine take_snocG ?_
  unfold sucP
  rw [List.getElem?_map, List.getElem?_range h]
  rfl
theorem sucP_all {T : Rows} {l : List Nat} {x : PT3} : (sucP T l x).take l.length = sucP T l x := by
  refine List.take_of_length_le ?_
  unfold sucP
  rw [List.length_map, List.length_range]
  exact Nat.le_refl _
theorem add_in {L : List PT3} {x : PT3} (h : x.1 ∈ L.map Prod.fst) : add1 Prod.fst L x = L := by unfold add1; rw [if_pos h]
theorem add_out {L : List PT3} {x : PT3} (h : x.1 ∉ L.map Prod.fst) : add1 Prod.fst L x = L ++ [x] := by unfold add1; rw [if_neg h]
/-- within a turn the queue is not longer than behind it -/
theorem grow_take {T : Rows} {l : List Nat} (tb : Tab l.length T) {g : Nat × Nat} (hg : g.1 < T.length ∧ g.2 < T.length) {i : Nat} {L : List PT3} (h : QP T l g i L) {x : PT3} (e : L[i]? = some x) (t : Nat) : (grow Prod.fst L ((sucP T l x).take t)).length ≤ T.length * T.length := by
  have h5 := MW.QP.len tb hg (Qu.step h e)
  obtain ⟨N, hN⟩ := MW.grow_pre Prod.fst ((sucP T l x).drop t) (grow Prod.fst L ((sucP T l x).take t))
  rw [← MW.grow_append, List.take_append_drop] at hN
  rw [hN, List.length_append] at h5
  omega
theorem row_at {T : Rows} {k : Nat} (tb : Tab k T) {s a : Nat} (hs : s < T.length) (ha : a < k) : ((suc T s).map nv)[a]? = some (nv (nx T s a)) := by
  rw [List.getElem?_map, MW.suc_eq tb hs, List.getElem?_map, List.getElem?_range ha]
  rfl
def optx : Option (List Nat) → V
  | none => .non
  | some t => tx t
section
variable {P : Program} {w : World} {K : PySem.W.Frag} {mg : Str → Option Value} {base : Heap}

def spParting : Sp := fun vs H Q _ => ∃ (ka ta aa g0 : Addr) (T : Rows) (A l : List Nat) (a b : Nat), vs = [.ref ka, .ref ka, .ref g0, tx l] ∧ H ka = some (.tup [.ref ta, .ref aa]) ∧ Tb H ta T ∧ H aa = some (.tup (A.map nv)) ∧ H g0 = some (.tup [nv a, nv b]) ∧
  Tab l.length T ∧ a < T.length ∧ b < T.length ∧ T.length ≤ 200 ∧ (∀ x ∈ A, x < T.length) ∧ l.length ≤ 10 ∧ (∀ c ∈ l, c < 0x110000) ∧ ∀ H' r, Same H H' → LPart T l A (a, b) r → Q (optx r) H'
theorem dec_bl2 {a b : Bool} : decide (V.bl a = V.bl b) = decide (a = b) := decide_eq_decide.mpr ⟨fun h => V.bl.inj h, fun h => by rw [h]⟩
theorem scLeastParting : FnScope ["one", "other", "starts", "letters", "rows", "marks", "known", "layer", "later", "first", "second", "text", "at", "letter", "pair"] ["one", "other", "starts", "letters"] (defScope sLeastParting) := ⟨rfl, rfl, rfl, by decide +kernel, rfl, by decide +kernel, by decide +kernel⟩
theorem c_least_parting (B : En P w K mg base) : Cal P w K mg base 2 "least_parting" (spParting) [] := by
  refine cal_mk B.f_least_parting scLeastParting (fun _ _ _ _ _ _ us hl => match us, hl with | [_, _, _, _], _ => rfl) (fun vs H Q E h => ?_) fun f cdv A outer s H vs Q E hr h => ?_
  · obtain ⟨ka, ta, aa, g0, T, A, l, a, b, rfl, _⟩ := h
    rfl
  · obtain ⟨ka, ta, aa, g0, T, A, l, a, b, rfl, hka, hT, haa, hg0, tb, ha, hb, hTl, hA, hl, hlc, q⟩ := h
    have hu := hu_of hr
    have hu64 := hr.units
    refine ⟨_, (pss_cons (ps_par (i := 4) (j := 5) rfl scLeastParting.nd rfl rfl (by decide) rfl rfl (pa_cons (pe_tup (pa_cons (pe_ix (ix_tupK K rfl) (pv 0) pe_int (fun _ _ => rfl)) (pa_cons (pe_ix (ix_tupK K rfl) (pv 1) pe_int (fun _ _ => rfl)) pa_nil))) (pa_cons (pe_tup (pa_cons (pe_c (c_marks_of B) hr (by decide) (by rfl) (pa_cons (pe_callB (call_len_seqK K rfl) (by rfl) B.len_ boot_len (pa_cons (pe_ix (ix_tupK K rfl) (pv 0) pe_int (fun _ _ => rfl)) pa_nil)) (pa_cons (pe_ix (ix_tupK K rfl) (pv 0) pe_int (fun _ _ => rfl)) pa_nil))) (pa_cons (pe_c (c_marks_of B) hr (by decide) (by rfl) (pa_cons (pe_callB (call_len_seqK K rfl) (by rfl) B.len_ boot_len (pa_cons (pe_ix (ix_tupK K rfl) (pv 1) pe_int (fun _ _ => rfl)) pa_nil)) (pa_cons (pe_ix (ix_tupK K rfl) (pv 1) pe_int (fun _ _ => rfl)) pa_nil))) pa_nil))) pa_nil)) rfl)
    (pss_cons (ps_set (i := 6) scLeastParting.nd rfl (Or.inl rfl) (pe_disp1T hu64 (pv 2) pe_bl))
    (pss_cons (ps_set (i := 7) scLeastParting.nd rfl (Or.inl rfl) (pe_lst (pa_cons (pe_tup (pa_cons (pv 2) (pa_cons pe_str pa_nil))) pa_nil)))
    (pss_cons (ps_while PassesOwn.never (pt_cmpR (op_neD hu64) (pv 7) (pe_lst pa_nil) (nomark _)) (pss_cons (ps_set (i := 8) scLeastParting.nd rfl (Or.inl rfl) (pe_lst pa_nil))
    (pss_cons (ps_for PassesOwn.never rfl (pi_listK K rfl (pv 7)) (pg_tup rfl (pgs_cons (pg_tup rfl (pgs_cons (pg_name (i := 9) scLeastParting.nd rfl (Or.inl rfl)) (pgs_cons (pg_name (i := 10) scLeastParting.nd rfl (Or.inl rfl)) pgs_nil))) (pgs_cons (pg_name (i := 11) scLeastParting.nd rfl (Or.inl rfl)) pgs_nil))) (pss_cons (ps_if (pt_cmpR op_ne (pe_ix (ix_listK K rfl) (pe_ix (ix_tupK K rfl) (pv 5) pe_int (fun _ _ => rfl)) (pv 9) (fun _ _ => rfl)) (pe_ix (ix_listK K rfl) (pe_ix (ix_tupK K rfl) (pv 5) pe_int (fun _ _ => rfl)) (pv 10) (fun _ _ => rfl)) (nomark _)) (pss_one (ps_ret (pv 11))) pss_nil)
    (pss_one (ps_for PassesOwn.never rfl (pi_enumS (by rfl) B.enumerate_ (pa_cons (pv 3) pa_nil)) (pg_tup rfl (pgs_cons (pg_name (i := 12) scLeastParting.nd rfl (Or.inl rfl)) (pgs_cons (pg_name (i := 13) scLeastParting.nd rfl (Or.inl rfl)) pgs_nil))) (pss_cons (ps_set (i := 14) scLeastParting.nd rfl (Or.inl rfl) (pe_tup (pa_cons (pe_ix (ix_tupK K rfl) (pe_ix (ix_tupK K rfl) (pe_ix (ix_tupK K rfl) (pv 4) pe_int (fun _ _ => rfl)) (pv 9) (fun _ _ => rfl)) (pv 12) (fun _ _ => rfl)) (pa_cons (pe_ix (ix_tupK K rfl) (pe_ix (ix_tupK K rfl) (pe_ix (ix_tupK K rfl) (pv 4) pe_int (fun _ _ => rfl)) (pv 10) (fun _ _ => rfl)) (pv 12) (fun _ _ => rfl)) pa_nil))))
    (pss_one (ps_if (pt_cmp (pc_dnotin hu (pv 14) (pv 6))) (pss_cons (ps_dput hu (pv 6) (pv 14) pe_bl rfl)
    (pss_one (ps_expr (pe_bm PySem.F.plainAttrs_list PySem.F.slot_list_append PySem.F.type_list_append mt_append (pv 8) (pa_cons (pe_tup (pa_cons (pv 14) (pa_cons (pe_op op_add_str (pv 11) (pv 13)) pa_nil))) pa_nil))))) pss_nil)))))))
    (pss_one (ps_set (i := 7) scLeastParting.nd rfl (Or.inl rfl) (pe_callTy call_list_of (by rfl) B.list_ boot_list (pa_cons (pv 8) pa_nil)))))))
    (pss_one (ps_ret pe_non)))))), ?_⟩
    obtain ⟨bs, hta, hbl, hrow⟩ := suc_row hT
    have hTT : T.length * T.length ≤ 40000 := Nat.mul_le_mul hTl hTl
    have hg : ((a, b) : Nat × Nat).1 < T.length ∧ ((a, b) : Nat × Nat).2 < T.length := ⟨ha, hb⟩
    refine ⟨_, rfl, ka, _, 0, _, rfl, rfl, SqT.of hka, rfl, _, rfl, ka, _, 0, _, rfl, rfl, SqT.of hka, rfl, by show 2 ≤ sizeLine; decide, fun rp hrp => ?_⟩
    have s1 := same_upd hrp (o := .tup [.ref ta, .ref ta])
    have hr1 : upd H rp (.tup [.ref ta, .ref ta]) rp = some (.tup [.ref ta, .ref ta]) := upd_same
    generalize upd H rp (.tup [.ref ta, .ref ta]) = H1 at s1 hr1 ⊢
    refine ⟨_, rfl, ka, _, 0, _, rfl, rfl, SqT.of (s1 _ _ hka), rfl, ta, _, rfl, .inr (SqT.of (s1 _ _ hta)), _, rfl, ka, _, 1, _, rfl, rfl, SqT.of (s1 _ _ hka), rfl, ?_⟩
    rw [List.length_map, hbl]
    refine ⟨T.length, aa, A, rfl, s1 _ _ haa, hTl, hA, fun H2 m1 s2 m10 hm1 => ?_⟩
    have s12 := s1.trans s2
    refine ⟨_, rfl, ka, _, 0, _, rfl, rfl, SqT.of (s12 _ _ hka), rfl, ta, _, rfl, .inr (SqT.of (s12 _ _ hta)), _, rfl, ka, _, 1, _, rfl, rfl, SqT.of (s12 _ _ hka), rfl, ?_⟩
    rw [List.length_map, hbl]
    refine ⟨T.length, aa, A, rfl, s12 _ _ haa, hTl, hA, fun H3 m2 s3 m20 hm2 => ⟨by show 2 ≤ sizeLine; decide, fun mp hmp => ⟨_, _, rfl, ?_⟩⟩⟩
    have s4 := same_upd hmp (o := .tup [.ref m1, .ref m2])
    have hm4 : upd H3 mp (.tup [.ref m1, .ref m2]) mp = some (.tup [.ref m1, .ref m2]) := upd_same
    generalize upd H3 mp (.tup [.ref m1, .ref m2]) = H4 at s4 hm4 ⊢
    have hm1 := s4 _ _ (s3 _ _ hm1)
    have hm2 := s4 _ _ hm2
    have hr4 := s4 _ _ (s3 _ _ (s2 _ _ hr1))
    have s04 := (s12.trans s3).trans s4
    refine fun kd hkd => ⟨_, rfl, upd_same, g0, kp (a, b), rfl, (same_upd hkd) _ _ (s04 _ _ hg0), ?_⟩
    rw [upd_upd]
    have s5 := same_upd hkd (o := .dT [(kp (a, b), .bl true)])
    refine ⟨_, rfl, by show 2 ≤ sizeLine; decide, fun e1 he1 => ⟨by show 1 ≤ sizeLine; decide, fun lp hlp => ?_⟩⟩
    have s6 := same_upd he1 (o := .tup [.ref g0, tx []])
    have s7 := same_upd hlp (o := .lst [.ref e1])
    have kd0 : H kd = none := s04.free hkd
    have lp0 : H lp = none := ((s04.trans s5).trans s6).free hlp
    refine while_n (T.length * T.length) (fun i σ H8 => ∃ (L : List PT3) (lp : Addr) (ys : List V) (x8 x9 x10 x11 x12 x13 x14 : Option V), σ = [some (.ref ka), some (.ref ka), some (.ref g0), some (tx l), some (.ref rp), some (.ref mp), some (.ref kd), some (.ref lp), x8, x9, x10, x11, x12, x13, x14] ∧ Same H4 H8 ∧ H lp = none ∧
      H8 kd = some (.dT (kP L)) ∧ H8 lp = some (.lst ys) ∧ Ly H8 ys (L.drop i) ∧ i ≤ L.length ∧ QP T l (a, b) i L ∧ ∀ j, j < i → ∀ y, L[j]? = some y → differs A y.1 = false) (Nat.zero_le _) ⟨[((a, b), [])], lp, [.ref e1], _, _, _, _, _, _, _, rfl, (s5.trans s6).trans s7, lp0, s7 _ _ (s6 _ _ upd_same), upd_same, .cons ⟨e1, g0, rfl, s7 _ _ upd_same, s7 _ _ (s6 _ _ (s5 _ _ (s04 _ _ hg0)))⟩ .nil, Nat.zero_le _, Qu.start, fun j hj => absurd hj (Nat.not_lt_zero _)⟩ (fun i σ H8 hiN h => ?_) mono_ne
    obtain ⟨L, lp, ys, x8, x9, x10, x11, x12, x13, x14, rfl, s8, lp0, hkd8, hlp8, hly, hi, hq, hdf⟩ := h
    have hLl := MW.QP.len tb hg hq
    refine while_ne (a := lp) (xs := ys) (ds := (L.drop i).map dLy) rfl hlp8 (fun H' s => ly_dp (hly.tx (.of s))) (ly_shp fun x hx c hc => ?_) fun e2 he2 => ?_
    · obtain ⟨j, hj⟩ := List.getElem?_of_mem (List.mem_of_mem_drop hx)
      exact hlc c ((MW.QP.texts hq j x hj).2 c hc)
    rw [map_empty]
    have s9 := same_upd he2 (o := .lst [])
    refine ite2 (fun hne => ?_) (fun hne => ?_)
    · have hlt : i < L.length := by
        by_cases z : i < L.length
        · exact z
        · rw [List.drop_of_length_le (by omega)] at hne
          exact absurd hne (by simp)
      refine ⟨Nat.zero_le _, fun qp hqp => ?_⟩
      have s10 := same_to s9 hqp (o := .lst [])
      have qp0 : H qp = none := (s04.trans (s8.trans s9)).free hqp
      have qk : qp ≠ kd := fun z => by rw [z, s9 _ _ hkd8] at hqp; cases hqp
      have ql : qp ≠ lp := fun z => by rw [z, s9 _ _ hlp8] at hqp; cases hqp
      have q4 : H4 qp = none := (s8.trans s9).free hqp
      have k4 : H4 kd = none := hkd
      refine ⟨_, rfl, lp, rfl, ⟨_, SqL.of (s10 _ _ hlp8)⟩, for_list (xs := ys) (fun j σ H9 => ∃ (M : List PT3) (zs : List V) (x9 x10 x11 x12 x13 x14 : Option V), σ = [some (.ref ka), some (.ref ka), some (.ref g0), some (tx l), some (.ref rp), some (.ref mp), some (.ref kd), some (.ref lp), some (.ref qp), x9, x10, x11, x12, x13, x14] ∧ Same H4 H9 ∧ H9 lp = some (.lst ys) ∧ Ly H9 ys (L.drop i) ∧
        H9 kd = some (.dT (kP (L ++ M))) ∧ H9 qp = some (.lst zs) ∧ Ly H9 zs M ∧ QP T l (a, b) (i + j) (L ++ M) ∧ ∀ t, t < i + j → ∀ y, (L ++ M)[t]? = some y → differs A y.1 = false) ⟨[], [], _, _, _, _, _, _, rfl, s8.trans s10, s10 _ _ hlp8, hly.tx (.of s10), ?_, upd_same, .nil, ?_, ?_⟩ (fun j σ H9 _ h => ?_) (fun j x σ H9 hx h => ?_) (fun σ H9 h => ?_)⟩
      · rw [List.append_nil]; exact s10 _ _ hkd8
      · rw [List.append_nil]; exact hq
      · rw [List.append_nil]; exact hdf
      · obtain ⟨_, _, _, _, _, _, _, _, _, _, h1, _⟩ := h
        exact SqL.of h1
      · obtain ⟨M, zs, y9, y10, y11, y12, y13, y14, rfl, g1, g2, g3, g4, g5, g6, g7, g8⟩ := h
        obtain ⟨⟨⟨f1, f2⟩, tt⟩, e3, e, pa, rfl, h2, h3⟩ := pr_get g3 hx
        rw [List.getElem?_drop] at e3
        have e4 : (L ++ M)[i + j]? = some ((f1, f2), tt) := by rw [List.getElem?_append_left (List.getElem?_eq_some_iff.mp e3).1]; exact e3
        have hf := MW.QP.lt tb hg g7 _ (List.mem_of_getElem? e4)
        have hf1 : f1 < T.length := hf.1
        have hf2 : f2 < T.length := hf.2
        have htt := MW.QP.texts g7 _ _ e4
        have hML := MW.QP.len tb hg g7
        have hij := (List.getElem?_eq_some_iff.mp e4).1
        have hm1' := g1 _ _ hm1
        have hm2' := g1 _ _ hm2
        refine ⟨e, _, rfl, SqT.of h2, rfl, _, _, rfl, pa, _, rfl, SqT.of h3, rfl, _, _, rfl, _, _, rfl, rfl, _, _, rfl, rfl, ?_⟩
        refine ⟨_, rfl, mp, _, 0, _, rfl, rfl, SqT.of (g1 _ _ hm4), rfl, _, rfl, m1, _, _, .bl (decide (f1 ∈ A)), rfl, rfl, SqL.of hm1', atI_nat ?_, _, rfl, mp, _, 1, _, rfl, rfl, SqT.of (g1 _ _ hm4), rfl, _, rfl, m2, _, _, .bl (decide (f2 ∈ A)), rfl, rfl, SqL.of hm2', atI_nat ?_, rfl, _, rfl, ?_⟩
        · rw [List.getElem?_map, List.getElem?_range hf1]; rfl
        · rw [List.getElem?_map, List.getElem?_range hf2]; rfl
        rw [dec_bl2]
        refine ite2 (fun hd => ?_) (fun hd => ?_)
        · have hd2 : differs A (f1, f2) = true := by
            unfold differs
            simpa using hd
          exact ⟨_, rfl, q _ (some tt) (s04.trans g1) (.inl ⟨_, _, _, g7, e4, hd2, g8, rfl⟩)⟩
        have hd2 : differs A (f1, f2) = false := by
          unfold differs
          simpa using hd
        refine ⟨_, rfl, _, rfl, for_it walk_N (fun t σ H10 => ∃ (N : List PT3) (zs : List V) (x12 x13 x14 : Option V), σ = [some (.ref ka), some (.ref ka), some (.ref g0), some (tx l), some (.ref rp), some (.ref mp), some (.ref kd), some (.ref lp), some (.ref qp), some (nv f1), some (nv f2), some (tx tt), x12, x13, x14] ∧ Same H4 H10 ∧ H10 lp = some (.lst ys) ∧ Ly H10 ys (L.drop i) ∧
          H10 kd = some (.dT (kP (L ++ N))) ∧ H10 qp = some (.lst zs) ∧ Ly H10 zs N ∧ L ++ N = grow Prod.fst (L ++ M) ((sucP T l ((f1, f2), tt)).take t)) ⟨M, zs, _, _, _, rfl, g1, g2, g3, g4, g5, g6, rfl⟩ (fun _ _ _ _ _ => trivial) (fun t x σ H10 H11 ht h y => ?_) (fun σ H10 h => ?_)⟩
        · obtain ⟨N, ws, z12, z13, z14, rfl, k1, k2, k3, k4', k5, k6, k7⟩ := h
          obtain ⟨T1, xs, rfl, hT1, rfl, c, ec, rfl⟩ := y
          have ht : t < l.length := by simpa using ht
          have ec : l[t]? = some c := by simpa using ec
          have s11 := same_upd hT1 (o := .tup [.int (t : Nat), .str ⟨#[c]⟩])
          obtain ⟨b1, hb1, hb2, hb3⟩ := hrow f1 hf1
          obtain ⟨b2, hc1, hc2, hc3⟩ := hrow f2 hf2
          have kk1 := k1.trans s11
          refine ⟨T1, _, rfl, SqT.of upd_same, rfl, _, _, rfl, _, _, rfl, rfl, ?_⟩
          refine ⟨_, rfl, rp, _, 0, _, rfl, rfl, SqT.of (kk1 _ _ hr4), rfl, _, rfl, ta, _, _, _, rfl, rfl, SqT.of (kk1 _ _ (s04 _ _ hta)), atI_nat hb2, _, rfl, b1, _, _, _, rfl, rfl, SqT.of (kk1 _ _ (s04 _ _ hb3)), atI_nat (row_at tb hf1 ht), _, rfl, rp, _, 1, _, rfl, rfl, SqT.of (kk1 _ _ hr4), rfl, _, rfl, ta, _, _, _, rfl, rfl, SqT.of (kk1 _ _ (s04 _ _ hta)), atI_nat hc2, _, rfl, b2, _, _, _, rfl, rfl, SqT.of (kk1 _ _ (s04 _ _ hc3)), atI_nat (row_at tb hf2 ht), by show 2 ≤ sizeLine; decide, fun np hnp => ?_⟩
          have s12 := same_to s11 hnp (o := .tup [nv (nx T f1 t), nv (nx T f2 t)])
          have hnp1 : upd (upd H10 T1 (.tup [.int (t : Nat), .str ⟨#[c]⟩])) np (.tup [nv (nx T f1 t), nv (nx T f2 t)]) np = some (.tup [nv (nx T f1 t), nv (nx T f2 t)]) := upd_same
          generalize upd (upd H10 T1 (.tup [.int (t : Nat), .str ⟨#[c]⟩])) np (.tup [nv (nx T f1 t), nv (nx T f2 t)]) = H12 at s12 hnp1 ⊢
          have hkd12 := s12 _ _ k4'
          have tk := sucP_take (T := T) (x := ((f1, f2), tt)) ht
          have hlen := grow_take tb hg g7 e4 t
          rw [← k7] at hlen
          have ecd : l.getD t 0 = c := getD_of ec
          by_cases hin : ((nx T f1 t, nx T f2 t) : Nat × Nat) ∈ (L ++ N).map Prod.fst
          · refine ⟨_, rfl, _, rfl, kd, _, rfl, DGet.t (k := kp (nx T f1 t, nx T f2 t)) hkd12 hnp1, _, rfl, ?_⟩
            rw [kP_in hin]
            refine iteF ⟨N, ws, _, _, _, rfl, k1.trans s12, s12 _ _ k2, k3.tx (.of s12), hkd12, s12 _ _ k5, k6.tx (.of s12), ?_⟩
            rw [tk, MW.grow_snoc, ← k7, add_in hin]
          · refine ⟨_, rfl, _, rfl, kd, _, rfl, DGet.t (k := kp (nx T f1 t, nx T f2 t)) hkd12 hnp1, _, rfl, ?_⟩
            rw [kP_no hin]
            refine iteT ⟨_, rfl, _, rfl, kd, _, rfl, DPut.t (k := kp (nx T f1 t, nx T f2 t)) hkd12 hnp1 (by rw [kP_len]; exact Nat.lt_of_le_of_lt (Nat.le_trans hlen hTT) (by decide)), ?_⟩
            have nk : np ≠ kd := fun z => by rw [z, hkd12] at hnp1; cases hnp1
            have kput := kP_put (L := L ++ N) (x := ((nx T f1 t, nx T f2 t), tt ++ [c])) hin
            have hq13 : upd H12 kd (.dT (putK (kP (L ++ N)) (kp (nx T f1 t, nx T f2 t)) (.bl true))) qp = some (.lst ws) := by rw [upd_ne qk]; exact s12 _ _ k5
            have tx13 : Tx H12 (upd H12 kd (.dT (putK (kP (L ++ N)) (kp (nx T f1 t, nx T f2 t)) (.bl true)))) := fun a xs h => by rw [upd_ne (fun z => by rw [z, hkd12] at h; cases h)]; exact h
            have s13 : Same H4 (upd H12 kd (.dT (putK (kP (L ++ N)) (kp (nx T f1 t, nx T f2 t)) (.bl true)))) := same_at (k1.trans s12) k4
            have hkd13 : upd H12 kd (.dT (putK (kP (L ++ N)) (kp (nx T f1 t, nx T f2 t)) (.bl true))) kd = some (.dT (kP (L ++ (N ++ [((nx T f1 t, nx T f2 t), tt ++ [c])])))) := by
              rw [upd_same, ← List.append_assoc]
              exact congrArg some (congrArg HO.dT kput)
            have hlp13 : upd H12 kd (.dT (putK (kP (L ++ N)) (kp (nx T f1 t, nx T f2 t)) (.bl true))) lp = some (.lst ys) := by rw [upd_ne (fun z => by have e := s12 _ _ k2; rw [z, hkd12] at e; cases e)]; exact s12 _ _ k2
            have hnp13 := tx13 _ _ hnp1
            generalize upd H12 kd (.dT (putK (kP (L ++ N)) (kp (nx T f1 t, nx T f2 t)) (.bl true))) = H13 at hq13 tx13 s13 hkd13 hlp13 hnp13 ⊢
            refine ⟨_, rfl, .inl ⟨rfl, _, SqL.of hq13⟩, _, rfl, _, rfl, _, rfl, _, _, rfl, rfl, ?_, by show 2 ≤ sizeLine; decide, fun ep hep => ⟨qp, ws, _, rfl, rfl, ?_, ?_, ?_⟩⟩
            · have h1 : tt.length ≤ i + j := htt.1
              show tt.toArray.size + 1 ≤ sizeLine
              rw [List.size_toArray]
              exact Nat.le_trans (m := 40001) (by omega) (by decide)
            · exact (same_upd hep) _ _ hq13
            · have h1 := pr_len k6
              rw [List.length_append] at hlen
              exact Nat.lt_of_le_of_lt (m := 40000) (by omega) (by decide)
            have s14 := same_upd hep (o := .tup [.ref np, .str (⟨tt.toArray⟩ ++ ⟨#[c]⟩)])
            have qe : qp ≠ ep := fun z => by rw [← z, hq13] at hep; cases hep
            have tq : Tx (upd H13 ep (.tup [.ref np, .str (⟨tt.toArray⟩ ++ ⟨#[c]⟩)])) (upd (upd H13 ep (.tup [.ref np, .str (⟨tt.toArray⟩ ++ ⟨#[c]⟩)])) qp (.lst (ws ++ [.ref ep]))) := Tx.upd (s14 _ _ hq13)
            have t15 := (Tx.of s14).trans tq
            refine ⟨N ++ [((nx T f1 t, nx T f2 t), tt ++ [c])], ws ++ [.ref ep], _, _, _, rfl, same_at (s13.trans s14) q4, ?_, ?_, ?_, upd_same, ?_, ?_⟩
            · rw [upd_ne ql.symm]; exact s14 _ _ hlp13
            · exact k3.tx (((Tx.of s12).trans tx13).trans t15)
            · rw [upd_ne qk.symm]; exact s14 _ _ hkd13
            · refine pr_app (k6.tx (((Tx.of s12).trans tx13).trans t15)) (.cons ⟨ep, np, rfl, tq _ _ ?_, t15 _ _ hnp13⟩ .nil)
              rw [upd_same]
              show some (HO.tup [.ref np, .str (⟨tt.toArray⟩ ++ ⟨[c].toArray⟩)]) = _
              rw [tx_app]
            · rw [tk, MW.grow_snoc, ← k7, ← List.append_assoc, ecd, add_out hin]
        · obtain ⟨N, ws, z12, z13, z14, rfl, k1, k2, k3, k4', k5, k6, k7⟩ := h
          have e5 : Array.size (Str.cps ⟨l.toArray⟩) = l.length := by simp
          rw [e5, sucP_all] at k7
          have hqn := Qu.step g7 e4
          rw [← k7] at hqn
          refine ⟨N, ws, _, _, _, _, _, _, rfl, k1, k2, k3, k4', k5, k6, hqn, fun u hu y hy => ?_⟩
          obtain ⟨W, hW⟩ := MW.grow_pre Prod.fst (sucP T l ((f1, f2), tt)) (L ++ M)
          rw [← k7] at hW
          have hu2 : u < (L ++ M).length := by omega
          rw [hW, List.getElem?_append_left hu2] at hy
          by_cases hul : u < i + j
          · exact g8 u hul y hy
          · have : u = i + j := by omega
            subst this
            rw [e4] at hy
            cases hy
            exact hd2
      · obtain ⟨M, zs, y9, y10, y11, y12, y13, y14, rfl, g1, g2, g3, g4, g5, g6, g7, g8⟩ := h
        rw [pr_len hly, List.length_drop, show i + (L.length - i) = L.length by omega] at g7 g8
        have hML := MW.QP.len tb hg g7
        rw [List.length_append] at hML
        refine ⟨_, rfl, qp, _, rfl, .inl (SqL.of g5), fun lq hlq => ?_⟩
        have s11 := same_upd hlq (o := .lst zs)
        refine ⟨L.length, hlt, by omega, L ++ M, lq, zs, _, _, _, _, _, _, _, rfl, g1.trans s11, (s04.trans g1).free hlq, s11 _ _ g4, upd_same, ?_, by rw [List.length_append]; omega, g7, g8⟩
        rw [List.drop_left]
        exact g6.tx (.of s11)
    · have hie : i = L.length := by
        by_cases z : i < L.length
        · exfalso
          refine hne ?_
          have : (L.drop i).length ≠ 0 := by rw [List.length_drop]; omega
          cases hh : L.drop i with
          | nil => rw [hh] at this; exact absurd rfl this
          | cons _ _ => rfl
        · omega
      subst hie
      refine q _ none ((s04.trans s8).trans s9) (.inr ⟨rfl, L, hq, fun y hy => ?_⟩)
      obtain ⟨j, hj⟩ := List.getElem?_of_mem hy
      exact hdf j (List.getElem?_eq_some_iff.mp hj).1 y hj
end
end Ww
end S_Ww4

section S_Ww5
set_option Elab.async false
set_option linter.all false
set_option maxRecDepth 100000
set_option maxHeartbeats 2000000
/-! Walks 5: the first open place. -/
namespace Ww
open PySem PySem.Spec PyProof.Rows L2 WwR SlX
open C8 (Cal pe_c)
open MW (Rows suc nx Tab Qu add1 grow QT sucT LT FirstBad TextOf badAt parts goals)
/-! ### dicts whose keys are states, all True -/
abbrev PT2 := Nat × List Nat
def kS (L : List PT2) : List (Key × V) := L.map fun x : PT2 => (.inl (x.1 : Int), .bl true)
theorem kS_in {L : List PT2} {g : Nat} (h : g ∈ L.map Prod.fst) : valV (kS L) (.inl (g : Int)) = some (.bl true) := by
  obtain ⟨x, hx, rfl⟩ := List.mem_map.mp h
  exact valV_map (key := fun x : PT2 => (.inl (x.1 : Int) : Key)) (f := fun _ => .bl true) (fun _ _ _ => rfl) hx
theorem kS_no {L : List PT2} {g : Nat} (h : g ∉ L.map Prod.fst) : valV (kS L) (.inl (g : Int)) = none :=
  valV_no (key := fun x : PT2 => (.inl (x.1 : Int) : Key)) (f := fun _ => .bl true) fun y hy z => h (List.mem_map.mpr ⟨y, hy, key_inj.mp z⟩)
theorem kS_put {L : List PT2} {x : PT2} (h : x.1 ∉ L.map Prod.fst) : putK (kS L) (.inl (x.1 : Int)) (.bl true) = kS (L ++ [x]) := by
  rw [putK_new]
  · unfold kS; rw [List.map_append]; rfl
  · intro p hp
    obtain ⟨y, hy, rfl⟩ := List.mem_map.mp hp
    exact fun z => h (List.mem_map.mpr ⟨y, hy, key_inj.mp z⟩)
theorem kS_len {L : List PT2} : (kS L).length = L.length := by unfold kS; rw [List.length_map]
/-! ### layers: tuples of a state and its text -/
def LsE (H : Hp) (v : V) (x : PT2) : Prop := ∃ e, v = .ref e ∧ H e = some (.tup [nv x.1, tx x.2])
def Ls (H : Hp) (ys : List V) (L : List PT2) : Prop := Paired (LsE H) ys L
theorem Ls.tx {H H' : Hp} {ys : List V} {L : List PT2} (t : Tx H H') (h : Ls H ys L) : Ls H' ys L := L2.Paired.mapP h fun _ _ ⟨e, h1, h2⟩ => ⟨e, h1, t _ _ h2⟩
def dLs (x : PT2) : PyData := .tuple [.int (x.1 : Int), .str ⟨x.2.toArray⟩]
theorem ls_dp {K : PySem.W.Frag} {H : Hp} {ys : List V} {L : List PT2} (h : Ls H ys L) : DpAll K H ys (L.map dLs) := by
  unfold Ls at h
  induction h with
  | nil => exact .nil
  | cons r _ ih =>
    obtain ⟨e, rfl, h2⟩ := r
    exact .cons (.tup (SqT.of h2) (.cons (.int _) (.cons (.str _) .nil))) ih
theorem ls_shp {L : List PT2} (h : ∀ x ∈ L, ∀ c ∈ x.2, c < 0x110000) : SeqAt.shaped (.list (L.map dLs)) = true := by
  have h1 : ∀ L : List PT2, (∀ x ∈ L, ∀ c ∈ x.2, c < 0x110000) → PyData.canLayAll0 (L.map dLs) = true := by
    intro L
    induction L with
    | nil => intro _; rfl
    | cons x L ih =>
      intro h
      show (PyData.canLay0 (dLs x) && PyData.canLayAll0 (L.map dLs)) = true
      rw [ih fun y hy => h y (List.mem_cons_of_mem _ hy)]
      show (true && (PyData.strOk ⟨x.2.toArray⟩ && true)) && true = true
      rw [strOk_of (h x List.mem_cons_self)]
      rfl
  have h2 : ∀ L : List PT2, PyData.depthAll (L.map dLs) ≤ 2 := by
    intro L
    induction L with
    | nil => exact Nat.zero_le _
    | cons x L ih => exact Nat.max_le.mpr ⟨by show 1 ≤ 2; decide, ih⟩
  show (PyData.canLayAll0 _ && decide (PyData.depthAll _ + 1 ≤ 64)) = true
  rw [h1 L h, decide_eq_true (by have := h2 L; omega)]
  rfl
theorem sucT_take {T : Rows} {l : List Nat} {x : PT2} {t : Nat} (h : t < l.length) : (sucT T l x).take (t + 1) = (sucT T l x).take t ++ [(nx T x.1 t, x.2 ++ [l.getD t 0])] := by
  refine take_snocG ?_
  unfold sucT
  rw [List.getElem?_map, List.getElem?_range h]
  rfl
theorem sucT_all {T : Rows} {l : List Nat} {x : PT2} : (sucT T l x).take l.length = sucT T l x := by
  refine List.take_of_length_le ?_
  unfold sucT
  rw [List.length_map, List.length_range]
  exact Nat.le_refl _
theorem addS_in {L : List PT2} {x : PT2} (h : x.1 ∈ L.map Prod.fst) : add1 Prod.fst L x = L := by unfold add1; rw [if_pos h]
theorem addS_out {L : List PT2} {x : PT2} (h : x.1 ∉ L.map Prod.fst) : add1 Prod.fst L x = L ++ [x] := by unfold add1; rw [if_neg h]
theorem growS_take {T : Rows} {l A : List Nat} (tb : LT l.length T A) {i : Nat} {L : List PT2} (h : QT T l i L) {x : PT2} (e : L[i]? = some x) (t : Nat) : (grow Prod.fst L ((sucT T l x).take t)).length ≤ T.length := by
  have h5 := (MW.QT.at tb (Qu.step h e)).2
  obtain ⟨N, hN⟩ := MW.grow_pre Prod.fst ((sucT T l x).drop t) (grow Prod.fst L ((sucT T l x).take t))
  rw [← MW.grow_append, List.take_append_drop] at hN
  rw [hN, List.length_append] at h5
  omega
theorem qt_texts {T : Rows} {l : List Nat} {i : Nat} {L : List PT2} (h : QT T l i L) : ∀ (j : Nat) (x : PT2), L[j]? = some x → x.2.length ≤ j ∧ ∀ c ∈ x.2, c ∈ l :=
  MW.text_len (l := l) (fun x y hy => by
    obtain ⟨a, ha, rfl⟩ := List.mem_map.mp hy
    exact ⟨_, MW.getD_mem (List.mem_range.mp ha), rfl⟩) h
/-! ### loose pairs, by the places of their letters -/
def lps (l : List Nat) (cs : List (List Nat)) : List (Nat × Nat) := (ixp l.length).filter fun p => decide (pt l p ∉ cs)
theorem lps_txt (l : List Nat) (cs : List (List Nat)) : (prs l).filter (fun c => decide (c ∉ cs)) = (lps l cs).map (pt l) := by
  unfold prs lps
  rw [List.filter_map]
  rfl
theorem lps_lt {l : List Nat} {cs : List (List Nat)} {p : Nat × Nat} (h : p ∈ lps l cs) : p.1 < p.2 ∧ p.2 < l.length := ixp_lt (List.mem_filter.mp h).1
theorem lps_len {l : List Nat} {cs : List (List Nat)} (h : l.length ≤ 10) : (lps l cs).length ≤ 100 := by
  refine Nat.le_trans (List.length_filter_le _ _) (Nat.le_trans (ixp_len _) ?_)
  exact Nat.mul_le_mul h h
theorem find_at {α : Type} {p : α → Bool} : ∀ {L : List α} {j : Nat} {x : α}, (∀ t, t < j → ∀ y, L[t]? = some y → p y = false) → L[j]? = some x → p x = true → L.find? p = some x
  | [], j, x, _, e, _ => by simp at e
  | a :: L, 0, x, _, e, h => by
    cases (Option.some.inj e)
    rw [List.find?_cons_of_pos h]
  | a :: L, j + 1, x, hf, e, h => by
    have h0 := hf 0 (Nat.succ_pos _) a rfl
    rw [List.find?_cons_of_neg (by rw [h0]; exact Bool.false_ne_true)]
    exact find_at (fun t ht y hy => hf (t + 1) (Nat.succ_lt_succ ht) y hy) (by simpa using e) h
theorem letters_val {l : List Nat} (hn : l.Nodup) {i c : Nat} (h : l[i]? = some c) : valV ((List.range l.length).map fun i => ((.inr ⟨#[l.getD i 0]⟩, nv i) : Key × V)) (.inr ⟨#[c]⟩) = some (nv i) := by
  have hi := (List.getElem?_eq_some_iff.mp h).1
  rw [← getD_of h]
  refine valV_map (key := fun i : Nat => (.inr ⟨#[l.getD i 0]⟩ : Key)) (f := fun i => nv i) (fun y hy e => ?_) (List.mem_range.mpr hi)
  have hy := List.mem_range.mp hy
  injection e with e
  injection e with e
  have e : l.getD y 0 = l.getD i 0 := by simpa using e
  rw [List.getD_eq_getElem?_getD, List.getD_eq_getElem?_getD, List.getElem?_eq_getElem hy, List.getElem?_eq_getElem hi] at e
  rw [nd_inj hn hy hi e]
theorem dec_nv {a b : Nat} : decide (nv a = nv b) = decide (a = b) := decide_eq_decide.mpr ⟨fun h => by injection h with h; omega, fun h => by rw [h]⟩
section
variable {P : Program} {w : World} {K : PySem.W.Frag} {mg : Str → Option Value} {base : Heap}

def spFirstOpen (K : PySem.W.Frag) : Sp := fun vs H Q _ => ∃ (wa ra : Addr) (T : Rows) (A l : List Nat) (cs : List (List Nat)), vs = [.ref wa, .ref ra] ∧ WebAt K H wa l cs ∧ Tb H ra T ∧ LT l.length T A ∧ T.length ≤ 200 ∧ l.length ≤ 10 ∧ (∀ c ∈ l, c < 0x110000) ∧ l.Nodup ∧
  (∀ H', Same H H' → FirstBad T (lps l cs) none → Q .non H') ∧
  (∀ H' r g i p t, Same H H' → H' r = some (.tup [tx t, tx (pt l p), .ref g]) → H' g = some (.tup [nv (goals T i p).1, nv (goals T i p).2]) → FirstBad T (lps l cs) (some (i, p)) → TextOf T l i t → Q (.ref r) H')
theorem scFirstOpen : FnScope ["web", "rows", "known", "layer", "places", "at", "letter", "pairs", "pair", "later", "state", "text", "one", "other", "goals"] ["web", "rows"] (defScope sFirstOpen) := ⟨rfl, rfl, rfl, by decide +kernel, rfl, by decide +kernel, by decide +kernel⟩
theorem c_first_open (B : En P w K mg base) : Cal P w K mg base 4 "first_open" (spFirstOpen K) [] := by
  refine cal_mk B.f_first_open scFirstOpen (fun _ _ _ _ _ _ us hl => match us, hl with | [_, _], _ => rfl) (fun vs H Q E h => ?_) fun f cdv A outer s H vs Q E hr h => ?_
  · obtain ⟨wa, ra, T, A, l, cs, rfl, _⟩ := h
    rfl
  · obtain ⟨wa, ra, T, A, l, cs, rfl, hw, hT, lt, hTl, hl, hlc, hln, qn, qs⟩ := h
    have hu := hu_of hr
    have hu64 := hr.units
    refine ⟨_, (pss_cons (ps_set (i := 2) scFirstOpen.nd rfl (Or.inl rfl) (pe_disp (pps_cons pe_int pe_bl pps_nil) (by rfl) (by rfl) (fun z => by cases z) (by decide)))
    (pss_cons (ps_set (i := 3) scFirstOpen.nd rfl (Or.inl rfl) (pe_lst (pa_cons (pe_tup (pa_cons pe_int (pa_cons pe_str pa_nil))) pa_nil)))
    (pss_cons (ps_set (i := 4) scFirstOpen.nd rfl (Or.inr rfl) (pe_dc (own := [("at", 5), ("letter", 6)]) (g := gTup K 2 (gCons (gName 5) (gCons (gName 6) gNil))) (tt := tYes) rfl scFirstOpen.nd (pi_enumS (by rfl) B.enumerate_ (pa_cons (pe_slK K rfl (pv 0)) pa_nil)) (blkOk_by (own := [("at", 5), ("letter", 6)]) (N := ["web", "rows", "known", "layer", "places", "at", "letter", "pairs", "pair", "later", "state", "text", "one", "other", "goals"]) (sc := defScope sFirstOpen) (by decide +kernel)) (fun _ _ _ _ _ => (pg_tup rfl (pgs_cons (pg_name (i := 5) scFirstOpen.nd rfl (Or.inl rfl)) (pgs_cons (pg_name (i := 6) scFirstOpen.nd rfl (Or.inl rfl)) pgs_nil)))) (fun _ _ _ _ _ => pts_nil) (fun _ _ _ _ _ => (pv 6)) (fun _ _ _ _ _ => (pv 5))))
    (pss_cons (ps_setLc (i := 7) (own := [("pair", 8)]) (g := gName 8) (tt := tYes) rfl scFirstOpen.nd rfl rfl (sw_true rfl rfl rfl (by decide +kernel)) (pi_tupK K rfl (pe_loose B rfl rfl rfl rfl rfl hr (by decide) (pv 0))) (blkOk_by (own := [("pair", 8)]) (N := ["web", "rows", "known", "layer", "places", "at", "letter", "pairs", "pair", "later", "state", "text", "one", "other", "goals"]) (sc := defScope sFirstOpen) (by decide +kernel)) (fun _ _ _ _ _ => (pg_name (i := 8) scFirstOpen.nd rfl (Or.inl rfl))) (fun _ _ _ _ _ => pts_nil) (fun _ _ _ _ _ => (pe_tup (pa_cons (pv 8) (pa_cons (pe_dget hu (pv 4) (pe_item_str (pv 8) pe_int (fun _ _ => rfl)) (fun _ _ => rfl)) (pa_cons (pe_dget hu (pv 4) (pe_item_str (pv 8) pe_int (fun _ _ => rfl)) (fun _ _ => rfl)) pa_nil))))))
    (pss_cons (ps_while PassesOwn.never (pt_cmpR (op_neD hu64) (pv 3) (pe_lst pa_nil) (nomark _)) (pss_cons (ps_set (i := 9) scFirstOpen.nd rfl (Or.inl rfl) (pe_lst pa_nil))
    (pss_cons (ps_for PassesOwn.never rfl (pi_listK K rfl (pv 3)) (pg_tup rfl (pgs_cons (pg_name (i := 10) scFirstOpen.nd rfl (Or.inl rfl)) (pgs_cons (pg_name (i := 11) scFirstOpen.nd rfl (Or.inl rfl)) pgs_nil))) (pss_cons (ps_for PassesOwn.never rfl (pi_listK K rfl (pv 7)) (pg_tup rfl (pgs_cons (pg_name (i := 8) scFirstOpen.nd rfl (Or.inl rfl)) (pgs_cons (pg_name (i := 12) scFirstOpen.nd rfl (Or.inl rfl)) (pgs_cons (pg_name (i := 13) scFirstOpen.nd rfl (Or.inl rfl)) pgs_nil)))) (pss_cons (ps_set (i := 14) scFirstOpen.nd rfl (Or.inl rfl) (pe_tup (pa_cons (pe_ix (ix_tupK K rfl) (pe_ix (ix_tupK K rfl) (pv 1) (pe_ix (ix_tupK K rfl) (pe_ix (ix_tupK K rfl) (pv 1) (pv 10) (fun _ _ => rfl)) (pv 12) (fun _ _ => rfl)) (fun _ _ => rfl)) (pv 13) (fun _ _ => rfl)) (pa_cons (pe_ix (ix_tupK K rfl) (pe_ix (ix_tupK K rfl) (pv 1) (pe_ix (ix_tupK K rfl) (pe_ix (ix_tupK K rfl) (pv 1) (pv 10) (fun _ _ => rfl)) (pv 13) (fun _ _ => rfl)) (fun _ _ => rfl)) (pv 12) (fun _ _ => rfl)) pa_nil))))
    (pss_one (ps_if (pt_cmpR op_ne (pe_ix (ix_tupK K rfl) (pv 14) pe_int (fun _ _ => rfl)) (pe_ix (ix_tupK K rfl) (pv 14) pe_int (fun _ _ => rfl)) (nomark _)) (pss_one (ps_ret (pe_tup (pa_cons (pv 11) (pa_cons (pv 8) (pa_cons (pv 14) pa_nil)))))) pss_nil))))
    (pss_one (ps_for PassesOwn.never rfl (pi_enumS (by rfl) B.enumerate_ (pa_cons (pe_slK K rfl (pv 0)) pa_nil)) (pg_tup rfl (pgs_cons (pg_name (i := 5) scFirstOpen.nd rfl (Or.inl rfl)) (pgs_cons (pg_name (i := 6) scFirstOpen.nd rfl (Or.inl rfl)) pgs_nil))) (pss_one (ps_if (pt_cmp (pc_dnotin hu (pe_ix (ix_tupK K rfl) (pe_ix (ix_tupK K rfl) (pv 1) (pv 10) (fun _ _ => rfl)) (pv 5) (fun _ _ => rfl)) (pv 2))) (pss_cons (ps_dput hu (pv 2) (pe_ix (ix_tupK K rfl) (pe_ix (ix_tupK K rfl) (pv 1) (pv 10) (fun _ _ => rfl)) (pv 5) (fun _ _ => rfl)) pe_bl rfl)
    (pss_one (ps_expr (pe_bm PySem.F.plainAttrs_list PySem.F.slot_list_append PySem.F.type_list_append mt_append (pv 9) (pa_cons (pe_tup (pa_cons (pe_ix (ix_tupK K rfl) (pe_ix (ix_tupK K rfl) (pv 1) (pv 10) (fun _ _ => rfl)) (pv 5) (fun _ _ => rfl)) (pa_cons (pe_op op_add_str (pv 11) (pv 6)) pa_nil))) pa_nil))))) pss_nil))))))
    (pss_one (ps_set (i := 3) scFirstOpen.nd rfl (Or.inl rfl) (pe_callTy call_list_of (by rfl) B.list_ boot_list (pa_cons (pv 9) pa_nil)))))))
    (pss_one (ps_ret pe_non))))))), ?_⟩
    obtain ⟨bs, hra, hbl, hrow⟩ := suc_row hT
    have tb := lt.tab
    obtain ⟨wdx, wca, wvs, hsl, hv1, hv2, hwc⟩ := id hw
    refine fun kd hkd => ⟨upd_same, [(.inl ((0 : Nat) : Int), .bl true)], rfl, by simp, ?_⟩
    have hk : mergeK [] [((.inl ((0 : Nat) : Int) : Key), V.bl true)] = kS [(0, [])] := rfl
    rw [hk, upd_upd]
    have s5 := same_upd hkd (o := .dK (kS [(0, [])]))
    refine ⟨by show 2 ≤ sizeLine; decide, fun e1 he1 => ⟨by show 1 ≤ sizeLine; decide, fun lp hlp => ?_⟩⟩
    have s6 := same_upd he1 (o := .tup [.int 0, .str (Str.ofString "")])
    have s7 := same_upd hlp (o := .lst [.ref e1])
    have lp0 : H lp = none := (s5.trans s6).free hlp
    have hkd7 := s7 _ _ (s6 _ _ (show upd H kd (.dK (kS [(0, [])])) kd = some (.dK (kS [(0, [])])) from upd_same))
    have hlp7 : upd (upd (upd H kd (.dK (kS [(0, [])]))) e1 (.tup [.int 0, .str (Str.ofString "")])) lp (.lst [.ref e1]) lp = some (.lst [.ref e1]) := upd_same
    have he7 := s7 _ _ (show upd (upd H kd (.dK (kS [(0, [])]))) e1 (.tup [.int 0, .str (Str.ofString "")]) e1 = some (.tup [.int 0, .str (Str.ofString "")]) from upd_same)
    have s07 := (s5.trans s6).trans s7
    refine ⟨_, rfl, wa, _, wdx, _, _, 2, _, rfl, Slt.same s07 hsl, B.cW, B.s_own_letters, hv2, _, rfl, fun pd hpd => ?_⟩
    generalize upd (upd (upd H kd (.dK (kS [(0, [])]))) e1 (.tup [.int 0, .str (Str.ofString "")])) lp (.lst [.ref e1]) = H7 at hkd7 hlp7 he7 s07 hpd ⊢
    have e5 : Array.size (Str.cps ⟨l.toArray⟩) = l.length := by simp
    refine dc_map (n := Array.size (Str.cps ⟨l.toArray⟩)) walk_N (fun i => .inr ⟨#[l.getD i 0]⟩) (fun i => nv i) (fun i j hi hj e => ?_) hpd (Nat.lt_of_le_of_lt (m := 10) (by rw [e5]; exact hl) (by decide)) (fun _ _ => trivial) (fun i x H8 H9 hi s y Pn kk => ?_) (fun H8 s8 hD => ?_)
    · rw [e5] at hi hj
      injection e with e
      injection e with e
      have e : l.getD i 0 = l.getD j 0 := by simpa using e
      rw [List.getD_eq_getElem?_getD, List.getD_eq_getElem?_getD, List.getElem?_eq_getElem hi, List.getElem?_eq_getElem hj] at e
      exact nd_inj hln hi hj e
    · obtain ⟨T1, xs, rfl, hT1, rfl, c, ec, rfl⟩ := y
      have ec : l[i]? = some c := by simpa using ec
      rw [getD_of ec] at kk
      refine ⟨T1, _, rfl, SqT.of upd_same, rfl, _, _, rfl, _, _, rfl, rfl, rfl, yes ⟨_, rfl, _, rfl, kk _ (same_upd hT1)⟩⟩
    rw [e5] at hD
    have s08 := s07.trans s8
    refine ⟨_, rfl, wa, wdx, wvs, rfl, Slt.same s08 hsl, wa, l, cs, rfl, hw.same s08, hl, fun H9 lo s9 lo0 hlo => ?_⟩
    rw [lps_txt] at hlo
    have s09 := s08.trans s9
    refine ⟨lo, rfl, ⟨_, SqT.of hlo⟩, fun D hD1 => lc_rel (n := (((lps l cs).map (pt l)).map tx).length) walk_tup (fun i y H => ∀ p, (lps l cs)[i]? = some p → ∃ e, y = .ref e ∧ H e = some (.tup [tx (pt l p), nv p.1, nv p.2])) (fun i y H H' t h p hp => by
        obtain ⟨e, h1, h2⟩ := h p hp
        exact ⟨e, h1, t _ _ h2⟩) hD1 ?_ (fun H6 s6 => SqT.of (s6 _ _ hlo)) (fun i x H10 H11 hi s y Pn kk => ?_) (fun H10 ps s10 hDl hpl hps => ?_)⟩
    · rw [List.length_map, List.length_map]; exact Nat.lt_of_le_of_lt (lps_len hl) (by decide)
    · obtain ⟨rfl, e1⟩ := y
      rw [List.getElem?_map, List.getElem?_map] at e1
      obtain ⟨c, e3, rfl⟩ := Option.map_eq_some_iff.mp e1
      obtain ⟨p, e4, rfl⟩ := Option.map_eq_some_iff.mp e3
      have hp := lps_lt (List.mem_of_getElem? e4)
      have hp1 : l[p.1]? = some (l.getD p.1 0) := by rw [List.getD_eq_getElem?_getD, List.getElem?_eq_getElem (by omega)]; rfl
      have hp2 : l[p.2]? = some (l.getD p.2 0) := by rw [List.getD_eq_getElem?_getD, List.getElem?_eq_getElem (by omega)]; rfl
      have hpd11 := s _ _ (s9 _ _ hD)
      refine ⟨rfl, yes ⟨_, rfl, _, rfl, _, rfl, _, 0, l.getD p.1 0, rfl, rfl, by decide, by decide, by show (0 : Int) < 2; decide, rfl, pd, nv p.1, rfl, ?_, _, rfl, _, rfl, _, 1, l.getD p.2 0, rfl, rfl, by decide, by decide, by show (1 : Int) < 2; decide, rfl, pd, nv p.2, rfl, ?_, by show 3 ≤ sizeLine; decide, fun te hte => kk _ _ (same_upd hte) fun p' hp' => ?_⟩⟩
      · have := DGet.k (k := Sum.inr ⟨#[l.getD p.1 0]⟩) hpd11
        rw [letters_val hln hp1] at this
        exact this
      · have := DGet.k (k := Sum.inr ⟨#[l.getD p.2 0]⟩) hpd11
        rw [letters_val hln hp2] at this
        exact this
      · rw [e4] at hp'
        cases hp'
        exact ⟨te, rfl, upd_same⟩
    rw [List.length_map, List.length_map] at hpl
    have s010 := s09.trans s10
    have D0 : H D = none := s09.free hD1
    have kd0 : H kd = none := hkd
    have t710 := s8.trans (s9.trans s10)
    refine while_n T.length (fun i σ H8 => ∃ (L : List PT2) (lp : Addr) (ys : List V) (x5 x6 x8 x9 x10 x11 x12 x13 x14 : Option V), σ = [some (.ref wa), some (.ref ra), some (.ref kd), some (.ref lp), some (.ref pd), x5, x6, some (.ref D), x8, x9, x10, x11, x12, x13, x14] ∧ Same H H8 ∧ Tx H10 H8 ∧ H8 D = some (.lst ps) ∧ H lp = none ∧ lp ≠ D ∧
      H8 kd = some (.dK (kS L)) ∧ H8 lp = some (.lst ys) ∧ Ls H8 ys (L.drop i) ∧ i ≤ L.length ∧ QT T l i L ∧ ∀ j, j < i → badAt T (lps l cs) j = none) (Nat.zero_le _) ⟨[(0, [])], lp, [.ref e1], _, _, _, _, _, _, _, _, _, rfl, s010, Tx.of (Same.refl _), hDl, lp0, (fun z => by rw [← z] at hD1; have := s9.free hD1; rw [s8 _ _ hlp7] at this; cases this), t710 _ _ hkd7, t710 _ _ hlp7, .cons ⟨e1, rfl, t710 _ _ he7⟩ .nil, Nat.zero_le _, Qu.start, fun j hj => absurd hj (Nat.not_lt_zero _)⟩ (fun i σ H8 hiN h => ?_) mono_ne
    obtain ⟨L, lp, ys, x5, x6, x8, x9, x10, x11, x12, x13, x14, rfl, s8, t8, hD8, lp0, lD, hkd8, hlp8, hly, hi, hq, hdf⟩ := h
    have hLl := (MW.QT.at lt hq).2
    refine while_ne (a := lp) (xs := ys) (ds := (L.drop i).map dLs) rfl hlp8 (fun H' s => ls_dp (hly.tx (.of s))) (ls_shp fun x hx c hc => ?_) fun e2 he2 => ?_
    · obtain ⟨j, hj⟩ := List.getElem?_of_mem (List.mem_of_mem_drop hx)
      exact hlc c ((qt_texts hq j x hj).2 c hc)
    rw [map_empty]
    have s9 := same_upd he2 (o := .lst [])
    refine ite2 (fun hne => ?_) (fun hne => ?_)
    · have hlt : i < L.length := by
        by_cases z : i < L.length
        · exact z
        · rw [List.drop_of_length_le (by omega)] at hne
          exact absurd hne (by simp)
      refine ⟨Nat.zero_le _, fun qp hqp => ?_⟩
      have s10 := same_to s9 hqp (o := .lst [])
      have qp0 : H qp = none := (s8.trans s9).free hqp
      have qk : qp ≠ kd := fun z => by rw [z, s9 _ _ hkd8] at hqp; cases hqp
      have ql : qp ≠ lp := fun z => by rw [z, s9 _ _ hlp8] at hqp; cases hqp
      have qD : qp ≠ D := fun z => by rw [z, s9 _ _ hD8] at hqp; cases hqp
      refine ⟨_, rfl, lp, rfl, ⟨_, SqL.of (s10 _ _ hlp8)⟩, for_list (xs := ys) (fun j σ H9 => ∃ (M : List PT2) (zs : List V) (x5 x6 x8 x10 x11 x12 x13 x14 : Option V), σ = [some (.ref wa), some (.ref ra), some (.ref kd), some (.ref lp), some (.ref pd), x5, x6, some (.ref D), x8, some (.ref qp), x10, x11, x12, x13, x14] ∧ Same H H9 ∧ Tx H10 H9 ∧ H9 D = some (.lst ps) ∧ H9 lp = some (.lst ys) ∧ Ls H9 ys (L.drop i) ∧
        H9 kd = some (.dK (kS (L ++ M))) ∧ H9 qp = some (.lst zs) ∧ Ls H9 zs M ∧ QT T l (i + j) (L ++ M) ∧ ∀ t, t < i + j → badAt T (lps l cs) t = none) ⟨[], [], _, _, _, _, _, _, _, _, rfl, s8.trans s10, t8.trans (.of s10), s10 _ _ hD8, s10 _ _ hlp8, hly.tx (.of s10), ?_, upd_same, .nil, ?_, ?_⟩ (fun j σ H9 _ h => ?_) (fun j x σ H9 hx h => ?_) (fun σ H9 h => ?_)⟩
      · rw [List.append_nil]; exact s10 _ _ hkd8
      · rw [List.append_nil]; exact hq
      · exact hdf
      · obtain ⟨_, _, _, _, _, _, _, _, _, _, _, _, _, _, h1, _⟩ := h
        exact SqL.of h1
      · obtain ⟨M, zs, y5, y6, y8, y10, y11, y12, y13, y14, rfl, g1, gt, gD, g2, g3, g4, g5, g6, g7, g8⟩ := h
        obtain ⟨⟨st, tt⟩, e3, e, rfl, h2⟩ := pr_get g3 hx
        rw [List.getElem?_drop] at e3
        have e4 : (L ++ M)[i + j]? = some (st, tt) := by rw [List.getElem?_append_left (List.getElem?_eq_some_iff.mp e3).1]; exact e3
        have hst := MW.QT.get lt g7 e4
        have hst0 : st = i + j := hst.1
        have hstT : st < T.length := by rw [hst0]; exact hst.2
        have htt := qt_texts g7 _ _ e4
        have hij := (List.getElem?_eq_some_iff.mp e4).1
        have hML := (MW.QT.at lt g7).2
        refine ⟨e, _, rfl, SqT.of h2, rfl, _, _, rfl, _, _, rfl, rfl, ?_⟩
        refine ⟨_, rfl, D, rfl, ⟨_, SqL.of gD⟩, for_list (xs := ps) (fun u σ H11 => ∃ (x8 x12 x13 x14 : Option V), σ = [some (.ref wa), some (.ref ra), some (.ref kd), some (.ref lp), some (.ref pd), y5, y6, some (.ref D), x8, some (.ref qp), some (nv st), some (tx tt), x12, x13, x14] ∧ Same H9 H11 ∧ ∀ v, v < u → ∀ p, (lps l cs)[v]? = some p → parts T st p = false) ⟨_, _, _, _, rfl, Same.refl _, fun v hv => absurd hv (Nat.not_lt_zero _)⟩ (fun u σ H11 _ h => ?_) (fun u x σ H11 hx2 h => ?_) (fun σ H11 h => ?_)⟩
        · obtain ⟨_, _, _, _, _, h1, _⟩ := h
          exact SqL.of (h1 _ _ gD)
        · obtain ⟨z8, z12, z13, z14, rfl, k1, k2⟩ := h
          have hu := (List.getElem?_eq_some_iff.mp hx2).1
          rw [hpl] at hu
          have ep : (lps l cs)[u]? = some ((lps l cs)[u]) := List.getElem?_eq_getElem hu
          generalize (lps l cs)[u] = p at ep
          have hp := lps_lt (List.mem_of_getElem? ep)
          obtain ⟨ae, rfl, hae⟩ := hps u x hx2 p ep
          have hae := (gt.trans (.of k1)) _ _ hae
          have kk1 := g1.trans k1
          have n1 : nx T st p.1 < T.length := tb.nx_lt hstT (by omega)
          have n2 : nx T st p.2 < T.length := tb.nx_lt hstT (by omega)
          obtain ⟨b1, hb1, hb2, hb3⟩ := hrow st hstT
          obtain ⟨b2, hc1, hc2, hc3⟩ := hrow _ n1
          obtain ⟨b3, hd1, hd2, hd3⟩ := hrow _ n2
          refine ⟨ae, _, rfl, SqT.of hae, rfl, _, _, rfl, _, _, rfl, _, _, rfl, rfl, ?_⟩
          refine ⟨_, rfl, _, rfl, _, rfl, ra, _, _, _, rfl, rfl, SqT.of (kk1 _ _ hra), atI_nat hb2, _, rfl, b1, _, _, _, rfl, rfl, SqT.of (kk1 _ _ hb3), atI_nat (row_at tb hstT (show p.1 < l.length by omega)), ra, _, _, _, rfl, rfl, SqT.of (kk1 _ _ hra), atI_nat hc2, _, rfl, b2, _, _, _, rfl, rfl, SqT.of (kk1 _ _ hc3), atI_nat (row_at tb n1 (show p.2 < l.length by omega)),
            _, rfl, _, rfl, _, rfl, ra, _, _, _, rfl, rfl, SqT.of (kk1 _ _ hra), atI_nat hb2, _, rfl, b1, _, _, _, rfl, rfl, SqT.of (kk1 _ _ hb3), atI_nat (row_at tb hstT (show p.2 < l.length by omega)), ra, _, _, _, rfl, rfl, SqT.of (kk1 _ _ hra), atI_nat hd2, _, rfl, b3, _, _, _, rfl, rfl, SqT.of (kk1 _ _ hd3), atI_nat (row_at tb n2 (show p.1 < l.length by omega)), by show 2 ≤ sizeLine; decide, fun gp hgp => ?_⟩
          have s12 := same_upd hgp (o := .tup [nv (nx T (nx T st p.1) p.2), nv (nx T (nx T st p.2) p.1)])
          have hg12 : upd H11 gp (.tup [nv (nx T (nx T st p.1) p.2), nv (nx T (nx T st p.2) p.1)]) gp = some (.tup [nv (nx T (nx T st p.1) p.2), nv (nx T (nx T st p.2) p.1)]) := upd_same
          generalize upd H11 gp (.tup [nv (nx T (nx T st p.1) p.2), nv (nx T (nx T st p.2) p.1)]) = H12 at s12 hg12 ⊢
          refine ⟨_, rfl, gp, _, 0, _, rfl, rfl, SqT.of hg12, rfl, _, rfl, gp, _, 1, _, rfl, rfl, SqT.of hg12, rfl, rfl, _, rfl, ?_⟩
          show if (!decide (nv _ = nv _)) = true then _ else _
          rw [dec_nv]
          refine ite2 (fun hd => ?_) (fun hd => ?_)
          · have hd2 : parts T st p = true := by
              unfold parts
              simpa using hd
            refine ⟨_, rfl, _, rfl, _, rfl, by show 3 ≤ sizeLine; decide, fun rp hrp => ?_⟩
            subst hst0
            exact qs _ rp gp (i + j) p tt ((kk1.trans s12).trans (same_upd hrp)) upd_same ((same_upd hrp) _ _ hg12) ⟨hst.2, g8, find_at k2 ep hd2⟩ (MW.TextOf.of lt g7 e4)
          · have hd2 : parts T st p = false := by
              unfold parts
              simpa using hd
            refine ⟨_, _, _, _, rfl, k1.trans s12, fun v hv p' hp' => ?_⟩
            by_cases hvu : v < u
            · exact k2 v hvu p' hp'
            · have : v = u := by omega
              subst this
              rw [ep] at hp'
              cases hp'
              exact hd2
        obtain ⟨z8, z12, z13, z14, rfl, k1, k2⟩ := h
        rw [hpl] at k2
        have hbad : badAt T (lps l cs) st = none := by
          unfold badAt
          rw [List.find?_eq_none]
          intro p hp
          obtain ⟨v, hv⟩ := List.getElem?_of_mem hp
          rw [k2 v (List.getElem?_eq_some_iff.mp hv).1 p hv]
          exact Bool.false_ne_true
        have kk1 := g1.trans k1
        refine ⟨_, rfl, wa, _, wdx, _, _, 2, _, rfl, Slt.same kk1 hsl, B.cW, B.s_own_letters, hv2, _, rfl, for_it walk_N (fun t σ H13 => ∃ (N : List PT2) (zs : List V) (x5 x6 : Option V), σ = [some (.ref wa), some (.ref ra), some (.ref kd), some (.ref lp), some (.ref pd), x5, x6, some (.ref D), z8, some (.ref qp), some (nv st), some (tx tt), z12, z13, z14] ∧ Same H H13 ∧ Tx H10 H13 ∧ H13 D = some (.lst ps) ∧ H13 lp = some (.lst ys) ∧ Ls H13 ys (L.drop i) ∧
          H13 kd = some (.dK (kS (L ++ N))) ∧ H13 qp = some (.lst zs) ∧ Ls H13 zs N ∧ L ++ N = grow Prod.fst (L ++ M) ((sucT T l (st, tt)).take t)) ⟨M, zs, _, _, rfl, kk1, gt.trans (.of k1), k1 _ _ gD, k1 _ _ g2, g3.tx (.of k1), k1 _ _ g4, k1 _ _ g5, g6.tx (.of k1), rfl⟩ (fun _ _ _ _ _ => trivial) (fun t x σ H13 H14 ht h y => ?_) (fun σ H13 h => ?_)⟩
        · obtain ⟨N, ws, w5, w6, rfl, k1, kt, kD, k2, k3, k4', k5, k6, k7⟩ := h
          obtain ⟨T1, xs, rfl, hT1, rfl, c, ec, rfl⟩ := y
          have ht : t < l.length := by simpa using ht
          have ec : l[t]? = some c := by simpa using ec
          have s11 := same_upd hT1 (o := .tup [.int (t : Nat), .str ⟨#[c]⟩])
          obtain ⟨b1, hb1, hb2, hb3⟩ := hrow st hstT
          have kk1 := k1.trans s11
          refine ⟨T1, _, rfl, SqT.of upd_same, rfl, _, _, rfl, _, _, rfl, rfl, ?_⟩
          generalize upd H13 T1 (.tup [.int (t : Nat), .str ⟨#[c]⟩]) = H14 at s11 kk1 ⊢
          have hkd14 := s11 _ _ k4'
          have tk := sucT_take (T := T) (x := (st, tt)) ht
          have hlen := growS_take lt g7 e4 t
          rw [← k7] at hlen
          have ecd : l.getD t 0 = c := getD_of ec
          by_cases hin : nx T st t ∈ (L ++ N).map Prod.fst
          · refine ⟨_, rfl, _, rfl, ra, _, _, _, rfl, rfl, SqT.of (kk1 _ _ hra), atI_nat hb2, _, rfl, b1, _, _, _, rfl, rfl, SqT.of (kk1 _ _ hb3), atI_nat (row_at tb hstT ht), _, rfl, kd, _, rfl, DGet.k (k := Sum.inl ((nx T st t : Nat) : Int)) hkd14, _, rfl, ?_⟩
            rw [kS_in hin]
            refine iteF ⟨N, ws, _, _, rfl, kk1, kt.trans (.of s11), s11 _ _ kD, s11 _ _ k2, k3.tx (.of s11), hkd14, s11 _ _ k5, k6.tx (.of s11), ?_⟩
            rw [tk, MW.grow_snoc, ← k7, addS_in hin]
          · refine ⟨_, rfl, _, rfl, ra, _, _, _, rfl, rfl, SqT.of (kk1 _ _ hra), atI_nat hb2, _, rfl, b1, _, _, _, rfl, rfl, SqT.of (kk1 _ _ hb3), atI_nat (row_at tb hstT ht), _, rfl, kd, _, rfl, DGet.k (k := Sum.inl ((nx T st t : Nat) : Int)) hkd14, _, rfl, ?_⟩
            rw [kS_no hin]
            refine iteT ⟨_, rfl, _, rfl, _, rfl, ra, _, _, _, rfl, rfl, SqT.of (kk1 _ _ hra), atI_nat hb2, _, rfl, b1, _, _, _, rfl, rfl, SqT.of (kk1 _ _ hb3), atI_nat (row_at tb hstT ht), kd, _, rfl, DPut.k (k := Sum.inl ((nx T st t : Nat) : Int)) hkd14 (by rw [kS_len]; exact Nat.lt_of_le_of_lt (Nat.le_trans hlen hTl) (by decide)), ?_⟩
            have kput := kS_put (L := L ++ N) (x := (nx T st t, tt ++ [c])) hin
            have hq13 : upd H14 kd (.dK (putK (kS (L ++ N)) (.inl ((nx T st t : Nat) : Int)) (.bl true))) qp = some (.lst ws) := by rw [upd_ne qk]; exact s11 _ _ k5
            have tx13 : Tx H14 (upd H14 kd (.dK (putK (kS (L ++ N)) (.inl ((nx T st t : Nat) : Int)) (.bl true)))) := fun a xs h => by rw [upd_ne (fun z => by rw [z, hkd14] at h; cases h)]; exact h
            have s13 : Same H (upd H14 kd (.dK (putK (kS (L ++ N)) (.inl ((nx T st t : Nat) : Int)) (.bl true)))) := same_at kk1 kd0
            have hkd13 : upd H14 kd (.dK (putK (kS (L ++ N)) (.inl ((nx T st t : Nat) : Int)) (.bl true))) kd = some (.dK (kS (L ++ (N ++ [(nx T st t, tt ++ [c])])))) := by
              rw [upd_same, ← List.append_assoc]
              exact congrArg some (congrArg HO.dK kput)
            have ls13 : ∀ {b : Addr} {xs : List V}, H14 b = some (.lst xs) → upd H14 kd (.dK (putK (kS (L ++ N)) (.inl ((nx T st t : Nat) : Int)) (.bl true))) b = some (.lst xs) := fun h => by rw [upd_ne (fun z => by rw [z, hkd14] at h; cases h)]; exact h
            have hlp13 := ls13 (s11 _ _ k2)
            have hD13 := ls13 (s11 _ _ kD)
            generalize upd H14 kd (.dK (putK (kS (L ++ N)) (.inl ((nx T st t : Nat) : Int)) (.bl true))) = H15 at hq13 tx13 s13 hkd13 hlp13 hD13 ⊢
            refine ⟨_, rfl, .inl ⟨rfl, _, SqL.of hq13⟩, _, rfl, _, rfl, ra, _, _, _, rfl, rfl, SqT.of (s13 _ _ hra), atI_nat hb2, _, rfl, b1, _, _, _, rfl, rfl, SqT.of (s13 _ _ hb3), atI_nat (row_at tb hstT ht), _, rfl, _, rfl, _, _, rfl, rfl, ?_, by show 2 ≤ sizeLine; decide, fun ep hep => ⟨qp, ws, _, rfl, rfl, ?_, ?_, ?_⟩⟩
            · have h1 : tt.length ≤ i + j := htt.1
              show tt.toArray.size + 1 ≤ sizeLine
              rw [List.size_toArray]
              exact Nat.le_trans (m := 40001) (by omega) (by decide)
            · exact (same_upd hep) _ _ hq13
            · have h1 := pr_len k6
              rw [List.length_append] at hlen
              exact Nat.lt_of_le_of_lt (m := 40000) (by omega) (by decide)
            have s14 := same_upd hep (o := .tup [nv (nx T st t), .str (⟨tt.toArray⟩ ++ ⟨#[c]⟩)])
            have qe : qp ≠ ep := fun z => by rw [← z, hq13] at hep; cases hep
            have tq : Tx (upd H15 ep (.tup [nv (nx T st t), .str (⟨tt.toArray⟩ ++ ⟨#[c]⟩)])) (upd (upd H15 ep (.tup [nv (nx T st t), .str (⟨tt.toArray⟩ ++ ⟨#[c]⟩)])) qp (.lst (ws ++ [.ref ep]))) := Tx.upd (s14 _ _ hq13)
            have t15 := (Tx.of s14).trans tq
            have tall := ((Tx.of s11).trans tx13).trans t15
            refine ⟨N ++ [(nx T st t, tt ++ [c])], ws ++ [.ref ep], _, _, rfl, same_at (s13.trans s14) qp0, kt.trans tall, ?_, ?_, ?_, ?_, upd_same, ?_, ?_⟩
            · rw [upd_ne qD.symm]; exact s14 _ _ hD13
            · rw [upd_ne ql.symm]; exact s14 _ _ hlp13
            · exact k3.tx tall
            · rw [upd_ne qk.symm]; exact s14 _ _ hkd13
            · refine pr_app (k6.tx tall) (.cons ⟨ep, rfl, tq _ _ ?_⟩ .nil)
              rw [upd_same]
              show some (HO.tup [nv (nx T st t), .str (⟨tt.toArray⟩ ++ ⟨[c].toArray⟩)]) = _
              rw [tx_app]
            · rw [tk, MW.grow_snoc, ← k7, ← List.append_assoc, ecd, addS_out hin]
        · obtain ⟨N, ws, w5, w6, rfl, k1, kt, kD, k2, k3, k4', k5, k6, k7⟩ := h
          rw [e5, sucT_all] at k7
          have hqn := Qu.step g7 e4
          rw [← k7] at hqn
          refine ⟨N, ws, _, _, _, _, _, _, _, _, rfl, k1, kt, kD, k2, k3, k4', k5, k6, hqn, fun u hu => ?_⟩
          by_cases hul : u < i + j
          · exact g8 u hul
          · have : u = st := by omega
            rw [this]
            exact hbad
      · obtain ⟨M, zs, y5, y6, y8, y10, y11, y12, y13, y14, rfl, g1, gt, gD, g2, g3, g4, g5, g6, g7, g8⟩ := h
        rw [pr_len hly, List.length_drop, show i + (L.length - i) = L.length by omega] at g7 g8
        have hML := (MW.QT.at lt g7).2
        rw [List.length_append] at hML
        refine ⟨_, rfl, qp, _, rfl, .inl (SqL.of g5), fun lq hlq => ?_⟩
        have s11 := same_upd hlq (o := .lst zs)
        refine ⟨L.length, hlt, by omega, L ++ M, lq, zs, _, _, _, _, _, _, _, _, _, rfl, g1.trans s11, gt.trans (.of s11), s11 _ _ gD, g1.free hlq, (fun z => by rw [z, gD] at hlq; cases hlq), s11 _ _ g4, upd_same, ?_, by rw [List.length_append]; omega, g7, g8⟩
        rw [List.drop_left]
        exact g6.tx (.of s11)
    · have hie : i = L.length := by
        by_cases z : i < L.length
        · exfalso
          refine hne ?_
          have : (L.drop i).length ≠ 0 := by rw [List.length_drop]; omega
          cases hh : L.drop i with
          | nil => rw [hh] at this; exact absurd rfl this
          | cons _ _ => rfl
        · omega
      subst hie
      refine qn _ (s8.trans s9) fun j hj => hdf j ?_
      rw [MW.QT.end_len lt hq]
      exact hj
end
end Ww
end S_Ww5

section S_Ww6
set_option Elab.async false
set_option linter.all false
set_option maxRecDepth 100000
set_option maxHeartbeats 2000000
/-! Walks 6: readers are made. -/
namespace Ww
open PySem PySem.Spec PyProof.Rows L2 WwR SlX
open C8 (Cal pe_c)
open MW (Rows suc nx Tab Qu add1 grow LT Least)
/-- a table, its accepted states, its start -/
structure Aut (l : List Nat) (R : Rows) (A0 : List Nat) (s0 : Nat) : Prop where
  tab : Tab l.length R
  h0 : s0 < R.length
  le : R.length ≤ 200
  acc : ∀ x ∈ A0, x < R.length
  asc : Asc (· < ·) A0
  few : A0.length ≤ 1000
/-- letters and conflicts of a web -/
structure WOk (l : List Nat) (cs : List (List Nat)) : Prop where
  len : l.length ≤ 10
  lo : ∀ c ∈ l, 97 ≤ c ∧ c ≤ 122
  asc : Asc (· < ·) l
  nd : l.Nodup
  few : cs.length ≤ 1000
  sub : ∀ c ∈ cs, c ∈ prs l
  asc2 : Asc (· < ·) cs
theorem WOk.small {l : List Nat} {cs : List (List Nat)} (h : WOk l cs) : ∀ c ∈ l, c < 0x110000 := fun c hc => Nat.lt_of_le_of_lt (h.lo c hc).2 (by decide)
/-- at a stands a reader over a web of l, cs: its rows R, A0, s0; its least table T, A -/
def RdAt (K : PySem.W.Frag) (H : Hp) (a : Addr) (l : List Nat) (cs : List (List Nat)) (R : Rows) (A0 : List Nat) (s0 : Nat) (T : Rows) (A : List Nat) : Prop :=
  ∃ (dx wa ra aa ka ta ba : Addr) (vs : List (Option V)), Slt H a (rdC K) dx vs ∧ vs[0]? = some (some (.ref aa)) ∧ vs[1]? = some (some (.ref ka)) ∧ vs[2]? = some (some (.ref ra)) ∧ vs[3]? = some (some (nv s0)) ∧ vs[4]? = some (some (.ref wa)) ∧
    WebAt K H wa l cs ∧ Tb H ra R ∧ H aa = some (.tup (A0.map nv)) ∧ H ka = some (.tup [.ref ta, .ref ba]) ∧ Tb H ta T ∧ H ba = some (.tup (A.map nv))
theorem RdAt.same {K : PySem.W.Frag} {H H' : Hp} {a : Addr} {l : List Nat} {cs : List (List Nat)} {R : Rows} {A0 : List Nat} {s0 : Nat} {T : Rows} {A : List Nat} (s : Same H H') (h : RdAt K H a l cs R A0 s0 T A) : RdAt K H' a l cs R A0 s0 T A := by
  obtain ⟨dx, wa, ra, aa, ka, ta, ba, vs, h1, h2, h3, h4, h5, h6, h7, h8, h9, h10, h11, h12⟩ := h
  exact ⟨dx, wa, ra, aa, ka, ta, ba, vs, Slt.same s h1, h2, h3, h4, h5, h6, h7.same s, h8.same s, s _ _ h9, s _ _ h10, h11.same s, s _ _ h12⟩
section
variable {P : Program} {w : World} {K : PySem.W.Frag} {mg : Str → Option Value} {base : Heap}

def spIsStateOf : Sp := fun vs H Q _ => ∃ n x : Nat, vs = [nv n, nv x] ∧ x < n ∧ n ≤ 200 ∧ Q (.bl true) H
theorem p60 : (10 : Int) ^ 60 = 1000000000000000000000000000000000000000000000000000000000000 := by decide +kernel
theorem scIsStateOf : FnScope ["states", "value"] ["states", "value"] (defScope sIsStateOf) := ⟨rfl, rfl, rfl, by decide +kernel, rfl, by decide +kernel, by decide +kernel⟩
theorem c_is_state_of (B : En P w K mg base) : Cal P w K mg base 3 "is_state_of" (spIsStateOf) [] := by
  refine cal_mk B.f_is_state_of scIsStateOf (fun _ _ _ _ _ _ us hl => match us, hl with | [_, _], _ => rfl) (fun vs H Q E h => ?_) fun f cdv A outer s H vs Q E hr h => ?_
  · obtain ⟨n, x, rfl, _⟩ := h
    rfl
  · obtain ⟨n, x, rfl, h1, h2, q⟩ := h
    have hu := hu_of hr
    have hu64 := hr.units
    refine ⟨_, (pss_one (ps_ret (pe_c (c_is_from B) hr (by decide) (by rfl) (pa_cons (pv 1) (pa_cons pe_int (pa_cons (pe_op op_sub (pv 0) pe_int) pa_nil)))))), ?_⟩
    refine ⟨_, rfl, _, rfl, _, _, rfl, rfl, _, _, _, rfl, ?_, ?_, ?_, ?_, q⟩
    · rw [p60]; omega
    · rw [p60]; omega
    · omega
    · omega
def spStateRows (K : PySem.W.Frag) : Sp := fun vs H Q _ => ∃ (wa ra : Addr) (l : List Nat) (cs : List (List Nat)) (R : Rows), vs = [.ref wa, .ref ra] ∧ WebAt K H wa l cs ∧ l.length ≤ 10 ∧ Tb H ra R ∧ Tab l.length R ∧ 0 < R.length ∧ R.length ≤ 200 ∧ ∀ H', Same H H' → Q (.bl true) H'
theorem scAreStateRows : FnScope ["web", "value", "row", "state"] ["web", "value"] (defScope sAreStateRows) := ⟨rfl, rfl, rfl, by decide +kernel, rfl, by decide +kernel, by decide +kernel⟩
theorem c_are_state_rows (B : En P w K mg base) : Cal P w K mg base 4 "are_state_rows" (spStateRows K) [] := by
  refine cal_mk B.f_are_state_rows scAreStateRows (fun _ _ _ _ _ _ us hl => match us, hl with | [_, _], _ => rfl) (fun vs H Q E h => ?_) fun f cdv A outer s H vs Q E hr h => ?_
  · obtain ⟨wa, ra, l, cs, R, rfl, _⟩ := h
    rfl
  · obtain ⟨wa, ra, l, cs, R, rfl, ⟨dx, ca, ws, h1, h2, h3, h4⟩, hl, hT, tb, h0, hR, q⟩ := h
    have hu := hu_of hr
    have hu64 := hr.units
    refine ⟨_, (pss_cons (ps_if (PW.pt (pw_or (pt_not (pt_val (pe_callB (call_isiK K rfl) (by rfl) B.isinstance_ boot_isinstance (pa_cons (pv 1) (pa_cons (pe_bltn (v := .ty "tuple") (by rfl) B.tuple_ boot_tuple rfl) pa_nil))))) (pw_or1 (pt_not (pt_chain op_le op_le pe_int (pe_callB (call_len_seqK K rfl) (by rfl) B.len_ boot_len (pa_cons (pv 1) pa_nil)) (C8.pe_gc (by rfl) B.MAX_STATES)))))) (pss_one (ps_ret pe_bl)) pss_nil)
    (pss_cons (ps_for PassesOwn.never rfl (pi_tupK K rfl (pv 1)) (pg_name (i := 2) scAreStateRows.nd rfl (Or.inl rfl)) (pss_cons (ps_if (PW.pt (pw_or (pt_not (pt_val (pe_callB (call_isiK K rfl) (by rfl) B.isinstance_ boot_isinstance (pa_cons (pv 2) (pa_cons (pe_bltn (v := .ty "tuple") (by rfl) B.tuple_ boot_tuple rfl) pa_nil))))) (pw_or1 (pt_cmpR op_ne (pe_callB (call_len_seqK K rfl) (by rfl) B.len_ boot_len (pa_cons (pv 2) pa_nil)) (pe_callB call_len (by rfl) B.len_ boot_len (pa_cons (pe_slK K rfl (pv 0)) pa_nil)) (nomark _))))) (pss_one (ps_ret pe_bl)) pss_nil)
    (pss_one (ps_if (pt_not (pt_val (pe_callB (cr_all rfl) (by rfl) B.all_ boot_all (pa_cons (pe_lc (own := [("state", 3)]) (g := gName 3) (tt := tYes) rfl scAreStateRows.nd (pi_tupK K rfl (pv 2)) (blkOk_by (own := [("state", 3)]) (N := ["web", "value", "row", "state"]) (sc := defScope sAreStateRows) (by decide +kernel)) (fun _ _ _ _ _ => (pg_name (i := 3) scAreStateRows.nd rfl (Or.inl rfl))) (fun _ _ _ _ _ => pts_nil) (fun _ _ _ _ _ => (pe_c (c_is_state_of B) hr (by decide) (by rfl) (pa_cons (pe_callB (call_len_seqK K rfl) (by rfl) B.len_ boot_len (pa_cons (pv 1) pa_nil)) (pa_cons (pv 3) pa_nil))))) pa_nil)))) (pss_one (ps_ret pe_bl)) pss_nil))))
    (pss_one (ps_ret pe_bl)))), ?_⟩
    obtain ⟨bs, hra, hbl, hrow⟩ := suc_row hT
    refine ⟨_, rfl, _, _, _, _, true, rfl, .ty _, .base (.tup hra), kit_ty (by decide +kernel), true, rfl, iteF ?_⟩
    refine ⟨_, rfl, ra, _, rfl, .inr (SqT.of hra), _, _, rfl, rfl, true, ?_, iteT ?_⟩
    · rw [List.length_map, hbl]
      exact congrArg V.bl (decide_eq_true (by omega))
    refine ⟨_, _, rfl, rfl, true, ?_, iteF ?_⟩
    · rw [List.length_map, hbl]
      exact congrArg V.bl (decide_eq_true (by omega))
    refine ⟨_, rfl, ra, rfl, ⟨_, SqT.of hra⟩, for_tup (xs := bs.map V.ref) (fun j σ H1 => ∃ (x2 x3 : Option V), σ = [some (.ref wa), some (.ref ra), x2, x3] ∧ Same H H1) ⟨_, _, rfl, Same.refl _⟩ (fun j σ H1 _ h => ?_) (fun j x σ H1 hx h => ?_) (fun σ H1 h => ?_)⟩
    · obtain ⟨_, _, _, s⟩ := h
      exact SqT.of (s _ _ hra)
    · obtain ⟨y2, y3, rfl, s⟩ := h
      have hj : j < R.length := by
        have := (List.getElem?_eq_some_iff.mp hx).1
        rw [List.length_map, hbl] at this
        exact this
      obtain ⟨b, hb1, hb2, hb3⟩ := hrow j hj
      rw [hb2] at hx
      cases hx
      have hb4 := s _ _ hb3
      refine ⟨_, rfl, _, _, _, _, true, rfl, .ty _, .base (.tup hb4), kit_ty (by decide +kernel), true, rfl, iteF ?_⟩
      refine ⟨_, rfl, b, _, rfl, .inr (SqT.of hb4), _, rfl, wa, _, dx, _, _, 2, _, rfl, Slt.same s h1, B.cW, B.s_own_letters, h3, _, l.length, rfl, ⟨Nat.le_trans hl (by decide), rfl⟩, rfl, _, rfl, ?_⟩
      rw [List.length_map, tb.sl hj]
      show if (!decide (nv _ = nv _)) = true then _ else _
      rw [decide_eq_true rfl]
      refine iteF ?_
      refine ⟨_, rfl, b, rfl, ⟨_, SqT.of hb4⟩, fun D hD => lc_map walk_tup (fun _ => .bl true) hD (by rw [List.length_map, tb.sl hj]; exact Nat.lt_of_le_of_lt hl (by decide)) (fun H2 s2 => SqT.of (s2 _ _ hb4)) (fun i x H2 H3 hi s3 y Pn k => ?_) (fun H2 s3 hDl => ?_)⟩
      · obtain ⟨rfl, e1⟩ := y
        rw [List.getElem?_map] at e1
        obtain ⟨c, e3, rfl⟩ := Option.map_eq_some_iff.mp e1
        have hc := tb.sm hj c (List.mem_of_getElem? e3)
        refine ⟨rfl, yes ⟨_, rfl, ra, _, rfl, .inr (SqT.of (s3 _ _ (s _ _ hra))), _, rfl, ?_⟩⟩
        rw [List.length_map, hbl]
        exact ⟨R.length, c, rfl, hc, hR, k _ (Same.refl _)⟩
      · rw [all_true] at hDl
        refine ⟨_, _, rfl, SqL.of hDl, _, rfl, ?_⟩
        rw [all_rep]
        exact iteF ⟨_, _, rfl, s.trans s3⟩
    · obtain ⟨_, _, _, s⟩ := h
      exact q _ s
def spAccepted : Sp := fun vs H Q _ => ∃ (n : Nat) (p : Addr) (A : List Nat), vs = [nv n, .ref p] ∧ H p = some (.tup (A.map nv)) ∧ n ≤ 200 ∧ (∀ x ∈ A, x < n) ∧ Asc (· < ·) A ∧ A.length ≤ 1000 ∧ ∀ H', Same H H' → Q (.bl true) H'
theorem scAreAccepted : FnScope ["states", "value", "state"] ["states", "value"] (defScope sAreAccepted) := ⟨rfl, rfl, rfl, by decide +kernel, rfl, by decide +kernel, by decide +kernel⟩
theorem c_are_accepted (B : En P w K mg base) : Cal P w K mg base 4 "are_accepted" (spAccepted) [] := by
  refine cal_mk B.f_are_accepted scAreAccepted (fun _ _ _ _ _ _ us hl => match us, hl with | [_, _], _ => rfl) (fun vs H Q E h => ?_) fun f cdv A outer s H vs Q E hr h => ?_
  · obtain ⟨n, p, A, rfl, _⟩ := h
    rfl
  · obtain ⟨n, p, A, rfl, hp, hn, hA, asc, few, q⟩ := h
    have hu := hu_of hr
    have hu64 := hr.units
    refine ⟨_, (pss_cons (ps_if (PW.pt (pw_or (pt_not (pt_val (pe_callB (call_isiK K rfl) (by rfl) B.isinstance_ boot_isinstance (pa_cons (pv 1) (pa_cons (pe_bltn (v := .ty "tuple") (by rfl) B.tuple_ boot_tuple rfl) pa_nil))))) (pw_or1 (pt_not (pt_val (pe_callB (cr_all rfl) (by rfl) B.all_ boot_all (pa_cons (pe_lc (own := [("state", 2)]) (g := gName 2) (tt := tYes) rfl scAreAccepted.nd (pi_tupK K rfl (pv 1)) (blkOk_by (own := [("state", 2)]) (N := ["states", "value", "state"]) (sc := defScope sAreAccepted) (by decide +kernel)) (fun _ _ _ _ _ => (pg_name (i := 2) scAreAccepted.nd rfl (Or.inl rfl))) (fun _ _ _ _ _ => pts_nil) (fun _ _ _ _ _ => (pe_c (c_is_state_of B) hr (by decide) (by rfl) (pa_cons (pv 0) (pa_cons (pv 2) pa_nil))))) pa_nil))))))) (pss_one (ps_ret pe_bl)) pss_nil)
    (pss_one (ps_ret (pe_c (c_are_ascendingI B) hr (by decide) (by rfl) (pa_cons (pv 1) pa_nil))))), ?_⟩
    refine ⟨_, rfl, _, _, _, _, true, rfl, .ty _, .base (.tup hp), kit_ty (by decide +kernel), true, rfl, iteF ?_⟩
    refine ⟨_, rfl, p, rfl, ⟨_, SqT.of hp⟩, fun D hD => lc_map walk_tup (fun _ => .bl true) hD (by rw [List.length_map]; exact Nat.lt_of_le_of_lt few (by decide)) (fun H2 s2 => SqT.of (s2 _ _ hp)) (fun i x H2 H3 hi s3 y Pn k => ?_) (fun H2 s3 hDl => ?_)⟩
    · obtain ⟨rfl, e1⟩ := y
      rw [List.getElem?_map] at e1
      obtain ⟨c, e3, rfl⟩ := Option.map_eq_some_iff.mp e1
      have hc := hA c (List.mem_of_getElem? e3)
      exact ⟨rfl, yes ⟨_, rfl, _, rfl, n, c, rfl, hc, hn, k _ (Same.refl _)⟩⟩
    · rw [all_true] at hDl
      refine ⟨_, _, rfl, SqL.of hDl, _, rfl, ?_⟩
      rw [all_rep]
      exact iteF ⟨_, rfl, p, A, rfl, s3 _ _ hp, few, asc, fun H' s' => q _ (s3.trans s')⟩
def spReaderInit (K : PySem.W.Frag) : Sp := fun vs H Q _ => ∃ (x dx wa ra aa : Addr) (l : List Nat) (cs : List (List Nat)) (R : Rows) (A0 : List Nat) (s0 : Nat), vs = [.ref x, .ref wa, .ref ra, .ref aa, nv s0] ∧ H x = some (.ins (rdC K) dx []) ∧ H dx = some (.own x) ∧
  (∀ H', (∀ b o, H b = some o → b ≠ x → b ≠ dx → H' b = some o) → WebAt K H' wa l cs ∧ Tb H' ra R ∧ H' aa = some (.tup (A0.map nv))) ∧ WOk l cs ∧ Aut l R A0 s0 ∧
  ∀ H' T A, (∀ b o, H b = some o → b ≠ x → b ≠ dx → H' b = some o) → RdAt K H' x l cs R A0 s0 T A → Least l.length R (fun s => decide (s ∈ A0)) s0 T A → Q .non H'
theorem scReaderInit : FnScope ["self", "web", "rows", "accepts", "start"] ["self", "web", "rows", "accepts", "start"] (defScope sReaderInit) := ⟨rfl, rfl, rfl, by decide +kernel, rfl, by decide +kernel, by decide +kernel⟩
theorem ok_reader (B : En P w K mg base) : ∃ fd, FnOk P w K mg base C8.CX0 5 (He.ma K (rdC K) "__init__") fd ["self", "web", "rows", "accepts", "start"] (spReaderInit K) ∧ (∃ ds, Vals [.int 0] ds ∧ Binds K fd ["self", "web", "rows", "accepts", "start"] ds) ∧
    ∃ mv : List Value, KBn K fd ["self", "web", "rows", "accepts", "start"] 4 ["start"] (fun us ws => us ++ ws) (fun vs zs => vs ++ zs) := by
  obtain ⟨fd, F⟩ := B.f_Reader_init
  obtain ⟨ds, hd, hb⟩ := F.binds0 (ps := ["self", "web", "rows", "accepts", "start"]) 4 (by simp) rfl (fun D doc pm an cdv ct us ks h1 h2 => by
    match us, ks, h1, h2 with
    | [_, _, _, _], [_], _, _ => exact ⟨_, _, _, _, _, _, rfl, rfl, rfl⟩)
  refine ⟨fd, F.ok scReaderInit (fun vs H Q E h => ?_) fun cdv A outer s H vs Q E hr h => ?_, ⟨ds, hd, hb⟩, ?_⟩
  · obtain ⟨x, dx, wa, ra, aa, l, cs, R, A0, s0, rfl, _⟩ := h
    rfl
  · obtain ⟨x, dx, wa, ra, aa, l, cs, R, A0, s0, rfl, hx, hdx, hall, wok, au, q⟩ := h
    have hu := hu_of hr
    have hu64 := hr.units
    have nd : dx ≠ x := ne_of hdx hx (fun z => nomatch z)
    obtain ⟨hw, hT, haa⟩ := hall H (fun _ _ e _ _ => e)
    suffices hh : ∃ t, PSs (cxOf C8.CX0 P w K mg base ["self", "web", "rows", "accepts", "start"] "Reader.__init__" (defScope sReaderInit) (He.ma K (rdC K) "__init__") cdv A outer s H E).nox (defBody sReaderInit) t ∧ t { nx := fun _ H' => Q .non H', rt := Q } (start ["self", "web", "rows", "accepts", "start"] [.ref x, .ref wa, .ref ra, .ref aa, nv s0]) H by
      obtain ⟨t, h1, h2⟩ := hh
      exact ⟨t, h1.nox, h2⟩
    obtain ⟨bs, hra, hbl, hrow⟩ := suc_row hT
    refine ⟨_, (pss_cons (ps_expr (pe_c (c_require_web B) hr (by decide) (by rfl) (pa_cons (pv 1) pa_nil)))
    (pss_cons (ps_if (pt_not (pt_val (pe_c (c_are_state_rows B) hr (by decide) (by rfl) (pa_cons (pv 1) (pa_cons (pv 2) pa_nil))))) (pss_one ps_never) pss_nil)
    (pss_cons (ps_if (pt_not (pt_val (pe_c (c_are_accepted B) hr (by decide) (by rfl) (pa_cons (pe_callB (call_len_seqK K rfl) (by rfl) B.len_ boot_len (pa_cons (pv 2) pa_nil)) (pa_cons (pv 3) pa_nil))))) (pss_one ps_never) pss_nil)
    (pss_cons (ps_if (pt_not (pt_val (pe_c (c_is_state_of B) hr (by decide) (by rfl) (pa_cons (pe_callB (call_len_seqK K rfl) (by rfl) B.len_ boot_len (pa_cons (pv 2) pa_nil)) (pa_cons (pv 4) pa_nil))))) (pss_one ps_never) pss_nil)
    (pss_cons (SlX.ps_sl (pv 0) (pv 1))
    (pss_cons (SlX.ps_sl (pv 0) (pv 2))
    (pss_cons (SlX.ps_sl (pv 0) (pv 3))
    (pss_cons (SlX.ps_sl (pv 0) (pv 4))
    (pss_one (SlX.ps_sl (pv 0) (pe_c (c_least_table B) hr (by decide) (by rfl) (pa_cons (pv 2) (pa_cons (pv 3) (pa_cons (pv 4) pa_nil)))))))))))))), ?_⟩
    refine ⟨_, rfl, wa, l, cs, rfl, hw, ?_⟩
    refine ⟨_, rfl, _, rfl, wa, ra, l, cs, R, rfl, hw, wok.len, hT, au.tab, Nat.lt_of_le_of_lt (Nat.zero_le _) au.h0, au.le, fun H1 s1 => ⟨true, rfl, iteF ?_⟩⟩
    refine ⟨_, rfl, ra, _, rfl, .inr (SqT.of (s1 _ _ hra)), _, rfl, ?_⟩
    rw [List.length_map, hbl]
    refine ⟨R.length, aa, A0, rfl, s1 _ _ haa, au.le, au.acc, au.asc, au.few, fun H2 s2 => ⟨true, rfl, iteF ?_⟩⟩
    have s12 := s1.trans s2
    refine ⟨_, rfl, ra, _, rfl, .inr (SqT.of (s12 _ _ hra)), _, rfl, ?_⟩
    rw [List.length_map, hbl]
    refine ⟨R.length, s0, rfl, au.h0, au.le, true, rfl, iteF ?_⟩
    refine ⟨_, rfl, _, rfl, x, rdC K, dx, _, [], 4, rfl, .inl ⟨s12 _ _ hx, rfl⟩, B.cR, B.s_own_web, ?_⟩
    refine ⟨_, rfl, _, rfl, x, rdC K, dx, _, _, 2, rfl, slH_slt nd, B.cR, B.s_own_rows, ?_⟩
    rw [slH_twice nd]
    refine ⟨_, rfl, _, rfl, x, rdC K, dx, _, _, 0, rfl, slH_slt nd, B.cR, B.s_own_accepts, ?_⟩
    rw [slH_twice nd]
    refine ⟨_, rfl, _, rfl, x, rdC K, dx, _, _, 3, rfl, slH_slt nd, B.cR, B.s_own_start, ?_⟩
    rw [slH_twice nd]
    have keep : ∀ (ws : List (Option V)) b o, H b = some o → b ≠ x → b ≠ dx → slH H2 x (rdC K) dx ws b = some o := fun ws => same_slH fun b o e _ _ => s12 b o e
    obtain ⟨hw3, hT3, haa3⟩ := hall _ (keep (putS 3 (nv s0) (putS 0 (.ref aa) (putS 2 (.ref ra) (putS 4 (.ref wa) [])))))
    have hsl3 : Slt (slH H2 x (rdC K) dx (putS 3 (nv s0) (putS 0 (.ref aa) (putS 2 (.ref ra) (putS 4 (.ref wa) []))))) x (rdC K) dx (putS 3 (nv s0) (putS 0 (.ref aa) (putS 2 (.ref ra) (putS 4 (.ref wa) [])))) := slH_slt nd
    have k3 := keep (putS 3 (nv s0) (putS 0 (.ref aa) (putS 2 (.ref ra) (putS 4 (.ref wa) []))))
    generalize slH H2 x (rdC K) dx (putS 3 (nv s0) (putS 0 (.ref aa) (putS 2 (.ref ra) (putS 4 (.ref wa) [])))) = H3 at hw3 hT3 haa3 hsl3 k3 ⊢
    refine ⟨_, rfl, _, rfl, _, rfl, ra, aa, R, A0, l.length, s0, rfl, hT3, haa3, au.tab, au.h0, au.le, wok.len, au.acc, fun H4 ka ta ba T A s4 ka0 hka hta hba lst => ?_⟩
    refine ⟨_, rfl, x, rdC K, dx, _, _, 1, rfl, Slt.same s4 hsl3, B.cR, B.s_own_key, ?_⟩
    have hx4 : ∃ o, H4 x = some o ∧ (∀ xs, o ≠ .tup xs) := by
      rcases Slt.same s4 hsl3 with ⟨h, _⟩ | ⟨h, _⟩
      · exact ⟨_, h, (fun xs z => nomatch z)⟩
      · exact ⟨_, h, fun xs z => by unfold SlO at z; cases z⟩
    have hdx4 : ∃ o, H4 dx = some o ∧ (∀ xs, o ≠ .tup xs) ∧ (∀ C y fs, o ≠ .ins C y fs) ∧ ∀ a C y vs, o ≠ SlO a C y vs := by
      rcases hsl3 with ⟨h, e⟩ | ⟨h, h2⟩
      · cases e
      · exact ⟨_, s4 _ _ h2, (fun xs z => nomatch z), (fun _ _ _ z => nomatch z), (fun _ _ _ _ z => by unfold SlO at z; cases z)⟩
    obtain ⟨ox, hox, nox⟩ := hx4
    obtain ⟨od, hod, nod, nod2, nod3⟩ := hdx4
    have tk : ∀ a xs, H4 a = some (.tup xs) → slH H4 x (rdC K) dx (putS 1 (.ref ka) (putS 3 (nv s0) (putS 0 (.ref aa) (putS 2 (.ref ra) (putS 4 (.ref wa) []))))) a = some (.tup xs) := fun a xs h => by
      rw [slH_ne (fun z => by rw [z, hox] at h; exact nox xs (Option.some.inj h)) (fun z => by rw [z, hod] at h; exact nod xs (Option.some.inj h))]
      exact h
    have kall : ∀ b o, H b = some o → b ≠ x → b ≠ dx → slH H4 x (rdC K) dx (putS 1 (.ref ka) (putS 3 (nv s0) (putS 0 (.ref aa) (putS 2 (.ref ra) (putS 4 (.ref wa) []))))) b = some o := same_slH fun b o e n1 n2 => s4 _ _ (k3 b o e n1 n2)
    obtain ⟨hw5, hT5, haa5⟩ := hall _ kall
    exact q _ T A kall ⟨dx, wa, ra, aa, ka, ta, ba, _, slH_slt nd, rfl, rfl, rfl, rfl, rfl, hw5, hT5, haa5, tk _ _ hka, Tb.tx tk hta, tk _ _ hba⟩ lst
  · obtain ⟨mv, hk⟩ := F.kbinds0 (ps := ["self", "web", "rows", "accepts", "start"]) 4 ["start"] [] (fun vs mz zs => vs ++ zs) (by simp) (fun q hq => by cases hq) (fun r1 _ r2 => r1.append r2) (fun D doc pm an cdv ct us mv ws h1 h2 h3 => by
      match us, mv, ws, h1, h2, h3 with
      | [_, _, _, _], [], [_], _, _, _ => rfl)
    exact ⟨mv, hk⟩
end
end Ww
end S_Ww6

section S_Ww7
set_option Elab.async false
set_option linter.all false
set_option maxRecDepth 100000
set_option maxHeartbeats 2000000
/-! Walks 7: what readers answer. -/
namespace Ww
open PySem PySem.Spec PyProof.Rows L2 WwR SlX
open C8 (Cal pe_c)
open MW (Rows suc nx Tab Qu add1 grow LT Least Due LPart FirstBad TextOf goals)
/-! ### letters' places -/
theorem occ_idx {l : List Nat} (hn : l.Nodup) {a c : Nat} (h : l[a]? = some c) : ∃ rest, Builtin.Str.occurrences ⟨l.toArray⟩ ⟨#[c]⟩ 0 (Str.length ⟨l.toArray⟩) 1 = a :: rest := by
  have h1 := StrLaws.found_one ⟨l.toArray⟩ c
  rw [decide_eq_true (by simpa using List.mem_of_getElem? h)] at h1
  obtain ⟨f, hf⟩ := StrLaws.occ_chain ⟨l.toArray⟩ ⟨#[c]⟩ 1
  cases e : Builtin.Str.occurrences ⟨l.toArray⟩ ⟨#[c]⟩ 0 (Str.length ⟨l.toArray⟩) 1 with
  | nil => rw [e] at h1; simp at h1
  | cons i rest =>
    rw [e] at hf
    have h2 := (StrLaws.subAt_one ⟨l.toArray⟩ c i).mp hf.2.1
    have h2 : l[i]? = some c := by simpa using h2
    obtain ⟨hi, e1⟩ := List.getElem?_eq_some_iff.mp h2
    obtain ⟨ha, e2⟩ := List.getElem?_eq_some_iff.mp h
    have : i = a := nd_inj hn hi ha (by rw [e1, e2])
    rw [this]
    exact ⟨rest, rfl⟩
/-- where the text leads -/
def rd (l : List Nat) (R : Rows) (s : Nat) (w : List Nat) : Nat := MW.run R s (w.map l.idxOf)
theorem rd_snoc {l : List Nat} {R : Rows} {s c : Nat} {w : List Nat} : rd l R s (w ++ [c]) = nx R (rd l R s w) (l.idxOf c) := by
  unfold rd MW.run
  rw [List.map_append, List.foldl_append]
  rfl
theorem idx_at {l : List Nat} {c : Nat} (h : c ∈ l) : l.idxOf c < l.length ∧ l[l.idxOf c]? = some c := by
  have h1 := List.idxOf_lt_length_of_mem h
  exact ⟨h1, by rw [List.getElem?_eq_getElem h1, List.getElem_idxOf h1]⟩
theorem rd_lt {l : List Nat} {R : Rows} (tb : Tab l.length R) {s : Nat} (hs : s < R.length) : ∀ (w : List Nat), (∀ c ∈ w, c ∈ l) → rd l R s w < R.length := by
  intro w
  induction w generalizing s with
  | nil => intro _; exact hs
  | cons c w ih =>
    intro h
    show rd l R (nx R s (l.idxOf c)) w < R.length
    exact ih (tb.nx_lt hs (idx_at (h c List.mem_cons_self)).1) fun d hd => h d (List.mem_cons_of_mem _ hd)
theorem inV_nv {c : Nat} {ps : List Nat} : inV (nv c) (ps.map nv) = decide (c ∈ ps) := by
  unfold inV
  rw [Bool.eq_iff_iff, List.any_eq_true, decide_eq_true_iff]
  constructor
  · rintro ⟨x, hx, e⟩
    obtain ⟨d, hd, rfl⟩ := List.mem_map.mp hx
    have e : ((d : Int) == (c : Int)) = true := e
    have := beq_iff_eq.mp e
    have h2 : d = c := by omega
    rw [← h2]; exact hd
  · intro h
    exact ⟨nv c, List.mem_map.mpr ⟨c, h, rfl⟩, by show ((c : Int) == (c : Int)) = true; exact beq_iff_eq.mpr rfl⟩
theorem flat_nv (ps : List Nat) : (ps.map nv).all flatV = true := by
  rw [List.all_eq_true]
  intro x hx
  obtain ⟨d, _, rfl⟩ := List.mem_map.mp hx
  rfl
section
variable {P : Program} {w : World} {K : PySem.W.Frag} {mg : Str → Option Value} {base : Heap}

def spLed (K : PySem.W.Frag) : Sp := fun vs H Q _ => ∃ (a : Addr) (l : List Nat) (cs : List (List Nat)) (R : Rows) (A0 : List Nat) (s0 : Nat) (T : Rows) (A t : List Nat), vs = [.ref a, tx t] ∧ RdAt K H a l cs R A0 s0 T A ∧ WOk l cs ∧ Aut l R A0 s0 ∧ (∀ c ∈ t, c ∈ l) ∧ Q (nv (rd l R s0 t)) H
theorem scReaderLed : FnScope ["self", "text", "state", "letter"] ["self", "text"] (defScope sReaderLed) := ⟨rfl, rfl, rfl, by decide +kernel, rfl, by decide +kernel, by decide +kernel⟩
theorem m_Reader_led (B : En P w K mg base) : MetS P w K mg base 1 (He.ma K (rdC K) "led") (spLed K) := by
  refine met_mk B.f_Reader_led scReaderLed (fun _ _ _ _ _ _ us hl => match us, hl with | [_, _], _ => rfl) (fun vs H Q E h => ?_) fun f cdv A outer s H vs Q E hr h => ?_
  · obtain ⟨a, l, cs, R, A0, s0, T, A, t, rfl, _⟩ := h
    rfl
  · obtain ⟨a, l, cs, R, A0, s0, T, A, t, rfl, ⟨dx, wa, ra, aa, ka, ta, ba, vs, h1, h2, h3, h4, h5, h6, h7, h8, h9, h10, h11, h12⟩, wok, au, ht, q⟩ := h
    have hu := hu_of hr
    have hu64 := hr.units
    refine ⟨_, (pss_cons (ps_set (i := 2) scReaderLed.nd rfl (Or.inl rfl) (pe_slK K rfl (pv 0)))
    (pss_cons (ps_for PassesOwn.never rfl (pi_str (pv 1)) (pg_name (i := 3) scReaderLed.nd rfl (Or.inl rfl)) (pss_one (ps_set (i := 2) scReaderLed.nd rfl (Or.inl rfl) (pe_ix (ix_tupK K rfl) (pe_ix (ix_tupK K rfl) (pe_slK K rfl (pv 0)) (pv 2) (fun _ _ => rfl)) (pe_bm PySem.F.plainAttrs_str PySem.F.slot_str_index PySem.F.type_str_index mt_sindex (pe_slK K rfl (pe_slK K rfl (pv 0))) (pa_cons (pv 3) pa_nil)) (fun _ _ => rfl)))))
    (pss_one (ps_ret (pv 2))))), ?_⟩
    obtain ⟨wdx, wca, wvs, hsl, hv1, hv2, hwc⟩ := h7
    obtain ⟨bs, hra, hbl, hrow⟩ := suc_row h8
    refine ⟨_, rfl, a, _, dx, _, _, 3, _, rfl, h1, B.cR, B.s_own_start, h5, ?_⟩
    refine ⟨_, rfl, _, rfl, for_it walk_str (fun i σ H1 => ∃ (x3 : Option V), σ = [some (.ref a), some (tx t), some (nv (rd l R s0 (t.take i))), x3] ∧ H1 = H) ⟨_, rfl, rfl⟩ (fun _ _ _ _ _ => trivial) (fun i x σ H1 H2 hi h y => ?_) (fun σ H1 h => ?_)⟩
    · obtain ⟨y3, rfl, rfl⟩ := h
      obtain ⟨rfl, c, e1, rfl⟩ := y
      have e1 : t[i]? = some c := by simpa using e1
      have hc := idx_at (ht c (List.mem_of_getElem? e1))
      have hst := rd_lt au.tab au.h0 (t.take i) fun c hc => ht c (List.mem_of_mem_take hc)
      obtain ⟨b, hb1, hb2, hb3⟩ := hrow _ hst
      obtain ⟨rest, ho⟩ := occ_idx wok.nd hc.2
      refine ⟨_, rfl, a, _, dx, _, _, 2, _, rfl, h1, B.cR, B.s_own_rows, h4, _, rfl, ra, _, _, _, rfl, rfl, SqT.of hra, atI_nat hb2, _, rfl, a, _, dx, _, _, 4, _, rfl, h1, B.cR, B.s_own_web, h6, wa, _, wdx, _, _, 2, _, rfl, hsl, B.cW, B.s_own_letters, hv2, rfl, _, rfl, _, _, _, rest, rfl, rfl, ho, b, _, _, _, rfl, rfl, SqT.of hb3, atI_nat (row_at au.tab hst hc.1), some (.str ⟨#[c]⟩), ?_, rfl⟩
      rw [take_snocG e1, rd_snoc]
      rfl
    · obtain ⟨y3, rfl, rfl⟩ := h
      have e5 : Array.size (Str.cps ⟨t.toArray⟩) = t.length := by simp
      rw [e5, List.take_of_length_le (Nat.le_refl _)]
      exact ⟨_, rfl, q⟩
def spReadText (K : PySem.W.Frag) : Sp := fun vs H Q _ => ∃ (wa : Addr) (l : List Nat) (cs : List (List Nat)) (t : List Nat), vs = [.ref wa, tx t] ∧ WebAt K H wa l cs ∧ t.length ≤ 1000 ∧ ∀ H', Same H H' → Q (.bl (t.all fun c => decide (c ∈ l))) H'
theorem scIsReadText : FnScope ["web", "value", "sign"] ["web", "value"] (defScope sIsReadText) := ⟨rfl, rfl, rfl, by decide +kernel, rfl, by decide +kernel, by decide +kernel⟩
theorem c_is_read_text (B : En P w K mg base) : Cal P w K mg base 1 "is_read_text" (spReadText K) [] := by
  refine cal_mk B.f_is_read_text scIsReadText (fun _ _ _ _ _ _ us hl => match us, hl with | [_, _], _ => rfl) (fun vs H Q E h => ?_) fun f cdv A outer s H vs Q E hr h => ?_
  · obtain ⟨wa, l, cs, t, rfl, _⟩ := h
    rfl
  · obtain ⟨wa, l, cs, t, rfl, ⟨dx, ca, ws, h1, h2, h3, h4⟩, ht, q⟩ := h
    have hu := hu_of hr
    have hu64 := hr.units
    refine ⟨_, (pss_one (ps_ret (pe_and (pe_callB (call_isiK K rfl) (by rfl) B.isinstance_ boot_isinstance (pa_cons (pv 1) (pa_cons (pe_bltn (v := .ty "str") (by rfl) B.str_ boot_str rfl) pa_nil))) (pe_and (pe_cmpR op_le (pe_callB call_len (by rfl) B.len_ boot_len (pa_cons (pv 1) pa_nil)) (C8.pe_gc (by rfl) B.MAX_READ) (nomark _)) (pe_one (pe_callB (cr_all rfl) (by rfl) B.all_ boot_all (pa_cons (pe_lc (own := [("sign", 2)]) (g := gName 2) (tt := tYes) rfl scIsReadText.nd (pi_str (pv 1)) (blkOk_by (own := [("sign", 2)]) (N := ["web", "value", "sign"]) (sc := defScope sIsReadText) (by decide +kernel)) (fun _ _ _ _ _ => (pg_name (i := 2) scIsReadText.nd rfl (Or.inl rfl))) (fun _ _ _ _ _ => pts_nil) (fun _ _ _ _ _ => (pe_cmpR op_in_sign (pv 2) (pe_slK K rfl (pv 0)) rfl))) pa_nil))))))), ?_⟩
    refine ⟨_, rfl, _, _, _, _, true, rfl, .ty _, .base (.str _), kit_ty (by decide +kernel), true, rfl, iteT ?_⟩
    refine ⟨_, rfl, _, t.length, rfl, ⟨Nat.le_trans ht (by decide), rfl⟩, _, _, rfl, rfl, true, congrArg V.bl (decide_eq_true (by omega)), iteT ?_⟩
    have e5 : Array.size (Str.cps ⟨t.toArray⟩) = t.length := by simp
    refine ⟨_, rfl, _, rfl, fun D hD => lc_map walk_str (fun i => .bl (decide (t.getD i 0 ∈ l))) hD (Nat.lt_of_le_of_lt (m := 1000) (by rw [e5]; exact ht) (by decide)) (fun _ _ => trivial) (fun i x H1 H2 hi s y Pn k => ?_) (fun H1 s hDl => ?_)⟩
    · obtain ⟨rfl, c, e1, rfl⟩ := y
      have e1 : t[i]? = some c := by simpa using e1
      rw [getD_of e1] at k
      refine ⟨rfl, yes ⟨_, rfl, _, rfl, wa, _, dx, _, _, 2, _, rfl, Slt.same s h1, B.cW, B.s_own_letters, h3, c, _, rfl, rfl, ?_⟩⟩
      have := k _ (Same.refl _)
      simpa using this
    · rw [e5, map_getD t 0 (fun c => V.bl (decide (c ∈ l)))] at hDl
      have hDl : H1 D = some (.lst ((t.map fun c => decide (c ∈ l)).map V.bl)) := by rw [hDl, List.map_map]; rfl
      refine ⟨_, _, rfl, SqL.of hDl, ?_⟩
      rw [List.all_map]
      exact q _ s
def PlaceV (H : Hp) (l : List Nat) (v : V) : Option MW.Place → Prop
  | none => v = .non
  | some (t, p, q) => ∃ e, v = .ref e ∧ H e = some (.tup [tx t, tx (pt l p), optx q])
def spOpenPlace (K : PySem.W.Frag) : Sp := fun vs H Q _ => ∃ (a : Addr) (l : List Nat) (cs : List (List Nat)) (R : Rows) (A0 : List Nat) (s0 : Nat) (T : Rows) (A : List Nat), vs = [.ref a] ∧ RdAt K H a l cs R A0 s0 T A ∧ WOk l cs ∧ LT l.length T A ∧ T.length ≤ 200 ∧
  ∀ H' v r, Same H H' → Due T l A (lps l cs) r → PlaceV H' l v r → Q v H'
theorem LT.lt {k : Nat} {T : Rows} {A : List Nat} (h : LT k T A) : ∀ x ∈ A, x < T.length := fun x hx => by
  rw [h.acc] at hx
  exact List.mem_range.mp (List.mem_filter.mp hx).1
theorem scReaderOpenPlace : FnScope ["self", "table", "letters", "found", "ahead", "pair", "goals"] ["self"] (defScope sReaderOpenPlace) := ⟨rfl, rfl, rfl, by decide +kernel, rfl, by decide +kernel, by decide +kernel⟩
theorem m_Reader_open_place (B : En P w K mg base) : MetS P w K mg base 5 (He.ma K (rdC K) "open_place") (spOpenPlace K) := by
  refine met_mk B.f_Reader_open_place scReaderOpenPlace (fun _ _ _ _ _ _ us hl => match us, hl with | [_], _ => rfl) (fun vs H Q E h => ?_) fun f cdv A outer s H vs Q E hr h => ?_
  · obtain ⟨a, l, cs, R, A0, s0, T, A, rfl, _⟩ := h
    rfl
  · obtain ⟨a, l, cs, R, A0, s0, T, A, rfl, ⟨dx, wa, ra, aa, ka, ta, ba, vs, h1, h2, h3, h4, h5, h6, h7, h8, h9, h10, h11, h12⟩, wok, lt, hTl, q⟩ := h
    have hu := hu_of hr
    have hu64 := hr.units
    refine ⟨_, (pss_cons (ps_par (i := 1) (j := 2) rfl scReaderOpenPlace.nd rfl rfl (by decide) rfl rfl (pa_cons (pe_slK K rfl (pv 0)) (pa_cons (pe_slK K rfl (pe_slK K rfl (pv 0))) pa_nil)) rfl)
    (pss_cons (ps_set (i := 3) scReaderOpenPlace.nd rfl (Or.inl rfl) (pe_c (c_first_open B) hr (by decide) (by rfl) (pa_cons (pe_slK K rfl (pv 0)) (pa_cons (pe_ix (ix_tupK K rfl) (pv 1) pe_int (fun _ _ => rfl)) pa_nil))))
    (pss_cons (ps_if (pt_cmp (pc_isN (pv 3))) (pss_one (ps_ret pe_non)) pss_nil)
    (pss_cons (ps_asg (pv 3) (pg_tup rfl (pgs_cons (pg_name (i := 4) scReaderOpenPlace.nd rfl (Or.inl rfl)) (pgs_cons (pg_name (i := 5) scReaderOpenPlace.nd rfl (Or.inl rfl)) (pgs_cons (pg_name (i := 6) scReaderOpenPlace.nd rfl (Or.inl rfl)) pgs_nil)))))
    (pss_one (ps_ret (pe_tup (pa_cons (pv 4) (pa_cons (pv 5) (pa_cons (pe_c (c_least_parting B) hr (by decide) (by rfl) (pa_cons (pv 1) (pa_cons (pv 1) (pa_cons (pv 6) (pa_cons (pv 2) pa_nil))))) pa_nil)))))))))), ?_⟩
    obtain ⟨wdx, wca, wvs, hsl, hv1, hv2, hwc⟩ := id h7
    refine ⟨_, rfl, a, _, dx, _, _, 1, _, rfl, h1, B.cR, B.s_own_key, h3, _, rfl, a, _, dx, _, _, 4, _, rfl, h1, B.cR, B.s_own_web, h6, wa, _, wdx, _, _, 2, _, rfl, hsl, B.cW, B.s_own_letters, hv2, _, _, rfl, ?_⟩
    refine ⟨_, rfl, a, _, dx, _, _, 4, _, rfl, h1, B.cR, B.s_own_web, h6, _, rfl, ka, _, 0, _, rfl, rfl, SqT.of h10, rfl, wa, ta, T, A, l, cs, rfl, h7, h11, lt, hTl, wok.len, wok.small, wok.nd, fun H1 s1 hb => ?_, fun H1 r g i p t s1 hr hg hb htx => ?_⟩
    · exact ⟨_, rfl, _, rfl, ite2 (fun _ => q _ _ none s1 hb rfl) (fun h => absurd (decide_eq_true rfl) h)⟩
    · refine ⟨_, rfl, _, rfl, ite2 (fun h => absurd (of_decide_eq_true h) (fun z => nomatch z)) (fun _ => ?_)⟩
      refine ⟨_, rfl, r, _, rfl, SqT.of hr, rfl, _, _, rfl, _, _, rfl, _, _, rfl, rfl, ?_⟩
      have hp := lps_lt (MW.badAt_mem hb.2.2)
      have n1 : (goals T i p).1 < T.length := lt.tab.nx_lt (lt.tab.nx_lt hb.1 (by omega)) (by omega)
      have n2 : (goals T i p).2 < T.length := lt.tab.nx_lt (lt.tab.nx_lt hb.1 (by omega)) (by omega)
      refine ⟨_, rfl, _, rfl, _, rfl, _, rfl, _, rfl, _, rfl, ka, ta, ba, g, T, A, l, _, _, rfl, s1 _ _ h10, h11.same s1, s1 _ _ h12, hg, lt.tab, n1, n2, hTl, LT.lt lt, wok.len, wok.small, fun H2 rr s2 hlp => ⟨by show 3 ≤ sizeLine; decide, fun e he => ?_⟩⟩
      exact q _ _ (some (t, p, rr)) ((s1.trans s2).trans (same_upd he)) ⟨i, hb, htx, hlp⟩ ⟨e, rfl, upd_same⟩
def spIsClosed (K : PySem.W.Frag) : Sp := fun vs H Q _ => ∃ (a : Addr) (l : List Nat) (cs : List (List Nat)) (R : Rows) (A0 : List Nat) (s0 : Nat) (T : Rows) (A : List Nat), vs = [.ref a] ∧ RdAt K H a l cs R A0 s0 T A ∧ WOk l cs ∧ LT l.length T A ∧ T.length ≤ 200 ∧
  (∀ H', Same H H' → FirstBad T (lps l cs) none → Q (.bl true) H') ∧ (∀ H' x, Same H H' → FirstBad T (lps l cs) (some x) → Q (.bl false) H')
theorem scReaderIsClosed : FnScope ["self"] ["self"] (defScope sReaderIsClosed) := ⟨rfl, rfl, rfl, by decide +kernel, rfl, by decide +kernel, by decide +kernel⟩
theorem m_Reader_is_closed (B : En P w K mg base) : MetS P w K mg base 5 (He.ma K (rdC K) "is_closed") (spIsClosed K) := by
  refine met_mk B.f_Reader_is_closed scReaderIsClosed (fun _ _ _ _ _ _ us hl => match us, hl with | [_], _ => rfl) (fun vs H Q E h => ?_) fun f cdv A outer s H vs Q E hr h => ?_
  · obtain ⟨a, l, cs, R, A0, s0, T, A, rfl, _⟩ := h
    rfl
  · obtain ⟨a, l, cs, R, A0, s0, T, A, rfl, ⟨dx, wa, ra, aa, ka, ta, ba, vs, h1, h2, h3, h4, h5, h6, h7, h8, h9, h10, h11, h12⟩, wok, lt, hTl, q1, q2⟩ := h
    have hu := hu_of hr
    have hu64 := hr.units
    refine ⟨_, (pss_one (ps_ret (pe_cmp (pc_isN (pe_c (c_first_open B) hr (by decide) (by rfl) (pa_cons (pe_slK K rfl (pv 0)) (pa_cons (pe_ix (ix_tupK K rfl) (pe_slK K rfl (pv 0)) pe_int (fun _ _ => rfl)) pa_nil)))) rfl))), ?_⟩
    refine ⟨_, rfl, a, _, dx, _, _, 4, _, rfl, h1, B.cR, B.s_own_web, h6, _, rfl, a, _, dx, _, _, 1, _, rfl, h1, B.cR, B.s_own_key, h3, ka, _, 0, _, rfl, rfl, SqT.of h10, rfl, wa, ta, T, A, l, cs, rfl, h7, h11, lt, hTl, wok.len, wok.small, wok.nd, fun H1 s1 hb => ?_, fun H1 r g i p t s1 hr hg hb htx => ?_⟩
    · show Q (.bl (decide (V.non = V.non))) H1
      rw [decide_eq_true rfl]
      exact q1 _ s1 hb
    · show Q (.bl (decide (V.ref r = V.non))) H1
      rw [decide_eq_false (fun z => nomatch z)]
      exact q2 _ _ s1 hb
def spLeast (K : PySem.W.Frag) : Sp := fun vs H Q _ => ∃ (a : Addr) (l : List Nat) (cs : List (List Nat)) (R : Rows) (A0 : List Nat) (s0 : Nat) (T : Rows) (A : List Nat), vs = [.ref a] ∧ RdAt K H a l cs R A0 s0 T A ∧ WOk l cs ∧ LT l.length T A ∧ T.length ≤ 200 ∧
  ∀ H' b, Same H H' → RdAt K H' b l cs T A 0 T A → Q (.ref b) H'
theorem filter_asc {p : Nat → Bool} {n : Nat} : Asc (· < ·) ((List.range n).filter p) := by
  have h : ((List.range n).filter p).Pairwise (· < ·) := List.Pairwise.filter _ List.pairwise_lt_range
  intro i x y e1 e2
  obtain ⟨h1, r1⟩ := List.getElem?_eq_some_iff.mp e1
  obtain ⟨h2, r2⟩ := List.getElem?_eq_some_iff.mp e2
  have := List.pairwise_iff_getElem.mp h i (i + 1) h1 h2 (by omega)
  rw [r1, r2] at this
  exact this
theorem LT.aut {l : List Nat} {T : Rows} {A : List Nat} (h : LT l.length T A) (hT : T.length ≤ 200) : Aut l T A 0 where
  tab := h.tab
  h0 := h.pos
  le := hT
  acc := LT.lt h
  asc := by rw [h.acc]; exact filter_asc
  few := by
    rw [h.acc]
    refine Nat.le_trans (List.length_filter_le _ _) ?_
    rw [List.length_range]
    omega
theorem scReaderLeast : FnScope ["self"] ["self"] (defScope sReaderLeast) := ⟨rfl, rfl, rfl, by decide +kernel, rfl, by decide +kernel, by decide +kernel⟩
theorem m_Reader_least (B : En P w K mg base) : MetS P w K mg base 7 (He.ma K (rdC K) "least") (spLeast K) := by
  refine met_mk B.f_Reader_least scReaderLeast (fun _ _ _ _ _ _ us hl => match us, hl with | [_], _ => rfl) (fun vs H Q E h => ?_) fun f cdv A outer s H vs Q E hr h => ?_
  · obtain ⟨a, l, cs, R, A0, s0, T, A, rfl, _⟩ := h
    rfl
  · obtain ⟨a, l, cs, R, A0, s0, T, A, rfl, hrd, wok, lt, hTl, q⟩ := h
    have hu := hu_of hr
    have hu64 := hr.units
    obtain ⟨fdR, F, ⟨dsR, hd, hb⟩, _⟩ := ok_reader B
    refine ⟨_, (pss_one (ps_ret (pe_make B.mR F (hr.mono (by decide)) (by rfl) B.gR hb hd (C8.pass0 (E := C8.E0)) (pa_cons (pe_slK K rfl (pv 0)) (pa_cons (pe_ix (ix_tupK K rfl) (pe_slK K rfl (pv 0)) pe_int (fun _ _ => rfl)) (pa_cons (pe_ix (ix_tupK K rfl) (pe_slK K rfl (pv 0)) pe_int (fun _ _ => rfl)) pa_nil)))))), ?_⟩
    obtain ⟨dx, wa, ra, aa, ka, ta, ba, vs, h1, h2, h3, h4, h5, h6, h7, h8, h9, h10, h11, h12⟩ := hrd
    refine ⟨_, rfl, a, _, dx, _, _, 4, _, rfl, h1, B.cR, B.s_own_web, h6, _, rfl, a, _, dx, _, _, 1, _, rfl, h1, B.cR, B.s_own_key, h3, ka, _, 0, _, rfl, rfl, SqT.of h10, rfl, _, rfl, a, _, dx, _, _, 1, _, rfl, h1, B.cR, B.s_own_key, h3, ka, _, 1, _, rfl, rfl, SqT.of h10, rfl, fun x y hx hy hyx => ?_⟩
    have s1 : Same H (upd (upd H y (.own x)) x (.ins (rdC K) y [])) := fun b o e => by
      rw [upd_ne (ne_of_none e hx), upd_ne (ne_of_none e hy)]
      exact e
    have ke : ∀ H', (∀ b o, upd (upd H y (.own x)) x (.ins (rdC K) y []) b = some o → b ≠ x → b ≠ y → H' b = some o) → Same H H' := fun H' k b o e => k b o (s1 _ _ e) (ne_of_none e hx) (ne_of_none e hy)
    refine ⟨x, y, wa, ta, ba, l, cs, T, A, 0, rfl, upd_same, by rw [upd_ne hyx, upd_same], fun H' k => ⟨h7.same (ke _ k), h11.same (ke _ k), ke _ k _ _ h12⟩, wok, LT.aut lt hTl, fun H' T' A' k hr2 lst => ⟨rfl, ?_⟩⟩
    obtain ⟨e1, e2⟩ := MW.Least.uniq lt.tab lt.pos lst lt.self
    subst e1 e2
    exact q _ _ (ke _ k) hr2
end
end Ww
end S_Ww7

section S_Ww8
set_option Elab.async false
set_option linter.all false
set_option maxRecDepth 100000
set_option maxHeartbeats 2000000
/-! Walks 8: is it an open place? -/
namespace Ww
open PySem PySem.Spec PyProof.Rows L2 WwR SlX
open C8 (Cal pe_c)
open MW (Rows suc nx Tab LT)
/-- are both read, or neither? -/
def opn (l : List Nat) (cs : List (List Nat)) (R : Rows) (A0 : List Nat) (s0 : Nat) (a p b : List Nat) : Bool :=
  a.all (fun c => decide (c ∈ l)) && (b.all (fun c => decide (c ∈ l)) && (decide (p ∈ (lps l cs).map (pt l)) && (decide (rd l R s0 (a ++ p ++ b) ∈ A0) != decide (rd l R s0 (a ++ p.reverse ++ b) ∈ A0))))
/-- the values asked of, and the answer -/
inductive OpV (K : PySem.W.Frag) (H : Hp) (l : List Nat) (cs : List (List Nat)) (R : Rows) (A0 : List Nat) (s0 : Nat) : V → Bool → Prop
  | non : OpV K H l cs R A0 s0 .non false
  | lst {p : Addr} {xs : List V} (h : H p = some (.lst xs)) : OpV K H l cs R A0 s0 (.ref p) false
  | size {p : Addr} {xs : List V} (h : H p = some (.tup xs)) (k : xs.length ≠ 3) : OpV K H l cs R A0 s0 (.ref p) false
  | num {p : Addr} {a b : List Nat} {i : Int} (h : H p = some (.tup [tx a, .int i, tx b])) (ha : a.length ≤ 300) (hb : b.length ≤ 300) : OpV K H l cs R A0 s0 (.ref p) false
  | txt {p : Addr} {a q b : List Nat} (h : H p = some (.tup [tx a, tx q, tx b])) (ha : a.length ≤ 300) (hb : b.length ≤ 300) : OpV K H l cs R A0 s0 (.ref p) (opn l cs R A0 s0 a q b)
theorem OpV.same {K : PySem.W.Frag} {H H' : Hp} {l : List Nat} {cs : List (List Nat)} {R : Rows} {A0 : List Nat} {s0 : Nat} {v : V} {r : Bool} (s : Same H H') (h : OpV K H l cs R A0 s0 v r) : OpV K H' l cs R A0 s0 v r := by
  cases h with
  | non => exact .non
  | lst h => exact .lst (s _ _ h)
  | size h k => exact .size (s _ _ h) k
  | num h ha hb => exact .num (s _ _ h) ha hb
  | txt h ha hb => exact .txt (s _ _ h) ha hb
section
variable {P : Program} {w : World} {K : PySem.W.Frag} {mg : Str → Option Value} {base : Heap}

def spIsOpen (K : PySem.W.Frag) : Sp := fun vs H Q _ => ∃ (a : Addr) (v : V) (l : List Nat) (cs : List (List Nat)) (R : Rows) (A0 : List Nat) (s0 : Nat) (T : Rows) (A : List Nat) (r : Bool), vs = [.ref a, v] ∧ RdAt K H a l cs R A0 s0 T A ∧ WOk l cs ∧ Aut l R A0 s0 ∧ OpV K H l cs R A0 s0 v r ∧
  ∀ H', Same H H' → Q (.bl r) H'
theorem scReaderIsOpenPlace : FnScope ["self", "value", "ahead", "pair", "behind", "goals", "between"] ["self", "value"] (defScope sReaderIsOpenPlace) := ⟨rfl, rfl, rfl, by decide +kernel, rfl, by decide +kernel, by decide +kernel⟩
theorem m_Reader_is_open_place (B : En P w K mg base) : MetS P w K mg base 4 (He.ma K (rdC K) "is_open_place") (spIsOpen K) := by
  refine met_mk B.f_Reader_is_open_place scReaderIsOpenPlace (fun _ _ _ _ _ _ us hl => match us, hl with | [_, _], _ => rfl) (fun vs H Q E h => ?_) fun f cdv A outer s H vs Q E hr h => ?_
  · obtain ⟨a, v, l, cs, R, A0, s0, T, A, r, rfl, _⟩ := h
    rfl
  · obtain ⟨a, v, l, cs, R, A0, s0, T, A, r, rfl, hrd, wok, au, hov, q⟩ := h
    have hu := hu_of hr
    have hu64 := hr.units
    refine ⟨_, (pss_cons (ps_if (PW.pt (pw_or (pt_not (pt_val (pe_callB (call_isiK K rfl) (by rfl) B.isinstance_ boot_isinstance (pa_cons (pv 1) (pa_cons (pe_bltn (v := .ty "tuple") (by rfl) B.tuple_ boot_tuple rfl) pa_nil))))) (pw_or1 (pt_cmpR op_ne (pe_callB (call_len_seqK K rfl) (by rfl) B.len_ boot_len (pa_cons (pv 1) pa_nil)) pe_int (nomark _))))) (pss_one (ps_ret pe_bl)) pss_nil)
    (pss_cons (ps_asg (pv 1) (pg_tup rfl (pgs_cons (pg_name (i := 2) scReaderIsOpenPlace.nd rfl (Or.inr rfl)) (pgs_cons (pg_name (i := 3) scReaderIsOpenPlace.nd rfl (Or.inl rfl)) (pgs_cons (pg_name (i := 4) scReaderIsOpenPlace.nd rfl (Or.inr rfl)) pgs_nil)))))
    (pss_cons (ps_if (PW.pt (pw_or (pt_not (pt_val (pe_c (c_is_read_text B) hr (by decide) (by rfl) (pa_cons (pe_slK K rfl (pv 0)) (pa_cons (pv 2) pa_nil))))) (pw_or1 (pt_not (pt_val (pe_c (c_is_read_text B) hr (by decide) (by rfl) (pa_cons (pe_slK K rfl (pv 0)) (pa_cons (pv 4) pa_nil)))))))) (pss_one (ps_ret pe_bl)) pss_nil)
    (pss_cons (ps_if (PW.pt (pw_or (pt_not (pt_val (pe_callB (call_isiK K rfl) (by rfl) B.isinstance_ boot_isinstance (pa_cons (pv 3) (pa_cons (pe_bltn (v := .ty "str") (by rfl) B.str_ boot_str rfl) pa_nil))))) (pw_or1 (pt_cmpR (op_notIn_seqK K rfl) (pv 3) (pe_loose B rfl rfl rfl rfl rfl hr (by decide) (pe_slK K rfl (pv 0))) rfl)))) (pss_one (ps_ret pe_bl)) pss_nil)
    (pss_cons (ps_setLc (i := 5) (own := [("between", 6)]) (g := gName 6) (tt := tYes) rfl scReaderIsOpenPlace.nd rfl rfl (sw_true rfl rfl rfl (by decide +kernel)) (pi_tupK K rfl (pe_tup (pa_cons (pv 3) (pa_cons (pe_revP (pv 3)) pa_nil)))) (blkOk_by (own := [("between", 6)]) (N := ["self", "value", "ahead", "pair", "behind", "goals", "between"]) (sc := defScope sReaderIsOpenPlace) (by decide +kernel)) (fun _ _ _ _ _ => (pg_name (i := 6) scReaderIsOpenPlace.nd rfl (Or.inl rfl))) (fun _ _ _ _ _ => pts_nil) (fun _ _ _ _ _ => (pe_cmpR (op_in_seqK K rfl) (SlX.pe_methSl (pv 0) B.cR B.m_led (m_Reader_led B).run (hr.mono (by decide)) (C8.pass0 (E := C8.E0)) (pa_cons (pe_op op_add_str (pe_op op_add_str (pv 2) (pv 6)) (pv 4)) pa_nil)) (pe_slK K rfl (pv 0)) rfl)))
    (pss_one (ps_ret (pe_cmpR op_ne (pe_ix (ix_listK K rfl) (pv 5) pe_int (fun _ _ => rfl)) (pe_ix (ix_listK K rfl) (pv 5) pe_int (fun _ _ => rfl)) (nomark _))))))))), ?_⟩
    obtain ⟨dx, wa, ra, aa, ka, ta, ba, vs, h1, h2, h3, h4, h5, h6, h7, h8, h9, h10, h11, h12⟩ := id hrd
    cases hov with
    | non =>
      exact ⟨_, rfl, _, _, _, _, false, rfl, .ty _, .base .non, kit_ty (by decide +kernel), false, rfl, iteT (iteT (q _ (Same.refl _)))⟩
    | lst hv =>
      exact ⟨_, rfl, _, _, _, _, false, rfl, .ty _, .base (.lst hv), kit_ty (by decide +kernel), false, rfl, iteT (iteT (q _ (Same.refl _)))⟩
    | @size vp xs hv hne =>
      refine ⟨_, rfl, _, _, _, _, true, rfl, .ty _, .base (.tup hv), kit_ty (by decide +kernel), true, rfl, iteF ?_⟩
      refine ⟨_, rfl, vp, _, rfl, .inr (SqT.of hv), rfl, _, rfl, ite2 (fun _ => q _ (Same.refl _)) (fun hh => absurd ?_ hh)⟩
      have : ¬ (V.int (xs.length : Nat) = V.int 3) := fun z => by injection z with z; exact hne (by omega)
      rw [decide_eq_false this]
      rfl
    | @num vp ta1 tb1 i hv ha hb =>
      have QF : ∀ H', Same H H' → Q (.bl false) H' := q
      have QF2 := QF
      refine ⟨_, rfl, _, _, _, _, true, rfl, .ty _, .base (.tup hv), kit_ty (by decide +kernel), true, rfl, iteF ?_⟩
      refine ⟨_, rfl, vp, _, rfl, .inr (SqT.of hv), rfl, _, rfl, ite2 (fun hne => absurd hne (by simp)) (fun _ => ?_)⟩
      refine ⟨_, rfl, vp, _, rfl, SqT.of hv, rfl, _, _, rfl, _, _, rfl, _, _, rfl, rfl, ?_⟩
      refine ⟨_, rfl, a, _, dx, _, _, 4, _, rfl, h1, B.cR, B.s_own_web, h6, _, rfl, wa, l, cs, ta1, rfl, h7, Nat.le_trans ha (by decide), fun H1 s1 => ⟨_, rfl, ?_⟩⟩
      show if (!(ta1.all fun c => decide (c ∈ l))) = true then _ else _
      by_cases hal : (ta1.all fun c => decide (c ∈ l)) = true
      case neg =>
        have hal : (ta1.all fun c => decide (c ∈ l)) = false := by simpa using hal
        rw [hal]
        exact iteT (iteT (QF _ s1))
      rw [hal]
      refine iteF ?_
      refine ⟨_, rfl, a, _, dx, _, _, 4, _, rfl, Slt.same s1 h1, B.cR, B.s_own_web, h6, _, rfl, wa, l, cs, tb1, rfl, h7.same s1, Nat.le_trans hb (by decide), fun H2 s2 => ⟨_, rfl, ?_⟩⟩
      have s12 := s1.trans s2
      show if (!(tb1.all fun c => decide (c ∈ l))) = true then _ else _
      by_cases hbl : (tb1.all fun c => decide (c ∈ l)) = true
      case neg =>
        have hbl : (tb1.all fun c => decide (c ∈ l)) = false := by simpa using hbl
        rw [hbl]
        exact iteT (QF2 _ s12)
      rw [hbl]
      refine iteF ?_
      exact ⟨_, rfl, _, _, _, _, false, rfl, .ty _, .base (.int _), kit_ty (by decide +kernel), false, rfl, iteT (iteT (QF _ s12))⟩
    | @txt vp ta1 tq tb1 hv ha hb =>
      have QF : ∀ H', Same H H' → (ta1.all fun c => decide (c ∈ l)) = false → Q (.bl false) H' := fun H' s h => by
        have := q H' s
        unfold opn at this
        rw [h, Bool.false_and] at this
        exact this
      have QF2 : ∀ H', Same H H' → (tb1.all fun c => decide (c ∈ l)) = false → Q (.bl false) H' := fun H' s h => by
        have := q H' s
        unfold opn at this
        rw [h, Bool.false_and, Bool.and_false] at this
        exact this
      refine ⟨_, rfl, _, _, _, _, true, rfl, .ty _, .base (.tup hv), kit_ty (by decide +kernel), true, rfl, iteF ?_⟩
      refine ⟨_, rfl, vp, _, rfl, .inr (SqT.of hv), rfl, _, rfl, ite2 (fun hne => absurd hne (by simp)) (fun _ => ?_)⟩
      refine ⟨_, rfl, vp, _, rfl, SqT.of hv, rfl, _, _, rfl, _, _, rfl, _, _, rfl, rfl, ?_⟩
      refine ⟨_, rfl, a, _, dx, _, _, 4, _, rfl, h1, B.cR, B.s_own_web, h6, _, rfl, wa, l, cs, ta1, rfl, h7, Nat.le_trans ha (by decide), fun H1 s1 => ⟨_, rfl, ?_⟩⟩
      show if (!(ta1.all fun c => decide (c ∈ l))) = true then _ else _
      by_cases hal : (ta1.all fun c => decide (c ∈ l)) = true
      case neg =>
        have hal : (ta1.all fun c => decide (c ∈ l)) = false := by simpa using hal
        rw [hal]
        exact iteT (iteT (QF _ s1 hal))
      rw [hal]
      refine iteF ?_
      refine ⟨_, rfl, a, _, dx, _, _, 4, _, rfl, Slt.same s1 h1, B.cR, B.s_own_web, h6, _, rfl, wa, l, cs, tb1, rfl, h7.same s1, Nat.le_trans hb (by decide), fun H2 s2 => ⟨_, rfl, ?_⟩⟩
      have s12 := s1.trans s2
      show if (!(tb1.all fun c => decide (c ∈ l))) = true then _ else _
      by_cases hbl : (tb1.all fun c => decide (c ∈ l)) = true
      case neg =>
        have hbl : (tb1.all fun c => decide (c ∈ l)) = false := by simpa using hbl
        rw [hbl]
        exact iteT (QF2 _ s12 hbl)
      rw [hbl]
      refine iteF ?_
      refine ⟨_, rfl, _, _, _, _, true, rfl, .ty _, .base (.str _), kit_ty (by decide +kernel), true, rfl, iteF ?_⟩
      refine ⟨_, rfl, _, rfl, a, _, dx, _, _, 4, _, rfl, Slt.same s12 h1, B.cR, B.s_own_web, h6, ?_⟩
      have h72 := h7.same s12
      obtain ⟨wdx, wca, wvs, hsl, hv1, hv2, hwc⟩ := id h72
      refine ⟨wa, wdx, wvs, rfl, hsl, wa, l, cs, rfl, h72, wok.len, fun H3 lo s3 lo0 hlo => ?_⟩
      rw [lps_txt] at hlo
      have s13 := s12.trans s3
      refine ⟨lo, _, rfl, .inr (SqT.of hlo), rfl, flat_tx _, _, rfl, ?_⟩
      show if (!inV (tx tq) (((lps l cs).map (pt l)).map tx)) = true then _ else _
      rw [inV_tx]
      by_cases hin : tq ∈ (lps l cs).map (pt l)
      case neg =>
        have := q H3 s13
        unfold opn at this
        rw [hal, hbl, decide_eq_false hin, Bool.true_and, Bool.true_and, Bool.false_and] at this
        rw [decide_eq_false hin]
        exact iteT this
      rw [decide_eq_true hin]
      refine iteF ?_
      obtain ⟨p, hp, rfl⟩ := List.mem_map.mp hin
      have hp2 := lps_lt hp
      have hl1 : l.getD p.1 0 ∈ l := MW.getD_mem (by omega)
      have hl2 : l.getD p.2 0 ∈ l := MW.getD_mem (by omega)
      have hal' : ∀ c ∈ ta1, c ∈ l := fun c hc => by simpa using List.all_eq_true.mp hal c hc
      have hbl' : ∀ c ∈ tb1, c ∈ l := fun c hc => by simpa using List.all_eq_true.mp hbl c hc
      have hq := q
      unfold opn at hq
      rw [hal, hbl, decide_eq_true hin, Bool.true_and, Bool.true_and, Bool.true_and] at hq
      -- both orders
      refine ⟨_, rfl, _, rfl, l.getD p.1 0, l.getD p.2 0, rfl, by show 2 ≤ sizeLine; decide, fun tp htp => ⟨tp, rfl, ⟨_, SqT.of upd_same⟩, fun D hD => lc_map (n := ([tx (pt l p), tx (pt l p).reverse] : List V).length) walk_tup (fun i => .bl (decide (rd l R s0 (ta1 ++ (if i = 0 then pt l p else (pt l p).reverse) ++ tb1) ∈ A0))) hD (by show 2 < sizeLine; decide) (fun H4 s => SqT.of (s _ _ upd_same)) (fun i x H4 H5 hi s y Pn k => ?_) (fun H4 s hDl => ?_)⟩⟩
      · obtain ⟨rfl, e1⟩ := y
        have s14 := (s13.trans (same_upd htp)).trans s
        have hi2 : i < 2 := hi
        obtain ⟨t, hx, htl, ht2, he⟩ : ∃ t : List Nat, x = tx t ∧ (∀ c ∈ t, c ∈ l) ∧ t.length = 2 ∧ (if i = 0 then pt l p else (pt l p).reverse) = t := by
          rcases (show i = 0 ∨ i = 1 by omega) with rfl | rfl
          · refine ⟨pt l p, (Option.some.inj e1).symm, fun c hc => ?_, rfl, rfl⟩
            rcases (by simpa [pt] using hc : c = l.getD p.1 0 ∨ c = l.getD p.2 0) with z | z <;> rw [z] <;> assumption
          · refine ⟨(pt l p).reverse, (Option.some.inj e1).symm, fun c hc => ?_, rfl, rfl⟩
            rcases (by simpa [pt] using hc : c = l.getD p.2 0 ∨ c = l.getD p.1 0) with z | z <;> rw [z] <;> assumption
        subst hx
        rw [he] at k
        refine ⟨rfl, yes ⟨_, rfl, a, dx, vs, rfl, Slt.same s14 h1, _, rfl, _, rfl, _, _, rfl, rfl, ?_, _, rfl, _, _, rfl, rfl, ?_, a, l, cs, R, A0, s0, T, A, ta1 ++ t ++ tb1, by rw [tx_app, tx_app], hrd.same s14, wok, au, ?_, _, rfl, a, _, dx, _, _, 0, _, rfl, Slt.same s14 h1, B.cR, B.s_own_accepts, h2, aa, _, rfl, .inr (SqT.of (s14 _ _ h9)), rfl, flat_nv _, ?_⟩⟩
        · show ta1.toArray.size + t.toArray.size ≤ sizeLine
          rw [List.size_toArray, List.size_toArray]
          exact Nat.le_trans (m := 302) (by omega) (by decide)
        · show (ta1.toArray ++ t.toArray).size + tb1.toArray.size ≤ sizeLine
          rw [Array.size_append, List.size_toArray, List.size_toArray, List.size_toArray]
          exact Nat.le_trans (m := 602) (by omega) (by decide)
        · intro c hc
          rcases List.mem_append.mp hc with hc | hc
          · rcases List.mem_append.mp hc with hc | hc
            · exact hal' c hc
            · exact htl c hc
          · exact hbl' c hc
        · have := k _ (Same.refl _)
          rw [inV_nv]
          exact this
      · have s14 := (s13.trans (same_upd htp)).trans s
        have hDl : H4 D = some (.lst [.bl (decide (rd l R s0 (ta1 ++ pt l p ++ tb1) ∈ A0)), .bl (decide (rd l R s0 (ta1 ++ (pt l p).reverse ++ tb1) ∈ A0))]) := hDl
        refine ⟨_, rfl, D, _, 0, _, rfl, rfl, SqL.of hDl, rfl, _, rfl, D, _, 1, _, rfl, rfl, SqL.of hDl, rfl, rfl, ?_⟩
        show Q (.bl (!decide (V.bl _ = V.bl _))) H4
        rw [dec_bl2]
        have := hq H4 s14
        generalize decide (rd l R s0 (ta1 ++ pt l p ++ tb1) ∈ A0) = b1 at this ⊢
        generalize decide (rd l R s0 (ta1 ++ (pt l p).reverse ++ tb1) ∈ A0) = b2 at this ⊢
        cases b1 <;> cases b2 <;> exact this
end
end Ww
end S_Ww8

section S_Wl1
set_option Elab.async false
set_option linter.all false
set_option maxRecDepth 100000
set_option maxHeartbeats 2000000
/-! The law's walks 1: draws. -/
namespace Ww
open PySem PySem.Spec PyProof.Rows L2 WwR SlX
open C8 (Cal pe_c)
theorem erase_perm {α : Type} {l : List α} {r : Nat} (hr : r < l.length) : (l[r] :: l.eraseIdx r).Perm l := by
  rw [List.eraseIdx_eq_take_drop_succ]
  have e : l = l.take r ++ l[r] :: l.drop (r + 1) := by rw [List.getElem_cons_drop, List.take_append_drop]
  exact List.perm_middle.symm.trans (by rw [← e])
theorem upd_self {H : Hp} {a : Addr} {o : HO} (h : H a = some o) : upd H a o = H := by
  funext b
  by_cases z : b = a
  · rw [z, upd_same, h]
  · rw [upd_ne z]
section
variable {P : Program} {w : World} {K : PySem.W.Frag} {mg : Str → Option Value} {base : Heap}

def spDice (K : PySem.W.Frag) : Sp := fun vs H Q _ => ∃ (a : Addr) (ns : List Int) (k : Nat), vs = [.ref a, nv k] ∧ SqL K H a (ns.map V.int) ∧ k ≤ 100 ∧ ∀ H' d, Same H H' → H d = none → H' d = some (DiceO d) → Q (.ref d) H'
theorem scLawDice : FnScope ["_law_script", "_law_spot", "_law_cell", "_law_left"] ["_law_script", "_law_spot"] (defScope sLawDice) := ⟨rfl, rfl, rfl, by decide +kernel, rfl, by decide +kernel, by decide +kernel⟩
theorem c_law_dice (B : En P w K mg base) : Cal P w K mg base 1 "_law_dice" (spDice K) [] := by
  refine cal_mk B.f_law_dice scLawDice (fun _ _ _ _ _ _ us hl => match us, hl with | [_, _], _ => rfl) (fun vs H Q E h => ?_) fun f cdv A outer s H vs Q E hr h => ?_
  · obtain ⟨a, ns, k, rfl, _⟩ := h
    rfl
  · obtain ⟨a, ns, k, rfl, hs, hk, q⟩ := h
    have hu := hu_of hr
    have hu64 := hr.units
    refine ⟨_, (pss_cons (ps_set (i := 2) scLawDice.nd rfl (Or.inl rfl) (pe_ifExp (pt_cmpR op_lt (pv 1) (pe_callB (call_len_seqK K rfl) (by rfl) B.len_ boot_len (pa_cons (pv 0) pa_nil)) (nomark _)) (pe_callTy call_int1 (by rfl) B.int_ boot_int (pa_cons (pe_ix (ix_listK K rfl) (pv 0) (pv 1) (fun _ _ => rfl)) pa_nil)) (pe_op op_add (pe_op op_mul pe_int (pv 1)) pe_int)))
    (pss_cons (ps_set (i := 3) scLawDice.nd rfl (Or.inl rfl) (pe_op op_mod (pe_callB (call_max2 rfl) (by rfl) B.max_ boot_max (pa_cons pe_int (pa_cons (pe_op op_sub (pe_callB call_abs (by rfl) B.abs_ boot_abs (pa_cons (pv 2) pa_nil)) (pe_op op_pow pe_int pe_int)) pa_nil))) (pe_op op_mulW (pe_op op_pow pe_int pe_int) (pe_op op_pow pe_int pe_int))))
    (pss_one (ps_ret (pe_diceShut (pe_lst (pa_cons (pv 3) (pa_cons (pe_op op_add (pe_op op_add (pe_op op_add (pe_op op_mul (pe_op op_mod (pe_callB call_abs (by rfl) B.abs_ boot_abs (pa_cons (pv 2) pa_nil)) pe_int) pe_int) (pe_op op_mul pe_int (pv 1))) (pe_op op_mul pe_int (pe_callTy call_int1 (by rfl) B.int_ boot_int (pa_cons (pe_cmpR op_lt (pv 2) pe_int (nomark _)) pa_nil)))) pe_int) (pa_cons pe_int pa_nil))))))))), ?_⟩
    refine ⟨_, rfl, _, rfl, a, _, rfl, .inl hs, _, _, rfl, rfl, _, rfl, ite2 (fun h => ?_) (fun h => ?_)⟩
    · have hk2 : k < ns.length := by simpa using h
      refine ⟨_, rfl, _, rfl, a, _, _, .int ns[k], rfl, rfl, hs, atI_nat (by rw [List.getElem?_map, List.getElem?_eq_getElem hk2]; rfl), .inl ⟨_, rfl, ?_⟩⟩
      refine ⟨_, rfl, _, rfl, _, _, rfl, rfl, ⟨by decide, by decide, by decide⟩, _, _, rfl, rfl, _, _, rfl, _, _, rfl, rfl, ⟨by decide, by decide, by decide⟩, _, _, rfl, rfl, ⟨by decide, by decide, by decide⟩, _, _, rfl, rfl, wide_mul (a := 200) (b := 200) (by decide +kernel) (by decide +kernel) (by decide) (by decide) (by decide), _, _, rfl, rfl, by show (0 : Int) < 10 ^ (60 : Nat) * 10 ^ (60 : Nat); decide +kernel, ?_⟩
      refine ⟨_, rfl, _, rfl, _, rfl, _, _, rfl, rfl, by show (0 : Int) < 1152921504606846599; decide, _, _, rfl, rfl, .inr ⟨by decide, by decide⟩, _, rfl, _, _, rfl, rfl, .inl ⟨by decide, by decide⟩, _, _, rfl, rfl, _, rfl, _, _, rfl, rfl, .inr ⟨_, rfl, _, _, rfl, rfl, .inl ⟨by decide, by decide⟩, _, _, rfl, rfl, _, _, rfl, rfl, by show 3 ≤ sizeLine; decide, fun d hd => ⟨d, _, _, _, upd_same, ?_⟩⟩⟩
      rw [upd_upd]
      exact q _ d (same_upd hd) hd upd_same
    · refine ⟨_, rfl, _, _, rfl, rfl, .inl ⟨by decide, by decide⟩, _, _, rfl, rfl, ?_⟩
      refine ⟨_, rfl, _, rfl, _, _, rfl, rfl, ⟨by decide, by decide, by decide⟩, _, _, rfl, rfl, _, _, rfl, _, _, rfl, rfl, ⟨by decide, by decide, by decide⟩, _, _, rfl, rfl, ⟨by decide, by decide, by decide⟩, _, _, rfl, rfl, wide_mul (a := 200) (b := 200) (by decide +kernel) (by decide +kernel) (by decide) (by decide) (by decide), _, _, rfl, rfl, by show (0 : Int) < 10 ^ (60 : Nat) * 10 ^ (60 : Nat); decide +kernel, ?_⟩
      refine ⟨_, rfl, _, rfl, _, rfl, _, _, rfl, rfl, by show (0 : Int) < 1152921504606846599; decide, _, _, rfl, rfl, .inr ⟨by decide, by decide⟩, _, rfl, _, _, rfl, rfl, .inl ⟨by decide, by decide⟩, _, _, rfl, rfl, _, rfl, _, _, rfl, rfl, .inr ⟨_, rfl, _, _, rfl, rfl, .inl ⟨by decide, by decide⟩, _, _, rfl, rfl, _, _, rfl, rfl, by show 3 ≤ sizeLine; decide, fun d hd => ⟨d, _, _, _, upd_same, ?_⟩⟩⟩
      rw [upd_upd]
      exact q _ d (same_upd hd) hd upd_same
def spRoll : Sp := fun vs H Q _ => ∃ (d : Addr) (n : Nat), vs = [.ref d, nv n] ∧ H d = some (DiceO d) ∧ 0 < n ∧ n < 1000000 ∧ ∀ r : Nat, r < n → Q (nv r) H
theorem mod_nat (i : Int) {n : Nat} (h : 0 < n) : ∃ r : Nat, r < n ∧ i % (n : Int) = r := by
  have h1 := Int.emod_nonneg i (show (n : Int) ≠ 0 by omega)
  have h2 := Int.emod_lt_of_pos i (show (0 : Int) < n by omega)
  exact ⟨(i % n).toNat, by omega, by omega⟩
theorem scLawRoll : FnScope ["_law_dice_here", "_law_total", "_law_found", "_law_one", "_law_two"] ["_law_dice_here", "_law_total"] (defScope sLawRoll) := ⟨rfl, rfl, rfl, by decide +kernel, rfl, by decide +kernel, by decide +kernel⟩
theorem c_law_roll (B : En P w K mg base) : Cal P w K mg base 1 "_law_roll" (spRoll) [] := by
  refine cal_mk B.f_law_roll scLawRoll (fun _ _ _ _ _ _ us hl => match us, hl with | [_, _], _ => rfl) (fun vs H Q E h => ?_) fun f cdv A outer s H vs Q E hr h => ?_
  · obtain ⟨d, n, rfl, _⟩ := h
    rfl
  · obtain ⟨d, n, rfl, hd, hn, hn2, q⟩ := h
    have hu := hu_of hr
    have hu64 := hr.units
    refine ⟨_, pss_diceOpen (pss_cons (ps_if (pt_cmpR op_gt (pe_ix (ix_listK K rfl) (pv 0) pe_int (fun _ _ => rfl)) pe_int (nomark _)) (pss_cons (ps_set (i := 2) scLawRoll.nd rfl (Or.inl rfl) (pe_op op_mod (pe_callTy call_int1 (by rfl) B.int_ boot_int (pa_cons (pe_ix (ix_listK K rfl) (pv 0) pe_int (fun _ _ => rfl)) pa_nil)) (pv 1)))
    (pss_cons (ps_asg (pe_op op_fdiv (pe_ix (ix_listK K rfl) (pv 0) pe_int (fun _ _ => rfl)) (pv 1)) (pg_sub (pv 0) pe_int set_list))
    (pss_one (ps_ret (pe_diceShut (pv 2)))))) pss_nil)
    (pss_cons (ps_asg (pe_op op_add (pe_ix (ix_listK K rfl) (pv 0) pe_int (fun _ _ => rfl)) pe_int) (pg_sub (pv 0) pe_int set_list))
    (pss_cons (ps_set (i := 3) scLawRoll.nd rfl (Or.inl rfl) (pe_op op_mod (pe_callTy call_int1 (by rfl) B.int_ boot_int (pa_cons (pe_op op_add (pe_ix (ix_listK K rfl) (pv 0) pe_int (fun _ _ => rfl)) (pe_op op_mul pe_int (pe_ix (ix_listK K rfl) (pv 0) pe_int (fun _ _ => rfl)))) pa_nil)) pe_int))
    (pss_cons (ps_set (i := 4) scLawRoll.nd rfl (Or.inl rfl) (pe_op op_add (pe_op op_mul (pe_op op_mod (pe_callTy call_int1 (by rfl) B.int_ boot_int (pa_cons (pe_op op_add (pe_op op_mul (pv 3) (pv 3)) (pe_op op_mul pe_int (pe_ix (ix_listK K rfl) (pv 0) pe_int (fun _ _ => rfl)))) pa_nil)) pe_int) pe_int) (pv 3)))
    (pss_one (ps_ret (pe_diceShut (pe_op op_mod (pe_callTy call_int1 (by rfl) B.int_ boot_int (pa_cons (pe_op op_fdiv (pv 4) pe_int) pa_nil)) (pv 1))))))))), ?_⟩
    have ud : ∀ {o : HO}, upd (upd H d o) d (DiceO d) = H := fun {o} => by rw [upd_upd, upd_self hd]
    have key : ∀ i : Int, Q (.int (i % (n : Int))) H := fun i => by
      obtain ⟨r, hr1, hr2⟩ := mod_nat i hn
      rw [hr2]
      exact q r hr1
    refine ⟨d, hd, fun x y z => ?_⟩
    have h0 : upd H d (.lst [.int x, .int y, .int z]) d = some (.lst [.int x, .int y, .int z]) := upd_same
    refine ⟨_, rfl, d, _, 0, _, rfl, rfl, SqL.of h0, rfl, _, _, rfl, rfl, _, rfl, ite2 (fun h => ?_) (fun h => ?_)⟩
    · refine ⟨_, rfl, d, _, 0, _, rfl, rfl, SqL.of h0, rfl, .inl ⟨_, rfl, _, rfl, _, _, rfl, rfl, by show (0 : Int) < (n : Int); omega, ?_⟩⟩
      refine ⟨_, rfl, d, _, 0, _, rfl, rfl, SqL.of h0, rfl, _, rfl, _, _, rfl, rfl, ⟨by show (0 : Int) < (n : Int); omega, by show (n : Int) < 1073741824; omega⟩, _, rfl, d, _, 0, 0, rfl, rfl, h0, rfl, ?_⟩
      refine ⟨_, rfl, d, _, _, _, upd_same, ?_⟩
      rw [upd_upd, ud]
      exact key _
    · refine ⟨_, rfl, d, _, 2, _, rfl, rfl, SqL.of h0, rfl, _, _, rfl, rfl, _, rfl, d, _, 2, 2, rfl, rfl, h0, rfl, ?_⟩
      rw [upd_upd]
      have h1 : upd H d (.lst [.int x, .int y, .int (z + 1)]) d = some (.lst [.int x, .int y, .int (z + 1)]) := upd_same
      refine ⟨_, rfl, d, _, 1, _, rfl, rfl, SqL.of h1, rfl, _, rfl, d, _, 2, _, rfl, rfl, SqL.of h1, rfl, _, _, rfl, rfl, .inl ⟨by decide, by decide⟩, _, _, rfl, rfl, .inl ⟨_, rfl, _, _, rfl, rfl, by show (0 : Int) < 2305843009213693723; decide, ?_⟩⟩
      have hone := Int.emod_nonneg (y + 86028121 * (z + 1)) (show (2305843009213693723 : Int) ≠ 0 by decide)
      have hone2 := Int.emod_lt_of_pos (y + 86028121 * (z + 1)) (show (0 : Int) < 2305843009213693723 by decide)
      refine ⟨_, rfl, _, rfl, _, _, rfl, rfl, .inl ⟨by omega, by omega⟩, _, rfl, d, _, 2, _, rfl, rfl, SqL.of h1, rfl, _, _, rfl, rfl, .inl ⟨by decide, by decide⟩, _, _, rfl, rfl, .inl ⟨_, rfl, _, _, rfl, rfl, by show (0 : Int) < 2305843009213693669; decide, _, _, rfl, rfl, .inr ⟨by decide, by decide⟩, _, rfl, _, _, rfl, rfl, ?_⟩⟩
      refine ⟨_, rfl, _, _, rfl, rfl, ⟨by decide, by decide⟩, .inl ⟨_, rfl, _, rfl, _, _, rfl, rfl, by show (0 : Int) < (n : Int); omega, d, _, _, _, h1, ?_⟩⟩
      rw [ud]
      exact key _
def spPickS : Sp := fun vs H Q _ => ∃ (d : Addr) (l : List Nat), vs = [.ref d, tx l] ∧ H d = some (DiceO d) ∧ l ≠ [] ∧ l.length ≤ 1000 ∧ ∀ c ∈ l, Q (tx [c]) H
def spPickL : Sp := fun vs H Q _ => ∃ (d p : Addr) (xs : List V), vs = [.ref d, .ref p] ∧ H d = some (DiceO d) ∧ H p = some (.lst xs) ∧ xs ≠ [] ∧ xs.length ≤ 1000 ∧ ∀ x ∈ xs, Q x H
def spPickT : Sp := fun vs H Q _ => ∃ (d p : Addr) (xs : List V), vs = [.ref d, .ref p] ∧ H d = some (DiceO d) ∧ H p = some (.tup xs) ∧ xs ≠ [] ∧ xs.length ≤ 1000 ∧ ∀ x ∈ xs, Q x H
theorem len_pos {α : Type} {l : List α} (h : l ≠ []) : 0 < l.length := List.length_pos_iff.mpr h
theorem scLawPick : FnScope ["_law_dice_here", "_law_items"] ["_law_dice_here", "_law_items"] (defScope sLawPick) := ⟨rfl, rfl, rfl, by decide +kernel, rfl, by decide +kernel, by decide +kernel⟩
theorem c_law_pickS (B : En P w K mg base) : Cal P w K mg base 2 "_law_pick" (spPickS) [] := by
  refine cal_mk B.f_law_pick scLawPick (fun _ _ _ _ _ _ us hl => match us, hl with | [_, _], _ => rfl) (fun vs H Q E h => ?_) fun f cdv A outer s H vs Q E hr h => ?_
  · obtain ⟨d, l, rfl, _⟩ := h
    rfl
  · obtain ⟨d, l, rfl, hd, hne, hl, q⟩ := h
    have hu := hu_of hr
    have hu64 := hr.units
    refine ⟨_, (pss_one (ps_ret (pe_item_str (pv 1) (pe_c (c_law_roll B) hr (by decide) (by rfl) (pa_cons (pv 0) (pa_cons (pe_callB call_len (by rfl) B.len_ boot_len (pa_cons (pv 1) pa_nil)) pa_nil))) (fun _ _ => rfl)))), ?_⟩
    refine ⟨_, rfl, _, rfl, _, rfl, _, l.length, rfl, ⟨Nat.le_trans hl (by decide), rfl⟩, d, l.length, rfl, hd, len_pos hne, by omega, fun r hr => ?_⟩
    refine ⟨_, _, l[r], rfl, rfl, by omega, by omega, ?_, ?_, q _ (List.getElem_mem hr)⟩
    · show (r : Int) < (Str.length ⟨l.toArray⟩ : Nat)
      simp [Str.length]
      exact hr
    · simp
theorem c_law_pickL (B : En P w K mg base) : Cal P w K mg base 2 "_law_pick" (spPickL) [] := by
  refine cal_mk B.f_law_pick scLawPick (fun _ _ _ _ _ _ us hl => match us, hl with | [_, _], _ => rfl) (fun vs H Q E h => ?_) fun f cdv A outer s H vs Q E hr h => ?_
  · obtain ⟨d, p, xs, rfl, _⟩ := h
    rfl
  · obtain ⟨d, p, xs, rfl, hd, hp, hne, hl, q⟩ := h
    have hu := hu_of hr
    have hu64 := hr.units
    refine ⟨_, (pss_one (ps_ret (pe_ix (ix_listK K rfl) (pv 1) (pe_c (c_law_roll B) hr (by decide) (by rfl) (pa_cons (pv 0) (pa_cons (pe_callB (call_len_seqK K rfl) (by rfl) B.len_ boot_len (pa_cons (pv 1) pa_nil)) pa_nil))) (fun _ _ => rfl)))), ?_⟩
    refine ⟨_, rfl, _, rfl, _, rfl, p, _, rfl, .inl (SqL.of hp), d, xs.length, rfl, hd, len_pos hne, by omega, fun r hr => ?_⟩
    exact ⟨p, _, _, xs[r], rfl, rfl, SqL.of hp, atI_nat (List.getElem?_eq_getElem hr), q _ (List.getElem_mem hr)⟩
theorem c_law_pickT (B : En P w K mg base) : Cal P w K mg base 2 "_law_pick" (spPickT) [] := by
  refine cal_mk B.f_law_pick scLawPick (fun _ _ _ _ _ _ us hl => match us, hl with | [_, _], _ => rfl) (fun vs H Q E h => ?_) fun f cdv A outer s H vs Q E hr h => ?_
  · obtain ⟨d, p, xs, rfl, _⟩ := h
    rfl
  · obtain ⟨d, p, xs, rfl, hd, hp, hne, hl, q⟩ := h
    have hu := hu_of hr
    have hu64 := hr.units
    refine ⟨_, (pss_one (ps_ret (pe_ix (ix_tupK K rfl) (pv 1) (pe_c (c_law_roll B) hr (by decide) (by rfl) (pa_cons (pv 0) (pa_cons (pe_callB (call_len_seqK K rfl) (by rfl) B.len_ boot_len (pa_cons (pv 1) pa_nil)) pa_nil))) (fun _ _ => rfl)))), ?_⟩
    refine ⟨_, rfl, _, rfl, _, rfl, p, _, rfl, .inr (SqT.of hp), d, xs.length, rfl, hd, len_pos hne, by omega, fun r hr => ?_⟩
    exact ⟨p, _, _, xs[r], rfl, rfl, SqT.of hp, atI_nat (List.getElem?_eq_getElem hr), q _ (List.getElem_mem hr)⟩
def spMixed : Sp := fun vs H Q _ => ∃ (d p : Addr) (xs : List V), vs = [.ref d, .ref p] ∧ H d = some (DiceO d) ∧ H p = some (.lst xs) ∧ xs.length ≤ 1000 ∧ ∀ H' q ys, Same H H' → H q = none → H' q = some (.lst ys) → ys.Perm xs → Q (.ref q) H'
theorem scLawMixed : FnScope ["_law_dice_here", "_law_items", "_law_left", "_law_found", "_law_turn"] ["_law_dice_here", "_law_items"] (defScope sLawMixed) := ⟨rfl, rfl, rfl, by decide +kernel, rfl, by decide +kernel, by decide +kernel⟩
theorem c_law_mixed (B : En P w K mg base) : Cal P w K mg base 2 "_law_mixed" (spMixed) [] := by
  refine cal_mk B.f_law_mixed scLawMixed (fun _ _ _ _ _ _ us hl => match us, hl with | [_, _], _ => rfl) (fun vs H Q E h => ?_) fun f cdv A outer s H vs Q E hr h => ?_
  · obtain ⟨d, p, xs, rfl, _⟩ := h
    rfl
  · obtain ⟨d, p, xs, rfl, hd, hp, hl, q⟩ := h
    have hu := hu_of hr
    have hu64 := hr.units
    refine ⟨_, (pss_cons (ps_par (i := 2) (j := 3) rfl scLawMixed.nd rfl rfl (by decide) rfl rfl (pa_cons (pe_callTy call_list_of (by rfl) B.list_ boot_list (pa_cons (pv 1) pa_nil)) (pa_cons (pe_lst pa_nil) pa_nil)) rfl)
    (pss_cons (ps_for PassesOwn.never rfl (pi_range1 rfl B.range_ (pa_cons (pe_callB (call_len_seqK K rfl) (by rfl) B.len_ boot_len (pa_cons (pv 1) pa_nil)) pa_nil)) (pg_name (i := 4) scLawMixed.nd rfl (Or.inl rfl)) (pss_one (ps_expr (pe_bm PySem.F.plainAttrs_list PySem.F.slot_list_append PySem.F.type_list_append mt_append (pv 3) (pa_cons (pe_bm PySem.F.plainAttrs_list PySem.F.slot_list_pop PySem.F.type_list_pop mt_popAt (pv 2) (pa_cons (pe_c (c_law_roll B) hr (by decide) (by rfl) (pa_cons (pv 0) (pa_cons (pe_callB (call_len_seqK K rfl) (by rfl) B.len_ boot_len (pa_cons (pv 2) pa_nil)) pa_nil))) pa_nil)) pa_nil)))))
    (pss_one (ps_ret (pv 3))))), ?_⟩
    refine ⟨_, rfl, p, _, rfl, .inl (SqL.of hp), fun lp hlp => ⟨Nat.zero_le _, fun fp hfp => ⟨_, _, rfl, ?_⟩⟩⟩
    have s1 := same_upd hlp (o := .lst xs)
    have s2 := same_to s1 hfp (o := .lst [])
    have nl : lp ≠ fp := fun z => by rw [← z, upd_same] at hfp; cases hfp
    have fp0 : H fp = none := s1.free hfp
    refine ⟨_, rfl, p, _, rfl, .inl (SqL.of (s2 _ _ hp)), _, rfl, by omega, by omega, for_range (fun i σ H1 => ∃ (x4 : Option V) (ls fs : List V), σ = [some (.ref d), some (.ref p), some (.ref lp), some (.ref fp), x4] ∧ Same H H1 ∧ H1 lp = some (.lst ls) ∧ H1 fp = some (.lst fs) ∧ (fs ++ ls).Perm xs ∧ fs.length = i) ⟨_, xs, [], rfl, s2, ?_, upd_same, List.Perm.refl _, rfl⟩ (fun i σ H1 hi h => ?_) (fun σ H1 h => ?_)⟩
    · rw [upd_ne nl]; exact upd_same
    · obtain ⟨y4, ls, fs, rfl, g1, g2, g3, g4, g5⟩ := h
      rw [Int.toNat_natCast] at hi
      have hpl := g4.length_eq
      rw [List.length_append] at hpl
      refine ⟨_, rfl, .inl ⟨rfl, _, SqL.of g3⟩, _, rfl, .inl ⟨rfl, _, SqL.of g2⟩, _, rfl, _, rfl, lp, _, rfl, .inl (SqL.of g2), d, ls.length, rfl, g1 _ _ hd, by omega, by omega, fun r hr => ?_⟩
      refine ⟨lp, ls, _, r, ls[r], rfl, rfl, g2, by omega, by omega, (ixN_seq (atN (List.getElem?_eq_getElem hr))).1, List.getElem?_eq_getElem hr, ?_⟩
      have g3' : upd H1 lp (.lst (ls.eraseIdx r)) fp = some (.lst fs) := by rw [upd_ne nl.symm]; exact g3
      refine ⟨fp, fs, _, rfl, rfl, g3', Nat.lt_of_le_of_lt (m := 1000) (by omega) (by decide), _, ls.eraseIdx r, fs ++ [ls[r]], rfl, same_at (same_at g1 hlp) fp0, ?_, upd_same, ?_, by rw [List.length_append, g5]; rfl⟩
      · rw [upd_ne nl]; exact upd_same
      · rw [List.append_assoc]
        exact ((List.Perm.refl fs).append (erase_perm hr)).trans g4
    · obtain ⟨y4, ls, fs, rfl, g1, g2, g3, g4, g5⟩ := h
      rw [Int.toNat_natCast] at g5
      have hpl := g4.length_eq
      rw [List.length_append] at hpl
      have : ls = [] := List.length_eq_zero_iff.mp (by omega)
      subst this
      rw [List.append_nil] at g4
      exact ⟨_, rfl, q _ fp fs g1 fp0 g3 g4⟩
theorem lc_sub {J : It} {G : Hp → Prop} {g : TG} {tt : TT} {te : TE} {vs : List Nat} {σ : L2.St} {H1 : Hp} {D : Addr} {Qd : Hp → Prop} {xs : List V} (w : Walk J xs.length G (YAt xs)) (hD : H1 D = none) (hn : xs.length < sizeLine) (hG : ∀ H, Same H1 H → G H)
    (hs : ∀ x H, x ∈ xs → Same H1 H → ∀ Pn : Hp → Prop, (∀ H4, Same H H4 → ∃ acc, H4 D = some (.lst acc) ∧ acc.length < sizeLine ∧ Pn (upd H4 D (.lst (acc ++ [x])))) → (∀ H4, Same H H4 → Pn H4) →
      g x (wipe σ vs) H fun σ2 H2 => wipe σ2 vs = wipe σ vs ∧ tt σ2 H2 fun b H3 => if b = true then te σ2 H3 fun y H4 => ∃ acc, H4 D = some (.lst acc) ∧ acc.length < sizeLine ∧ Pn (upd H4 D (.lst (acc ++ [y]))) else Pn H3)
    (hd : ∀ H ys, Same H1 H → ys.Sublist xs → H D = some (.lst ys) → Qd H) :
    ∃ W : Nat → Nat → Hp → Prop, (∃ m, W 0 m (upd H1 D (.lst []))) ∧ ∀ i m H, W i m H →
      (J.stop i H ∧ Qd H) ∨ (J.go i H ∧ ∃ Nx : Hp → Prop, (∀ H', Nx H' → ∃ m', m' < m ∧ W (i + 1) m' H') ∧ ∀ x H', J.yld i H x H' → g x (wipe σ vs) H' fun σ2 H2 => wipe σ2 vs = wipe σ vs ∧ tt σ2 H2 fun b H3 =>
        if b = true then te σ2 H3 fun y H4 => ∃ acc, H4 D = some (.lst acc) ∧ acc.length < sizeLine ∧ Nx (upd H4 D (.lst (acc ++ [y]))) else Nx H3) := by
  refine lc_it w (fun i H => i ≤ xs.length ∧ Same H1 H ∧ ∃ ys, H D = some (.lst ys) ∧ ys.Sublist (xs.take i)) ⟨Nat.zero_le _, same_upd hD, [], upd_same, List.Sublist.refl _⟩ (fun i H _ h => hG H h.2.1) (fun i x H H' hi ⟨_, s, ys, hl, sub⟩ y => ?_) fun H ⟨_, s, ys, hl, sub⟩ => hd H ys s (by rwa [List.take_of_length_le (Nat.le_refl _)] at sub) hl
  obtain ⟨rfl, e⟩ := y
  have tk : xs.take (i + 1) = xs.take i ++ [x] := by rw [List.take_succ, e]; rfl
  refine hs x _ (List.mem_of_getElem? e) s _ (fun H4 s4 => ⟨ys, s4 _ _ hl, ?_, hi, same_at (s.trans s4) hD, _, upd_same, ?_⟩) fun H4 s4 => ⟨hi, s.trans s4, ys, s4 _ _ hl, ?_⟩
  · have := sub.length_le
    rw [List.length_take] at this
    omega
  · rw [tk]; exact sub.append (List.Sublist.refl _)
  · rw [tk]; exact sub.trans (List.sublist_append_left _ _)
def spSome : Sp := fun vs H Q _ => ∃ (d p : Addr) (xs : List V), vs = [.ref d, .ref p] ∧ H d = some (DiceO d) ∧ H p = some (.lst xs) ∧ xs.length ≤ 1000 ∧ ∀ H' q ys, Same H H' → H q = none → H' q = some (.lst ys) → ys.Sublist xs → Q (.ref q) H'
theorem scLawSome : FnScope ["_law_dice_here", "_law_items", "_law_item"] ["_law_dice_here", "_law_items"] (defScope sLawSome) := ⟨rfl, rfl, rfl, by decide +kernel, rfl, by decide +kernel, by decide +kernel⟩
theorem c_law_some (B : En P w K mg base) : Cal P w K mg base 2 "_law_some" (spSome) [] := by
  refine cal_mk B.f_law_some scLawSome (fun _ _ _ _ _ _ us hl => match us, hl with | [_, _], _ => rfl) (fun vs H Q E h => ?_) fun f cdv A outer s H vs Q E hr h => ?_
  · obtain ⟨d, p, xs, rfl, _⟩ := h
    rfl
  · obtain ⟨d, p, xs, rfl, hd, hp, hl, q⟩ := h
    have hu := hu_of hr
    have hu64 := hr.units
    refine ⟨_, (pss_one (ps_ret (pe_lc (own := [("_law_item", 2)]) (g := gName 2) rfl scLawSome.nd (pi_listK K rfl (pv 1)) (blkOk_by (own := [("_law_item", 2)]) (N := ["_law_dice_here", "_law_items", "_law_item"]) (sc := defScope sLawSome) (by decide +kernel)) (fun _ _ _ _ _ => (pg_name (i := 2) scLawSome.nd rfl (Or.inl rfl))) (fun _ _ _ _ _ => pts_one (pt_cmpR op_eq (pe_c (c_law_roll B) hr (by decide) (by rfl) (pa_cons (pv 0) (pa_cons pe_int pa_nil))) pe_int (nomark _))) (fun _ _ _ _ _ => (pv 2))))), ?_⟩
    refine ⟨_, rfl, p, rfl, ⟨_, SqL.of hp⟩, fun D hD => lc_sub walk_list hD (Nat.lt_of_le_of_lt hl (by decide)) (fun H1 s => SqL.of (s _ _ hp)) (fun x H1 hx s Pn k kn => ?_) (fun H1 ys s sub hDl => q _ D ys s hD hDl sub)⟩
    refine ⟨rfl, _, rfl, d, 2, rfl, s _ _ hd, by decide, by decide, fun r hr => ⟨rfl, _, rfl, ite2 (fun _ => ⟨_, rfl, k _ (Same.refl _)⟩) (fun _ => kn _ (Same.refl _))⟩⟩
end
end Ww
end S_Wl1

section S_Wl2
set_option Elab.async false
set_option linter.all false
set_option maxRecDepth 100000
set_option maxHeartbeats 2000000
/-! The law's walks 2: letters, pairs, conflicts, texts. -/
namespace Ww
open PySem PySem.Spec PyProof.Rows L2 WwR SlX
open C8 (Cal pe_c)
open MW (Rows suc nx Tab)
/-! ### texts as values, back -/
abbrev tlS (z : Str) : List Nat := z.cps.toList
def dec : V → List Nat
  | .str z => tlS z
  | _ => []
theorem dec_tx2 (l : List Nat) : dec (tx l) = l := rfl
theorem perm_tx {ys : List V} {cs : List (List Nat)} (h : ys.Perm (cs.map tx)) : ∃ ds : List (List Nat), ds.Perm cs ∧ ys = ds.map tx := by
  refine ⟨ys.map dec, ?_, ?_⟩
  · have := h.map dec
    rwa [List.map_map, show (dec ∘ tx) = id from rfl, List.map_id] at this
  · rw [List.map_map]
    refine ((List.map_id ys).symm.trans (List.map_congr_left fun y hy => ?_))
    obtain ⟨c, _, rfl⟩ := List.mem_map.mp (h.mem_iff.mp hy)
    rfl
theorem sub_tx {ys : List V} {cs : List (List Nat)} (h : ys.Sublist (cs.map tx)) : ∃ ds : List (List Nat), ds.Sublist cs ∧ ys = ds.map tx := by
  refine ⟨ys.map dec, ?_, ?_⟩
  · have := h.map dec
    rwa [List.map_map, show (dec ∘ tx) = id from rfl, List.map_id] at this
  · rw [List.map_map]
    refine ((List.map_id ys).symm.trans (List.map_congr_left fun y hy => ?_))
    obtain ⟨c, _, rfl⟩ := List.mem_map.mp (h.subset hy)
    rfl
theorem str_tx (ds : List (List Nat)) : ds.map tx = (ds.map fun l => (⟨l.toArray⟩ : Str)).map V.str := (txs_sum ds).symm
theorem lst_lt {a b : List Nat} (h : ¬ b < a) (hne : a ≠ b) : a < b := by
  by_cases z : a < b
  · exact z
  · exact absurd (List.le_antisymm (List.not_lt.mp h) (List.not_lt.mp z)) hne
theorem rise_asc : ∀ (ys : List Str) (p : Str), risingS p ys = true → Asc (fun a b : List Nat => ¬ b < a) (tlS p :: ys.map tlS)
  | [], p, _ => fun i x y e1 e2 => by
    have := (List.getElem?_eq_some_iff.mp e2).1
    simp at this
  | z :: ys, p, h => fun i x y e1 e2 => by
    have h : (!ltCps z.cps.toList p.cps.toList && risingS z ys) = true := h
    rw [Bool.and_eq_true] at h
    cases i with
    | zero =>
      cases (Option.some.inj e1)
      cases (Option.some.inj e2)
      have h1 := h.1
      rw [PyProof.Rows.ltCps_eq] at h1
      simpa using h1
    | succ i => exact rise_asc ys z h.2 i x y (by simpa using e1) (by simpa using e2)
theorem sorted_asc {ys : List Str} (h : sortedS ys = true) (hn : (ys.map tlS).Nodup) : Asc (· < ·) (ys.map tlS) := by
  cases ys with
  | nil => intro i x y e1 _; simp at e1
  | cons z ys =>
    intro i x y e1 e2
    refine lst_lt (rise_asc ys z h i x y e1 e2) fun e => ?_
    obtain ⟨h1, r1⟩ := List.getElem?_eq_some_iff.mp e1
    obtain ⟨h2, r2⟩ := List.getElem?_eq_some_iff.mp e2
    have := nd_inj hn h1 h2 (by rw [r1, r2, e])
    omega
theorem strs_tl (ys : List Str) : ys.map V.str = (ys.map tlS).map tx := by
  rw [List.map_map]
  exact List.map_congr_left fun z _ => congrArg V.str (str_eta z)
theorem tl_strs (ds : List (List Nat)) : (ds.map fun l => (⟨l.toArray⟩ : Str)).map tlS = ds := by
  rw [List.map_map]
  exact List.map_id ds
theorem asc_sub {α : Type} {R : α → α → Prop} {l : List α} (h : l.Pairwise R) : Asc R l := fun i x y e1 e2 => by
  obtain ⟨h1, r1⟩ := List.getElem?_eq_some_iff.mp e1
  obtain ⟨h2, r2⟩ := List.getElem?_eq_some_iff.mp e2
  have := List.pairwise_iff_getElem.mp h i (i + 1) h1 h2 (by omega)
  rwa [r1, r2] at this
theorem asc_pw {l : List Nat} (h : Asc (· < ·) l) : l.Pairwise (· < ·) := by
  rw [List.pairwise_iff_getElem]
  intro i j hi hj hij
  induction j with
  | zero => omega
  | succ j ih =>
    have h1 : l[j] < l[j + 1] := h j _ _ (List.getElem?_eq_getElem (by omega)) (List.getElem?_eq_getElem hj)
    by_cases e : i = j
    · subst e; exact h1
    · exact Nat.lt_trans (ih (by omega) (by omega)) h1
theorem pw_nodup {l : List Nat} (h : l.Pairwise (· < ·)) : l.Nodup := List.nodup_iff_pairwise_ne.mpr (h.imp fun h e => by omega)
/-- single signs, joined -/
theorem joinL_sg : ∀ l : List Nat, TL.joinL [] (l.map fun c => [c]) = l
  | [] => rfl
  | [c] => rfl
  | c :: d :: l => by
    show [c] ++ ([] ++ TL.joinL [] ((d :: l).map fun c => [c])) = _
    rw [joinL_sg (d :: l)]
    rfl
theorem join_sg (l : List Nat) : Txt.join (Str.ofString "") ((l.map fun c => [c]).map fun l => (⟨l.toArray⟩ : Str)) = ⟨l.toArray⟩ := by
  have := SX.join_S [] (l.map fun c => [c])
  rw [joinL_sg] at this
  exact this
theorem sum_sg : ∀ l : List Nat, (List.map (fun z : Str => z.length) ((l.map fun c => [c]).map fun l => (⟨l.toArray⟩ : Str))).sum = l.length
  | [] => rfl
  | c :: l => by
    rw [List.map_cons, List.map_cons, List.map_cons, List.sum_cons, sum_sg l, List.length_cons]
    show 1 + _ = _
    omega
/-- the pairs of ascending letters ascend -/
theorem prs_pw {l : List Nat} (h : l.Pairwise (· < ·)) : (prs l).Pairwise (· < ·) := by
  have hg := List.pairwise_iff_getElem.mp h
  have gd : ∀ {i : Nat} (hi : i < l.length), l.getD i 0 = l[i] := fun {i} hi => by rw [List.getD_eq_getElem?_getD, List.getElem?_eq_getElem hi]; rfl
  unfold prs
  rw [List.pairwise_map]
  have hx : (ixp l.length).Pairwise fun p q => p.1 < q.1 ∨ (p.1 = q.1 ∧ p.2 < q.2) := by
    unfold ixp
    rw [List.pairwise_flatMap]
    refine ⟨fun i hi => ?_, ?_⟩
    · rw [List.pairwise_map]
      exact List.pairwise_lt_range.imp fun h => .inr ⟨rfl, by omega⟩
    · refine List.pairwise_lt_range.imp fun {i j} hij p hp q hq => ?_
      obtain ⟨a, _, rfl⟩ := List.mem_map.mp hp
      obtain ⟨b, _, rfl⟩ := List.mem_map.mp hq
      exact .inl hij
  refine List.Pairwise.imp_of_mem (fun {p q} hp hq h => ?_) hx
  have hp := ixp_lt hp
  have hq := ixp_lt hq
  unfold pt
  rw [List.cons_lt_cons_iff, List.cons_lt_cons_iff]
  rw [gd (by omega), gd (by omega), gd (by omega), gd (by omega)]
  rcases h with h | ⟨h1, h2⟩
  · exact .inl (hg _ _ (by omega) (by omega) h)
  · refine .inr ⟨by congr 1, .inl (hg _ _ (by omega) (by omega) h2)⟩
theorem pwl_nodup {l : List (List Nat)} (h : l.Pairwise (· < ·)) : l.Nodup := List.nodup_iff_pairwise_ne.mpr (h.imp fun h e => by rw [e] at h; exact List.lt_irrefl _ h)
section
variable {P : Program} {w : World} {K : PySem.W.Frag} {mg : Str → Option Value} {base : Heap}

def alpha : List Nat := [97, 98, 99, 100, 101, 102, 103, 104, 105, 106, 107, 109, 110, 111, 113, 114, 116, 117, 118, 122]
theorem alpha_eq : (Str.ofString "abcdefghijkmnoqrtuvz").cps.toList = alpha := by decide +kernel
theorem alpha_nd : alpha.Nodup := by decide
theorem alpha_in : ∀ c ∈ alpha, 97 ≤ c ∧ c ≤ 122 := by decide
def spLetters : Sp := fun vs H Q _ => ∃ d : Addr, vs = [.ref d, .int 2, .int 3] ∧ H d = some (DiceO d) ∧ ∀ H' l, Same H H' → 2 ≤ l.length → l.length ≤ 3 → (∀ c ∈ l, 97 ≤ c ∧ c ≤ 122) → l.Pairwise (· < ·) → Q (tx l) H'
theorem cutTo (xs : List V) (k : Nat) : cutV xs none (some ((k : Nat) : Int)) = xs.take k := by
  unfold cutV
  rw [HT.sIx_nat, HT.sIx_none, List.drop_zero, Nat.sub_zero]
  by_cases h : k ≤ xs.length
  · rw [Nat.min_eq_left h]
  · rw [Nat.min_eq_right (by omega), List.take_of_length_le (Nat.le_refl _), List.take_of_length_le (by omega)]
theorem scLawLetters : FnScope ["_law_dice_here", "_law_least", "_law_most", "_law_many"] ["_law_dice_here", "_law_least", "_law_most"] (defScope sLawLetters) := ⟨rfl, rfl, rfl, by decide +kernel, rfl, by decide +kernel, by decide +kernel⟩
theorem c_law_letters (B : En P w K mg base) : Cal P w K mg base 3 "_law_letters" (spLetters) [] := by
  refine cal_mk B.f_law_letters scLawLetters (fun _ _ _ _ _ _ us hl => match us, hl with | [_, _, _], _ => rfl) (fun vs H Q E h => ?_) fun f cdv A outer s H vs Q E hr h => ?_
  · obtain ⟨d, rfl, _⟩ := h
    rfl
  · obtain ⟨d, rfl, hd, q⟩ := h
    have hu := hu_of hr
    have hu64 := hr.units
    refine ⟨_, (pss_cons (ps_set (i := 3) scLawLetters.nd rfl (Or.inl rfl) (pe_op op_add (pv 1) (pe_c (c_law_roll B) hr (by decide) (by rfl) (pa_cons (pv 0) (pa_cons (pe_op op_add (pe_op op_sub (pv 2) (pv 1)) pe_int) pa_nil)))))
    (pss_one (ps_ret (pe_join pe_str (pe_callB cr_sortedS (by rfl) B.sorted_ boot_sorted (pa_cons (pe_slice sl_list (pe_c (c_law_mixed B) hr (by decide) (by rfl) (pa_cons (pv 0) (pa_cons (pe_callTy (call_listS rfl) (by rfl) B.list_ boot_list (pa_cons pe_str pa_nil)) pa_nil))) po_none (po_some (pv 3))) pa_nil)))))), ?_⟩
    refine ⟨_, rfl, _, rfl, _, rfl, _, rfl, _, _, rfl, rfl, _, _, rfl, rfl, d, 2, rfl, hd, by decide, by decide, fun r hr => ⟨_, _, rfl, rfl, ?_⟩⟩
    refine ⟨⟨_, rfl⟩, _, rfl, _, rfl, by decide +kernel, fun ap hap => ?_⟩
    rw [alpha_eq]
    have e0 : (alpha.map fun c => V.str ⟨#[c]⟩) = (alpha.map fun c => [c]).map tx := by rw [List.map_map]; rfl
    rw [e0]
    refine ⟨d, ap, _, rfl, (same_upd hap) _ _ hd, upd_same, by rw [List.length_map, List.length_map]; decide, fun H1 mp ys s1 mp0 hmp hperm => ?_⟩
    obtain ⟨ds, hds, rfl⟩ := perm_tx hperm
    refine ⟨_, rfl, _, rfl, mp, _, rfl, SqL.of hmp, fun tp htp => ?_⟩
    rw [show ((2 : Int) + (r : Int)) = ((2 + r : Nat) : Int) from by omega, cutTo]
    have e1 : (ds.map tx).take (2 + r) = ((ds.take (2 + r)).map fun l => (⟨l.toArray⟩ : Str)).map V.str := by rw [← List.map_take, str_tx]
    have hdl : ds.length = 20 := by rw [hds.length_eq, List.length_map]; rfl
    rw [e1]
    refine ⟨tp, _, rfl, SqL.of upd_same, by rw [List.length_map, List.length_take]; omega, fun zs zp perm srt hzp => ?_⟩
    have s2 : Same H (upd (upd H1 tp (.lst (((ds.take (2 + r)).map fun l => (⟨l.toArray⟩ : Str)).map V.str))) zp (.lst (zs.map V.str))) := same_to (same_to ((same_upd hap).trans s1) htp) hzp
    have pe := perm.map tlS
    rw [tl_strs] at pe
    have hnd : (zs.map tlS).Nodup := by
      refine pe.nodup_iff.mpr ((List.take_sublist _ _).nodup (hds.nodup_iff.mpr ?_))
      rw [List.nodup_iff_pairwise_ne, List.pairwise_map]
      exact (List.nodup_iff_pairwise_ne.mp alpha_nd).imp fun h e => h (by injection e)
    have hmem : ∀ x ∈ zs.map tlS, ∃ c ∈ alpha, x = [c] := fun x hx => by
      have := hds.mem_iff.mp (List.mem_of_mem_take (pe.mem_iff.mp hx))
      obtain ⟨c, hc, rfl⟩ := List.mem_map.mp this
      exact ⟨c, hc, rfl⟩
    have asc := sorted_asc srt hnd
    have hlen : (zs.map tlS).length = 2 + r := by rw [pe.length_eq, List.length_take]; omega
    have hl : zs.map tlS = ((zs.map tlS).map fun x => x.headD 0).map fun c => [c] := by
      rw [List.map_map]
      refine (List.map_id _).symm.trans (List.map_congr_left fun x hx => ?_)
      obtain ⟨c, _, rfl⟩ := hmem x hx
      rfl
    have hz : zs = (zs.map tlS).map fun l => (⟨l.toArray⟩ : Str) := by
      rw [List.map_map]
      exact (List.map_id zs).symm.trans (List.map_congr_left fun z _ => str_eta z)
    have hin : ∀ c ∈ (zs.map tlS).map (fun x => x.headD 0), c ∈ alpha := fun c hc => by
      obtain ⟨x, hx, rfl⟩ := List.mem_map.mp hc
      obtain ⟨c, h, rfl⟩ := hmem x hx
      exact h
    rw [hl] at hz asc
    have hll : ((zs.map tlS).map fun x => x.headD 0).length = 2 + r := by rw [List.length_map]; exact hlen
    generalize (zs.map tlS).map (fun x => x.headD 0) = l at hz asc hin hll
    have pw : l.Pairwise (· < ·) := asc_pw fun i x y e1 e2 => by
      have := asc i [x] [y] (by rw [List.getElem?_map, e1]; rfl) (by rw [List.getElem?_map, e2]; rfl)
      have h2 := sg_lt (a := x) (b := y)
      rw [decide_eq_true this] at h2
      exact of_decide_eq_true h2.symm
    rw [hz] at s2 ⊢
    refine ⟨_, zp, _, rfl, rfl, .inl (SqL.of upd_same), ?_, ?_⟩
    · show (List.map (fun z : Str => z.length) _).sum + _ * 0 ≤ 16777216
      rw [sum_sg]
      omega
    · rw [join_sg]
      exact q _ l s2 (by omega) (by omega) (fun c hc => alpha_in c (hin c hc)) pw
end
end Ww
end S_Wl2

section S_Wl3
set_option Elab.async false
set_option linter.all false
set_option maxRecDepth 100000
set_option maxHeartbeats 2000000
/-! The law's walks 3: pairs, conflicts, texts. -/
namespace Ww
open PySem PySem.Spec PyProof.Rows L2 WwR SlX
open C8 (Cal pe_c)
open MW (Rows suc nx Tab)
section
variable {P : Program} {w : World} {K : PySem.W.Frag} {mg : Str → Option Value} {base : Heap}

theorem scLawPairs : FnScope ["_law_letters_here", "_law_found", "_law_at", "_law_one", "_law_other"] ["_law_letters_here"] (defScope sLawPairs) := ⟨rfl, rfl, rfl, by decide +kernel, rfl, by decide +kernel, by decide +kernel⟩
theorem c_law_pairs (B : En P w K mg base) : Cal P w K mg base 1 "_law_pairs" (spPairsOf) [] := by
  refine cal_mk B.f_law_pairs scLawPairs (fun _ _ _ _ _ _ us hl => match us, hl with | [_], _ => rfl) (fun vs H Q E h => ?_) fun f cdv A outer s H vs Q E hr h => ?_
  · obtain ⟨l, rfl, _⟩ := h
    rfl
  · obtain ⟨l, rfl, hl, q⟩ := h
    have hu := hu_of hr
    have hu64 := hr.units
    refine ⟨_, (pss_cons (ps_set (i := 1) scLawPairs.nd rfl (Or.inl rfl) (pe_lst pa_nil))
    (pss_cons (ps_for PassesOwn.never rfl (pi_enumS (by rfl) B.enumerate_ (pa_cons (pv 0) pa_nil)) (pg_tup rfl (pgs_cons (pg_name (i := 2) scLawPairs.nd rfl (Or.inl rfl)) (pgs_cons (pg_name (i := 3) scLawPairs.nd rfl (Or.inr rfl)) pgs_nil))) (pss_one (ps_expr (pe_bm PySem.F.plainAttrs_list PySem.F.slot_list_extend PySem.F.type_list_extend mt_extend (pv 1) (pa_cons (pe_lc (own := [("_law_other", 4)]) (g := gName 4) (tt := tYes) rfl scLawPairs.nd (pi_str (pe_slice sl_str (pv 0) (po_some (pe_op op_add (pv 2) pe_int)) po_none)) (blkOk_by (own := [("_law_other", 4)]) (N := ["_law_letters_here", "_law_found", "_law_at", "_law_one", "_law_other"]) (sc := defScope sLawPairs) (by decide +kernel)) (fun _ _ _ _ _ => (pg_name (i := 4) scLawPairs.nd rfl (Or.inl rfl))) (fun _ _ _ _ _ => pts_nil) (fun _ _ _ _ _ => (pe_op op_add_str (pv 3) (pv 4)))) pa_nil)))))
    (pss_one (ps_ret (pv 1))))), ?_⟩
    have hsz : ∀ i, i ≤ l.length → i * l.length ≤ 100 := fun i hi => Nat.le_trans (Nat.mul_le_mul hi (Nat.le_refl _)) (Nat.le_trans (Nat.mul_le_mul hl hl) (by decide))
    refine ⟨Nat.zero_le _, fun D hD => ⟨_, rfl, _, rfl, for_it walk_N (fun i σ H2 => ∃ (x2 x3 x4 : Option V), σ = [some (tx l), some (.ref D), x2, x3, x4] ∧ i ≤ l.length ∧ Same H H2 ∧ H2 D = some (.lst ((prsI l i).map tx))) ⟨_, _, _, rfl, Nat.zero_le _, same_upd (o := .lst []) hD, (show upd H D (.lst []) D = some (.lst ((prsI l 0).map tx)) from upd_same)⟩ (fun _ _ _ _ _ => trivial) (fun i x σ H2 H3 hi h y => ?_) (fun σ H2 h => ?_)⟩⟩
    · obtain ⟨y2, y3, y4, rfl, _, s, hDl⟩ := h
      obtain ⟨T, xs, rfl, hT, rfl, c, e1, rfl⟩ := y
      have e1 : l[i]? = some c := by simpa using e1
      have hi : i < l.length := (List.getElem?_eq_some_iff.mp e1).1
      have s1 := same_upd hT (o := .tup [.int (i : Nat), .str ⟨#[c]⟩])
      refine ⟨T, _, rfl, SqT.of upd_same, rfl, _, _, rfl, _, _, rfl, rfl, ?_⟩
      have hD3 := s1 _ _ hDl
      generalize upd H2 T (.tup [.int (i : Nat), .str ⟨#[c]⟩]) = H3 at s1 hD3 ⊢
      have hcut : cutS ⟨l.toArray⟩ (some ((i : Int) + 1)) none = ⟨(l.drop (i + 1)).toArray⟩ := cutk l (i + 1)
      refine ⟨_, rfl, .inl ⟨rfl, _, SqL.of hD3⟩, _, rfl, _, rfl, _, _, rfl, rfl, _, rfl, _, rfl, Nat.le_trans hl (by decide), _, rfl, fun E0 hE0 => ?_⟩
      have ne : E0 ≠ D := fun z => by rw [z, hD3] at hE0; cases hE0
      refine lc_map (n := Array.size (Str.cps (cutS ⟨l.toArray⟩ (some ((i : Int) + 1)) none))) walk_str (fun j => tx [l.getD i 0, l.getD (i + 1 + j) 0]) hE0 ?_ (fun _ _ => trivial) (fun j x H4 H5 hj s4 y Pn k => ?_) (fun H4 s4 hEl => ?_)
      · rw [hcut]
        refine Nat.lt_of_le_of_lt (m := 10) ?_ (by decide)
        simp
        omega
      · obtain ⟨rfl, dd, e2, rfl⟩ := y
        rw [hcut] at e2
        have e2 : l[i + 1 + j]? = some dd := by simpa [List.getElem?_drop] using e2
        rw [getD_of e1, getD_of e2] at k
        exact ⟨rfl, yes ⟨_, rfl, _, rfl, _, _, rfl, rfl, (by show 2 ≤ sizeLine; decide), k _ (Same.refl _)⟩⟩
      · have e6 : Array.size (Str.cps (cutS ⟨l.toArray⟩ (some ((i : Int) + 1)) none)) = l.length - (i + 1) := by rw [hcut]; simp
        rw [e6] at hEl
        refine ⟨D, E0, _, _, rfl, rfl, s4 _ _ hD3, hEl, ?_, _, _, _, rfl, hi, same_at (s.trans (s1.trans s4)) hD, ?_⟩
        · rw [List.length_map, List.length_map, List.length_range]
          have := prsI_len l (Nat.le_of_lt hi)
          have := hsz i (Nat.le_of_lt hi)
          exact Nat.le_trans (m := 110) (by omega) (by decide)
        · rw [upd_same, prsI_succ, List.map_append, List.map_map]
          rfl
    · obtain ⟨y2, y3, y4, rfl, _, s, hDl⟩ := h
      refine ⟨_, rfl, q _ D s hD ?_⟩
      rw [hDl]
      simp [prsI, prs, ixp]
def spConflicts : Sp := fun vs H Q _ => ∃ (d : Addr) (l : List Nat), vs = [.ref d, tx l] ∧ H d = some (DiceO d) ∧ l.length ≤ 3 ∧ l.Pairwise (· < ·) ∧
  ∀ H' t cs, Same H H' → H t = none → H' t = some (.tup (cs.map tx)) → (∀ c ∈ cs, c ∈ prs l) → Asc (· < ·) cs → cs.length ≤ 9 → Q (.ref t) H'
theorem prs_len {l : List Nat} (h : l.length ≤ 3) : (prs l).length ≤ 9 := by
  unfold prs
  rw [List.length_map]
  exact Nat.le_trans (ixp_len _) (Nat.mul_le_mul h h)
theorem scLawConflicts : FnScope ["_law_dice_here", "_law_letters_here", "_law_pairs_here", "_law_way", "_law_pair", "_law_order", "_law_many"] ["_law_dice_here", "_law_letters_here"] (defScope sLawConflicts) := ⟨rfl, rfl, rfl, by decide +kernel, rfl, by decide +kernel, by decide +kernel⟩
theorem c_law_conflicts (B : En P w K mg base) : Cal P w K mg base 3 "_law_conflicts" (spConflicts) [] := by
  refine cal_mk B.f_law_conflicts scLawConflicts (fun _ _ _ _ _ _ us hl => match us, hl with | [_, _], _ => rfl) (fun vs H Q E h => ?_) fun f cdv A outer s H vs Q E hr h => ?_
  · obtain ⟨d, l, rfl, _⟩ := h
    rfl
  · obtain ⟨d, l, rfl, hd, hl, pw, q⟩ := h
    have hu := hu_of hr
    have hu64 := hr.units
    refine ⟨_, (pss_cons (ps_set (i := 2) scLawConflicts.nd rfl (Or.inl rfl) (pe_c (c_law_pairs B) hr (by decide) (by rfl) (pa_cons (pv 1) pa_nil)))
    (pss_cons (ps_set (i := 3) scLawConflicts.nd rfl (Or.inl rfl) (pe_c (c_law_roll B) hr (by decide) (by rfl) (pa_cons (pv 0) (pa_cons pe_int pa_nil))))
    (pss_cons (ps_if (pt_cmpR op_eq (pv 3) pe_int (nomark _)) (pss_one (ps_ret (pe_tupleOfK K rfl (by rfl) B.tuple_ (pe_c (c_law_some B) hr (by decide) (by rfl) (pa_cons (pv 0) (pa_cons (pv 2) pa_nil)))))) pss_nil)
    (pss_cons (ps_if (pt_cmpR op_eq (pv 3) pe_int (nomark _)) (pss_one (ps_ret (pe_tupleOfK K rfl (by rfl) B.tuple_ (pe_lc (own := [("_law_pair", 4)]) (g := gName 4) rfl scLawConflicts.nd (pi_listK K rfl (pv 2)) (blkOk_by (own := [("_law_pair", 4)]) (N := ["_law_dice_here", "_law_letters_here", "_law_pairs_here", "_law_way", "_law_pair", "_law_order", "_law_many"]) (sc := defScope sLawConflicts) (by decide +kernel)) (fun _ _ _ _ _ => (pg_name (i := 4) scLawConflicts.nd rfl (Or.inl rfl))) (fun _ _ _ _ _ => pts_one (pt_cmpR op_gt (pe_c (c_law_roll B) hr (by decide) (by rfl) (pa_cons (pv 0) (pa_cons pe_int pa_nil))) pe_int (nomark _))) (fun _ _ _ _ _ => (pv 4)))))) pss_nil)
    (pss_cons (ps_if (pt_cmpR op_lt (pe_callB (call_len_seqK K rfl) (by rfl) B.len_ boot_len (pa_cons (pv 2) pa_nil)) pe_int (nomark _)) (pss_one (ps_ret (pe_tupleOfK K rfl (by rfl) B.tuple_ (pv 2)))) pss_nil)
    (pss_cons (ps_set (i := 5) scLawConflicts.nd rfl (Or.inl rfl) (pe_c (c_law_mixed B) hr (by decide) (by rfl) (pa_cons (pv 0) (pa_cons (pv 2) pa_nil))))
    (pss_cons (ps_set (i := 6) scLawConflicts.nd rfl (Or.inl rfl) (pe_op op_add pe_int (pe_c (c_law_roll B) hr (by decide) (by rfl) (pa_cons (pv 0) (pa_cons (pe_op op_sub (pe_callB (call_len_seqK K rfl) (by rfl) B.len_ boot_len (pa_cons (pv 2) pa_nil)) pe_int) pa_nil)))))
    (pss_one (ps_ret (pe_tupleOfK K rfl (by rfl) B.tuple_ (pe_callB cr_sortedS (by rfl) B.sorted_ boot_sorted (pa_cons (pe_slice sl_list (pv 5) po_none (po_some (pv 6))) pa_nil)))))))))))), ?_⟩
    have hpl := prs_len hl
    have hpw := prs_pw pw
    have hpn := pwl_nodup hpw
    refine ⟨_, rfl, l, rfl, by omega, fun H1 pa s1 pa0 hpa => ?_⟩
    refine ⟨_, rfl, d, 8, rfl, s1 _ _ hd, by decide, by decide, fun way hway => ?_⟩
    refine ⟨_, rfl, rfl, _, rfl, ite2 (fun _ => ?_) (fun _ => ?_)⟩
    · refine ⟨_, rfl, _, rfl, d, pa, _, rfl, s1 _ _ hd, hpa, by rw [List.length_map]; omega, fun H2 sa ys s2 sa0 hsa sub => ?_⟩
      obtain ⟨ds, hds, rfl⟩ := sub_tx sub
      refine .inl ⟨sa, _, rfl, SqL.of hsa, fun t ht => q _ t ds ((s1.trans s2).trans (same_upd ht)) ((s1.trans s2).free ht) upd_same (fun c hc => hds.subset hc) (asc_sub (hpw.sublist hds)) (Nat.le_trans hds.length_le hpl)⟩
    refine ⟨_, rfl, rfl, _, rfl, ite2 (fun _ => ?_) (fun _ => ?_)⟩
    · refine ⟨_, rfl, pa, rfl, ⟨_, SqL.of hpa⟩, fun D hD => lc_sub walk_list hD (by rw [List.length_map]; exact Nat.lt_of_le_of_lt hpl (by decide)) (fun H2 s => SqL.of (s _ _ hpa)) (fun x H2 hx s Pn k kn => ?_) (fun H2 ys s sub hDl => ?_)⟩
      · refine ⟨rfl, _, rfl, d, 3, rfl, s _ _ (s1 _ _ hd), by decide, by decide, fun r hr => ⟨_, _, rfl, rfl, _, rfl, ite2 (fun _ => ⟨_, rfl, k _ (Same.refl _)⟩) (fun _ => kn _ (Same.refl _))⟩⟩
      · obtain ⟨ds, hds, rfl⟩ := sub_tx sub
        refine .inl ⟨D, _, rfl, SqL.of hDl, fun t ht => q _ t ds ((s1.trans s).trans (same_upd ht)) ((s1.trans s).free ht) upd_same (fun c hc => hds.subset hc) (asc_sub (hpw.sublist hds)) (Nat.le_trans hds.length_le hpl)⟩
    refine ⟨_, rfl, pa, _, rfl, .inl (SqL.of hpa), _, _, rfl, rfl, _, rfl, ite2 (fun _ => ?_) (fun hge => ?_)⟩
    · refine ⟨_, rfl, .inl ⟨pa, _, rfl, SqL.of hpa, fun t ht => q _ t (prs l) (s1.trans (same_upd ht)) (s1.free ht) upd_same (fun c hc => hc) (asc_sub hpw) hpl⟩⟩
    have hge : 2 ≤ (prs l).length := by
      have : ¬ (((prs l).map tx).length : Int) < 2 := by simpa using hge
      rw [List.length_map] at this
      omega
    refine ⟨_, rfl, _, rfl, d, pa, _, rfl, s1 _ _ hd, hpa, by rw [List.length_map]; omega, fun H2 mp ys s2 mp0 hmp hperm => ?_⟩
    obtain ⟨ds, hds, rfl⟩ := perm_tx hperm
    refine ⟨_, rfl, _, rfl, pa, _, rfl, .inl (SqL.of (s2 _ _ hpa)), _, _, rfl, rfl, d, (prs l).length - 1, ?_, s2 _ _ (s1 _ _ hd), by omega, by omega, fun r hr => ⟨_, _, rfl, rfl, ?_⟩⟩
    · rw [List.length_map]
      show [V.ref d, V.int (((prs l).length : Nat) - 1 : Int)] = [V.ref d, V.int (((prs l).length - 1 : Nat) : Int)]
      rw [show (((prs l).length : Nat) - 1 : Int) = (((prs l).length - 1 : Nat) : Int) from by omega]
    refine ⟨_, rfl, _, rfl, _, rfl, mp, _, rfl, SqL.of hmp, fun tp htp => ?_⟩
    rw [show ((1 : Int) + (r : Int)) = ((1 + r : Nat) : Int) from by omega, cutTo]
    have e1 : (ds.map tx).take (1 + r) = ((ds.take (1 + r)).map fun l => (⟨l.toArray⟩ : Str)).map V.str := by rw [← List.map_take, str_tx]
    have hdl : ds.length ≤ 9 := by rw [hds.length_eq]; exact hpl
    rw [e1]
    refine ⟨tp, _, rfl, SqL.of upd_same, by rw [List.length_map, List.length_take]; omega, fun zs zp perm srt hzp => ?_⟩
    have pe := perm.map tlS
    rw [tl_strs] at pe
    have hnd : (zs.map tlS).Nodup := pe.nodup_iff.mpr ((List.take_sublist _ _).nodup (hds.nodup_iff.mpr hpn))
    have asc := sorted_asc srt hnd
    have s3 := same_to (same_to (s1.trans s2) htp (o := .lst (((ds.take (1 + r)).map fun l => (⟨l.toArray⟩ : Str)).map V.str))) hzp (o := .lst (zs.map V.str))
    refine .inl ⟨zp, _, rfl, SqL.of upd_same, fun t ht => q _ t (zs.map tlS) (same_to s3 ht) (s3.free ht) ?_ (fun c hc => hds.mem_iff.mp (List.mem_of_mem_take (pe.mem_iff.mp hc))) asc ?_⟩
    · rw [upd_same, strs_tl]
    · rw [pe.length_eq, List.length_take]; omega
def spText : Sp := fun vs H Q _ => ∃ (d : Addr) (l : List Nat) (m : Nat), vs = [.ref d, tx l, nv m] ∧ H d = some (DiceO d) ∧ l ≠ [] ∧ l.length ≤ 1000 ∧ m ≤ 100 ∧ ∀ H' t, Same H H' → t.length ≤ m → (∀ c ∈ t, c ∈ l) → Q (tx t) H'
theorem scLawText : FnScope ["_law_dice_here", "_law_letters_here", "_law_most", "_law_turn"] ["_law_dice_here", "_law_letters_here", "_law_most"] (defScope sLawText) := ⟨rfl, rfl, rfl, by decide +kernel, rfl, by decide +kernel, by decide +kernel⟩
theorem c_law_text (B : En P w K mg base) : Cal P w K mg base 3 "_law_text" (spText) [] := by
  refine cal_mk B.f_law_text scLawText (fun _ _ _ _ _ _ us hl => match us, hl with | [_, _, _], _ => rfl) (fun vs H Q E h => ?_) fun f cdv A outer s H vs Q E hr h => ?_
  · obtain ⟨d, l, m, rfl, _⟩ := h
    rfl
  · obtain ⟨d, l, m, rfl, hd, hne, hl, hm, q⟩ := h
    have hu := hu_of hr
    have hu64 := hr.units
    refine ⟨_, (pss_cons (ps_if (pt_cmpR op_eq (pv 1) pe_str (nomark _)) (pss_one (ps_ret pe_str)) pss_nil)
    (pss_one (ps_ret (pe_join pe_str (pe_lc (own := [("_law_turn", 3)]) (g := gName 3) (tt := tYes) rfl scLawText.nd (pi_range1 rfl B.range_ (pa_cons (pe_c (c_law_roll B) hr (by decide) (by rfl) (pa_cons (pv 0) (pa_cons (pe_op op_add (pv 2) pe_int) pa_nil))) pa_nil)) (blkOk_by (own := [("_law_turn", 3)]) (N := ["_law_dice_here", "_law_letters_here", "_law_most", "_law_turn"]) (sc := defScope sLawText) (by decide +kernel)) (fun _ _ _ _ _ => (pg_name (i := 3) scLawText.nd rfl (Or.inl rfl))) (fun _ _ _ _ _ => pts_nil) (fun _ _ _ _ _ => (pe_c (c_law_pickS B) hr (by decide) (by rfl) (pa_cons (pv 0) (pa_cons (pv 1) pa_nil))))))))), ?_⟩
    refine ⟨_, rfl, rfl, _, rfl, ite2 (fun he => absurd ?_ hne) (fun _ => ?_)⟩
    · have h1 : tx l = V.str (Str.ofString "") := of_decide_eq_true he
      have h2 := congrArg dec h1
      exact h2
    refine ⟨⟨_, rfl⟩, _, rfl, _, rfl, _, _, rfl, rfl, d, m + 1, ?_, hd, by omega, by omega, fun r hr => ⟨_, rfl, by omega, by omega, fun D hD => ?_⟩⟩
    · show [V.ref d, V.int ((m : Int) + 1)] = [V.ref d, V.int ((m + 1 : Nat) : Int)]
      rw [show ((m : Int) + 1) = ((m + 1 : Nat) : Int) from by omega]
    refine lc_rel (n := ((r : Nat) : Int).toNat) walk_range (fun i y H => ∃ c ∈ l, y = tx [c]) (fun i y H H' t h => h) hD (by rw [Int.toNat_natCast]; exact Nat.lt_of_le_of_lt (m := 101) (by omega) (by decide)) (fun _ _ => trivial) (fun i x H1 H2 hi s y Pn k => ?_) (fun H1 ys s hDl hyl hys => ?_)
    · obtain ⟨rfl, rfl⟩ := y
      exact ⟨rfl, yes ⟨_, rfl, _, rfl, d, l, rfl, s _ _ hd, hne, hl, fun c hc => k _ _ (Same.refl _) ⟨c, hc, rfl⟩⟩⟩
    · rw [Int.toNat_natCast] at hyl
      have hy2 : ys = ((ys.map fun y => (dec y).headD 0).map fun c => [c]).map tx := by
        rw [List.map_map, List.map_map]
        refine (List.map_id ys).symm.trans (List.map_congr_left fun y hy => ?_)
        obtain ⟨i, e⟩ := List.getElem?_of_mem hy
        obtain ⟨c, _, rfl⟩ := hys i y e
        rfl
      have hin : ∀ c ∈ ys.map (fun y => (dec y).headD 0), c ∈ l := fun c hc => by
        obtain ⟨y, hy, rfl⟩ := List.mem_map.mp hc
        obtain ⟨i, e⟩ := List.getElem?_of_mem hy
        obtain ⟨c, h, rfl⟩ := hys i y e
        exact h
      have hll : (ys.map fun y => (dec y).headD 0).length = r := by rw [List.length_map]; exact hyl
      generalize ys.map (fun y => (dec y).headD 0) = t at hy2 hin hll
      rw [hy2, str_tx] at hDl
      refine ⟨_, D, _, rfl, rfl, .inl (SqL.of hDl), ?_, ?_⟩
      · show (List.map (fun z : Str => z.length) _).sum + _ * 0 ≤ 16777216
        rw [sum_sg]
        omega
      · rw [join_sg]
        exact q _ t s (by omega) hin
def spReadState : Sp := fun vs H Q _ => ∃ (ra : Addr) (l : List Nat) (R : Rows) (s : Nat) (t : List Nat), vs = [tx l, .ref ra, nv s, tx t] ∧ Tb H ra R ∧ Tab l.length R ∧ s < R.length ∧ l.Nodup ∧ (∀ c ∈ t, c ∈ l) ∧ Q (nv (rd l R s t)) H
theorem scLawReadState : FnScope ["_law_letters_here", "_law_rows", "_law_start", "_law_text_here", "_law_state", "_law_sign"] ["_law_letters_here", "_law_rows", "_law_start", "_law_text_here"] (defScope sLawReadState) := ⟨rfl, rfl, rfl, by decide +kernel, rfl, by decide +kernel, by decide +kernel⟩
theorem c_law_read_state (B : En P w K mg base) : Cal P w K mg base 1 "_law_read_state" (spReadState) [] := by
  refine cal_mk B.f_law_read_state scLawReadState (fun _ _ _ _ _ _ us hl => match us, hl with | [_, _, _, _], _ => rfl) (fun vs H Q E h => ?_) fun f cdv A outer s H vs Q E hr h => ?_
  · obtain ⟨ra, l, R, s0, t, rfl, _⟩ := h
    rfl
  · obtain ⟨ra, l, R, s0, t, rfl, hT, tb, hs0, hn, ht, q⟩ := h
    have hu := hu_of hr
    have hu64 := hr.units
    refine ⟨_, (pss_cons (ps_set (i := 4) scLawReadState.nd rfl (Or.inl rfl) (pv 2))
    (pss_cons (ps_for PassesOwn.never rfl (pi_str (pv 3)) (pg_name (i := 5) scLawReadState.nd rfl (Or.inl rfl)) (pss_one (ps_set (i := 4) scLawReadState.nd rfl (Or.inl rfl) (pe_ix (ix_tupK K rfl) (pe_ix (ix_tupK K rfl) (pv 1) (pv 4) (fun _ _ => rfl)) (pe_bm PySem.F.plainAttrs_str PySem.F.slot_str_index PySem.F.type_str_index mt_sindex (pv 0) (pa_cons (pv 5) pa_nil)) (fun _ _ => rfl)))))
    (pss_one (ps_ret (pv 4))))), ?_⟩
    obtain ⟨bs, hra, hbl, hrow⟩ := suc_row hT
    refine ⟨_, rfl, _, rfl, _, rfl, for_it walk_str (fun i σ H1 => ∃ (x5 : Option V), σ = [some (tx l), some (.ref ra), some (nv s0), some (tx t), some (nv (rd l R s0 (t.take i))), x5] ∧ H1 = H) ⟨_, rfl, rfl⟩ (fun _ _ _ _ _ => trivial) (fun i x σ H1 H2 hi h y => ?_) (fun σ H1 h => ?_)⟩
    · obtain ⟨y3, rfl, rfl⟩ := h
      obtain ⟨rfl, c, e1, rfl⟩ := y
      have e1 : t[i]? = some c := by simpa using e1
      have hc := idx_at (ht c (List.mem_of_getElem? e1))
      have hst := rd_lt tb hs0 (t.take i) fun c hc => ht c (List.mem_of_mem_take hc)
      obtain ⟨b, hb1, hb2, hb3⟩ := hrow _ hst
      obtain ⟨rest, ho⟩ := occ_idx hn hc.2
      refine ⟨_, rfl, _, rfl, ra, _, _, _, rfl, rfl, SqT.of hra, atI_nat hb2, _, rfl, rfl, _, rfl, _, _, _, rest, rfl, rfl, ho, b, _, _, _, rfl, rfl, SqT.of hb3, atI_nat (row_at tb hst hc.1), some (.str ⟨#[c]⟩), ?_, rfl⟩
      rw [take_snocG e1, rd_snoc]
      rfl
    · obtain ⟨y3, rfl, rfl⟩ := h
      have e5 : Array.size (Str.cps ⟨t.toArray⟩) = t.length := by simp
      rw [e5, List.take_of_length_le (Nat.le_refl _)]
      exact ⟨_, rfl, q⟩
end
end Ww
end S_Wl3

section S_Wl4
set_option Elab.async false
set_option linter.all false
set_option maxRecDepth 100000
set_option maxHeartbeats 2000000
/-! The law's walks 4: marks. -/
namespace Ww
open PySem PySem.Spec PyProof.Rows L2 WwR SlX
open C8 (Cal pe_c)
open MW (Rows suc nx Tab Closed Fine Rnd Ref)
section
variable {P : Program} {w : World} {K : PySem.W.Frag} {mg : Str → Option Value} {base : Heap}
theorem nd_keep {P : Program} {w : World} {H H' : Hp} {d : Addr} {kvs : List (NK × Int)} (s : Same H H') (h : NDict P w H d kvs) : NDict P w H' d kvs :=
  h.mono (by obtain ⟨_, xs, e, _⟩ := h; rw [e]; exact s _ _ e) (Tx.of s)
theorem nd_ne {P : Program} {w : World} {H : Hp} {d b : Addr} {kvs : List (NK × Int)} {xs : List V} (h : NDict P w H d kvs) (e : H b = some (.lst xs)) : b ≠ d := fun z => by
  obtain ⟨_, ys, e2, _⟩ := h
  rw [z, e2] at e
  unfold NdO at e
  cases e
theorem mk_at {n s : Nat} (f : Nat → Nat) (h : s < n) : ((List.range n).map fun s => nv (f s))[s]? = some (nv (f s)) := by
  rw [List.getElem?_map, List.getElem?_range h]; rfl
theorem idx_one {L : List NK} {a : NK} (h : a ∉ L) : (L ++ [a]).idxOf a = L.length := by
  rw [List.idxOf_append, if_neg h, List.idxOf_cons_self]; omega

def spMarks : Sp := fun vs H Q _ => ∃ (p qa : Addr) (R : Rows) (A0 : List Nat) (k : Nat), vs = [.ref p, .ref qa] ∧ Tb H p R ∧ Tab k R ∧ H qa = some (.tup (A0.map nv)) ∧ 0 < R.length ∧ R.length ≤ 200 ∧ k ≤ 10 ∧
  ∀ H' d m, Same H H' → H d = none → Fine R k (fun s => decide (s ∈ A0)) (List.range R.length) m → H' d = some (.lst ((List.range R.length).map fun s => nv (m s))) → Q (.ref d) H'
theorem scLawMarks : FnScope ["_law_rows", "_law_accepts", "_law_marks_here", "_law_state", "_law_turn", "_law_numbers", "_law_later", "_law_nexts", "_law_key", "_law_other"] ["_law_rows", "_law_accepts"] (defScope sLawMarks) := ⟨rfl, rfl, rfl, by decide +kernel, rfl, by decide +kernel, by decide +kernel⟩
theorem c_law_marks (B : En P w K mg base) : Cal P w K mg base 1 "_law_marks" (spMarks) [] := by
  refine cal_mk B.f_law_marks scLawMarks (fun _ _ _ _ _ _ us hl => match us, hl with | [_, _], _ => rfl) (fun vs H Q E h => ?_) fun f cdv A outer s H vs Q E hr h => ?_
  · obtain ⟨p, qa, R, A0, k, rfl, _⟩ := h
    rfl
  · obtain ⟨p, qa, R, A0, k, rfl, hT, tb, hA, h0, hR, hk, q⟩ := h
    have hu := hu_of hr
    have hu64 := hr.units
    refine ⟨_, (pss_cons (ps_set (i := 2) scLawMarks.nd rfl (Or.inr rfl) (pe_lc (own := [("_law_state", 3)]) (g := gName 3) (tt := tYes) rfl scLawMarks.nd (pi_range1 rfl B.range_ (pa_cons (pe_callB (call_len_seqK K rfl) (by rfl) B.len_ boot_len (pa_cons (pv 0) pa_nil)) pa_nil)) (blkOk_by (own := [("_law_state", 3)]) (N := ["_law_rows", "_law_accepts", "_law_marks_here", "_law_state", "_law_turn", "_law_numbers", "_law_later", "_law_nexts", "_law_key", "_law_other"]) (sc := defScope sLawMarks) (by decide +kernel)) (fun _ _ _ _ _ => (pg_name (i := 3) scLawMarks.nd rfl (Or.inl rfl))) (fun _ _ _ _ _ => pts_nil) (fun _ _ _ _ _ => (pe_callTy call_int1 (by rfl) B.int_ boot_int (pa_cons (pe_cmpR (op_in_seqK K rfl) (pv 3) (pv 1) rfl) pa_nil)))))
    (pss_cons (ps_for PassesOwn.never rfl (pi_range1 rfl B.range_ (pa_cons (pe_callB (call_len_seqK K rfl) (by rfl) B.len_ boot_len (pa_cons (pv 0) pa_nil)) pa_nil)) (pg_name (i := 4) scLawMarks.nd rfl (Or.inl rfl)) (pss_cons (ps_set (i := 5) scLawMarks.nd rfl (Or.inl rfl) pe_dnewN)
    (pss_cons (ps_set (i := 6) scLawMarks.nd rfl (Or.inl rfl) (pe_lst pa_nil))
    (pss_cons (ps_for PassesOwn.never rfl (pi_enumT (by rfl) B.enumerate_ (pa_cons (pv 0) pa_nil)) (pg_tup rfl (pgs_cons (pg_name (i := 3) scLawMarks.nd rfl (Or.inl rfl)) (pgs_cons (pg_name (i := 7) scLawMarks.nd rfl (Or.inl rfl)) pgs_nil))) (pss_cons (ps_set (i := 8) scLawMarks.nd rfl (Or.inl rfl) (pe_tup (pa_cons (pe_ix (ix_listK K rfl) (pv 2) (pv 3) (fun _ _ => rfl)) (pa_cons (pe_tupleOfK K rfl (by rfl) B.tuple_ (pe_lc (own := [("_law_other", 9)]) (g := gName 9) (tt := tYes) rfl scLawMarks.nd (pi_tupK K rfl (pv 7)) (blkOk_by (own := [("_law_other", 9)]) (N := ["_law_rows", "_law_accepts", "_law_marks_here", "_law_state", "_law_turn", "_law_numbers", "_law_later", "_law_nexts", "_law_key", "_law_other"]) (sc := defScope sLawMarks) (by decide +kernel)) (fun _ _ _ _ _ => (pg_name (i := 9) scLawMarks.nd rfl (Or.inl rfl))) (fun _ _ _ _ _ => pts_nil) (fun _ _ _ _ _ => (pe_ix (ix_listK K rfl) (pv 2) (pv 9) (fun _ _ => rfl))))) pa_nil))))
    (pss_one (ps_expr (pe_bm PySem.F.plainAttrs_list PySem.F.slot_list_append PySem.F.type_list_append mt_append (pv 6) (pa_cons (pe_mG ty_nd PySem.F.plainAttrs_dict PySem.F.slot_dict_setdefault PySem.F.type_dict_setdefault (mt_ndset hu64) (pv 5) (pa_cons (pv 8) (pa_cons (pe_callB call_lenNd (by rfl) B.len_ boot_len (pa_cons (pv 5) pa_nil)) pa_nil))) pa_nil))))))
    (pss_one (ps_set (i := 2) scLawMarks.nd rfl (Or.inr rfl) (pv 6)))))))
    (pss_one (ps_ret (pv 2))))), ?_⟩
    obtain ⟨bs, hp, hbl, hrow⟩ := suc_row hT
    have cl := MW.closed_all tb
    have ne : List.range R.length ≠ [] := fun z => by have h := congrArg List.length z; rw [List.length_range] at h; exact absurd h (by show R.length ≠ 0; omega)
    refine ⟨_, rfl, p, _, rfl, .inr (SqT.of hp), _, rfl, ?_⟩
    rw [List.length_map, hbl]
    refine ⟨by omega, by omega, fun D hD => lc_map (n := ((R.length : Nat) : Int).toNat) walk_range (fun s => nv ((decide (s ∈ A0)).toNat)) hD (by rw [Int.toNat_natCast]; exact Nat.lt_of_le_of_lt hR (by decide)) (fun _ _ => trivial) (fun i x H1 H2 hi s y Pn kk => ?_) (fun H1 s1 hDl => ?_)⟩
    · obtain ⟨rfl, rfl⟩ := y
      have e0 : ((0 : Int) + (i : Nat)) = (i : Nat) := by omega
      refine ⟨rfl, yes ⟨_, rfl, _, rfl, qa, _, rfl, .inr (SqT.of (s _ _ hA)), rfl, flat_nv _, .inr ⟨_, rfl, ?_⟩⟩⟩
      have e1 : (V.int (if (if false = true then !inV (.int ((0 : Int) + (i : Nat))) (A0.map nv) else inV (.int ((0 : Int) + (i : Nat))) (A0.map nv)) = true then 1 else 0)) = nv ((decide (i ∈ A0)).toNat) := by
        rw [e0, inV_nv]
        cases decide (i ∈ A0) <;> rfl
      have := kk _ (Same.refl _)
      rw [← e1] at this
      exact this
    rw [Int.toNat_natCast] at hDl
    refine ⟨_, rfl, p, _, rfl, .inr (SqT.of (s1 _ _ hp)), _, rfl, ?_⟩
    rw [List.length_map, hbl]
    refine ⟨by omega, by omega, for_range (n := ((R.length : Nat) : Int).toNat) (fun i σ H2 => ∃ (f : Nat → Nat) (fp : Addr) (x2 x4 x5 x6 x7 x8 x9 : Option V), σ = [some (.ref p), some (.ref qa), some (.ref fp), x2, x4, x5, x6, x7, x8, x9] ∧ Same H H2 ∧ H fp = none ∧ H2 fp = some (.lst ((List.range R.length).map fun s => nv (f s))) ∧ Rnd R k (fun s => decide (s ∈ A0)) (List.range R.length) i f) ⟨_, D, _, _, _, _, _, _, _, rfl, s1, hD, hDl, Rnd.start (fun _ _ => rfl) ne⟩ (fun i σ H2 hi h => ?_) (fun σ H2 h => ?_)⟩
    · obtain ⟨f, fp, x2, x4, x5, x6, x7, x8, x9, rfl, g1, f0, hF, rnd⟩ := h
      refine fun np hnp hN0 => ?_
      have np0 : H np = none := g1.free hnp
      have nf : np ≠ fp := fun z => by rw [z, hF] at hnp; cases hnp
      refine ⟨Nat.zero_le _, fun lp hlp => ?_⟩
      have hlp : upd H2 np (NdO P w np []) lp = none := hlp
      have nl : np ≠ lp := fun z => by rw [← z, upd_same] at hlp; cases hlp
      have lp0 : H lp = none := g1.free ((same_upd hnp (o := NdO P w np [])).free hlp)
      have lf : lp ≠ fp := fun z => by rw [z, same_upd hnp (o := NdO P w np []) _ _ hF] at hlp; cases hlp
      have s5 := same_to (same_upd hnp (o := NdO P w np [])) hlp (o := .lst [])
      refine ⟨_, rfl, p, _, rfl, (g1.trans s5) _ _ hp, for_it (n := (bs.map V.ref).length) walk_N (fun j σ H5 => ∃ (L : List NK) (x2 x4 x7 x8 x9 : Option V), σ = [some (.ref p), some (.ref qa), some (.ref fp), x2, x4, some (.ref np), some (.ref lp), x7, x8, x9] ∧ Same H H5 ∧ H5 fp = some (.lst ((List.range R.length).map fun s => nv (f s))) ∧ NDict P w H5 np (num L) ∧ L.length ≤ j ∧ (∀ s, s < j → sig f R s ∈ L) ∧ H5 lp = some (.lst ((List.range j).map fun s => nv (L.idxOf (sig f R s))))) ⟨[], _, _, _, _, _, rfl, g1.trans s5, s5 _ _ hF, hN0.mono (upd_ne nl) (Tx.of (same_upd hlp)), Nat.le_refl _, fun s hs => absurd hs (Nat.not_lt_zero _), upd_same⟩ (fun j σ H5 _ h => ?_) (fun j x σ H5 H6 hj h y => ?_) (fun σ H5 h => ?_)⟩
      · obtain ⟨_, _, _, _, _, _, _, h1, _⟩ := h
        exact h1 _ _ hp
      · obtain ⟨L, y2, y4, y7, y8, y9, rfl, k1, k2, k3, k4, k5, k6⟩ := h
        obtain ⟨T, xs, rfl, hT1, rfl, y, e1, rfl⟩ := y
        have hj : j < R.length := by rw [List.length_map, hbl] at hj; exact hj
        obtain ⟨b, hb1, hb2, hb3⟩ := hrow j hj
        rw [hb2] at e1
        cases e1
        have s6 := same_upd hT1 (o := .tup [.int (j : Nat), .ref b])
        refine ⟨T, _, rfl, SqT.of upd_same, rfl, _, _, rfl, _, _, rfl, rfl, ?_⟩
        have k1' := k1.trans s6
        have k2' := s6 _ _ k2
        have k3' := nd_keep s6 k3
        have k6' := s6 _ _ k6
        generalize upd H5 T (.tup [.int (j : Nat), .ref b]) = H6 at s6 k1' k2' k3' k6' ⊢
        have hb5 := k1' _ _ hb3
        refine ⟨_, rfl, _, rfl, fp, _, _, nv (f j), rfl, rfl, SqL.of k2', atI_nat (mk_at f hj), _, rfl, b, rfl, ⟨_, SqT.of hb5⟩, fun D1 hD1 => lc_map (n := ((suc R j).map nv).length) walk_tup (fun i => nv (f ((suc R j).getD i 0))) hD1 ?_ (fun H6 s6 => SqT.of (s6 _ _ hb5)) (fun i x H7 H8 hi s y Pn kk => ?_) (fun H7 s7 hDl => ?_)⟩
        · rw [List.length_map, tb.sl hj]; exact Nat.lt_of_le_of_lt hk (by decide)
        · obtain ⟨rfl, e1⟩ := y
          rw [List.getElem?_map] at e1
          obtain ⟨d, e5, rfl⟩ := Option.map_eq_some_iff.mp e1
          have e6 : (suc R j).getD i 0 = d := getD_of e5
          rw [e6] at kk
          have hd := tb.sm hj d (List.mem_of_getElem? e5)
          exact ⟨rfl, yes ⟨_, rfl, _, rfl, fp, _, _, nv (f d), rfl, rfl, SqL.of (s _ _ k2'), atI_nat (mk_at f hd), kk _ (Same.refl _)⟩⟩
        rw [List.length_map, map_getD (suc R j) 0 (fun d => nv (f d))] at hDl
        refine .inl ⟨D1, _, rfl, SqL.of hDl, fun t3 ht3 => ⟨by show 2 ≤ sizeLine; decide, fun kp hkp => ?_⟩⟩
        have t3k : t3 ≠ kp := fun z => by rw [← z, upd_same] at hkp; cases hkp
        have s7 : Same H6 (upd (upd H7 t3 (.tup ((suc R j).map fun d => nv (f d)))) kp (.tup [nv (f j), .ref t3])) := same_to (same_to s7 ht3) hkp
        have hK : NTup (upd (upd H7 t3 (.tup ((suc R j).map fun d => nv (f d)))) kp (.tup [nv (f j), .ref t3])) kp (sig f R j) := by
          refine ⟨t3, upd_same, ?_⟩
          rw [upd_ne t3k, upd_same]
          unfold sig
          rw [List.map_map]
          rfl
        generalize upd (upd H7 t3 (.tup ((suc R j).map fun d => nv (f d)))) kp (.tup [nv (f j), .ref t3]) = H8 at s7 hK ⊢
        have n5 := nd_keep s7 k3'
        have hl7 := s7 _ _ k6'
        have hL1 : (num L).length ≤ 1000 := by rw [numF_len]; omega
        have ln := nd_ne n5 hl7
        refine ⟨_, rfl, .inl ⟨rfl, _, SqL.of hl7⟩, _, rfl, ⟨np, _, rfl, n5⟩, _, rfl, _, rfl, np, _, rfl, n5, hL1, np, kp, sig f R j, _, num L, rfl, rfl, n5, hK, hL1, fun u hu5 => ?_, fun hnone o hN => ?_⟩
        · rw [num_get] at hu5
          have hin : sig f R j ∈ L := by
            by_cases z : sig f R j ∈ L
            · exact z
            · rw [if_neg z] at hu5; cases hu5
          rw [if_pos hin] at hu5
          cases hu5
          refine ⟨lp, _, _, rfl, rfl, hl7, by rw [List.length_map, List.length_range]; exact Nat.lt_of_le_of_lt (m := 200) (by omega) (by decide), ?_⟩
          refine ⟨L, _, _, _, _, _, rfl, same_at (k1'.trans s7) lp0, by rw [upd_ne lf.symm]; exact s7 _ _ k2', n5.mono (upd_ne ln.symm) (Tx.upd hl7), by omega, ?_, ?_⟩
          · intro s hs
            by_cases z : s < j
            · exact k5 s z
            · rw [show s = j by omega]; exact hin
          · rw [upd_same, List.range_succ, List.map_append]; rfl
        · rw [num_get] at hnone
          have hout : sig f R j ∉ L := by
            intro z
            rw [if_pos z] at hnone; cases hnone
          have hlen : (num L).length = L.length := numF_len L 0
          have hN : NDict P w (upd H8 np o) np (num (L ++ [sig f R j])) := by rw [num_app, ← hlen]; exact hN
          have hl8 : upd H8 np o lp = some (.lst ((List.range j).map fun s => nv (L.idxOf (sig f R s)))) := by rw [upd_ne ln]; exact hl7
          have hf8 : upd H8 np o fp = some (.lst ((List.range R.length).map fun s => nv (f s))) := by rw [upd_ne nf.symm]; exact s7 _ _ k2'
          refine ⟨lp, _, _, rfl, rfl, hl8, by rw [List.length_map, List.length_range]; exact Nat.lt_of_le_of_lt (m := 200) (by omega) (by decide), ?_⟩
          refine ⟨L ++ [sig f R j], _, _, _, _, _, rfl, same_at (same_at (k1'.trans s7) np0) lp0, by rw [upd_ne lf.symm]; exact hf8, hN.mono (upd_ne ln.symm) (Tx.upd hl8), by rw [List.length_append]; show L.length + 1 ≤ j + 1; omega, ?_, ?_⟩
          · intro s hs
            by_cases z : s < j
            · exact List.mem_append_left _ (k5 s z)
            · rw [show s = j by omega]; simp
          · rw [upd_same, List.range_succ, List.map_append, hlen]
            congr 2
            refine congr (congrArg _ (List.map_congr_left fun s hs => ?_)) ?_
            · show nv _ = nv _
              rw [idx_app (k5 s (List.mem_range.mp hs))]
            · show [V.int _] = [nv _]
              rw [idx_one hout]
      · obtain ⟨L, y2, y4, y7, y8, y9, rfl, k1, k2, k3, k4, k5, k6⟩ := h
        rw [List.length_map, hbl] at k5 k6
        have rf : Ref R k (List.range R.length) f fun s => L.idxOf (sig f R s) := sig_ref tb (fun s hs => List.mem_range.mp hs) fun s hs => k5 s (List.mem_range.mp hs)
        exact ⟨_, rfl, _, lp, _, _, _, _, _, _, _, rfl, k1, lp0, k6, rnd.next cl rf⟩
    · obtain ⟨f, fp, x2, x4, x5, x6, x7, x8, x9, rfl, g1, f0, hF, rnd⟩ := h
      rw [Int.toNat_natCast] at rnd
      exact ⟨_, rfl, q _ fp f g1 f0 (rnd.ends cl (by rw [List.length_range]; exact Nat.le_refl _)) hF⟩
end
end Ww
end S_Wl4

section S_Wl5
set_option Elab.async false
set_option linter.all false
set_option maxRecDepth 100000
set_option maxHeartbeats 2000000
/-! The law's walks 5: the law's least reader. -/
namespace Ww
open PySem PySem.Spec PyProof.Rows L2 WwR SlX
open C8 (Cal pe_c)
open MW (Rows suc nx Tab Closed Fine Qu add1 grow Least ix tabR tabA)
/-- the numbers of the classes in order -/
def nK (m : Nat → Nat) (O : List Nat) : List (Key × V) := (List.range O.length).map fun i => ((.inl ((m (O.getD i 0) : Nat) : Int), nv i) : Key × V)
theorem nK_no {m : Nat → Nat} {O : List Nat} {s : Nat} (h : m s ∉ O.map m) : valV (nK m O) (.inl ((m s : Nat) : Int)) = none :=
  valV_no (key := fun i : Nat => (.inl ((m (O.getD i 0) : Nat) : Int) : Key)) (f := fun i => nv i) fun y hy z => h (by
    have hy := List.mem_range.mp hy
    have e : m (O.getD y 0) = m s := key_inj.mp z
    rw [← e]
    exact List.mem_map.mpr ⟨_, MW.getD_mem hy, rfl⟩)
theorem nK_put {m : Nat → Nat} {O : List Nat} {s : Nat} (h : m s ∉ O.map m) : putK (nK m O) (.inl ((m s : Nat) : Int)) (nv O.length) = nK m (O ++ [s]) := by
  rw [putK_new]
  · unfold nK
    rw [List.length_append, List.length_singleton, List.range_succ, List.map_append]
    congr 1
    · refine List.map_congr_left fun i hi => ?_
      have hi := List.mem_range.mp hi
      rw [List.getD_eq_getElem?_getD, List.getD_eq_getElem?_getD, List.getElem?_append_left hi]
    · have e : (O ++ [s]).getD O.length 0 = s := by
        rw [List.getD_eq_getElem?_getD, List.getElem?_append_right (Nat.le_refl _), Nat.sub_self]
        rfl
      show _ = [((.inl ((m ((O ++ [s]).getD O.length 0) : Nat) : Int), nv O.length) : Key × V)]
      rw [e]
  · intro p hp
    obtain ⟨y, hy, rfl⟩ := List.mem_map.mp hp
    have hy := List.mem_range.mp hy
    exact fun z => h (by
      have e : m (O.getD y 0) = m s := key_inj.mp z
      rw [← e]
      exact List.mem_map.mpr ⟨_, MW.getD_mem hy, rfl⟩)
theorem nK_len {m : Nat → Nat} {O : List Nat} : (nK m O).length = O.length := by unfold nK; rw [List.length_map, List.length_range]
theorem qm_le {k : Nat} {R : Rows} {m : Nat → Nat} (tb : Tab k R) {s0 i : Nat} (h0 : s0 < R.length) {O : List Nat} (h : Qu m (suc R) s0 i O) : O.length ≤ R.length ∧ ∀ x ∈ O, x < R.length := by
  have hm : ∀ x ∈ O, x < R.length := h.mem (P := fun x => x < R.length) h0 fun x hx y hy => tb.sm hx y hy
  refine ⟨?_, hm⟩
  have := h.len_le (B := (List.range R.length).map m) (List.mem_map.mpr ⟨s0, List.mem_range.mpr h0, rfl⟩) fun x hx y hy => by
    by_cases z : x < R.length
    · exact List.mem_map.mpr ⟨y, List.mem_range.mpr (tb.sm z y hy), rfl⟩
    · have e : suc R x = [] := by
        unfold suc
        rw [List.getD_eq_getElem?_getD, List.getElem?_eq_none_iff.mpr (by show R.length ≤ x; omega)]
        rfl
      rw [e] at hy
      cases hy
  rwa [List.length_map, List.length_range] at this
theorem mono_lt {i j : Nat} {r : List V → Hp → VK → Prop} {f : Int → Int → V} (mr : ∀ xs H Q Q', (∀ v H1, Q v H1 → Q' v H1) → r xs H Q → r xs H Q') :
    ∀ (σ : L2.St) (H : Hp) (Q Q' : Bool → Hp → Prop), (∀ b H1, Q b H1 → Q' b H1) → tTest (tOp (rI0 f) (tVar i) (tCB r (tCons (tVar j) tNil))) σ H Q → tTest (tOp (rI0 f) (tVar i) (tCB r (tCons (tVar j) tNil))) σ H Q' := by
  rintro σ H Q Q' h ⟨x, hx, y, hy, k⟩
  refine ⟨x, hx, y, hy, mr _ _ _ _ (fun v H1 q => ?_) k⟩
  obtain ⟨i', j', e1, e2, b, e3, q⟩ := q
  exact ⟨i', j', e1, e2, b, e3, h _ _ q⟩
theorem mono_len {K : PySem.W.Frag} : ∀ xs H Q Q', (∀ v H1, Q v H1 → Q' v H1) → (fun (xs : List V) (H : Hp) (Q : VK) => ∃ p ys, xs = [.ref p] ∧ (SqL K H p ys ∨ SqT K H p ys) ∧ Q (.int ys.length) H) xs H Q → (fun (xs : List V) (H : Hp) (Q : VK) => ∃ p ys, xs = [.ref p] ∧ (SqL K H p ys ∨ SqT K H p ys) ∧ Q (.int ys.length) H) xs H Q' := by
  rintro xs H Q Q' h ⟨p, ys, e, h1, q⟩
  exact ⟨p, ys, e, h1, h _ _ q⟩
/-- rows of numbers, so far -/
def RowsAt (H : Hp) (m : Nat → Nat) (R : Rows) (O : List Nat) (i : Nat) (ys : List V) : Prop := ys.length = i ∧ ∀ j y, ys[j]? = some y → ∃ b, y = .ref b ∧ H b = some (.tup (((suc R (O.getD j 0)).map (ix m O)).map nv))
section
variable {P : Program} {w : World} {K : PySem.W.Frag} {mg : Str → Option Value} {base : Heap}

def spLeastReader : Sp := spLeastTable
theorem scLawLeastReader : FnScope ["_law_rows", "_law_accepts", "_law_start", "_law_marks_here", "_law_order", "_law_numbers", "_law_found", "_law_at", "_law_nexts", "_law_here", "_law_other", "_law_state"] ["_law_rows", "_law_accepts", "_law_start"] (defScope sLawLeastReader) := ⟨rfl, rfl, rfl, by decide +kernel, rfl, by decide +kernel, by decide +kernel⟩
theorem c_law_least_reader (B : En P w K mg base) : Cal P w K mg base 2 "_law_least_reader" (spLeastReader) [] := by
  refine cal_mk B.f_law_least_reader scLawLeastReader (fun _ _ _ _ _ _ us hl => match us, hl with | [_, _, _], _ => rfl) (fun vs H Q E h => ?_) fun f cdv A outer s H vs Q E hr h => ?_
  · obtain ⟨p, q0, R, A0, k, s0, rfl, _⟩ := h
    rfl
  · obtain ⟨p, q0, R, A0, k, s0, rfl, hT, hA, tb, h0, hR, hk, hAl, q⟩ := h
    have hu := hu_of hr
    have hu64 := hr.units
    refine ⟨_, (pss_cons (ps_set (i := 3) scLawLeastReader.nd rfl (Or.inl rfl) (pe_c (c_law_marks B) hr (by decide) (by rfl) (pa_cons (pv 0) (pa_cons (pv 1) pa_nil))))
    (pss_cons (ps_set (i := 4) scLawLeastReader.nd rfl (Or.inl rfl) (pe_lst (pa_cons (pv 2) pa_nil)))
    (pss_cons (ps_set (i := 5) scLawLeastReader.nd rfl (Or.inl rfl) (pe_disp (pps_cons (pe_ix (ix_listK K rfl) (pv 3) (pv 2) (fun _ _ => rfl)) pe_int pps_nil) (by rfl) (by rfl) (fun z => by cases z) (by decide)))
    (pss_cons (ps_set (i := 6) scLawLeastReader.nd rfl (Or.inl rfl) (pe_lst pa_nil))
    (pss_cons (ps_set (i := 7) scLawLeastReader.nd rfl (Or.inl rfl) pe_int)
    (pss_cons (ps_while PassesOwn.never (pt_cmpR op_lt (pv 7) (pe_callB (call_len_seqK K rfl) (by rfl) B.len_ boot_len (pa_cons (pv 4) pa_nil)) (nomark _)) (pss_cons (ps_set (i := 8) scLawLeastReader.nd rfl (Or.inl rfl) (pe_lst pa_nil))
    (pss_cons (ps_set (i := 9) scLawLeastReader.nd rfl (Or.inl rfl) (pe_ix (ix_tupK K rfl) (pv 0) (pe_ix (ix_listK K rfl) (pv 4) (pv 7) (fun _ _ => rfl)) (fun _ _ => rfl)))
    (pss_cons (ps_for PassesOwn.never rfl (pi_tupK K rfl (pv 9)) (pg_name (i := 10) scLawLeastReader.nd rfl (Or.inl rfl)) (pss_cons (ps_if (pt_cmp (pc_dnotin hu (pe_ix (ix_listK K rfl) (pv 3) (pv 10) (fun _ _ => rfl)) (pv 5))) (pss_cons (ps_dput hu (pv 5) (pe_ix (ix_listK K rfl) (pv 3) (pv 10) (fun _ _ => rfl)) (pe_callB (call_len_seqK K rfl) (by rfl) B.len_ boot_len (pa_cons (pv 4) pa_nil)) rfl)
    (pss_one (ps_expr (pe_bm PySem.F.plainAttrs_list PySem.F.slot_list_append PySem.F.type_list_append mt_append (pv 4) (pa_cons (pv 10) pa_nil))))) pss_nil)
    (pss_one (ps_expr (pe_bm PySem.F.plainAttrs_list PySem.F.slot_list_append PySem.F.type_list_append mt_append (pv 8) (pa_cons (pe_dget hu (pv 5) (pe_ix (ix_listK K rfl) (pv 3) (pv 10) (fun _ _ => rfl)) (fun _ _ => rfl)) pa_nil))))))
    (pss_cons (ps_expr (pe_bm PySem.F.plainAttrs_list PySem.F.slot_list_append PySem.F.type_list_append mt_append (pv 6) (pa_cons (pe_tupleOfK K rfl (by rfl) B.tuple_ (pv 8)) pa_nil)))
    (pss_one (ps_set (i := 7) scLawLeastReader.nd rfl (Or.inl rfl) (pe_op op_add (pv 7) pe_int))))))))
    (pss_one (ps_ret (pe_tup (pa_cons (pe_tupleOfK K rfl (by rfl) B.tuple_ (pv 6)) (pa_cons (pe_tupleOfK K rfl (by rfl) B.tuple_ (pe_lc (own := [("_law_at", 7), ("_law_state", 11)]) (g := gTup K 2 (gCons (gName 7) (gCons (gName 11) gNil))) rfl scLawLeastReader.nd (pi_enum (by rfl) B.enumerate_ (pa_cons (pv 4) pa_nil)) (blkOk_by (own := [("_law_at", 7), ("_law_state", 11)]) (N := ["_law_rows", "_law_accepts", "_law_start", "_law_marks_here", "_law_order", "_law_numbers", "_law_found", "_law_at", "_law_nexts", "_law_here", "_law_other", "_law_state"]) (sc := defScope sLawLeastReader) (by decide +kernel)) (fun _ _ _ _ _ => (pg_tup rfl (pgs_cons (pg_name (i := 7) scLawLeastReader.nd rfl (Or.inl rfl)) (pgs_cons (pg_name (i := 11) scLawLeastReader.nd rfl (Or.inl rfl)) pgs_nil)))) (fun _ _ _ _ _ => pts_one (pt_cmpR (op_in_seqK K rfl) (pv 11) (pv 1) rfl)) (fun _ _ _ _ _ => (pv 7)))) pa_nil))))))))))), ?_⟩
    obtain ⟨bs, hp, hbl, hrow⟩ := suc_row hT
    refine ⟨_, rfl, _, rfl, p, q0, R, A0, k, rfl, hT, tb, hA, by omega, hR, hk, fun H1 mp m s1 mp0 fine hm => ?_⟩
    refine ⟨_, rfl, by show 1 ≤ sizeLine; decide, fun op hop => ?_⟩
    have s2 := same_upd hop (o := .lst [nv s0])
    have op0 : H op = none := s1.free hop
    refine fun np hnp => ?_
    have on : op ≠ np := fun z => by rw [← z, upd_same] at hnp; cases hnp
    have np0 : H np = none := s1.free (s2.free hnp)
    have s3 := same_to s2 hnp (o := .dK [])
    refine ⟨_, rfl, _, rfl, mp, _, _, nv (m s0), rfl, rfl, SqL.of (s3 _ _ hm), atI_nat (mk_at m h0), upd_same, [(.inl ((m s0 : Nat) : Int), nv 0)], rfl, by simp, ?_⟩
    rw [upd_upd]
    have hk0 : mergeK [] [((.inl ((m s0 : Nat) : Int) : Key), nv 0)] = nK m [s0] := rfl
    rw [hk0]
    have s3 : Same H1 (upd (upd H1 op (.lst [nv s0])) np (.dK (nK m [s0]))) := same_to s2 hnp
    refine ⟨Nat.zero_le _, fun fp hfp => ?_⟩
    have s4 := same_to s3 hfp (o := .lst [])
    have fp0 : H fp = none := s1.free (s3.free hfp)
    have nf : np ≠ fp := fun z => by rw [← z, upd_same] at hfp; cases hfp
    have of : op ≠ fp := fun z => by rw [← z, upd_ne on, upd_same] at hfp; cases hfp
    have hm4 := s4 _ _ hm
    have s04 := s1.trans s4
    have ho4 : upd (upd (upd H1 op (.lst [nv s0])) np (.dK (nK m [s0]))) fp (.lst []) op = some (.lst [nv s0]) := by rw [upd_ne of, upd_ne on, upd_same]
    have hn4 : upd (upd (upd H1 op (.lst [nv s0])) np (.dK (nK m [s0]))) fp (.lst []) np = some (.dK (nK m [s0])) := by rw [upd_ne nf, upd_same]
    have hf4 : upd (upd (upd H1 op (.lst [nv s0])) np (.dK (nK m [s0]))) fp (.lst []) fp = some (.lst []) := upd_same
    have op1 : H1 op = none := hop
    have np1 : H1 np = none := s2.free hnp
    have fp1 : H1 fp = none := s3.free hfp
    generalize upd (upd (upd H1 op (.lst [nv s0])) np (.dK (nK m [s0]))) fp (.lst []) = H4 at s4 hm4 s04 ho4 hn4 hf4 ⊢
    refine while_n R.length (fun i σ H5 => ∃ (O : List Nat) (ys : List V) (x8 x9 x10 x11 : Option V), σ = [some (.ref p), some (.ref q0), some (nv s0), some (.ref mp), some (.ref op), some (.ref np), some (.ref fp), some (nv i), x8, x9, x10, x11] ∧ Same H1 H5 ∧ H5 op = some (.lst (O.map nv)) ∧ H5 np = some (.dK (nK m O)) ∧ H5 fp = some (.lst ys) ∧ RowsAt H5 m R O i ys ∧ Qu m (suc R) s0 i O) (Nat.zero_le _) ⟨[s0], [], _, _, _, _, rfl, s4, ho4, hn4, hf4, ⟨rfl, fun j y e => by simp at e⟩, Qu.start⟩ (fun i σ H5 hiN h => ?_) (mono_lt mono_len)
    obtain ⟨O, ys, x8, x9, x10, x11, rfl, s5, ho, hn, hf, hys, hq⟩ := h
    have hO := qm_le tb h0 hq
    have hnd := hq.nodup
    refine ⟨_, rfl, _, rfl, op, _, rfl, .inl (SqL.of ho), _, _, rfl, rfl, _, rfl, ite2 (fun hlt => ?_) (fun hlt => ?_)⟩
    · have hlt : i < O.length := by
        have := of_decide_eq_true hlt
        rw [List.length_map] at this
        omega
      have eO : O[i]? = some (O.getD i 0) := by rw [List.getD_eq_getElem?_getD, List.getElem?_eq_getElem hlt]; rfl
      generalize hc : O.getD i 0 = c at eO
      have hcR := hO.2 c (List.mem_of_getElem? eO)
      obtain ⟨b, hb1, hb2, hb3⟩ := hrow c hcR
      refine ⟨Nat.zero_le _, fun xp hxp => ?_⟩
      have s6 := same_upd hxp (o := .lst [])
      have xp0 : H1 xp = none := s5.free hxp
      have xo : xp ≠ op := fun z => by rw [z, ho] at hxp; cases hxp
      have xn : xp ≠ np := fun z => by rw [z, hn] at hxp; cases hxp
      have xf : xp ≠ fp := fun z => by rw [z, hf] at hxp; cases hxp
      have s56 := s5.trans s6
      have hb5 : ∀ H', Same H1 H' → H' b = some (.tup ((suc R c).map nv)) := fun H' s => s _ _ (s1 _ _ hb3)
      refine ⟨_, rfl, _, rfl, _, rfl, op, _, _, nv c, rfl, rfl, SqL.of (s6 _ _ ho), atI_nat (by rw [List.getElem?_map, eO]; rfl), p, _, _, _, rfl, rfl, SqT.of (s56 _ _ (s1 _ _ hp)), atI_nat hb2, ?_⟩
      have hstep := Qu.step hq eO
      have hO2 := qm_le tb h0 hstep
      refine ⟨_, rfl, b, rfl, ⟨_, SqT.of (hb5 _ s56)⟩, for_tup (xs := (suc R c).map nv) (fun t σ H6 => ∃ (O' : List Nat) (x10 : Option V), σ = [some (.ref p), some (.ref q0), some (nv s0), some (.ref mp), some (.ref op), some (.ref np), some (.ref fp), some (nv i), some (.ref xp), some (.ref b), x10, x11] ∧ Same H1 H6 ∧ Tx H5 H6 ∧ H6 op = some (.lst (O'.map nv)) ∧ H6 np = some (.dK (nK m O')) ∧ H6 fp = some (.lst ys) ∧ H6 xp = some (.lst (((suc R c).take t).map fun s => nv (ix m O' s))) ∧ O' = grow m O ((suc R c).take t)) ⟨O, _, rfl, s56, Tx.of s6, s6 _ _ ho, s6 _ _ hn, s6 _ _ hf, upd_same, rfl⟩ (fun t σ H6 _ h => ?_) (fun t x σ H6 hx h => ?_) (fun σ H6 h => ?_)⟩
      · obtain ⟨_, _, _, g, _⟩ := h
        exact SqT.of (hb5 _ g)
      · obtain ⟨O', y10, rfl, g1, g2, g3, g4, g5, g6, g7⟩ := h
        rw [List.getElem?_map] at hx
        obtain ⟨d, e5, rfl⟩ := Option.map_eq_some_iff.mp hx
        have hd := tb.sm hcR d (List.mem_of_getElem? e5)
        have tk : (suc R c).take (t + 1) = (suc R c).take t ++ [d] := MW.take_snoc e5
        have hnd' : (O'.map m).Nodup := by rw [g7]; exact MW.grow_nodup m _ hnd
        have hOl' : O'.length ≤ R.length := by
          obtain ⟨N, hN⟩ := MW.grow_pre m ((suc R c).drop t) (grow m O ((suc R c).take t))
          rw [← MW.grow_append, List.take_append_drop, ← g7] at hN
          have := hO2.1
          rw [hN, List.length_append] at this
          omega
        have htl : ((suc R c).take t).length ≤ 10 := by
          rw [List.length_take]
          have := tb.sl hcR
          omega
        have hin_old : ∀ s ∈ (suc R c).take t, m s ∈ O'.map m := fun s hs => by rw [g7]; exact MW.grow_key m _ _ s hs
        have hm6 := g1 _ _ hm
        by_cases hin : m d ∈ O'.map m
        · refine ⟨_, rfl, _, rfl, mp, _, _, nv (m d), rfl, rfl, SqL.of hm6, atI_nat (mk_at m hd), _, rfl, np, _, rfl, DGet.k (k := Sum.inl ((m d : Nat) : Int)) g4, _, rfl, ?_⟩
          have hv : valV (nK m O') (.inl ((m d : Nat) : Int)) = some (nv (ix m O' d)) := ix_val hnd' hin
          rw [hv]
          refine iteF ⟨_, rfl, .inl ⟨rfl, _, SqL.of g6⟩, _, rfl, _, rfl, _, rfl, mp, _, _, nv (m d), rfl, rfl, SqL.of hm6, atI_nat (mk_at m hd), np, nv (ix m O' d), rfl, ?_, xp, _, _, rfl, rfl, g6, by rw [List.length_map]; exact Nat.lt_of_le_of_lt htl (by decide), ?_⟩
          · have := DGet.k (k := Sum.inl ((m d : Nat) : Int)) g4
            rw [hv] at this
            exact this
          refine ⟨O', _, rfl, same_at g1 xp0, g2.trans (Tx.upd g6), by rw [upd_ne xo.symm]; exact g3, by rw [upd_ne xn.symm]; exact g4, by rw [upd_ne xf.symm]; exact g5, by rw [upd_same, tk, List.map_append]; rfl, ?_⟩
          rw [tk, MW.grow_snoc, ← g7]
          unfold add1
          rw [if_pos hin]
        · refine ⟨_, rfl, _, rfl, mp, _, _, nv (m d), rfl, rfl, SqL.of hm6, atI_nat (mk_at m hd), _, rfl, np, _, rfl, DGet.k (k := Sum.inl ((m d : Nat) : Int)) g4, _, rfl, ?_⟩
          rw [nK_no hin]
          refine iteT ⟨_, rfl, op, _, rfl, .inl (SqL.of g3), _, rfl, _, rfl, _, rfl, mp, _, _, nv (m d), rfl, rfl, SqL.of hm6, atI_nat (mk_at m hd), np, _, rfl, DPut.k (k := Sum.inl ((m d : Nat) : Int)) g4 (by rw [nK_len]; exact Nat.lt_of_le_of_lt (Nat.le_trans hOl' hR) (by decide)), ?_⟩
          have eput : putK (nK m O') (.inl ((m d : Nat) : Int)) (.int ((O'.map nv).length : Nat)) = nK m (O' ++ [d]) := by rw [List.length_map]; exact nK_put hin
          rw [eput]
          have ls : ∀ {b : Addr} {xs : List V}, H6 b = some (.lst xs) → upd H6 np (.dK (nK m (O' ++ [d]))) b = some (.lst xs) := fun h => by rw [upd_ne (fun z => by rw [z, g4] at h; cases h)]; exact h
          have tx7 : Tx H6 (upd H6 np (.dK (nK m (O' ++ [d])))) := fun a xs h => by rw [upd_ne (fun z => by rw [z, g4] at h; cases h)]; exact h
          have g1' : Same H1 (upd H6 np (.dK (nK m (O' ++ [d])))) := same_at g1 np1
          have g3' := ls g3
          have g5' := ls g5
          have g6' := ls g6
          have g4' : upd H6 np (.dK (nK m (O' ++ [d]))) np = some (.dK (nK m (O' ++ [d]))) := upd_same
          generalize upd H6 np (.dK (nK m (O' ++ [d]))) = H7 at tx7 g1' g3' g5' g6' g4' ⊢
          refine ⟨_, rfl, .inl ⟨rfl, _, SqL.of g3'⟩, _, rfl, op, _, _, rfl, rfl, g3', by rw [List.length_map]; exact Nat.lt_of_le_of_lt (Nat.le_trans hOl' hR) (by decide), ?_⟩
          have eo : O'.map nv ++ [nv d] = (O' ++ [d]).map nv := by rw [List.map_append]; rfl
          rw [eo]
          have g1'' : Same H1 (upd H7 op (.lst ((O' ++ [d]).map nv))) := same_at g1' op1
          have tx8 : Tx H7 (upd H7 op (.lst ((O' ++ [d]).map nv))) := Tx.upd g3'
          have g3'' : upd H7 op (.lst ((O' ++ [d]).map nv)) op = some (.lst ((O' ++ [d]).map nv)) := upd_same
          have g4'' : upd H7 op (.lst ((O' ++ [d]).map nv)) np = some (.dK (nK m (O' ++ [d]))) := by rw [upd_ne on.symm]; exact g4'
          have g5'' : upd H7 op (.lst ((O' ++ [d]).map nv)) fp = some (.lst ys) := by rw [upd_ne of.symm]; exact g5'
          have g6'' : upd H7 op (.lst ((O' ++ [d]).map nv)) xp = some (.lst (((suc R c).take t).map fun s => nv (ix m O' s))) := by rw [upd_ne xo]; exact g6'
          generalize upd H7 op (.lst ((O' ++ [d]).map nv)) = H8 at g1'' tx8 g3'' g4'' g5'' g6'' ⊢
          have hin2 : m d ∈ (O' ++ [d]).map m := by rw [List.map_append]; simp
          have hnd2 : ((O' ++ [d]).map m).Nodup := by
            have := MW.add1_nodup m (e := d) hnd'
            unfold add1 at this
            rwa [if_neg hin] at this
          have hv : valV (nK m (O' ++ [d])) (.inl ((m d : Nat) : Int)) = some (nv (ix m (O' ++ [d]) d)) := ix_val hnd2 hin2
          refine ⟨_, rfl, .inl ⟨rfl, _, SqL.of g6''⟩, _, rfl, _, rfl, _, rfl, mp, _, _, nv (m d), rfl, rfl, SqL.of (g1'' _ _ hm), atI_nat (mk_at m hd), np, nv (ix m (O' ++ [d]) d), rfl, ?_, xp, _, _, rfl, rfl, g6'', by rw [List.length_map]; exact Nat.lt_of_le_of_lt htl (by decide), ?_⟩
          · have := DGet.k (k := Sum.inl ((m d : Nat) : Int)) g4''
            rw [hv] at this
            exact this
          refine ⟨O' ++ [d], _, rfl, same_at g1'' xp0, ((g2.trans tx7).trans tx8).trans (Tx.upd g6''), by rw [upd_ne xo.symm]; exact g3'', by rw [upd_ne xn.symm]; exact g4'', by rw [upd_ne xf.symm]; exact g5'', ?_, ?_⟩
          · rw [upd_same, tk, List.map_append]
            congr 2
            refine congr (congrArg _ (List.map_congr_left fun s hs => ?_)) rfl
            show nv _ = nv _
            rw [MW.ix_pre (hin_old s hs)]
          · rw [tk, MW.grow_snoc, ← g7]
            unfold add1
            rw [if_neg hin]
      · obtain ⟨O', y10, rfl, g1, g2, g3, g4, g5, g6, g7⟩ := h
        rw [List.length_map, List.take_of_length_le (Nat.le_refl _)] at g6 g7
        rw [← g7] at hstep hO2
        refine ⟨_, rfl, .inl ⟨rfl, _, SqL.of g5⟩, _, rfl, .inl ⟨xp, _, rfl, SqL.of g6, fun tp htp => ?_⟩⟩
        have s7 := same_upd htp (o := .tup ((suc R c).map fun s => nv (ix m O' s)))
        have hil : ys.length = i := hys.1
        refine ⟨fp, _, _, rfl, rfl, s7 _ _ g5, Nat.lt_of_le_of_lt (m := 200) (by omega) (by decide), ?_⟩
        have t8 := (Tx.of s7).trans (Tx.upd (o := .lst (ys ++ [.ref tp])) (s7 _ _ g5))
        have tpf : tp ≠ fp := fun z => by rw [z, g5] at htp; cases htp
        refine ⟨_, rfl, _, _, rfl, rfl, i + 1, by omega, ?_, O', ys ++ [.ref tp], _, _, _, _, rfl, same_at (g1.trans s7) fp1, by rw [upd_ne of]; exact s7 _ _ g3, by rw [upd_ne nf]; exact s7 _ _ g4, upd_same, ⟨by rw [List.length_append, hil]; rfl, fun j y e => ?_⟩, hstep⟩
        · have := hstep.le
          exact Nat.le_trans this hO2.1
        · obtain ⟨N, hN⟩ := MW.grow_pre m (suc R c) O
          rw [← g7] at hN
          by_cases hj : j < ys.length
          · rw [List.getElem?_append_left hj] at e
            obtain ⟨b2, e1, e2⟩ := hys.2 j y e
            refine ⟨b2, e1, ?_⟩
            have hjO : j < O.length := by omega
            have e3 : O'.getD j 0 = O.getD j 0 := by rw [hN, List.getD_eq_getElem?_getD, List.getD_eq_getElem?_getD, List.getElem?_append_left hjO]
            have e4 : (suc R (O.getD j 0)).map (ix m O') = (suc R (O.getD j 0)).map (ix m O) := List.map_congr_left fun s hs => by
              have := hq.closed j (O.getD j 0) (by omega) (by rw [List.getD_eq_getElem?_getD, List.getElem?_eq_getElem hjO]; rfl) s hs
              rw [hN, MW.ix_pre this]
            rw [e3, e4]
            exact (g2.trans t8) _ _ e2
          · rw [List.getElem?_append_right (by omega)] at e
            have hj0 : j - ys.length = 0 := by
              have := (List.getElem?_eq_some_iff.mp e).1
              simp at this
              omega
            rw [hj0] at e
            cases (Option.some.inj e)
            have hji : j = i := by omega
            subst hji
            refine ⟨tp, rfl, ?_⟩
            have e3 : O'.getD j 0 = c := by rw [hN, List.getD_eq_getElem?_getD, List.getElem?_append_left hlt, eO]; rfl
            rw [e3, upd_ne tpf, upd_same, List.map_map]
            rfl
    · have hie : i = O.length := by
        have h1 := hq.le
        have h2 : ¬ ((i : Int) < ((O.map nv).length : Nat)) := fun z => hlt (decide_eq_true z)
        rw [List.length_map] at h2
        omega
      subst hie
      have s05 := s1.trans s5
      have hGg : ∀ {i : Nat}, i < O.length → O[i]? = some (O.getD i 0) := fun {i} hi => by rw [List.getD_eq_getElem?_getD, List.getElem?_eq_getElem hi]; rfl
      refine ⟨_, rfl, .inl ⟨fp, _, rfl, SqL.of hf, fun tt htt => ?_⟩⟩
      have s6 := same_upd htt (o := .tup ys)
      have htt6 : upd H5 tt (.tup ys) tt = some (.tup ys) := upd_same
      have tt0 : H tt = none := s05.free htt
      have ho6 := s6 _ _ ho
      generalize upd H5 tt (.tup ys) = H6 at s6 htt6 ho6 ⊢
      have s06 := s05.trans s6
      refine ⟨_, rfl, op, _, rfl, SqL.of ho6, fun D hD => lc_flt (n := (O.map nv).length) walk_enum (fun i => decide (O.getD i 0 ∈ A0)) (fun i => nv i) hD (by rw [List.length_map]; exact Nat.lt_of_le_of_lt (Nat.le_trans hO.1 hR) (by decide)) (fun H7 s => SqL.of (s _ _ ho6)) (fun i x H7 H8 hi s y Pn kk kn => ?_) (fun H7 s7 hDl => ?_)⟩
      · obtain ⟨T, x1, x2, rfl, hT1, rfl, e1, e2⟩ := y
        rw [List.length_map] at hi
        have e1 : some (V.int (i : Nat)) = some x1 := e1
        have e2 : (O.map nv)[i]? = some x2 := e2
        rw [List.getElem?_map, hGg hi] at e2
        cases e1
        cases e2
        have sT := same_upd hT1 (o := .tup [.int (i : Nat), nv (O.getD i 0)])
        refine ⟨T, _, rfl, SqT.of upd_same, rfl, _, _, rfl, _, _, rfl, rfl, rfl, _, rfl, _, rfl, q0, _, rfl, .inr (SqT.of (sT _ _ (s _ _ (s06 _ _ hA)))), rfl, flat_nv _, _, rfl, ?_⟩
        show if inV (nv _) (A0.map nv) = true then _ else _
        rw [inV_nv]
        refine ite2 (fun h => ?_) (fun h => ?_)
        · exact ⟨_, rfl, kk _ sT h⟩
        · exact kn _ sT (by simpa using h)
      · rw [List.length_map] at hDl
        refine .inl ⟨D, _, rfl, SqL.of hDl, fun ta hta => ⟨by show 2 ≤ sizeLine; decide, fun tr htr => ?_⟩⟩
        have s8 := same_to (same_upd hta (o := .tup ((tabA (fun s => decide (s ∈ A0)) O).map nv))) htr (o := .tup [.ref tt, .ref ta])
        have s08 := (s06.trans s7).trans s8
        refine q _ tr tt ta _ _ s08 ((s06.trans s7).free ((same_upd hta (o := .tup ((tabA (fun s => decide (s ∈ A0)) O).map nv))).free htr)) upd_same ?_ ?_ (MW.Least.of_law tb h0 fine hq)
        · refine Tb.same (s7.trans s8) ?_
          have hall : ∀ y ∈ ys, ∃ b, y = .ref b := fun y hy => by
            obtain ⟨i, e⟩ := List.getElem?_of_mem hy
            obtain ⟨b, h1, _⟩ := hys.2 i y e
            exact ⟨b, h1⟩
          refine ⟨ys.map fun y => match y with | .ref b => b | _ => 0, ?_, ?_, fun i b rr e1 e2 => ?_⟩
          · rw [htt6, List.map_map]
            congr 2
            refine (List.map_id' ys).symm.trans (List.map_congr_left fun y hy => ?_)
            obtain ⟨b, rfl⟩ := hall y hy
            rfl
          · rw [List.length_map, hys.1]
            unfold tabR
            rw [List.length_map]
          · rw [List.getElem?_map] at e1
            obtain ⟨y, e3, e4⟩ := Option.map_eq_some_iff.mp e1
            obtain ⟨b2, rfl, h2⟩ := hys.2 i y e3
            have e4 : b2 = b := e4
            subst e4
            rw [s6 _ _ h2]
            unfold tabR at e2
            rw [List.getElem?_map, hGg (by rw [← hys.1]; exact (List.getElem?_eq_some_iff.mp e3).1)] at e2
            rw [← Option.some.inj e2]
        · rw [upd_ne (fun z => by rw [← z, upd_same] at htr; cases htr), upd_same]
          rfl
end
end Ww
end S_Wl5

section S_Wl6
set_option Elab.async false
set_option linter.all false
set_option maxRecDepth 100000
set_option maxHeartbeats 2000000
/-! The law's walks 6: the law's least parting text. -/
namespace Ww
open PySem PySem.Spec PyProof.Rows L2 WwR SlX
open C8 (Cal pe_c)
open MW (Rows suc nx Tab Qu add1 grow QP sucP differs LPart)
def LwE (H : Hp) (v : V) (x : PT3) : Prop := ∃ e, v = .ref e ∧ H e = some (.tup [nv x.1.1, nv x.1.2, tx x.2])
def Lw (H : Hp) (ys : List V) (L : List PT3) : Prop := Paired (LwE H) ys L
theorem Lw.tx {H H' : Hp} {ys : List V} {L : List PT3} (t : Tx H H') (h : Lw H ys L) : Lw H' ys L := L2.Paired.mapP h fun _ _ ⟨e, h1, h2⟩ => ⟨e, h1, t _ _ h2⟩
theorem pr_at {α β : Type} {F : α → β → Prop} {l : List α} {m : List β} (h : Paired F l m) {i : Nat} (hi : i < m.length) : ∃ a b, l[i]? = some a ∧ m[i]? = some b ∧ F a b := by
  have e : l[i]? = some (l[i]'(by rw [pr_len h]; exact hi)) := List.getElem?_eq_getElem _
  obtain ⟨b, h1, h2⟩ := pr_get h e
  exact ⟨_, b, e, h1, h2⟩
section
variable {P : Program} {w : World} {K : PySem.W.Frag} {mg : Str → Option Value} {base : Heap}

def spLawParting : Sp := fun vs H Q _ => ∃ (ra aa : Addr) (T : Rows) (A l : List Nat) (a b : Nat), vs = [tx l, .ref ra, .ref aa, nv a, nv b] ∧ Tb H ra T ∧ H aa = some (.tup (A.map nv)) ∧
  Tab l.length T ∧ a < T.length ∧ b < T.length ∧ T.length ≤ 200 ∧ l.length ≤ 10 ∧ ∀ H' r, Same H H' → LPart T l A (a, b) r → Q (optx r) H'
theorem scLawLeastParting : FnScope ["_law_letters_here", "_law_rows", "_law_accepts", "_law_one", "_law_other", "_law_waiting", "_law_known", "_law_at", "_law_first", "_law_second", "_law_text_here", "_law_spot", "_law_letter", "_law_pair"] ["_law_letters_here", "_law_rows", "_law_accepts", "_law_one", "_law_other"] (defScope sLawLeastParting) := ⟨rfl, rfl, rfl, by decide +kernel, rfl, by decide +kernel, by decide +kernel⟩
theorem c_law_least_parting (B : En P w K mg base) : Cal P w K mg base 1 "_law_least_parting" (spLawParting) [] := by
  refine cal_mk B.f_law_least_parting scLawLeastParting (fun _ _ _ _ _ _ us hl => match us, hl with | [_, _, _, _, _], _ => rfl) (fun vs H Q E h => ?_) fun f cdv A outer s H vs Q E hr h => ?_
  · obtain ⟨ra, aa, T, A, l, a, b, rfl, _⟩ := h
    rfl
  · obtain ⟨ra, aa, T, A, l, a, b, rfl, hT, haa, tb, ha, hb, hTl, hl, q⟩ := h
    have hu := hu_of hr
    have hu64 := hr.units
    refine ⟨_, (pss_cons (ps_set (i := 5) scLawLeastParting.nd rfl (Or.inl rfl) (pe_lst (pa_cons (pe_tup (pa_cons (pv 3) (pa_cons (pv 4) (pa_cons pe_str pa_nil)))) pa_nil)))
    (pss_cons (ps_set (i := 6) scLawLeastParting.nd rfl (Or.inl rfl) (pe_disp1T hu64 (pe_tup (pa_cons (pv 3) (pa_cons (pv 4) pa_nil))) pe_bl))
    (pss_cons (ps_set (i := 7) scLawLeastParting.nd rfl (Or.inl rfl) pe_int)
    (pss_cons (ps_while PassesOwn.never (pt_cmpR op_lt (pv 7) (pe_callB (call_len_seqK K rfl) (by rfl) B.len_ boot_len (pa_cons (pv 5) pa_nil)) (nomark _)) (pss_cons (ps_asg (pe_ix (ix_listK K rfl) (pv 5) (pv 7) (fun _ _ => rfl)) (pg_tup rfl (pgs_cons (pg_name (i := 8) scLawLeastParting.nd rfl (Or.inl rfl)) (pgs_cons (pg_name (i := 9) scLawLeastParting.nd rfl (Or.inl rfl)) (pgs_cons (pg_name (i := 10) scLawLeastParting.nd rfl (Or.inl rfl)) pgs_nil)))))
    (pss_cons (ps_if (pt_cmpR op_ne (pe_cmpR (op_in_seqK K rfl) (pv 8) (pv 2) rfl) (pe_cmpR (op_in_seqK K rfl) (pv 9) (pv 2) rfl) (nomark _)) (pss_one (ps_ret (pv 10))) pss_nil)
    (pss_cons (ps_for PassesOwn.never rfl (pi_enumS (by rfl) B.enumerate_ (pa_cons (pv 0) pa_nil)) (pg_tup rfl (pgs_cons (pg_name (i := 11) scLawLeastParting.nd rfl (Or.inl rfl)) (pgs_cons (pg_name (i := 12) scLawLeastParting.nd rfl (Or.inl rfl)) pgs_nil))) (pss_cons (ps_set (i := 13) scLawLeastParting.nd rfl (Or.inl rfl) (pe_tup (pa_cons (pe_ix (ix_tupK K rfl) (pe_ix (ix_tupK K rfl) (pv 1) (pv 8) (fun _ _ => rfl)) (pv 11) (fun _ _ => rfl)) (pa_cons (pe_ix (ix_tupK K rfl) (pe_ix (ix_tupK K rfl) (pv 1) (pv 9) (fun _ _ => rfl)) (pv 11) (fun _ _ => rfl)) pa_nil))))
    (pss_one (ps_if (pt_cmp (pc_dnotin hu (pv 13) (pv 6))) (pss_cons (ps_dput hu (pv 6) (pv 13) pe_bl rfl)
    (pss_one (ps_expr (pe_bm PySem.F.plainAttrs_list PySem.F.slot_list_append PySem.F.type_list_append mt_append (pv 5) (pa_cons (pe_tup (pa_cons (pe_ix (ix_tupK K rfl) (pv 13) pe_int (fun _ _ => rfl)) (pa_cons (pe_ix (ix_tupK K rfl) (pv 13) pe_int (fun _ _ => rfl)) (pa_cons (pe_op op_add_str (pv 10) (pv 12)) pa_nil)))) pa_nil))))) pss_nil))))
    (pss_one (ps_set (i := 7) scLawLeastParting.nd rfl (Or.inl rfl) (pe_op op_add (pv 7) pe_int)))))))
    (pss_one (ps_ret pe_non)))))), ?_⟩
    obtain ⟨bs, hra, hbl, hrow⟩ := suc_row hT
    have hTT : T.length * T.length ≤ 40000 := Nat.mul_le_mul hTl hTl
    have hg : ((a, b) : Nat × Nat).1 < T.length ∧ ((a, b) : Nat × Nat).2 < T.length := ⟨ha, hb⟩
    refine ⟨_, rfl, _, rfl, by show 3 ≤ sizeLine; decide, fun e1 he1 => ⟨by show 1 ≤ sizeLine; decide, fun wp hwp => ?_⟩⟩
    have s1 := same_upd he1 (o := .tup [nv a, nv b, .str (Str.ofString "")])
    have he2 : upd H e1 (.tup [nv a, nv b, .str (Str.ofString "")]) e1 = some (.tup [nv a, nv b, .str (Str.ofString "")]) := upd_same
    have s2 := same_upd hwp (o := .lst [.ref e1])
    have hw2 : upd (upd H e1 (.tup [nv a, nv b, .str (Str.ofString "")])) wp (.lst [.ref e1]) wp = some (.lst [.ref e1]) := upd_same
    have wp0 : H wp = none := s1.free hwp
    have he3 := s2 _ _ he2
    have s12 := s1.trans s2
    generalize upd (upd H e1 (.tup [nv a, nv b, .str (Str.ofString "")])) wp (.lst [.ref e1]) = H2 at s12 hw2 he3 ⊢
    refine fun kd hkd => ⟨_, rfl, _, rfl, by show 2 ≤ sizeLine; decide, fun gp hgp => ?_⟩
    have kg : kd ≠ gp := fun z => by rw [← z, upd_same] at hgp; cases hgp
    have kd0 : H kd = none := s12.free hkd
    refine ⟨by rw [upd_ne kg]; exact upd_same, gp, kp (a, b), rfl, upd_same, ?_⟩
    have s3 : Same H2 (upd (upd (upd H2 kd (.dT [])) gp (.tup [nv a, nv b])) kd (.dT [(kp (a, b), .bl true)])) := same_at (same_to (same_upd hkd) hgp) hkd
    have hkd3 : upd (upd (upd H2 kd (.dT [])) gp (.tup [nv a, nv b])) kd (.dT [(kp (a, b), .bl true)]) kd = some (.dT (kP [((a, b), [])])) := upd_same
    have k2 : H2 kd = none := hkd
    have wk : wp ≠ kd := fun z => by rw [z, k2] at hw2; cases hw2
    have hw3 := s3 _ _ hw2
    have he4 := s3 _ _ he3
    generalize upd (upd (upd H2 kd (.dT [])) gp (.tup [nv a, nv b])) kd (.dT [(kp (a, b), .bl true)]) = H3 at s3 hkd3 hw3 he4 ⊢
    have s03 := s12.trans s3
    refine while_n (T.length * T.length) (fun i σ H8 => ∃ (L : List PT3) (ys : List V) (x8 x9 x10 x11 x12 x13 : Option V), σ = [some (tx l), some (.ref ra), some (.ref aa), some (nv a), some (nv b), some (.ref wp), some (.ref kd), some (nv i), x8, x9, x10, x11, x12, x13] ∧ Same H H8 ∧
      H8 kd = some (.dT (kP L)) ∧ H8 wp = some (.lst ys) ∧ Lw H8 ys L ∧ i ≤ L.length ∧ QP T l (a, b) i L ∧ ∀ j, j < i → ∀ y, L[j]? = some y → differs A y.1 = false) (Nat.zero_le _) ⟨[((a, b), [])], [.ref e1], _, _, _, _, _, _, rfl, s03, hkd3, hw3, .cons ⟨e1, rfl, he4⟩ .nil, Nat.zero_le _, Qu.start, fun j hj => absurd hj (Nat.not_lt_zero _)⟩ (fun i σ H8 hiN h => ?_) (mono_lt mono_len)
    obtain ⟨L, ys, x8, x9, x10, x11, x12, x13, rfl, s8, hkd8, hwp8, hly, hi, hq, hdf⟩ := h
    have hLl := MW.QP.len tb hg hq
    have hyl := pr_len hly
    refine ⟨_, rfl, _, rfl, wp, _, rfl, .inl (SqL.of hwp8), _, _, rfl, rfl, _, rfl, ite2 (fun hlt => ?_) (fun hlt => ?_)⟩
    · have hlt : i < L.length := by
        have := of_decide_eq_true hlt
        omega
      obtain ⟨v, ⟨⟨f1, f2⟩, tt⟩, ev, e4, e, rfl, h2⟩ := pr_at hly hlt
      have hf := MW.QP.lt tb hg hq _ (List.mem_of_getElem? e4)
      have hf1 : f1 < T.length := hf.1
      have hf2 : f2 < T.length := hf.2
      have htt := MW.QP.texts hq _ _ e4
      refine ⟨_, rfl, _, rfl, wp, _, _, _, rfl, rfl, SqL.of hwp8, atI_nat ev, e, _, rfl, SqT.of h2, rfl, _, _, rfl, _, _, rfl, _, _, rfl, rfl, ?_⟩
      refine ⟨_, rfl, _, rfl, aa, _, rfl, .inr (SqT.of (s8 _ _ haa)), rfl, flat_nv _, _, rfl, _, rfl, aa, _, rfl, .inr (SqT.of (s8 _ _ haa)), rfl, flat_nv _, rfl, _, rfl, ?_⟩
      show if (!decide (V.bl (inV (nv f1) (A.map nv)) = V.bl (inV (nv f2) (A.map nv)))) = true then _ else _
      rw [inV_nv, inV_nv, dec_bl2]
      refine ite2 (fun hd => ?_) (fun hd => ?_)
      · have hd2 : differs A (f1, f2) = true := by
          unfold differs
          simpa using hd
        exact ⟨_, rfl, q _ (some tt) s8 (.inl ⟨_, _, _, hq, e4, hd2, hdf, rfl⟩)⟩
      have hd2 : differs A (f1, f2) = false := by
        unfold differs
        simpa using hd
      have e5 : Array.size (Str.cps ⟨l.toArray⟩) = l.length := by simp
      refine ⟨_, rfl, _, rfl, for_it (n := Array.size (Str.cps ⟨l.toArray⟩)) walk_N (fun t σ H10 => ∃ (N : List PT3) (zs : List V) (x11 x12 x13 : Option V), σ = [some (tx l), some (.ref ra), some (.ref aa), some (nv a), some (nv b), some (.ref wp), some (.ref kd), some (nv i), some (nv f1), some (nv f2), some (tx tt), x11, x12, x13] ∧ Same H H10 ∧
        H10 kd = some (.dT (kP N)) ∧ H10 wp = some (.lst zs) ∧ Lw H10 zs N ∧ N = grow Prod.fst L ((sucP T l ((f1, f2), tt)).take t)) ⟨L, ys, _, _, _, rfl, s8, hkd8, hwp8, hly, rfl⟩ (fun _ _ _ _ _ => trivial) (fun t x σ H10 H11 ht h y => ?_) (fun σ H10 h => ?_)⟩
      · obtain ⟨N, ws, z11, z12, z13, rfl, k1, k4', k5, k6, k7⟩ := h
        obtain ⟨T1, xs, rfl, hT1, rfl, c, ec, rfl⟩ := y
        have ht : t < l.length := by simpa using ht
        have ec : l[t]? = some c := by simpa using ec
        have s11 := same_upd hT1 (o := .tup [.int (t : Nat), .str ⟨#[c]⟩])
        obtain ⟨b1, hb1, hb2, hb3⟩ := hrow f1 hf1
        obtain ⟨b2, hc1, hc2, hc3⟩ := hrow f2 hf2
        have kk1 := k1.trans s11
        refine ⟨T1, _, rfl, SqT.of upd_same, rfl, _, _, rfl, _, _, rfl, rfl, ?_⟩
        refine ⟨_, rfl, _, rfl, ra, _, _, _, rfl, rfl, SqT.of (kk1 _ _ hra), atI_nat hb2, _, rfl, b1, _, _, _, rfl, rfl, SqT.of (kk1 _ _ hb3), atI_nat (row_at tb hf1 ht), _, rfl, _, rfl, ra, _, _, _, rfl, rfl, SqT.of (kk1 _ _ hra), atI_nat hc2, _, rfl, b2, _, _, _, rfl, rfl, SqT.of (kk1 _ _ hc3), atI_nat (row_at tb hf2 ht), by show 2 ≤ sizeLine; decide, fun np hnp => ?_⟩
        have s12 := same_to s11 hnp (o := .tup [nv (nx T f1 t), nv (nx T f2 t)])
        have hnp1 : upd (upd H10 T1 (.tup [.int (t : Nat), .str ⟨#[c]⟩])) np (.tup [nv (nx T f1 t), nv (nx T f2 t)]) np = some (.tup [nv (nx T f1 t), nv (nx T f2 t)]) := upd_same
        generalize upd (upd H10 T1 (.tup [.int (t : Nat), .str ⟨#[c]⟩])) np (.tup [nv (nx T f1 t), nv (nx T f2 t)]) = H12 at s12 hnp1 ⊢
        have hkd12 := s12 _ _ k4'
        have tk := sucP_take (T := T) (x := ((f1, f2), tt)) ht
        have hlen := grow_take tb hg hq e4 t
        rw [← k7] at hlen
        have ecd : l.getD t 0 = c := getD_of ec
        by_cases hin : ((nx T f1 t, nx T f2 t) : Nat × Nat) ∈ N.map Prod.fst
        · refine ⟨_, rfl, _, rfl, kd, _, rfl, DGet.t (k := kp (nx T f1 t, nx T f2 t)) hkd12 hnp1, _, rfl, ?_⟩
          rw [kP_in hin]
          refine iteF ⟨N, ws, _, _, _, rfl, k1.trans s12, hkd12, s12 _ _ k5, k6.tx (.of s12), ?_⟩
          rw [tk, MW.grow_snoc, ← k7, add_in hin]
        · refine ⟨_, rfl, _, rfl, kd, _, rfl, DGet.t (k := kp (nx T f1 t, nx T f2 t)) hkd12 hnp1, _, rfl, ?_⟩
          rw [kP_no hin]
          refine iteT ⟨_, rfl, _, rfl, kd, _, rfl, DPut.t (k := kp (nx T f1 t, nx T f2 t)) hkd12 hnp1 (by rw [kP_len]; exact Nat.lt_of_le_of_lt (Nat.le_trans hlen hTT) (by decide)), ?_⟩
          have kput := kP_put (L := N) (x := ((nx T f1 t, nx T f2 t), tt ++ [c])) hin
          have hq13 : upd H12 kd (.dT (putK (kP N) (kp (nx T f1 t, nx T f2 t)) (.bl true))) wp = some (.lst ws) := by rw [upd_ne wk]; exact s12 _ _ k5
          have tx13 : Tx H12 (upd H12 kd (.dT (putK (kP N) (kp (nx T f1 t, nx T f2 t)) (.bl true)))) := fun a xs h => by rw [upd_ne (fun z => by rw [z, hkd12] at h; cases h)]; exact h
          have s13 : Same H (upd H12 kd (.dT (putK (kP N) (kp (nx T f1 t, nx T f2 t)) (.bl true)))) := same_at (k1.trans s12) kd0
          have hkd13 : upd H12 kd (.dT (putK (kP N) (kp (nx T f1 t, nx T f2 t)) (.bl true))) kd = some (.dT (kP (N ++ [((nx T f1 t, nx T f2 t), tt ++ [c])]))) := by
            rw [upd_same]
            exact congrArg some (congrArg HO.dT kput)
          have hnp13 := tx13 _ _ hnp1
          generalize upd H12 kd (.dT (putK (kP N) (kp (nx T f1 t, nx T f2 t)) (.bl true))) = H13 at hq13 tx13 s13 hkd13 hnp13 ⊢
          refine ⟨_, rfl, .inl ⟨rfl, _, SqL.of hq13⟩, _, rfl, np, _, 0, _, rfl, rfl, SqT.of hnp13, rfl, _, rfl, np, _, 1, _, rfl, rfl, SqT.of hnp13, rfl, _, rfl, _, rfl, _, _, rfl, rfl, ?_, by show 3 ≤ sizeLine; decide, fun ep hep => ⟨wp, ws, _, rfl, rfl, ?_, ?_, ?_⟩⟩
          · have h1 : tt.length ≤ i := htt.1
            show tt.toArray.size + 1 ≤ sizeLine
            rw [List.size_toArray]
            exact Nat.le_trans (m := 40001) (by omega) (by decide)
          · exact (same_upd hep) _ _ hq13
          · have h1 := pr_len k6
            exact Nat.lt_of_le_of_lt (m := 40000) (by omega) (by decide)
          have s14 := same_upd hep (o := .tup [nv (nx T f1 t), nv (nx T f2 t), .str (⟨tt.toArray⟩ ++ ⟨#[c]⟩)])
          have tq : Tx (upd H13 ep (.tup [nv (nx T f1 t), nv (nx T f2 t), .str (⟨tt.toArray⟩ ++ ⟨#[c]⟩)])) (upd (upd H13 ep (.tup [nv (nx T f1 t), nv (nx T f2 t), .str (⟨tt.toArray⟩ ++ ⟨#[c]⟩)])) wp (.lst (ws ++ [.ref ep]))) := Tx.upd (s14 _ _ hq13)
          have tall := ((Tx.of s12).trans tx13).trans ((Tx.of s14).trans tq)
          refine ⟨N ++ [((nx T f1 t, nx T f2 t), tt ++ [c])], ws ++ [.ref ep], _, _, _, rfl, same_at (s13.trans s14) wp0, ?_, upd_same, ?_, ?_⟩
          · rw [upd_ne wk.symm]; exact s14 _ _ hkd13
          · refine pr_app (k6.tx tall) (.cons ⟨ep, rfl, tq _ _ ?_⟩ .nil)
            rw [upd_same]
            show some (HO.tup [nv (nx T f1 t), nv (nx T f2 t), .str (⟨tt.toArray⟩ ++ ⟨[c].toArray⟩)]) = _
            rw [tx_app]
          · rw [tk, MW.grow_snoc, ← k7, ecd, add_out hin]
      · obtain ⟨N, ws, z11, z12, z13, rfl, k1, k4', k5, k6, k7⟩ := h
        rw [e5, sucP_all] at k7
        have hqn := Qu.step hq e4
        rw [← k7] at hqn
        have hqnl := MW.QP.len tb hg hqn
        have hle := hqn.le
        refine ⟨_, rfl, _, _, rfl, rfl, i + 1, by omega, by omega, N, ws, _, _, _, _, _, _, rfl, k1, k4', k5, k6, hle, hqn, fun u hu y hy => ?_⟩
        obtain ⟨W, hW⟩ := MW.grow_pre Prod.fst (sucP T l ((f1, f2), tt)) L
        rw [← k7] at hW
        rw [hW, List.getElem?_append_left (by omega)] at hy
        by_cases hul : u < i
        · exact hdf u hul y hy
        · have : u = i := by omega
          subst this
          rw [e4] at hy
          cases hy
          exact hd2
    · have hie : i = L.length := by
        have h2 : ¬ ((i : Int) < ((ys.length : Nat) : Int)) := fun z => hlt (decide_eq_true z)
        omega
      subst hie
      refine q _ none s8 (.inr ⟨rfl, L, hq, fun y hy => ?_⟩)
      obtain ⟨j, hj⟩ := List.getElem?_of_mem hy
      exact hdf j (List.getElem?_eq_some_iff.mp hj).1 y hj
end
end Ww
end S_Wl6

section S_Wl7
set_option Elab.async false
set_option linter.all false
set_option maxRecDepth 100000
set_option maxHeartbeats 2000000
/-! The law's walks 7: the law's first open place. -/
namespace Ww
open PySem PySem.Spec PyProof.Rows L2 WwR SlX
open C8 (Cal pe_c)
open MW (Rows suc nx Tab Qu add1 grow QT sucT LT Due TextOf FirstBad badAt parts goals)
/-- texts by states -/
def tK (L : List PT2) : List (Key × V) := L.map fun x : PT2 => (.inl (x.1 : Int), tx x.2)
theorem tK_in {L : List PT2} (hn : (L.map Prod.fst).Nodup) {x : PT2} (h : x ∈ L) : valV (tK L) (.inl (x.1 : Int)) = some (tx x.2) :=
  valV_map (key := fun x : PT2 => (.inl (x.1 : Int) : Key)) (f := fun x => tx x.2) (fun y hy e => by rw [MW.inj_of_nodup_map hn y hy x h (key_inj.mp e)]) h
theorem tK_no {L : List PT2} {g : Nat} (h : g ∉ L.map Prod.fst) : valV (tK L) (.inl (g : Int)) = none :=
  valV_no (key := fun x : PT2 => (.inl (x.1 : Int) : Key)) (f := fun x => tx x.2) fun y hy z => h (List.mem_map.mpr ⟨y, hy, key_inj.mp z⟩)
theorem tK_put {L : List PT2} {x : PT2} (h : x.1 ∉ L.map Prod.fst) : putK (tK L) (.inl (x.1 : Int)) (tx x.2) = tK (L ++ [x]) := by
  rw [putK_new]
  · unfold tK; rw [List.map_append]; rfl
  · intro p hp
    obtain ⟨y, hy, rfl⟩ := List.mem_map.mp hp
    exact fun z => h (List.mem_map.mpr ⟨y, hy, key_inj.mp z⟩)
theorem tK_len {L : List PT2} : (tK L).length = L.length := by unfold tK; rw [List.length_map]
theorem tK_some {L : List PT2} (hn : (L.map Prod.fst).Nodup) {g : Nat} (h : g ∈ L.map Prod.fst) : ∃ v, valV (tK L) (.inl (g : Int)) = some v := by
  obtain ⟨x, hx, rfl⟩ := List.mem_map.mp h
  exact ⟨_, tK_in hn hx⟩
theorem idx_get {l : List Nat} (hn : l.Nodup) {i : Nat} (h : i < l.length) : l.idxOf (l.getD i 0) = i := by
  have e : l.getD i 0 = l[i] := by rw [List.getD_eq_getElem?_getD, List.getElem?_eq_getElem h]; rfl
  have h1 := idx_at (l := l) (c := l.getD i 0) (MW.getD_mem h)
  obtain ⟨h2, h3⟩ := List.getElem?_eq_some_iff.mp h1.2
  exact nd_inj hn h2 h (by rw [h3, e])
theorem rd_pair {l : List Nat} {R : Rows} (hn : l.Nodup) {s a b : Nat} (ha : a < l.length) (hb : b < l.length) : rd l R s [l.getD a 0, l.getD b 0] = nx R (nx R s a) b := by
  show nx R (nx R s (l.idxOf (l.getD a 0))) (l.idxOf (l.getD b 0)) = _
  rw [idx_get hn ha, idx_get hn hb]
section
variable {P : Program} {w : World} {K : PySem.W.Frag} {mg : Str → Option Value} {base : Heap}

def spLoosePairs : Sp := fun vs H Q _ => ∃ (p : Addr) (l : List Nat) (cs : List (List Nat)), vs = [tx l, .ref p] ∧ H p = some (.tup (cs.map tx)) ∧ l.length ≤ 10 ∧
  ∀ H' q, Same H H' → H q = none → H' q = some (.lst (((lps l cs).map (pt l)).map tx)) → Q (.ref q) H'
theorem scLawLoosePairs : FnScope ["_law_letters_here", "_law_conflicts_here", "_law_pair"] ["_law_letters_here", "_law_conflicts_here"] (defScope sLawLoosePairs) := ⟨rfl, rfl, rfl, by decide +kernel, rfl, by decide +kernel, by decide +kernel⟩
theorem c_law_loose_pairs (B : En P w K mg base) : Cal P w K mg base 2 "_law_loose_pairs" (spLoosePairs) [] := by
  refine cal_mk B.f_law_loose_pairs scLawLoosePairs (fun _ _ _ _ _ _ us hl => match us, hl with | [_, _], _ => rfl) (fun vs H Q E h => ?_) fun f cdv A outer s H vs Q E hr h => ?_
  · obtain ⟨p, l, cs, rfl, _⟩ := h
    rfl
  · obtain ⟨p, l, cs, rfl, hp, hl, q⟩ := h
    have hu := hu_of hr
    have hu64 := hr.units
    refine ⟨_, (pss_one (ps_ret (pe_lc (own := [("_law_pair", 2)]) (g := gName 2) rfl scLawLoosePairs.nd (pi_listK K rfl (pe_c (c_law_pairs B) hr (by decide) (by rfl) (pa_cons (pv 0) pa_nil))) (blkOk_by (own := [("_law_pair", 2)]) (N := ["_law_letters_here", "_law_conflicts_here", "_law_pair"]) (sc := defScope sLawLoosePairs) (by decide +kernel)) (fun _ _ _ _ _ => (pg_name (i := 2) scLawLoosePairs.nd rfl (Or.inl rfl))) (fun _ _ _ _ _ => pts_one (pt_cmpR (op_notIn_seqK K rfl) (pv 2) (pv 1) rfl)) (fun _ _ _ _ _ => (pv 2))))), ?_⟩
    refine ⟨_, rfl, l, rfl, hl, fun H1 a s1 ha hpl => ?_⟩
    refine ⟨a, rfl, ⟨_, SqL.of hpl⟩, fun D hD => lc_flt (n := ((prs l).map tx).length) walk_list (fun i => decide ((prs l).getD i [] ∉ cs)) (fun i => tx ((prs l).getD i [])) hD ?_ (fun H2 s2 => SqL.of (s2 _ _ hpl)) (fun i x H2 H3 hi s y Pn k kn => ?_) (fun H2 s hDl => ?_)⟩
    · rw [List.length_map]
      unfold prs
      rw [List.length_map]
      exact Nat.lt_of_le_of_lt (ixp_len _) (Nat.lt_of_le_of_lt (Nat.mul_le_mul hl hl) (by decide))
    · obtain ⟨rfl, e1⟩ := y
      rw [List.getElem?_map] at e1
      obtain ⟨c, e3, rfl⟩ := Option.map_eq_some_iff.mp e1
      have e4 : (prs l).getD i [] = c := by rw [List.getD_eq_getElem?_getD, e3]; rfl
      rw [e4] at k kn
      refine ⟨rfl, _, rfl, _, rfl, p, _, rfl, .inr (SqT.of (s _ _ (s1 _ _ hp))), rfl, flat_tx _, _, rfl, ?_⟩
      show if (!inV (tx c) (cs.map tx)) = true then _ else _
      rw [inV_tx]
      refine ite2 (fun h => ?_) (fun h => ?_)
      · exact ⟨_, rfl, k H3 (Same.refl _) (by simpa using h)⟩
      · exact kn H3 (Same.refl _) (by simpa using h)
    · rw [List.length_map, filt_map (γ := Nat) (prs l) [] (fun c => decide (c ∉ cs)) tx, lps_txt] at hDl
      exact q _ D (s1.trans s) (s1.free hD) hDl
def spStateTexts : Sp := fun vs H Q _ => ∃ (ra : Addr) (T : Rows) (A l : List Nat), vs = [tx l, .ref ra] ∧ Tb H ra T ∧ LT l.length T A ∧ T.length ≤ 200 ∧ l.length ≤ 10 ∧
  ∀ H' q (ts : List (List Nat)), Same H H' → H q = none → H' q = some (.lst (ts.map tx)) → ts.length = T.length → (∀ (s : Nat) (t : List Nat), ts[s]? = some t → TextOf T l s t) → Q (.ref q) H'
theorem scLawStateTexts : FnScope ["_law_letters_here", "_law_rows", "_law_found", "_law_waiting", "_law_at", "_law_state", "_law_spot", "_law_letter", "_law_other"] ["_law_letters_here", "_law_rows"] (defScope sLawStateTexts) := ⟨rfl, rfl, rfl, by decide +kernel, rfl, by decide +kernel, by decide +kernel⟩
theorem c_law_state_texts (B : En P w K mg base) : Cal P w K mg base 1 "_law_state_texts" (spStateTexts) [] := by
  refine cal_mk B.f_law_state_texts scLawStateTexts (fun _ _ _ _ _ _ us hl => match us, hl with | [_, _], _ => rfl) (fun vs H Q E h => ?_) fun f cdv A outer s H vs Q E hr h => ?_
  · obtain ⟨ra, T, A, l, rfl, _⟩ := h
    rfl
  · obtain ⟨ra, T, A, l, rfl, hT, lt, hTl, hl, q⟩ := h
    have hu := hu_of hr
    have hu64 := hr.units
    refine ⟨_, (pss_cons (ps_set (i := 2) scLawStateTexts.nd rfl (Or.inr rfl) (pe_disp (pps_cons pe_int pe_str pps_nil) (by rfl) (by rfl) (fun z => by cases z) (by decide)))
    (pss_cons (ps_set (i := 3) scLawStateTexts.nd rfl (Or.inl rfl) (pe_lst (pa_cons pe_int pa_nil)))
    (pss_cons (ps_set (i := 4) scLawStateTexts.nd rfl (Or.inl rfl) pe_int)
    (pss_cons (ps_while PassesOwn.never (pt_cmpR op_lt (pv 4) (pe_callB (call_len_seqK K rfl) (by rfl) B.len_ boot_len (pa_cons (pv 3) pa_nil)) (nomark _)) (pss_cons (ps_set (i := 5) scLawStateTexts.nd rfl (Or.inl rfl) (pe_ix (ix_listK K rfl) (pv 3) (pv 4) (fun _ _ => rfl)))
    (pss_cons (ps_for PassesOwn.never rfl (pi_enumS (by rfl) B.enumerate_ (pa_cons (pv 0) pa_nil)) (pg_tup rfl (pgs_cons (pg_name (i := 6) scLawStateTexts.nd rfl (Or.inl rfl)) (pgs_cons (pg_name (i := 7) scLawStateTexts.nd rfl (Or.inl rfl)) pgs_nil))) (pss_cons (ps_set (i := 8) scLawStateTexts.nd rfl (Or.inl rfl) (pe_ix (ix_tupK K rfl) (pe_ix (ix_tupK K rfl) (pv 1) (pv 5) (fun _ _ => rfl)) (pv 6) (fun _ _ => rfl)))
    (pss_one (ps_if (pt_cmp (pc_dnotin hu (pv 8) (pv 2))) (pss_cons (ps_dput hu (pv 2) (pv 8) (pe_op op_add_str (pe_dget hu (pv 2) (pv 5) (fun _ _ => rfl)) (pv 7)) rfl)
    (pss_one (ps_expr (pe_bm PySem.F.plainAttrs_list PySem.F.slot_list_append PySem.F.type_list_append mt_append (pv 3) (pa_cons (pv 8) pa_nil))))) pss_nil))))
    (pss_one (ps_set (i := 4) scLawStateTexts.nd rfl (Or.inl rfl) (pe_op op_add (pv 4) pe_int))))))
    (pss_one (ps_ret (pe_lc (own := [("_law_state", 5)]) (g := gName 5) (tt := tYes) rfl scLawStateTexts.nd (pi_range1 rfl B.range_ (pa_cons (pe_callB (call_len_seqK K rfl) (by rfl) B.len_ boot_len (pa_cons (pv 1) pa_nil)) pa_nil)) (blkOk_by (own := [("_law_state", 5)]) (N := ["_law_letters_here", "_law_rows", "_law_found", "_law_waiting", "_law_at", "_law_state", "_law_spot", "_law_letter", "_law_other"]) (sc := defScope sLawStateTexts) (by decide +kernel)) (fun _ _ _ _ _ => (pg_name (i := 5) scLawStateTexts.nd rfl (Or.inl rfl))) (fun _ _ _ _ _ => pts_nil) (fun _ _ _ _ _ => (pe_dget hu (pv 2) (pv 5) (fun _ _ => rfl)))))))))), ?_⟩
    obtain ⟨bs, hra, hbl, hrow⟩ := suc_row hT
    have tb := lt.tab
    refine fun kd hkd => ⟨upd_same, [(.inl ((0 : Nat) : Int), tx [])], rfl, by simp, ?_⟩
    have hk : mergeK [] [((.inl ((0 : Nat) : Int) : Key), tx [])] = tK [(0, [])] := rfl
    rw [hk, upd_upd]
    have s1 := same_upd hkd (o := .dK (tK [(0, [])]))
    have hk1 : upd H kd (.dK (tK [(0, [])])) kd = some (.dK (tK [(0, [])])) := upd_same
    generalize upd H kd (.dK (tK [(0, [])])) = H1 at s1 hk1 ⊢
    refine ⟨by show 1 ≤ sizeLine; decide, fun wp hwp => ?_⟩
    have s2 := same_upd hwp (o := .lst [.int 0])
    have hw2 : upd H1 wp (.lst [.int 0]) wp = some (.lst ([(0, [])].map fun x : PT2 => nv x.1)) := upd_same
    have hk2 := s2 _ _ hk1
    have wp0 : H wp = none := s1.free hwp
    have wk : wp ≠ kd := fun z => by rw [z, hk1] at hwp; cases hwp
    have s02 := s1.trans s2
    generalize upd H1 wp (.lst [.int 0]) = H2 at s2 hw2 hk2 s02 ⊢
    have kd0 : H kd = none := hkd
    refine while_n T.length (fun i σ H8 => ∃ (L : List PT2) (x5 x6 x7 x8 : Option V), σ = [some (tx l), some (.ref ra), some (.ref kd), some (.ref wp), some (nv i), x5, x6, x7, x8] ∧ Same H H8 ∧
      H8 kd = some (.dK (tK L)) ∧ H8 wp = some (.lst (L.map fun x : PT2 => nv x.1)) ∧ QT T l i L) (Nat.zero_le _) ⟨[(0, [])], _, _, _, _, rfl, s02, hk2, hw2, Qu.start⟩ (fun i σ H8 hiN h => ?_) (mono_lt mono_len)
    obtain ⟨L, x5, x6, x7, x8, rfl, s8, hkd8, hwp8, hq⟩ := h
    have hLl := (MW.QT.at lt hq).2
    refine ⟨_, rfl, _, rfl, wp, _, rfl, .inl (SqL.of hwp8), _, _, rfl, rfl, _, rfl, ite2 (fun hlt => ?_) (fun hlt => ?_)⟩
    · have hlt : i < L.length := by
        have := of_decide_eq_true hlt
        rw [List.length_map] at this
        omega
      obtain ⟨⟨st, tt⟩, e4⟩ : ∃ x, L[i]? = some x := ⟨_, List.getElem?_eq_getElem hlt⟩
      have hst := MW.QT.get lt hq e4
      have hst0 : st = i := hst.1
      have hstT : st < T.length := by rw [hst0]; exact hst.2
      have htt := qt_texts hq _ _ e4
      obtain ⟨b1, hb1, hb2, hb3⟩ := hrow st hstT
      refine ⟨_, rfl, _, rfl, wp, _, _, nv st, rfl, rfl, SqL.of hwp8, atI_nat (by rw [List.getElem?_map, e4]; rfl), ?_⟩
      have e5 : Array.size (Str.cps ⟨l.toArray⟩) = l.length := by simp
      refine ⟨_, rfl, _, rfl, for_it (n := Array.size (Str.cps ⟨l.toArray⟩)) walk_N (fun t σ H10 => ∃ (N : List PT2) (x6 x7 x8 : Option V), σ = [some (tx l), some (.ref ra), some (.ref kd), some (.ref wp), some (nv i), some (nv st), x6, x7, x8] ∧ Same H H10 ∧
        H10 kd = some (.dK (tK N)) ∧ H10 wp = some (.lst (N.map fun x : PT2 => nv x.1)) ∧ N = grow Prod.fst L ((sucT T l (st, tt)).take t)) ⟨L, _, _, _, rfl, s8, hkd8, hwp8, rfl⟩ (fun _ _ _ _ _ => trivial) (fun t x σ H10 H11 ht h y => ?_) (fun σ H10 h => ?_)⟩
      · obtain ⟨N, z6, z7, z8, rfl, k1, k4', k5, k7⟩ := h
        obtain ⟨T1, xs, rfl, hT1, rfl, c, ec, rfl⟩ := y
        have ht : t < l.length := by simpa using ht
        have ec : l[t]? = some c := by simpa using ec
        have s11 := same_upd hT1 (o := .tup [.int (t : Nat), .str ⟨#[c]⟩])
        have kk1 := k1.trans s11
        refine ⟨T1, _, rfl, SqT.of upd_same, rfl, _, _, rfl, _, _, rfl, rfl, ?_⟩
        generalize upd H10 T1 (.tup [.int (t : Nat), .str ⟨#[c]⟩]) = H12 at s11 kk1 ⊢
        have hkd12 := s11 _ _ k4'
        have tk := sucT_take (T := T) (x := (st, tt)) ht
        have hlen := growS_take lt hq e4 t
        rw [← k7] at hlen
        have ecd : l.getD t 0 = c := getD_of ec
        have hnd : (N.map Prod.fst).Nodup := by rw [k7]; exact MW.grow_nodup Prod.fst _ hq.nodup
        have hxN : ((st, tt) : PT2) ∈ N := by
          obtain ⟨W, hW⟩ := MW.grow_pre Prod.fst ((sucT T l (st, tt)).take t) L
          rw [k7, hW]
          exact List.mem_append_left _ (List.mem_of_getElem? e4)
        refine ⟨_, rfl, _, rfl, ra, _, _, _, rfl, rfl, SqT.of (kk1 _ _ hra), atI_nat hb2, _, rfl, b1, _, _, _, rfl, rfl, SqT.of (kk1 _ _ hb3), atI_nat (row_at tb hstT ht), ?_⟩
        by_cases hin : nx T st t ∈ N.map Prod.fst
        · refine ⟨_, rfl, _, rfl, kd, _, rfl, DGet.k (k := Sum.inl ((nx T st t : Nat) : Int)) hkd12, _, rfl, ?_⟩
          obtain ⟨v, hv⟩ := tK_some hnd hin
          rw [hv]
          refine iteF ⟨N, _, _, _, rfl, kk1, hkd12, s11 _ _ k5, ?_⟩
          rw [tk, MW.grow_snoc, ← k7, addS_in hin]
        · refine ⟨_, rfl, _, rfl, kd, _, rfl, DGet.k (k := Sum.inl ((nx T st t : Nat) : Int)) hkd12, _, rfl, ?_⟩
          rw [tK_no hin]
          refine iteT ⟨_, rfl, _, rfl, kd, tx tt, rfl, ?_, _, rfl, _, _, rfl, rfl, ?_, _, rfl, _, rfl, kd, _, rfl, DPut.k (k := Sum.inl ((nx T st t : Nat) : Int)) hkd12 (by rw [tK_len]; exact Nat.lt_of_le_of_lt (Nat.le_trans hlen hTl) (by decide)), ?_⟩
          · have := DGet.k (k := Sum.inl ((st : Nat) : Int)) hkd12
            rw [tK_in hnd hxN] at this
            exact this
          · have h1 : tt.length ≤ i := htt.1
            show tt.toArray.size + 1 ≤ sizeLine
            rw [List.size_toArray]
            exact Nat.le_trans (m := 40001) (by omega) (by decide)
          have kput := tK_put (L := N) (x := (nx T st t, tt ++ [c])) hin
          have etx : (V.str (⟨tt.toArray⟩ ++ ⟨#[c]⟩)) = tx (tt ++ [c]) := congrArg V.str (tx_app tt [c])
          rw [etx]
          have hq13 : upd H12 kd (.dK (putK (tK N) (.inl ((nx T st t : Nat) : Int)) (tx (tt ++ [c])))) wp = some (.lst (N.map fun x : PT2 => nv x.1)) := by rw [upd_ne wk]; exact s11 _ _ k5
          refine ⟨_, rfl, .inl ⟨rfl, _, SqL.of hq13⟩, _, rfl, wp, _, _, rfl, rfl, hq13, by rw [List.length_map]; exact Nat.lt_of_le_of_lt (Nat.le_trans hlen hTl) (by decide), ?_⟩
          refine ⟨N ++ [(nx T st t, tt ++ [c])], _, _, _, rfl, same_at (same_at kk1 kd0) wp0, ?_, ?_, ?_⟩
          · rw [upd_ne wk.symm, upd_same]
            exact congrArg some (congrArg HO.dK kput)
          · rw [upd_same, List.map_append]; rfl
          · rw [tk, MW.grow_snoc, ← k7, ecd, addS_out hin]
      · obtain ⟨N, z6, z7, z8, rfl, k1, k4', k5, k7⟩ := h
        rw [e5, sucT_all] at k7
        have hqn := Qu.step hq e4
        rw [← k7] at hqn
        have hqnl := (MW.QT.at lt hqn).2
        have hle := hqn.le
        exact ⟨_, rfl, _, _, rfl, rfl, i + 1, by omega, by omega, N, _, _, _, _, rfl, k1, k4', k5, hqn⟩
    · have hie : i = L.length := by
        have h1 := hq.le
        have h2 : ¬ ((i : Int) < (((L.map fun x : PT2 => nv x.1).length : Nat) : Int)) := fun z => hlt (decide_eq_true z)
        rw [List.length_map] at h2
        omega
      subst hie
      have hend := MW.QT.end_len lt hq
      have hat := (MW.QT.at lt hq).1
      refine ⟨_, rfl, ra, _, rfl, .inr (SqT.of (s8 _ _ hra)), _, rfl, ?_⟩
      rw [List.length_map, hbl]
      refine ⟨by omega, by omega, fun D hD => lc_map (n := ((T.length : Nat) : Int).toNat) walk_range (fun s => tx ((L.map Prod.snd).getD s [])) hD (by rw [Int.toNat_natCast]; exact Nat.lt_of_le_of_lt hTl (by decide)) (fun _ _ => trivial) (fun s x H1 H2 hi sm y Pn kk => ?_) (fun H1 sm hDl => ?_)⟩
      · obtain ⟨rfl, rfl⟩ := y
        rw [Int.toNat_natCast] at hi
        have hsL : s < L.length := by omega
        have ex : L[s]? = some L[s] := List.getElem?_eq_getElem hsL
        have e1 := MW.QT.get lt hq ex
        have e2 : (L.map Prod.snd).getD s [] = L[s].2 := by rw [List.getD_eq_getElem?_getD, List.getElem?_map, ex]; rfl
        rw [e2] at kk
        have e0 : ((0 : Int) + (s : Nat)) = ((L[s].1 : Nat) : Int) := by rw [e1.1]; omega
        refine ⟨rfl, yes ⟨_, rfl, _, rfl, kd, tx L[s].2, rfl, ?_, kk _ (Same.refl _)⟩⟩
        have := DGet.k (k := Sum.inl ((L[s].1 : Nat) : Int)) (sm _ _ hkd8)
        rw [tK_in hq.nodup (List.getElem_mem hsL)] at this
        show DGet _ _ (V.int ((0 : Int) + (s : Nat))) _
        rw [e0]
        exact this
      · rw [Int.toNat_natCast, ← hend] at hDl
        have e3 : (List.range L.length).map (fun s => tx ((L.map Prod.snd).getD s [])) = (L.map Prod.snd).map tx := by
          have := map_getD (L.map Prod.snd) [] tx
          rwa [List.length_map] at this
        rw [e3] at hDl
        refine q _ D (L.map Prod.snd) (s8.trans sm) (s8.free hD) hDl (by rw [List.length_map]; exact hend) fun s t e => ?_
        rw [List.getElem?_map] at e
        obtain ⟨x, ex, rfl⟩ := Option.map_eq_some_iff.mp e
        exact MW.TextOf.of lt hq ex
def spLawFirstOpen : Sp := fun vs H Q _ => ∃ (p ra aa : Addr) (T : Rows) (A l : List Nat) (cs : List (List Nat)), vs = [tx l, .ref p, .ref ra, .ref aa] ∧ H p = some (.tup (cs.map tx)) ∧ Tb H ra T ∧ H aa = some (.tup (A.map nv)) ∧ LT l.length T A ∧ T.length ≤ 200 ∧ WOk l cs ∧
  ∀ H' v r, Same H H' → Due T l A (lps l cs) r → PlaceV H' l v r → Q v H'
theorem scLawFirstOpen : FnScope ["_law_letters_here", "_law_conflicts_here", "_law_rows", "_law_accepts", "_law_leads", "_law_state", "_law_ahead", "_law_pair", "_law_one", "_law_other"] ["_law_letters_here", "_law_conflicts_here", "_law_rows", "_law_accepts"] (defScope sLawFirstOpen) := ⟨rfl, rfl, rfl, by decide +kernel, rfl, by decide +kernel, by decide +kernel⟩
theorem c_law_first_open (B : En P w K mg base) : Cal P w K mg base 3 "_law_first_open" (spLawFirstOpen) [] := by
  refine cal_mk B.f_law_first_open scLawFirstOpen (fun _ _ _ _ _ _ us hl => match us, hl with | [_, _, _, _], _ => rfl) (fun vs H Q E h => ?_) fun f cdv A outer s H vs Q E hr h => ?_
  · obtain ⟨p, ra, aa, T, A, l, cs, rfl, _⟩ := h
    rfl
  · obtain ⟨p, ra, aa, T, A, l, cs, rfl, hp, hT, haa, lt, hTl, wok, q⟩ := h
    have hu := hu_of hr
    have hu64 := hr.units
    refine ⟨_, (pss_cons (ps_set (i := 4) scLawFirstOpen.nd rfl (Or.inl rfl) (pe_c (c_law_state_texts B) hr (by decide) (by rfl) (pa_cons (pv 0) (pa_cons (pv 2) pa_nil))))
    (pss_cons (ps_for PassesOwn.never rfl (pi_range1 rfl B.range_ (pa_cons (pe_callB (call_len_seqK K rfl) (by rfl) B.len_ boot_len (pa_cons (pv 2) pa_nil)) pa_nil)) (pg_name (i := 5) scLawFirstOpen.nd rfl (Or.inl rfl)) (pss_cons (ps_set (i := 6) scLawFirstOpen.nd rfl (Or.inl rfl) (pe_ix (ix_listK K rfl) (pv 4) (pv 5) (fun _ _ => rfl)))
    (pss_one (ps_for PassesOwn.never rfl (pi_listK K rfl (pe_c (c_law_loose_pairs B) hr (by decide) (by rfl) (pa_cons (pv 0) (pa_cons (pv 1) pa_nil)))) (pg_name (i := 7) scLawFirstOpen.nd rfl (Or.inl rfl)) (pss_cons (ps_par (i := 8) (j := 9) rfl scLawFirstOpen.nd rfl rfl (by decide) rfl rfl (pa_cons (pe_c (c_law_read_state B) hr (by decide) (by rfl) (pa_cons (pv 0) (pa_cons (pv 2) (pa_cons (pv 5) (pa_cons (pv 7) pa_nil))))) (pa_cons (pe_c (c_law_read_state B) hr (by decide) (by rfl) (pa_cons (pv 0) (pa_cons (pv 2) (pa_cons (pv 5) (pa_cons (pe_revP (pv 7)) pa_nil))))) pa_nil)) rfl)
    (pss_one (ps_if (pt_cmpR op_ne (pv 8) (pv 9) (nomark _)) (pss_one (ps_ret (pe_tup (pa_cons (pv 6) (pa_cons (pv 7) (pa_cons (pe_c (c_law_least_parting B) hr (by decide) (by rfl) (pa_cons (pv 0) (pa_cons (pv 2) (pa_cons (pv 3) (pa_cons (pv 8) (pa_cons (pv 9) pa_nil)))))) pa_nil)))))) pss_nil)))))))
    (pss_one (ps_ret pe_non)))), ?_⟩
    obtain ⟨bs, hra, hbl, hrow⟩ := suc_row hT
    have tb := lt.tab
    refine ⟨_, rfl, _, rfl, ra, T, A, l, rfl, hT, lt, hTl, wok.len, fun H1 lp ts s1 lp0 hlp htl hts => ?_⟩
    refine ⟨_, rfl, ra, _, rfl, .inr (SqT.of (s1 _ _ hra)), _, rfl, ?_⟩
    rw [List.length_map, hbl]
    refine ⟨by omega, by omega, for_range (n := ((T.length : Nat) : Int).toNat) (fun i σ H2 => ∃ (x5 x6 x7 x8 x9 : Option V), σ = [some (tx l), some (.ref p), some (.ref ra), some (.ref aa), some (.ref lp), x5, x6, x7, x8, x9] ∧ Same H1 H2 ∧ ∀ j, j < i → badAt T (lps l cs) j = none) ⟨_, _, _, _, _, rfl, Same.refl _, fun j hj => absurd hj (Nat.not_lt_zero _)⟩ (fun i σ H2 hi h => ?_) (fun σ H2 h => ?_)⟩
    · obtain ⟨x5, x6, x7, x8, x9, rfl, s2, hbad⟩ := h
      rw [Int.toNat_natCast] at hi
      have e0 : ((0 : Int) + (i : Nat)) = (i : Nat) := by omega
      rw [e0]
      have eti : ts[i]? = some ts[i] := List.getElem?_eq_getElem (by omega)
      generalize ts[i]'(by omega) = tt at eti
      have htx := hts i tt eti
      have s12 := s1.trans s2
      refine ⟨_, rfl, _, rfl, lp, _, _, tx tt, rfl, rfl, SqL.of (s2 _ _ hlp), atI_nat (by rw [List.getElem?_map, eti]; rfl), ?_⟩
      refine ⟨_, rfl, _, rfl, p, l, cs, rfl, s12 _ _ hp, wok.len, fun H3 op s3 op0 hop => ?_⟩
      have s13 := s12.trans s3
      refine ⟨op, rfl, ⟨_, SqL.of hop⟩, for_list (xs := ((lps l cs).map (pt l)).map tx) (fun u σ H4 => ∃ (x7 x8 x9 : Option V), σ = [some (tx l), some (.ref p), some (.ref ra), some (.ref aa), some (.ref lp), some (nv i), some (tx tt), x7, x8, x9] ∧ Same H3 H4 ∧ ∀ v, v < u → ∀ p, (lps l cs)[v]? = some p → parts T i p = false) ⟨_, _, _, rfl, Same.refl _, fun v hv => absurd hv (Nat.not_lt_zero _)⟩ (fun u σ H4 _ h => ?_) (fun u x σ H4 hx h => ?_) (fun σ H4 h => ?_)⟩
      · obtain ⟨_, _, _, _, g, _⟩ := h
        exact SqL.of (g _ _ hop)
      · obtain ⟨y7, y8, y9, rfl, g1, g2⟩ := h
        rw [List.getElem?_map, List.getElem?_map] at hx
        obtain ⟨c, e3, rfl⟩ := Option.map_eq_some_iff.mp hx
        obtain ⟨pp, ep, rfl⟩ := Option.map_eq_some_iff.mp e3
        have hp2 := lps_lt (List.mem_of_getElem? ep)
        have hl1 : l.getD pp.1 0 ∈ l := MW.getD_mem (by omega)
        have hl2 : l.getD pp.2 0 ∈ l := MW.getD_mem (by omega)
        have s14 := s13.trans g1
        refine ⟨_, rfl, _, rfl, _, rfl, _, rfl, ra, l, T, i, pt l pp, rfl, hT.same s14, tb, hi, wok.nd, ?_, _, rfl, _, rfl, _, rfl, _, rfl, l.getD pp.1 0, l.getD pp.2 0, rfl, ra, l, T, i, [l.getD pp.2 0, l.getD pp.1 0], rfl, hT.same s14, tb, hi, wok.nd, ?_, _, _, rfl, ?_⟩
        · intro c hc
          rcases (by simpa [pt] using hc : c = l.getD pp.1 0 ∨ c = l.getD pp.2 0) with z | z <;> rw [z] <;> assumption
        · intro c hc
          rcases (by simpa using hc : c = l.getD pp.2 0 ∨ c = l.getD pp.1 0) with z | z <;> rw [z] <;> assumption
        have r1 : rd l T i (pt l pp) = (goals T i pp).1 := rd_pair wok.nd (by omega) (by omega)
        have r2 : rd l T i [l.getD pp.2 0, l.getD pp.1 0] = (goals T i pp).2 := rd_pair wok.nd (by omega) (by omega)
        rw [r1, r2]
        refine ⟨_, rfl, _, rfl, rfl, _, rfl, ?_⟩
        show if (!decide (nv _ = nv _)) = true then _ else _
        rw [dec_nv]
        refine ite2 (fun hd => ?_) (fun hd => ?_)
        · have hd2 : parts T i pp = true := by
            unfold parts
            have : ¬ (goals T i pp).1 = (goals T i pp).2 := by simpa using hd
            exact decide_eq_true this
          have hb : FirstBad T (lps l cs) (some (i, pp)) := ⟨hi, hbad, find_at g2 ep hd2⟩
          have n1 : (goals T i pp).1 < T.length := tb.nx_lt (tb.nx_lt hi (by omega)) (by omega)
          have n2 : (goals T i pp).2 < T.length := tb.nx_lt (tb.nx_lt hi (by omega)) (by omega)
          refine ⟨_, rfl, _, rfl, _, rfl, _, rfl, _, rfl, _, rfl, _, rfl, ra, aa, T, A, l, _, _, rfl, hT.same s14, s14 _ _ haa, tb, n1, n2, hTl, wok.len, fun H5 rr s5 hlp => ⟨by show 3 ≤ sizeLine; decide, fun e he => ?_⟩⟩
          exact q _ _ (some (tt, pp, rr)) ((s14.trans s5).trans (same_upd he)) ⟨i, hb, htx, hlp⟩ ⟨e, rfl, upd_same⟩
        · have hd2 : parts T i pp = false := by
            unfold parts
            have : (goals T i pp).1 = (goals T i pp).2 := by simpa using hd
            exact decide_eq_false fun z => z this
          refine ⟨_, _, _, rfl, g1, fun v hv p' hp' => ?_⟩
          by_cases hvu : v < u
          · exact g2 v hvu p' hp'
          · have : v = u := by omega
            subst this
            rw [ep] at hp'
            cases hp'
            exact hd2
      · obtain ⟨y7, y8, y9, rfl, g1, g2⟩ := h
        rw [List.length_map, List.length_map] at g2
        refine ⟨_, _, _, _, _, rfl, (s2.trans s3).trans g1, fun j hj => ?_⟩
        by_cases hji : j < i
        · exact hbad j hji
        · have : j = i := by omega
          subst this
          unfold badAt
          rw [List.find?_eq_none]
          intro p hp
          obtain ⟨v, hv⟩ := List.getElem?_of_mem hp
          rw [g2 v (List.getElem?_eq_some_iff.mp hv).1 p hv]
          exact Bool.false_ne_true
    · obtain ⟨x5, x6, x7, x8, x9, rfl, s2, hbad⟩ := h
      rw [Int.toNat_natCast] at hbad
      exact q _ _ none (s1.trans s2) hbad rfl
end
end Ww
end S_Wl7

section S_Wl8
set_option Elab.async false
set_option linter.all false
set_option maxRecDepth 100000
set_option maxHeartbeats 2000000
/-! The law's walks 8: rows that are drawn. -/
namespace Ww
open PySem PySem.Spec PyProof.Rows L2 WwR SlX
open C8 (Cal pe_c)
open MW (Rows suc nx Tab Idle)
/-- rows in tuples at bs -/
def Rw (H : Hp) (bs : List Addr) (R : Rows) : Prop := bs.length = R.length ∧ ∀ (i : Nat) (b : Addr) (r : List Nat), bs[i]? = some b → R[i]? = some r → H b = some (.tup (r.map nv))
theorem Rw.tx {H H' : Hp} {bs : List Addr} {R : Rows} (t : Tx H H') (h : Rw H bs R) : Rw H' bs R := ⟨h.1, fun i b r e1 e2 => t _ _ (h.2 i b r e1 e2)⟩
theorem Rw.snoc {H : Hp} {bs : List Addr} {R : Rows} {b : Addr} {r : List Nat} (h : Rw H bs R) (e : H b = some (.tup (r.map nv))) : Rw H (bs ++ [b]) (R ++ [r]) := by
  refine ⟨by rw [List.length_append, List.length_append, h.1]; rfl, fun i b' r' e1 e2 => ?_⟩
  by_cases hi : i < bs.length
  · rw [List.getElem?_append_left hi] at e1
    rw [List.getElem?_append_left (by have := h.1; omega)] at e2
    exact h.2 i b' r' e1 e2
  · rw [List.getElem?_append_right (by omega)] at e1
    rw [List.getElem?_append_right (by have := h.1; omega), ← h.1] at e2
    have hz : i - bs.length = 0 := by
      have := (List.getElem?_eq_some_iff.mp e1).1
      simp at this
      omega
    rw [hz] at e1 e2
    cases (Option.some.inj e1)
    cases (Option.some.inj e2)
    exact e
theorem rgV_nv (n : Nat) : rgV 0 ((n : Nat) : Int) = (List.range n).map nv := by
  unfold rgV
  rw [Int.sub_zero, Int.toNat_natCast]
  exact List.map_congr_left fun i _ => by rw [Int.zero_add]
theorem sub_nv {ys : List V} {ns : List Nat} (h : ys.Sublist (ns.map nv)) : ∃ ms : List Nat, ms.Sublist ns ∧ ys = ms.map nv := by
  let dn : V → Nat := fun v => match v with | .int i => i.toNat | _ => 0
  refine ⟨ys.map dn, ?_, ?_⟩
  · have := h.map dn
    rw [List.map_map] at this
    have e : ns.map (dn ∘ nv) = ns := (List.map_congr_left fun n _ => (Int.toNat_natCast n : dn (nv n) = n)).trans (List.map_id ns)
    rwa [e] at this
  · rw [List.map_map]
    refine (List.map_id ys).symm.trans (List.map_congr_left fun y hy => ?_)
    obtain ⟨n, _, rfl⟩ := List.mem_map.mp (h.subset hy)
    show nv n = nv (((n : Nat) : Int).toNat)
    rw [Int.toNat_natCast]
/-- a list of numbers below n, told one by one -/
theorem nvs_of {ys : List V} {n : Nat} (h : ∀ (i : Nat) (y : V), ys[i]? = some y → ∃ r : Nat, r < n ∧ y = nv r) : ∃ ns : List Nat, ys = ns.map nv ∧ ns.length = ys.length ∧ ∀ x ∈ ns, x < n := by
  let dn : V → Nat := fun v => match v with | .int i => i.toNat | _ => 0
  have hd : ∀ y ∈ ys, ∃ r : Nat, r < n ∧ y = nv r := fun y hy => by
    obtain ⟨i, e⟩ := List.getElem?_of_mem hy
    exact h i y e
  refine ⟨ys.map dn, ?_, List.length_map _, fun x hx => ?_⟩
  · rw [List.map_map]
    refine (List.map_id ys).symm.trans (List.map_congr_left fun y hy => ?_)
    obtain ⟨r, _, rfl⟩ := hd y hy
    show nv r = nv (((r : Nat) : Int).toNat)
    rw [Int.toNat_natCast]
  · obtain ⟨y, hy, rfl⟩ := List.mem_map.mp hx
    obtain ⟨r, hr, rfl⟩ := hd y hy
    show ((r : Nat) : Int).toNat < n
    rw [Int.toNat_natCast]
    exact hr
section
variable {P : Program} {w : World} {K : PySem.W.Frag} {mg : Str → Option Value} {base : Heap}
/-- at t stand drawn rows, accepted states, a start -/
def Drawn (H : Hp) (t : Addr) (R : Rows) (A0 : List Nat) (s0 : Nat) : Prop := ∃ ra aa, H t = some (.tup [.ref ra, .ref aa, nv s0]) ∧ Tb H ra R ∧ H aa = some (.tup (A0.map nv))
theorem Drawn.same {H H' : Hp} {t : Addr} {R : Rows} {A0 : List Nat} {s0 : Nat} (s : Same H H') (h : Drawn H t R A0 s0) : Drawn H' t R A0 s0 := by
  obtain ⟨ra, aa, h1, h2, h3⟩ := h
  exact ⟨ra, aa, s _ _ h1, h2.same s, s _ _ h3⟩

def spDrawnRows : Sp := fun vs H Q _ => ∃ (d : Addr) (l : List Nat) (m : Nat), vs = [.ref d, tx l, nv m] ∧ H d = some (DiceO d) ∧ 0 < m ∧ m ≤ 100 ∧ l.length ≤ 10 ∧
  ∀ H' t R A0 s0, Same H H' → Drawn H' t R A0 s0 → Aut l R A0 s0 → R.length ≤ m → Q (.ref t) H'
theorem scLawDrawnRows : FnScope ["_law_dice_here", "_law_letters_here", "_law_most", "_law_many", "_law_rows", "_law_state", "_law_letter"] ["_law_dice_here", "_law_letters_here", "_law_most"] (defScope sLawDrawnRows) := ⟨rfl, rfl, rfl, by decide +kernel, rfl, by decide +kernel, by decide +kernel⟩
theorem c_law_drawn_rows (B : En P w K mg base) : Cal P w K mg base 3 "_law_drawn_rows" (spDrawnRows) [] := by
  refine cal_mk B.f_law_drawn_rows scLawDrawnRows (fun _ _ _ _ _ _ us hl => match us, hl with | [_, _, _], _ => rfl) (fun vs H Q E h => ?_) fun f cdv A outer s H vs Q E hr h => ?_
  · obtain ⟨d, l, m, rfl, _⟩ := h
    rfl
  · obtain ⟨d, l, m, rfl, hd, hm0, hm, hl, q⟩ := h
    have hu := hu_of hr
    have hu64 := hr.units
    refine ⟨_, (pss_cons (ps_set (i := 3) scLawDrawnRows.nd rfl (Or.inr rfl) (pe_op op_add pe_int (pe_c (c_law_roll B) hr (by decide) (by rfl) (pa_cons (pv 0) (pa_cons (pv 2) pa_nil)))))
    (pss_cons (ps_set (i := 4) scLawDrawnRows.nd rfl (Or.inl rfl) (pe_lst pa_nil))
    (pss_cons (ps_for PassesOwn.never rfl (pi_range1 rfl B.range_ (pa_cons (pv 3) pa_nil)) (pg_name (i := 5) scLawDrawnRows.nd rfl (Or.inl rfl)) (pss_one (ps_expr (pe_bm PySem.F.plainAttrs_list PySem.F.slot_list_append PySem.F.type_list_append mt_append (pv 4) (pa_cons (pe_tupleOfK K rfl (by rfl) B.tuple_ (pe_lc (own := [("_law_letter", 6)]) (g := gName 6) (tt := tYes) rfl scLawDrawnRows.nd (pi_str (pv 1)) (blkOk_by (own := [("_law_letter", 6)]) (N := ["_law_dice_here", "_law_letters_here", "_law_most", "_law_many", "_law_rows", "_law_state", "_law_letter"]) (sc := defScope sLawDrawnRows) (by decide +kernel)) (fun _ _ _ _ _ => (pg_name (i := 6) scLawDrawnRows.nd rfl (Or.inl rfl))) (fun _ _ _ _ _ => pts_nil) (fun _ _ _ _ _ => (pe_c (c_law_roll B) hr (by decide) (by rfl) (pa_cons (pv 0) (pa_cons (pv 3) pa_nil)))))) pa_nil)))))
    (pss_one (ps_ret (pe_tup (pa_cons (pe_tupleOfK K rfl (by rfl) B.tuple_ (pv 4)) (pa_cons (pe_tupleOfK K rfl (by rfl) B.tuple_ (pe_c (c_law_some B) hr (by decide) (by rfl) (pa_cons (pv 0) (pa_cons (pe_listRg rfl (by rfl) B.list_ (prg_1 (by rfl) B.range_ (pv 3))) pa_nil)))) (pa_cons (pe_c (c_law_roll B) hr (by decide) (by rfl) (pa_cons (pv 0) (pa_cons (pv 3) pa_nil))) pa_nil))))))))), ?_⟩
    refine ⟨_, rfl, _, rfl, d, m, rfl, hd, hm0, by omega, fun r0 hr0 => ⟨_, _, rfl, rfl, ?_⟩⟩
    have en : ((1 : Int) + (r0 : Int)) = ((1 + r0 : Nat) : Int) := by omega
    dsimp only
    rw [en]
    generalize hn : 1 + r0 = n
    have hn1 : 0 < n := by omega
    have hnm : n ≤ m := by omega
    refine ⟨Nat.zero_le _, fun rp hrp0 => ?_⟩
    refine ⟨_, rfl, _, rfl, by omega, by omega, for_range (n := ((n : Nat) : Int).toNat) (fun i σ H2 => ∃ (R : Rows) (bs : List Addr) (x5 x6 : Option V), σ = [some (.ref d), some (tx l), some (nv m), some (nv n), some (.ref rp), x5, x6] ∧ Same H H2 ∧ H2 rp = some (.lst (bs.map V.ref)) ∧ Rw H2 bs R ∧ R.length = i ∧ (∀ r ∈ R, r.length = l.length) ∧ ∀ r ∈ R, ∀ x ∈ r, x < n) ⟨[], [], _, _, rfl, same_upd hrp0, upd_same, ⟨rfl, fun i b r e _ => by simp at e⟩, rfl, fun r hr => by simp at hr, fun r hr => by simp at hr⟩ (fun i σ H2 hi h => ?_) (fun σ HE h => ?_)⟩
    · obtain ⟨R, bs, x5, x6, rfl, s2, hrp, hrw, hRl, hRk, hRx⟩ := h
      rw [Int.toNat_natCast] at hi
      refine ⟨_, rfl, .inl ⟨rfl, _, SqL.of hrp⟩, _, rfl, _, rfl, fun D hD => ?_⟩
      have e5 : Array.size (Str.cps ⟨l.toArray⟩) = l.length := by simp
      refine lc_rel (n := Array.size (Str.cps ⟨l.toArray⟩)) walk_str (fun i y H => ∃ r : Nat, r < n ∧ y = nv r) (fun i y H H' t h => h) hD (by rw [e5]; exact Nat.lt_of_le_of_lt hl (by decide)) (fun _ _ => trivial) (fun i x H3 H4 hi s y Pn k => ?_) (fun H3 ys s hDl hyl hys => ?_)
      · obtain ⟨rfl, c, e1, rfl⟩ := y
        exact ⟨rfl, yes ⟨_, rfl, _, rfl, d, n, rfl, (s2.trans s) _ _ hd, hn1, by omega, fun r hr => k _ _ (Same.refl _) ⟨r, hr, rfl⟩⟩⟩
      · rw [e5] at hyl
        obtain ⟨row, rfl, hrl, hrx⟩ := nvs_of hys
        refine .inl ⟨D, _, rfl, SqL.of hDl, fun tp htp => ?_⟩
        have s4 := s.trans (same_upd htp (o := .tup (row.map nv)))
        have hrp4 := s4 _ _ hrp
        refine ⟨rp, _, _, rfl, rfl, hrp4, by rw [List.length_map, hrw.1]; exact Nat.lt_of_le_of_lt (m := 100) (by omega) (by decide), ?_⟩
        have eb : bs.map V.ref ++ [V.ref tp] = (bs ++ [tp]).map V.ref := by rw [List.map_append]; rfl
        rw [eb]
        refine ⟨R ++ [row], bs ++ [tp], _, _, rfl, same_at (s2.trans s4) hrp0, upd_same, ((hrw.tx (.of s4)).snoc upd_same).tx (Tx.upd hrp4), by rw [List.length_append, hRl]; rfl, fun r hr => ?_, fun r hr => ?_⟩
        · rcases List.mem_append.mp hr with z | z
          · exact hRk r z
          · rw [List.mem_singleton.mp z, hrl]; rw [List.length_map] at hyl; rw [List.length_map]; exact hyl
        · rcases List.mem_append.mp hr with z | z
          · exact hRx r z
          · rw [List.mem_singleton.mp z]; exact hrx
    · obtain ⟨R, bs, x5, x6, rfl, sE, hrp, hrw, hlenR, hRk, hRx⟩ := h
      rw [Int.toNat_natCast] at hlenR
      refine ⟨_, rfl, ?_⟩
      refine .inl ⟨rp, _, rfl, SqL.of hrp, fun ra hra => ?_⟩
      have sR := same_upd hra (o := .tup (bs.map V.ref))
      have hraE : upd HE ra (.tup (bs.map V.ref)) ra = some (.tup (bs.map V.ref)) := upd_same
      have hrwE := hrw.tx (.of sR)
      have sE2 := sE.trans sR
      generalize upd HE ra (.tup (bs.map V.ref)) = HF at sR hraE hrwE sE2 ⊢
      refine ⟨_, rfl, _, rfl, _, rfl, RgOk.of_le (by omega) (by omega) (by omega) (by omega), fun gp hgp => ?_⟩
      rw [rgV_nv]
      have sG := same_upd hgp (o := .lst ((List.range n).map nv))
      refine ⟨d, gp, _, rfl, sG _ _ (sE2 _ _ hd), upd_same, by rw [List.length_map, List.length_range]; omega, fun HG sp ys sg sp0 hsp sub => ?_⟩
      obtain ⟨ms, hms, rfl⟩ := sub_nv sub
      refine .inl ⟨sp, _, rfl, SqL.of hsp, fun aa haa => ?_⟩
      have sH := (sG.trans sg).trans (same_upd haa (o := .tup (ms.map nv)))
      have haaE : upd HG aa (.tup (ms.map nv)) aa = some (.tup (ms.map nv)) := upd_same
      generalize upd HG aa (.tup (ms.map nv)) = HH at sH haaE ⊢
      refine ⟨_, rfl, _, rfl, d, n, rfl, (sE2.trans sH) _ _ hd, by omega, by omega, fun r hr => ⟨by show 3 ≤ sizeLine; decide, fun t ht => ?_⟩⟩
      have sI := same_upd ht (o := .tup [.ref ra, .ref aa, nv r])
      have hRn : R.length = n := hlenR
      refine q _ t R ms r ((sE2.trans sH).trans sI) ⟨ra, aa, upd_same, ⟨bs, (sH.trans sI) _ _ hraE, hrwE.1, fun i b r e1 e2 => (sH.trans sI) _ _ (hrwE.2 i b r e1 e2)⟩, sI _ _ haaE⟩ ⟨⟨hRk, fun r hr x hx => by rw [hRn]; exact hRx r hr x hx⟩, by omega, by omega, fun x hx => by rw [hRn]; exact List.mem_range.mp (hms.subset hx), asc_sub (List.pairwise_lt_range.sublist hms), ?_⟩ (by omega)
      have := hms.length_le
      rw [List.length_range] at this
      omega
end
end Ww
end S_Wl8

section S_Wl9
set_option Elab.async false
set_option linter.all false
set_option maxRecDepth 100000
set_option maxHeartbeats 2000000
/-! The law's walks 9: widened rows, counting rows. -/
namespace Ww
open PySem PySem.Spec PyProof.Rows L2 WwR SlX
open C8 (Cal pe_c)
open MW (Rows suc nx Tab Idle)
/-- a row that reads by the letters pr alone -/
def rowW (l pr : List Nat) (R : Rows) (s : Nat) : List Nat := l.map fun c => if c ∈ pr then nx R s (pr.idxOf c) else s
def tabW (l pr : List Nat) (R : Rows) : Rows := (List.range R.length).map (rowW l pr R)
theorem tabW_suc {l pr : List Nat} {R : Rows} {s : Nat} (h : s < R.length) : suc (tabW l pr R) s = rowW l pr R s := by
  unfold suc tabW
  rw [List.getD_eq_getElem?_getD, List.getElem?_map, List.getElem?_range h]
  rfl
theorem tabW_len {l pr : List Nat} {R : Rows} : (tabW l pr R).length = R.length := by unfold tabW; rw [List.length_map, List.length_range]
theorem tabW_tab {l pr : List Nat} {R : Rows} (tb : Tab pr.length R) : Tab l.length (tabW l pr R) where
  len := fun r hr => by
    unfold tabW at hr
    obtain ⟨s, hs, rfl⟩ := List.mem_map.mp hr
    unfold rowW
    rw [List.length_map]
  lt := fun r hr x hx => by
    rw [tabW_len]
    unfold tabW at hr
    obtain ⟨s, hs, rfl⟩ := List.mem_map.mp hr
    have hs := List.mem_range.mp hs
    unfold rowW at hx
    obtain ⟨c, hc, rfl⟩ := List.mem_map.mp hx
    by_cases z : c ∈ pr
    · rw [if_pos z]
      exact tb.nx_lt hs (idx_at z).1
    · rw [if_neg z]; exact hs
theorem tabW_idle {l pr : List Nat} {R : Rows} {a : Nat} (ha : a < l.length) (h : l.getD a 0 ∉ pr) : Idle (tabW l pr R) a := fun s hs => by
  rw [tabW_len] at hs
  unfold nx
  rw [tabW_suc hs]
  unfold rowW
  have e : l[a]? = some (l.getD a 0) := by rw [List.getD_eq_getElem?_getD, List.getElem?_eq_getElem ha]; rfl
  rw [List.getD_eq_getElem?_getD, List.getElem?_map, e]
  show (if l.getD a 0 ∈ pr then _ else s) = s
  rw [if_neg h]
/-- a row that adds -/
def rowC (st : List Nat) (n s : Nat) : List Nat := st.map fun x => (s + x) % n
def tabC (st : List Nat) (n : Nat) : Rows := (List.range n).map (rowC st n)
theorem tabC_len {st : List Nat} {n : Nat} : (tabC st n).length = n := by unfold tabC; rw [List.length_map, List.length_range]
theorem tabC_tab {st : List Nat} {n : Nat} (hn : 0 < n) : Tab st.length (tabC st n) where
  len := fun r hr => by
    unfold tabC at hr
    obtain ⟨s, hs, rfl⟩ := List.mem_map.mp hr
    unfold rowC
    rw [List.length_map]
  lt := fun r hr x hx => by
    rw [tabC_len]
    unfold tabC at hr
    obtain ⟨s, hs, rfl⟩ := List.mem_map.mp hr
    unfold rowC at hx
    obtain ⟨c, hc, rfl⟩ := List.mem_map.mp hx
    exact Nat.mod_lt _ hn
theorem tabC_nx {st : List Nat} {n s a : Nat} (hs : s < n) (ha : a < st.length) : nx (tabC st n) s a = (s + st.getD a 0) % n := by
  unfold nx suc tabC
  rw [List.getD_eq_getElem?_getD (l := (List.range n).map _), List.getElem?_map, List.getElem?_range hs]
  show (rowC st n s).getD a 0 = _
  unfold rowC
  rw [List.getD_eq_getElem?_getD, List.getElem?_map, List.getElem?_eq_getElem ha, List.getD_eq_getElem?_getD, List.getElem?_eq_getElem ha]
  rfl
section
variable {P : Program} {w : World} {K : PySem.W.Frag} {mg : Str → Option Value} {base : Heap}

def spWidened : Sp := fun vs H Q _ => ∃ (d : Addr) (l pr : List Nat), vs = [.ref d, tx l, tx pr] ∧ H d = some (DiceO d) ∧ l.length ≤ 10 ∧ pr.length ≤ 10 ∧ pr.Nodup ∧
  ∀ H' t R A0 s0, Same H H' → Drawn H' t R A0 s0 → Aut l R A0 s0 → R.length ≤ 5 → (∀ a, a < l.length → l.getD a 0 ∉ pr → Idle R a) → Q (.ref t) H'
theorem scLawWidened : FnScope ["_law_dice_here", "_law_letters_here", "_law_some_here", "_law_rows", "_law_accepts", "_law_start", "_law_found", "_law_state", "_law_nexts", "_law_letter"] ["_law_dice_here", "_law_letters_here", "_law_some_here"] (defScope sLawWidened) := ⟨rfl, rfl, rfl, by decide +kernel, rfl, by decide +kernel, by decide +kernel⟩
theorem c_law_widened (B : En P w K mg base) : Cal P w K mg base 4 "_law_widened" (spWidened) [] := by
  refine cal_mk B.f_law_widened scLawWidened (fun _ _ _ _ _ _ us hl => match us, hl with | [_, _, _], _ => rfl) (fun vs H Q E h => ?_) fun f cdv A outer s H vs Q E hr h => ?_
  · obtain ⟨d, l, pr, rfl, _⟩ := h
    rfl
  · obtain ⟨d, l, pr, rfl, hd, hl, hpl, hpn, q⟩ := h
    have hu := hu_of hr
    have hu64 := hr.units
    refine ⟨_, (pss_cons (ps_asg (pe_c (c_law_drawn_rows B) hr (by decide) (by rfl) (pa_cons (pv 0) (pa_cons (pv 2) (pa_cons pe_int pa_nil)))) (pg_tup rfl (pgs_cons (pg_name (i := 3) scLawWidened.nd rfl (Or.inl rfl)) (pgs_cons (pg_name (i := 4) scLawWidened.nd rfl (Or.inl rfl)) (pgs_cons (pg_name (i := 5) scLawWidened.nd rfl (Or.inl rfl)) pgs_nil)))))
    (pss_cons (ps_set (i := 6) scLawWidened.nd rfl (Or.inl rfl) (pe_lst pa_nil))
    (pss_cons (ps_for PassesOwn.never rfl (pi_enumT (by rfl) B.enumerate_ (pa_cons (pv 3) pa_nil)) (pg_tup rfl (pgs_cons (pg_name (i := 7) scLawWidened.nd rfl (Or.inr rfl)) (pgs_cons (pg_name (i := 8) scLawWidened.nd rfl (Or.inr rfl)) pgs_nil))) (pss_one (ps_expr (pe_bm PySem.F.plainAttrs_list PySem.F.slot_list_append PySem.F.type_list_append mt_append (pv 6) (pa_cons (pe_tupleOfK K rfl (by rfl) B.tuple_ (pe_lc (own := [("_law_letter", 9)]) (g := gName 9) (tt := tYes) rfl scLawWidened.nd (pi_str (pv 1)) (blkOk_by (own := [("_law_letter", 9)]) (N := ["_law_dice_here", "_law_letters_here", "_law_some_here", "_law_rows", "_law_accepts", "_law_start", "_law_found", "_law_state", "_law_nexts", "_law_letter"]) (sc := defScope sLawWidened) (by decide +kernel)) (fun _ _ _ _ _ => (pg_name (i := 9) scLawWidened.nd rfl (Or.inl rfl))) (fun _ _ _ _ _ => pts_nil) (fun _ _ _ _ _ => (pe_ifExp (pt_cmpR op_in_sign (pv 9) (pv 2) rfl) (pe_ix (ix_tupK K rfl) (pv 8) (pe_m1 PySem.F.slot_str_index PySem.F.type_str_index mt_sindex (pv 2) (pv 9)) (fun _ _ => rfl)) (pv 7))))) pa_nil)))))
    (pss_one (ps_ret (pe_tup (pa_cons (pe_tupleOfK K rfl (by rfl) B.tuple_ (pv 6)) (pa_cons (pv 4) (pa_cons (pv 5) pa_nil))))))))), ?_⟩
    refine ⟨_, rfl, _, rfl, d, pr, 4, rfl, hd, by decide, by decide, hpl, fun H1 t R A0 s0 s1 ⟨ra, aa, ht, hT, haa⟩ au hRl => ?_⟩
    obtain ⟨bs, hra, hbl, hrow⟩ := suc_row hT
    refine ⟨t, _, rfl, SqT.of ht, rfl, _, _, rfl, _, _, rfl, _, _, rfl, rfl, ?_⟩
    refine ⟨Nat.zero_le _, fun fp hfp => ?_⟩
    have s2 := same_upd hfp (o := .lst [])
    refine ⟨_, rfl, ra, _, rfl, s2 _ _ hra, for_it (n := (bs.map V.ref).length) walk_N (fun i σ H2 => ∃ (cs : List Addr) (x7 x8 x9 : Option V), σ = [some (.ref d), some (tx l), some (tx pr), some (.ref ra), some (.ref aa), some (nv s0), some (.ref fp), x7, x8, x9] ∧ Same H1 H2 ∧ H2 fp = some (.lst (cs.map V.ref)) ∧ Rw H2 cs ((List.range i).map (rowW l pr R))) ⟨[], _, _, _, rfl, s2, upd_same, ⟨rfl, fun i b r e _ => by simp at e⟩⟩ (fun i σ H2 _ h => ?_) (fun i x σ H2 H3 hi h y => ?_) (fun σ H2 h => ?_)⟩
    · obtain ⟨_, _, _, _, _, g, _⟩ := h
      exact g _ _ hra
    · obtain ⟨cs, x7, x8, x9, rfl, g1, g2, g3⟩ := h
      obtain ⟨T, xs, rfl, hT1, rfl, y, e1, rfl⟩ := y
      have hi : i < R.length := by rw [List.length_map, hbl] at hi; exact hi
      obtain ⟨b, hb1, hb2, hb3⟩ := hrow i hi
      rw [hb2] at e1
      cases e1
      have s3 := same_upd hT1 (o := .tup [.int (i : Nat), .ref b])
      refine ⟨T, _, rfl, SqT.of upd_same, rfl, _, _, rfl, _, _, rfl, rfl, ?_⟩
      have g1' := g1.trans s3
      have g2' := s3 _ _ g2
      have g3' := g3.tx (.of s3)
      generalize upd H2 T (.tup [.int (i : Nat), .ref b]) = H3 at s3 g1' g2' g3' ⊢
      have hb5 := g1' _ _ hb3
      have e5 : Array.size (Str.cps ⟨l.toArray⟩) = l.length := by simp
      refine ⟨_, rfl, .inl ⟨rfl, _, SqL.of g2'⟩, _, rfl, _, rfl, fun D hD => lc_map (n := Array.size (Str.cps ⟨l.toArray⟩)) walk_str (fun j => nv (if l.getD j 0 ∈ pr then nx R i (pr.idxOf (l.getD j 0)) else i)) hD (by rw [e5]; exact Nat.lt_of_le_of_lt hl (by decide)) (fun _ _ => trivial) (fun j x H4 H5 hj s y Pn k => ?_) (fun H4 s hDl => ?_)⟩
      · obtain ⟨rfl, c, e1, rfl⟩ := y
        have e1 : l[j]? = some c := by simpa using e1
        rw [getD_of e1] at k
        refine ⟨rfl, yes ⟨_, rfl, _, rfl, c, _, rfl, rfl, _, rfl, ?_⟩⟩
        show if decide (c ∈ pr) = true then _ else _
        refine ite2 (fun h => ?_) (fun h => ?_)
        · have hc : c ∈ pr := by simpa using h
          rw [if_pos hc] at k
          obtain ⟨rest, ho⟩ := occ_idx hpn (idx_at hc).2
          exact ⟨_, rfl, _, rfl, ⟨_, rfl⟩, _, rfl, _, _, _, rest, rfl, rfl, ho, b, _, _, _, rfl, rfl, SqT.of (s _ _ hb5), atI_nat (row_at au.tab hi (idx_at hc).1), k _ (Same.refl _)⟩
        · have hc : c ∉ pr := by simpa using h
          rw [if_neg hc] at k
          exact ⟨_, rfl, k _ (Same.refl _)⟩
      · rw [e5, map_getD l 0 (fun c => nv (if c ∈ pr then nx R i (pr.idxOf c) else i))] at hDl
        refine .inl ⟨D, _, rfl, SqL.of hDl, fun tp htp => ?_⟩
        have s4 := s.trans (same_upd htp (o := .tup (l.map fun c => nv (if c ∈ pr then nx R i (pr.idxOf c) else i))))
        have hf4 := s4 _ _ g2'
        refine ⟨fp, _, _, rfl, rfl, hf4, by rw [List.length_map, g3'.1, List.length_map, List.length_range]; exact Nat.lt_of_le_of_lt (m := 100) (by omega) (by decide), ?_⟩
        have eb : cs.map V.ref ++ [V.ref tp] = (cs ++ [tp]).map V.ref := by rw [List.map_append]; rfl
        rw [eb]
        refine ⟨cs ++ [tp], _, _, _, rfl, same_at (g1'.trans s4) hfp, upd_same, ?_⟩
        rw [show (List.range (i + 1)).map (rowW l pr R) = (List.range i).map (rowW l pr R) ++ [rowW l pr R i] from by rw [List.range_succ, List.map_append]; rfl]
        refine ((g3'.tx (.of s4)).snoc (r := rowW l pr R i) ?_).tx (Tx.upd hf4)
        rw [upd_same]
        unfold rowW
        rw [List.map_map]
        rfl
    · obtain ⟨cs, x7, x8, x9, rfl, g1, g2, g3⟩ := h
      rw [List.length_map, hbl] at g3
      refine ⟨_, rfl, .inl ⟨fp, _, rfl, SqL.of g2, fun tt htt => ⟨_, rfl, _, rfl, by show 3 ≤ sizeLine; decide, fun rr hrr => ?_⟩⟩⟩
      have sR := same_upd htt (o := .tup (cs.map V.ref))
      have sS := same_upd hrr (o := .tup [.ref tt, .ref aa, nv s0])
      have gg := g1.trans (sR.trans sS)
      have g4 := (g3.tx (.of sR)).tx (.of sS)
      refine q _ rr (tabW l pr R) A0 s0 (s1.trans gg) ⟨tt, aa, upd_same, ⟨cs, sS _ _ upd_same, g4.1, g4.2⟩, gg _ _ haa⟩ ⟨tabW_tab au.tab, by rw [tabW_len]; exact au.h0, by rw [tabW_len]; exact au.le, fun x hx => by rw [tabW_len]; exact au.acc x hx, au.asc, au.few⟩ (by rw [tabW_len]; omega) fun a ha hn => tabW_idle ha hn
def spCounting : Sp := fun vs H Q _ => ∃ (d : Addr) (l : List Nat), vs = [.ref d, tx l] ∧ H d = some (DiceO d) ∧ l.length ≤ 10 ∧
  ∀ H' t R A0 s0, Same H H' → Drawn H' t R A0 s0 → Aut l R A0 s0 → R.length ≤ 5 → (∃ st : Nat → Nat, ∀ s a, s < R.length → a < l.length → nx R s a = (s + st a) % R.length) → Q (.ref t) H'
theorem scLawCountingRows : FnScope ["_law_dice_here", "_law_letters_here", "_law_many", "_law_steps", "_law_letter", "_law_rows", "_law_state", "_law_step"] ["_law_dice_here", "_law_letters_here"] (defScope sLawCountingRows) := ⟨rfl, rfl, rfl, by decide +kernel, rfl, by decide +kernel, by decide +kernel⟩
theorem c_law_counting_rows (B : En P w K mg base) : Cal P w K mg base 3 "_law_counting_rows" (spCounting) [] := by
  refine cal_mk B.f_law_counting_rows scLawCountingRows (fun _ _ _ _ _ _ us hl => match us, hl with | [_, _], _ => rfl) (fun vs H Q E h => ?_) fun f cdv A outer s H vs Q E hr h => ?_
  · obtain ⟨d, l, rfl, _⟩ := h
    rfl
  · obtain ⟨d, l, rfl, hd, hl, q⟩ := h
    have hu := hu_of hr
    have hu64 := hr.units
    refine ⟨_, (pss_cons (ps_set (i := 2) scLawCountingRows.nd rfl (Or.inr rfl) (pe_op op_add pe_int (pe_c (c_law_roll B) hr (by decide) (by rfl) (pa_cons (pv 0) (pa_cons pe_int pa_nil)))))
    (pss_cons (ps_setLc (i := 3) (own := [("_law_letter", 4)]) (g := gName 4) (tt := tYes) rfl scLawCountingRows.nd rfl rfl (sw_true rfl rfl rfl (by decide +kernel)) (pi_str (pv 1)) (blkOk_by (own := [("_law_letter", 4)]) (N := ["_law_dice_here", "_law_letters_here", "_law_many", "_law_steps", "_law_letter", "_law_rows", "_law_state", "_law_step"]) (sc := defScope sLawCountingRows) (by decide +kernel)) (fun _ _ _ _ _ => (pg_name (i := 4) scLawCountingRows.nd rfl (Or.inl rfl))) (fun _ _ _ _ _ => pts_nil) (fun _ _ _ _ _ => (pe_c (c_law_roll B) hr (by decide) (by rfl) (pa_cons (pv 0) (pa_cons (pv 2) pa_nil)))))
    (pss_cons (ps_set (i := 5) scLawCountingRows.nd rfl (Or.inl rfl) (pe_lst pa_nil))
    (pss_cons (ps_for PassesOwn.never rfl (pi_range1 rfl B.range_ (pa_cons (pv 2) pa_nil)) (pg_name (i := 6) scLawCountingRows.nd rfl (Or.inr rfl)) (pss_one (ps_expr (pe_bm PySem.F.plainAttrs_list PySem.F.slot_list_append PySem.F.type_list_append mt_append (pv 5) (pa_cons (pe_tupleOfK K rfl (by rfl) B.tuple_ (pe_lc (own := [("_law_step", 7)]) (g := gName 7) (tt := tYes) rfl scLawCountingRows.nd (pi_listK K rfl (pv 3)) (blkOk_by (own := [("_law_step", 7)]) (N := ["_law_dice_here", "_law_letters_here", "_law_many", "_law_steps", "_law_letter", "_law_rows", "_law_state", "_law_step"]) (sc := defScope sLawCountingRows) (by decide +kernel)) (fun _ _ _ _ _ => (pg_name (i := 7) scLawCountingRows.nd rfl (Or.inl rfl))) (fun _ _ _ _ _ => pts_nil) (fun _ _ _ _ _ => (pe_op op_mod (pe_op op_add (pv 6) (pv 7)) (pv 2))))) pa_nil)))))
    (pss_one (ps_ret (pe_tup (pa_cons (pe_tupleOfK K rfl (by rfl) B.tuple_ (pv 5)) (pa_cons (pe_tupleOfK K rfl (by rfl) B.tuple_ (pe_c (c_law_some B) hr (by decide) (by rfl) (pa_cons (pv 0) (pa_cons (pe_listRg rfl (by rfl) B.list_ (prg_1 (by rfl) B.range_ (pv 2))) pa_nil)))) (pa_cons (pe_c (c_law_roll B) hr (by decide) (by rfl) (pa_cons (pv 0) (pa_cons (pv 2) pa_nil))) pa_nil)))))))))), ?_⟩
    refine ⟨_, rfl, d, 3, rfl, hd, by decide, by decide, fun r0 hr0 => ⟨_, _, rfl, rfl, ?_⟩⟩
    have en : ((2 : Int) + (r0 : Int)) = ((2 + r0 : Nat) : Int) := by omega
    dsimp only
    rw [en]
    generalize hn : 2 + r0 = n
    have hn1 : 0 < n := by omega
    have hnm : n ≤ 5 := by omega
    have e5 : Array.size (Str.cps ⟨l.toArray⟩) = l.length := by simp
    refine ⟨_, rfl, _, rfl, fun SD hSD => lc_rel (n := Array.size (Str.cps ⟨l.toArray⟩)) walk_str (fun i y H => ∃ r : Nat, r < n ∧ y = nv r) (fun i y H H' t h => h) hSD (by rw [e5]; exact Nat.lt_of_le_of_lt hl (by decide)) (fun _ _ => trivial) (fun i x H3 H4 hi s y Pn k => ?_) (fun H1 ys s1 hSl hyl hys => ?_)⟩
    · obtain ⟨rfl, c, e1, rfl⟩ := y
      exact ⟨rfl, yes ⟨_, rfl, _, rfl, d, n, rfl, s _ _ hd, hn1, by omega, fun r hr => k _ _ (Same.refl _) ⟨r, hr, rfl⟩⟩⟩
    rw [e5] at hyl
    obtain ⟨st, rfl, hstl, hstx⟩ := nvs_of hys
    have hstl2 : st.length = l.length := by rw [List.length_map] at hyl; exact hyl
    refine ⟨Nat.zero_le _, fun rp hrp0 => ?_⟩
    have s2 := same_upd hrp0 (o := .lst [])
    have rp0 : H rp = none := s1.free hrp0
    refine ⟨_, rfl, _, rfl, by omega, by omega, for_range (n := ((n : Nat) : Int).toNat) (fun i σ H2 => ∃ (bs : List Addr) (x4 x6 x7 : Option V), σ = [some (.ref d), some (tx l), some (nv n), some (.ref SD), x4, some (.ref rp), x6, x7] ∧ Same H1 H2 ∧ H2 rp = some (.lst (bs.map V.ref)) ∧ Rw H2 bs ((List.range i).map (rowC st n))) ⟨[], _, _, _, rfl, s2, upd_same, ⟨rfl, fun i b r e _ => by simp at e⟩⟩ (fun i σ H2 hi h => ?_) (fun σ HE h => ?_)⟩
    · obtain ⟨bs, x4, x6, x7, rfl, g1, g2, g3⟩ := h
      rw [Int.toNat_natCast] at hi
      have e0 : ((0 : Int) + (i : Nat)) = (i : Nat) := by omega
      rw [e0]
      have hS2 := g1 _ _ hSl
      refine ⟨_, rfl, .inl ⟨rfl, _, SqL.of g2⟩, _, rfl, SD, rfl, ⟨_, SqL.of hS2⟩, fun D hD => lc_map (n := (st.map nv).length) walk_list (fun j => nv ((i + st.getD j 0) % n)) hD (by rw [List.length_map]; exact Nat.lt_of_le_of_lt (m := 10) (by omega) (by decide)) (fun H3 s => SqL.of (s _ _ hS2)) (fun j x H4 H5 hj s y Pn k => ?_) (fun H4 s hDl => ?_)⟩
      · obtain ⟨rfl, e1⟩ := y
        rw [List.getElem?_map] at e1
        obtain ⟨c, e3, rfl⟩ := Option.map_eq_some_iff.mp e1
        rw [getD_of e3] at k
        refine ⟨rfl, yes ⟨_, rfl, _, rfl, _, _, rfl, rfl, _, rfl, _, _, rfl, rfl, by show (0 : Int) < (n : Int); omega, ?_⟩⟩
        have em : (((i : Nat) : Int) + ((c : Nat) : Int)) % ((n : Nat) : Int) = (((i + c) % n : Nat) : Int) := by
          rw [Int.natCast_emod, Int.natCast_add]
        show ∃ acc, _ ∧ _ ∧ Pn (upd _ _ (.lst (acc ++ [V.int ((((i : Nat) : Int) + ((c : Nat) : Int)) % ((n : Nat) : Int))])))
        rw [em]
        exact k _ (Same.refl _)
      · rw [List.length_map, map_getD st 0 (fun x => nv ((i + x) % n))] at hDl
        refine .inl ⟨D, _, rfl, SqL.of hDl, fun tp htp => ?_⟩
        have s4 := s.trans (same_upd htp (o := .tup (st.map fun x => nv ((i + x) % n))))
        have hf4 := s4 _ _ g2
        refine ⟨rp, _, _, rfl, rfl, hf4, by rw [List.length_map, g3.1, List.length_map, List.length_range]; exact Nat.lt_of_le_of_lt (m := 100) (by omega) (by decide), ?_⟩
        have eb : bs.map V.ref ++ [V.ref tp] = (bs ++ [tp]).map V.ref := by rw [List.map_append]; rfl
        rw [eb]
        refine ⟨bs ++ [tp], _, _, _, rfl, same_at (g1.trans s4) hrp0, upd_same, ?_⟩
        rw [show (List.range (i + 1)).map (rowC st n) = (List.range i).map (rowC st n) ++ [rowC st n i] from by rw [List.range_succ, List.map_append]; rfl]
        refine ((g3.tx (.of s4)).snoc (r := rowC st n i) ?_).tx (Tx.upd hf4)
        rw [upd_same]
        unfold rowC
        rw [List.map_map]
        rfl
    · obtain ⟨bs, x4, x6, x7, rfl, g1, hrp, hrw⟩ := h
      rw [Int.toNat_natCast] at hrw
      have sE := s1.trans g1
      refine ⟨_, rfl, ?_⟩
      refine .inl ⟨rp, _, rfl, SqL.of hrp, fun ra hra => ?_⟩
      have sR := same_upd hra (o := .tup (bs.map V.ref))
      have hraE : upd HE ra (.tup (bs.map V.ref)) ra = some (.tup (bs.map V.ref)) := upd_same
      have hrwE := hrw.tx (.of sR)
      have sE2 := sE.trans sR
      generalize upd HE ra (.tup (bs.map V.ref)) = HF at sR hraE hrwE sE2 ⊢
      refine ⟨_, rfl, _, rfl, _, rfl, RgOk.of_le (by omega) (by omega) (by omega) (by omega), fun gp hgp => ?_⟩
      rw [rgV_nv]
      have sG := same_upd hgp (o := .lst ((List.range n).map nv))
      refine ⟨d, gp, _, rfl, sG _ _ (sE2 _ _ hd), upd_same, by rw [List.length_map, List.length_range]; omega, fun HG sp ys sg sp0 hsp sub => ?_⟩
      obtain ⟨ms, hms, rfl⟩ := sub_nv sub
      refine .inl ⟨sp, _, rfl, SqL.of hsp, fun aa haa => ?_⟩
      have sH := (sG.trans sg).trans (same_upd haa (o := .tup (ms.map nv)))
      have haaE : upd HG aa (.tup (ms.map nv)) aa = some (.tup (ms.map nv)) := upd_same
      generalize upd HG aa (.tup (ms.map nv)) = HH at sH haaE ⊢
      refine ⟨_, rfl, _, rfl, d, n, rfl, (sE2.trans sH) _ _ hd, by omega, by omega, fun r hr => ⟨by show 3 ≤ sizeLine; decide, fun t ht => ?_⟩⟩
      have sI := same_upd ht (o := .tup [.ref ra, .ref aa, nv r])
      refine q _ t (tabC st n) ms r ((sE2.trans sH).trans sI) ⟨ra, aa, upd_same, ⟨bs, (sH.trans sI) _ _ hraE, hrwE.1, fun i b r e1 e2 => (sH.trans sI) _ _ (hrwE.2 i b r e1 e2)⟩, sI _ _ haaE⟩ ⟨by rw [← hstl2]; exact tabC_tab hn1, by rw [tabC_len]; omega, by rw [tabC_len]; omega, fun x hx => by rw [tabC_len]; exact List.mem_range.mp (hms.subset hx), asc_sub (List.pairwise_lt_range.sublist hms), ?_⟩ (by rw [tabC_len]; omega) ⟨fun a => st.getD a 0, fun s a hs ha => by rw [tabC_len] at hs ⊢; exact tabC_nx hs (by omega)⟩
      have := hms.length_le
      rw [List.length_range] at this
      omega
end
end Ww
end S_Wl9

section S_Wl10
set_option Elab.async false
set_option linter.all false
set_option maxRecDepth 100000
set_option maxHeartbeats 2000000
/-! The law's walks 10: is it open? -/
namespace Ww
open PySem PySem.Spec PyProof.Rows L2 WwR SlX
open C8 (Cal pe_c)
open MW (Rows suc nx Tab)
theorem tx3 (a b c : List Nat) : (⟨a.toArray⟩ ++ ⟨b.toArray⟩ ++ ⟨c.toArray⟩ : Str) = ⟨(a ++ b ++ c).toArray⟩ := by rw [tx_app, tx_app]
theorem inV_num {i : Int} {ps : List (List Nat)} : inV (.int i) (ps.map tx) = false := by
  unfold inV
  rw [List.any_eq_false]
  intro x hx
  obtain ⟨d, _, rfl⟩ := List.mem_map.mp hx
  exact Bool.false_ne_true
section
variable {P : Program} {w : World} {K : PySem.W.Frag} {mg : Str → Option Value} {base : Heap}

def spLawIsOpen (K : PySem.W.Frag) : Sp := fun vs H Q _ => ∃ (p t : Addr) (v : V) (l : List Nat) (cs : List (List Nat)) (R : Rows) (A0 : List Nat) (s0 : Nat) (r : Bool), vs = [tx l, .ref p, .ref t, v] ∧ H p = some (.tup (cs.map tx)) ∧ Drawn H t R A0 s0 ∧ WOk l cs ∧ Aut l R A0 s0 ∧ OpV K H l cs R A0 s0 v r ∧
  ∀ H', Same H H' → Q (.bl r) H'
theorem scLawIsOpen : FnScope ["_law_letters_here", "_law_conflicts_here", "_law_drawn", "_law_value", "_law_text_here", "_law_sign", "_law_rows", "_law_accepts", "_law_start", "_law_one", "_law_other"] ["_law_letters_here", "_law_conflicts_here", "_law_drawn", "_law_value"] (defScope sLawIsOpen) := ⟨rfl, rfl, rfl, by decide +kernel, rfl, by decide +kernel, by decide +kernel⟩
theorem c_law_is_open (B : En P w K mg base) : Cal P w K mg base 3 "_law_is_open" (spLawIsOpen K) [] := by
  refine cal_mk B.f_law_is_open scLawIsOpen (fun _ _ _ _ _ _ us hl => match us, hl with | [_, _, _, _], _ => rfl) (fun vs H Q E h => ?_) fun f cdv A outer s H vs Q E hr h => ?_
  · obtain ⟨p, t, v, l, cs, R, A0, s0, r, rfl, _⟩ := h
    rfl
  · obtain ⟨p, t, v, l, cs, R, A0, s0, r, rfl, hp, hdr, wok, au, hov, q⟩ := h
    have hu := hu_of hr
    have hu64 := hr.units
    refine ⟨_, (pss_cons (ps_if (PW.pt (pw_or (pt_not (pt_val (pe_callB (call_isiK K rfl) (by rfl) B.isinstance_ boot_isinstance (pa_cons (pv 3) (pa_cons (pe_bltn (v := .ty "tuple") (by rfl) B.tuple_ boot_tuple rfl) pa_nil))))) (pw_or (pt_cmpR op_ne (pe_callB (call_len_seqK K rfl) (by rfl) B.len_ boot_len (pa_cons (pv 3) pa_nil)) pe_int (nomark _)) (pw_or1 (pt_cmpR (op_notIn_seqK K rfl) (pe_ix (ix_tupK K rfl) (pv 3) pe_int (fun _ _ => rfl)) (pe_c (c_law_loose_pairs B) hr (by decide) (by rfl) (pa_cons (pv 0) (pa_cons (pv 1) pa_nil))) rfl))))) (pss_one (ps_ret pe_bl)) pss_nil)
    (pss_cons (ps_for PassesOwn.never rfl (pi_tupK K rfl (pe_tup (pa_cons (pe_ix (ix_tupK K rfl) (pv 3) pe_int (fun _ _ => rfl)) (pa_cons (pe_ix (ix_tupK K rfl) (pv 3) pe_int (fun _ _ => rfl)) pa_nil)))) (pg_name (i := 4) scLawIsOpen.nd rfl (Or.inl rfl)) (pss_one (ps_if (PW.pt (pw_or (pt_not (pt_val (pe_callB (call_isiK K rfl) (by rfl) B.isinstance_ boot_isinstance (pa_cons (pv 4) (pa_cons (pe_bltn (v := .ty "str") (by rfl) B.str_ boot_str rfl) pa_nil))))) (pw_or1 (pt_not (pt_val (pe_callB (cr_all rfl) (by rfl) B.all_ boot_all (pa_cons (pe_lc (own := [("_law_sign", 5)]) (g := gName 5) (tt := tYes) rfl scLawIsOpen.nd (pi_str (pv 4)) (blkOk_by (own := [("_law_sign", 5)]) (N := ["_law_letters_here", "_law_conflicts_here", "_law_drawn", "_law_value", "_law_text_here", "_law_sign", "_law_rows", "_law_accepts", "_law_start", "_law_one", "_law_other"]) (sc := defScope sLawIsOpen) (by decide +kernel)) (fun _ _ _ _ _ => (pg_name (i := 5) scLawIsOpen.nd rfl (Or.inl rfl))) (fun _ _ _ _ _ => pts_nil) (fun _ _ _ _ _ => (pe_cmpR op_in_sign (pv 5) (pv 0) rfl))) pa_nil))))))) (pss_one (ps_ret pe_bl)) pss_nil)))
    (pss_cons (ps_asg (pv 2) (pg_tup rfl (pgs_cons (pg_name (i := 6) scLawIsOpen.nd rfl (Or.inl rfl)) (pgs_cons (pg_name (i := 7) scLawIsOpen.nd rfl (Or.inl rfl)) (pgs_cons (pg_name (i := 8) scLawIsOpen.nd rfl (Or.inl rfl)) pgs_nil)))))
    (pss_cons (ps_set (i := 9) scLawIsOpen.nd rfl (Or.inl rfl) (pe_c (c_law_read_state B) hr (by decide) (by rfl) (pa_cons (pv 0) (pa_cons (pv 6) (pa_cons (pv 8) (pa_cons (pe_op op_add_str (pe_op op_add_str (pe_ix (ix_tupK K rfl) (pv 3) pe_int (fun _ _ => rfl)) (pe_ix (ix_tupK K rfl) (pv 3) pe_int (fun _ _ => rfl))) (pe_ix (ix_tupK K rfl) (pv 3) pe_int (fun _ _ => rfl))) pa_nil))))))
    (pss_cons (ps_set (i := 10) scLawIsOpen.nd rfl (Or.inl rfl) (pe_c (c_law_read_state B) hr (by decide) (by rfl) (pa_cons (pv 0) (pa_cons (pv 6) (pa_cons (pv 8) (pa_cons (pe_op op_add_str (pe_op op_add_str (pe_ix (ix_tupK K rfl) (pv 3) pe_int (fun _ _ => rfl)) (pe_revP (pe_ix (ix_tupK K rfl) (pv 3) pe_int (fun _ _ => rfl)))) (pe_ix (ix_tupK K rfl) (pv 3) pe_int (fun _ _ => rfl))) pa_nil))))))
    (pss_one (ps_ret (pe_cmpR op_ne (pe_cmpR (op_in_seqK K rfl) (pv 9) (pv 7) rfl) (pe_cmpR (op_in_seqK K rfl) (pv 10) (pv 7) rfl) (nomark _))))))))), ?_⟩
    cases hov with
    | non =>
      exact ⟨_, rfl, _, _, _, _, false, rfl, .ty _, .base .non, kit_ty (by decide +kernel), false, rfl, iteT (iteT (q _ (Same.refl _)))⟩
    | lst hv =>
      exact ⟨_, rfl, _, _, _, _, false, rfl, .ty _, .base (.lst hv), kit_ty (by decide +kernel), false, rfl, iteT (iteT (q _ (Same.refl _)))⟩
    | @size vp xs hv hne =>
      refine ⟨_, rfl, _, _, _, _, true, rfl, .ty _, .base (.tup hv), kit_ty (by decide +kernel), true, rfl, iteF ?_⟩
      have : ¬ (V.int (xs.length : Nat) = V.int 3) := fun z => by injection z with z; exact hne (by omega)
      refine ⟨_, rfl, vp, _, rfl, .inr (SqT.of hv), rfl, _, rfl, ?_⟩
      rw [decide_eq_false this]
      exact iteT (iteT (q _ (Same.refl _)))
    | @num vp ta1 tb1 i hv ha hb =>
      refine ⟨_, rfl, _, _, _, _, true, rfl, .ty _, .base (.tup hv), kit_ty (by decide +kernel), true, rfl, iteF ?_⟩
      refine ⟨_, rfl, vp, _, rfl, .inr (SqT.of hv), rfl, _, rfl, ite2 (fun hne => absurd hne (by simp)) (fun _ => ?_)⟩
      refine ⟨_, rfl, vp, _, 1, _, rfl, rfl, SqT.of hv, rfl, _, rfl, _, rfl, p, l, cs, rfl, hp, wok.len, fun H1 lo s1 lo0 hlo => ?_⟩
      refine ⟨lo, _, rfl, .inl (SqL.of hlo), rfl, flat_tx _, _, rfl, ?_⟩
      show if (!inV (V.int i) (((lps l cs).map (pt l)).map tx)) = true then _ else _
      rw [inV_num]
      exact iteT (q _ s1)
    | @txt vp ta1 tq tb1 hv ha hb =>
      refine ⟨_, rfl, _, _, _, _, true, rfl, .ty _, .base (.tup hv), kit_ty (by decide +kernel), true, rfl, iteF ?_⟩
      refine ⟨_, rfl, vp, _, rfl, .inr (SqT.of hv), rfl, _, rfl, ite2 (fun hne => absurd hne (by simp)) (fun _ => ?_)⟩
      refine ⟨_, rfl, vp, _, 1, _, rfl, rfl, SqT.of hv, rfl, _, rfl, _, rfl, p, l, cs, rfl, hp, wok.len, fun H1 lo s1 lo0 hlo => ?_⟩
      refine ⟨lo, _, rfl, .inl (SqL.of hlo), rfl, flat_tx _, _, rfl, ?_⟩
      show if (!inV (tx tq) (((lps l cs).map (pt l)).map tx)) = true then _ else _
      rw [inV_tx]
      by_cases hin : tq ∈ (lps l cs).map (pt l)
      case neg =>
        have := q H1 s1
        unfold opn at this
        rw [decide_eq_false hin, Bool.false_and, Bool.and_false, Bool.and_false] at this
        rw [decide_eq_false hin]
        exact iteT this
      rw [decide_eq_true hin]
      refine iteF ?_
      have hq := q
      unfold opn at hq
      rw [decide_eq_true hin, Bool.true_and] at hq
      obtain ⟨pp, hpp, rfl⟩ := List.mem_map.mp hin
      have hp2 := lps_lt hpp
      have hl1 : l.getD pp.1 0 ∈ l := MW.getD_mem (by omega)
      have hl2 : l.getD pp.2 0 ∈ l := MW.getD_mem (by omega)
      have hv1 := s1 _ _ hv
      refine ⟨_, rfl, vp, _, 0, _, rfl, rfl, SqT.of hv1, rfl, _, rfl, vp, _, 2, _, rfl, rfl, SqT.of hv1, rfl, by show 2 ≤ sizeLine; decide, fun tp htp => ⟨tp, rfl, ⟨_, SqT.of upd_same⟩, ?_⟩⟩
      have s2 := s1.trans (same_upd htp (o := .tup [tx ta1, tx tb1]))
      have htp2 : upd H1 tp (.tup [tx ta1, tx tb1]) tp = some (.tup [tx ta1, tx tb1]) := upd_same
      generalize upd H1 tp (.tup [tx ta1, tx tb1]) = H2 at s2 htp2 ⊢
      refine for_tup (xs := [tx ta1, tx tb1]) (fun j σ H3 => ∃ (x4 x5 x6 x7 x8 x9 x10 : Option V), σ = [some (tx l), some (.ref p), some (.ref t), some (.ref vp), x4, x5, x6, x7, x8, x9, x10] ∧ Same H2 H3 ∧ ∀ i, i < j → ∀ u, [ta1, tb1][i]? = some u → (u.all fun c => decide (c ∈ l)) = true) ⟨_, _, _, _, _, _, _, rfl, Same.refl _, fun i hi => absurd hi (Nat.not_lt_zero _)⟩ (fun j σ H3 _ h => ?_) (fun j x σ H3 hx h => ?_) (fun σ H3 h => ?_)
      · obtain ⟨_, _, _, _, _, _, _, _, g, _⟩ := h
        exact SqT.of (g _ _ htp2)
      · obtain ⟨y4, y5, y6, y7, y8, y9, y10, rfl, g1, g2⟩ := h
        have hj : j < 2 := (List.getElem?_eq_some_iff.mp hx).1
        obtain ⟨u, hu, hux, hul⟩ : ∃ u, [ta1, tb1][j]? = some u ∧ x = tx u ∧ u.length ≤ 300 := by
          rcases (show j = 0 ∨ j = 1 by omega) with rfl | rfl
          · exact ⟨ta1, rfl, (Option.some.inj hx).symm, ha⟩
          · exact ⟨tb1, rfl, (Option.some.inj hx).symm, hb⟩
        subst hux
        have e5 : Array.size (Str.cps ⟨u.toArray⟩) = u.length := by simp
        refine ⟨_, rfl, _, _, _, _, true, rfl, .ty _, .base (.str _), kit_ty (by decide +kernel), true, rfl, iteF ?_⟩
        refine ⟨_, rfl, _, rfl, fun D hD => lc_map (n := Array.size (Str.cps ⟨u.toArray⟩)) walk_str (fun i => .bl (decide (u.getD i 0 ∈ l))) hD (Nat.lt_of_le_of_lt (m := 300) (by rw [e5]; exact hul) (by decide)) (fun _ _ => trivial) (fun i x H4 H5 hi s y Pn k => ?_) (fun H4 s hDl => ?_)⟩
        · obtain ⟨rfl, c, e1, rfl⟩ := y
          have e1 : u[i]? = some c := by simpa using e1
          rw [getD_of e1] at k
          refine ⟨rfl, yes ⟨_, rfl, _, rfl, c, _, rfl, rfl, ?_⟩⟩
          have := k _ (Same.refl _)
          simpa using this
        · rw [e5, map_getD u 0 (fun c => V.bl (decide (c ∈ l)))] at hDl
          have hDl : H4 D = some (.lst ((u.map fun c => decide (c ∈ l)).map V.bl)) := by rw [hDl, List.map_map]; rfl
          refine ⟨_, _, rfl, SqL.of hDl, _, rfl, ?_⟩
          rw [List.all_map]
          show if (!(u.all fun c => decide (c ∈ l))) = true then _ else _
          by_cases hall : (u.all fun c => decide (c ∈ l)) = true
          · rw [hall]
            refine iteF ⟨_, _, _, _, _, _, _, rfl, g1.trans s, fun i hi u' hu' => ?_⟩
            by_cases hij : i < j
            · exact g2 i hij u' hu'
            · have : i = j := by omega
              subst this
              rw [hu] at hu'
              cases hu'
              exact hall
          · have hf : (u.all fun c => decide (c ∈ l)) = false := by simpa using hall
            rw [hf]
            have := hq H4 ((s2.trans g1).trans s)
            refine iteT ?_
            rcases (show j = 0 ∨ j = 1 by omega) with rfl | rfl
            · cases (Option.some.inj hu)
              rw [hf, Bool.false_and] at this
              exact this
            · cases (Option.some.inj hu)
              rw [hf, Bool.false_and, Bool.and_false] at this
              exact this
      · obtain ⟨y4, y5, y6, y7, y8, y9, y10, rfl, g1, g2⟩ := h
        have hal : (ta1.all fun c => decide (c ∈ l)) = true := g2 0 (by show 0 < 2; decide) ta1 rfl
        have hbl : (tb1.all fun c => decide (c ∈ l)) = true := g2 1 (by show 1 < 2; decide) tb1 rfl
        rw [hal, hbl, Bool.true_and, Bool.true_and] at hq
        have hal' : ∀ c ∈ ta1, c ∈ l := fun c hc => by simpa using List.all_eq_true.mp hal c hc
        have hbl' : ∀ c ∈ tb1, c ∈ l := fun c hc => by simpa using List.all_eq_true.mp hbl c hc
        have s3 := s2.trans g1
        obtain ⟨ra, aa, hd1, hd2, hd3⟩ := hdr.same s3
        have hv3 := s3 _ _ hv
        have hpin : ∀ c ∈ pt l pp, c ∈ l := fun c hc => by
          rcases (by simpa [pt] using hc : c = l.getD pp.1 0 ∨ c = l.getD pp.2 0) with z | z <;> rw [z] <;> assumption
        have hpin2 : ∀ c ∈ [l.getD pp.2 0, l.getD pp.1 0], c ∈ l := fun c hc => by
          rcases (by simpa using hc : c = l.getD pp.2 0 ∨ c = l.getD pp.1 0) with z | z <;> rw [z] <;> assumption
        have hcat : ∀ u : List Nat, (∀ c ∈ u, c ∈ l) → ∀ c ∈ ta1 ++ u ++ tb1, c ∈ l := fun u hu c hc => by
          rcases List.mem_append.mp hc with hc | hc
          · rcases List.mem_append.mp hc with hc | hc
            · exact hal' c hc
            · exact hu c hc
          · exact hbl' c hc
        have hz1 : ∀ u : List Nat, u.length = 2 → Str.length ⟨ta1.toArray⟩ + Str.length ⟨u.toArray⟩ ≤ sizeLine := fun u hu => by
          show ta1.toArray.size + u.toArray.size ≤ sizeLine
          rw [List.size_toArray, List.size_toArray]
          exact Nat.le_trans (m := 302) (by omega) (by decide)
        have hz2 : ∀ u : List Nat, u.length = 2 → Str.length (⟨ta1.toArray⟩ ++ ⟨u.toArray⟩) + Str.length ⟨tb1.toArray⟩ ≤ sizeLine := fun u hu => by
          show (ta1.toArray ++ u.toArray).size + tb1.toArray.size ≤ sizeLine
          rw [Array.size_append, List.size_toArray, List.size_toArray, List.size_toArray]
          exact Nat.le_trans (m := 602) (by omega) (by decide)
        refine ⟨_, rfl, t, _, rfl, SqT.of hd1, rfl, _, _, rfl, _, _, rfl, _, _, rfl, rfl, ?_⟩
        refine ⟨_, rfl, _, rfl, _, rfl, _, rfl, vp, _, 0, _, rfl, rfl, SqT.of hv3, rfl, _, rfl, vp, _, 1, _, rfl, rfl, SqT.of hv3, rfl, _, _, rfl, rfl, hz1 (pt l pp) rfl, _, rfl, vp, _, 2, _, rfl, rfl, SqT.of hv3, rfl, _, _, rfl, rfl, hz2 (pt l pp) rfl, ra, l, R, s0, ta1 ++ pt l pp ++ tb1, congrArg (fun z : Str => ([tx l, .ref ra, nv s0, .str z] : List V)) (tx3 ta1 (pt l pp) tb1), hd2, au.tab, au.h0, wok.nd, hcat _ hpin, ?_⟩
        refine ⟨_, rfl, _, rfl, _, rfl, _, rfl, vp, _, 0, _, rfl, rfl, SqT.of hv3, rfl, _, rfl, vp, _, 1, _, rfl, rfl, SqT.of hv3, rfl, l.getD pp.1 0, l.getD pp.2 0, rfl, _, _, rfl, rfl, hz1 [l.getD pp.2 0, l.getD pp.1 0] rfl, _, rfl, vp, _, 2, _, rfl, rfl, SqT.of hv3, rfl, _, _, rfl, rfl, hz2 [l.getD pp.2 0, l.getD pp.1 0] rfl, ra, l, R, s0, ta1 ++ [l.getD pp.2 0, l.getD pp.1 0] ++ tb1, congrArg (fun z : Str => ([tx l, .ref ra, nv s0, .str z] : List V)) (tx3 ta1 [l.getD pp.2 0, l.getD pp.1 0] tb1), hd2, au.tab, au.h0, wok.nd, hcat _ hpin2, ?_⟩
        refine ⟨_, rfl, _, rfl, aa, _, rfl, .inr (SqT.of hd3), rfl, flat_nv _, _, rfl, _, rfl, aa, _, rfl, .inr (SqT.of hd3), rfl, flat_nv _, rfl, ?_⟩
        have := hq H3 s3
        show Q (.bl (!decide (V.bl (inV (nv _) (A0.map nv)) = V.bl (inV (nv _) (A0.map nv))))) H3
        rw [inV_nv, inV_nv, dec_bl2]
        have er : (pt l pp).reverse = [l.getD pp.2 0, l.getD pp.1 0] := rfl
        rw [er] at this
        generalize decide (rd l R s0 (ta1 ++ pt l pp ++ tb1) ∈ A0) = b1 at this ⊢
        generalize decide (rd l R s0 (ta1 ++ [l.getD pp.2 0, l.getD pp.1 0] ++ tb1) ∈ A0) = b2 at this ⊢
        cases b1 <;> cases b2 <;> exact this
end
end Ww
end S_Wl10

section S_Wl11
set_option Elab.async false
set_option linter.all false
set_option maxRecDepth 100000
set_option maxHeartbeats 2000000
/-! The law's walks 11: the values asked of. -/
namespace Ww
open PySem PySem.Spec PyProof.Rows L2 WwR SlX
open C8 (Cal pe_c)
open MW (Rows suc nx Tab)
/-- what the values look like -/
inductive Shp (H : Hp) : V → Prop
  | non : Shp H .non
  | lst {p : Addr} {xs : List V} (h : H p = some (.lst xs)) : Shp H (.ref p)
  | size {p : Addr} {xs : List V} (h : H p = some (.tup xs)) (k : xs.length ≠ 3) : Shp H (.ref p)
  | num {p : Addr} {a b : Str} {i : Int} (h : H p = some (.tup [.str a, .int i, .str b])) (ha : a.length ≤ 300) (hb : b.length ≤ 300) : Shp H (.ref p)
  | txt {p : Addr} {a q b : Str} (h : H p = some (.tup [.str a, .str q, .str b])) (ha : a.length ≤ 300) (hb : b.length ≤ 300) : Shp H (.ref p)
theorem Shp.same {H H' : Hp} {v : V} (s : Same H H') (h : Shp H v) : Shp H' v := by
  cases h with
  | non => exact .non
  | lst h => exact .lst (s _ _ h)
  | size h k => exact .size (s _ _ h) k
  | num h ha hb => exact .num (s _ _ h) ha hb
  | txt h ha hb => exact .txt (s _ _ h) ha hb
theorem Shp.upl {H : Hp} {v : V} {p : Addr} {xs ys : List V} (e : H p = some (.lst xs)) (h : Shp H v) : Shp (upd H p (.lst ys)) v := by
  have t := Tx.upd (o := .lst ys) e
  cases h with
  | non => exact .non
  | @lst q zs h =>
    by_cases z : q = p
    · rw [z]; exact .lst upd_same
    · exact .lst (by rw [upd_ne z]; exact h)
  | size h k => exact .size (t _ _ h) k
  | num h ha hb => exact .num (t _ _ h) ha hb
  | txt h ha hb => exact .txt (t _ _ h) ha hb
theorem str_len (z : Str) : z.cps.toList.length = z.length := by simp [Str.length]
theorem Shp.op {K : PySem.W.Frag} {H : Hp} {v : V} (h : Shp H v) (l : List Nat) (cs : List (List Nat)) (R : Rows) (A0 : List Nat) (s0 : Nat) : ∃ r, OpV K H l cs R A0 s0 v r := by
  cases h with
  | non => exact ⟨_, .non⟩
  | lst h => exact ⟨_, .lst h⟩
  | size h k => exact ⟨_, .size h k⟩
  | @num p a b i h ha hb =>
    rw [str_eta a, str_eta b] at h
    exact ⟨_, .num h (by rw [str_len]; exact ha) (by rw [str_len]; exact hb)⟩
  | @txt p a q b h ha hb =>
    rw [str_eta a, str_eta q, str_eta b] at h
    exact ⟨_, .txt h (by rw [str_len]; exact ha) (by rw [str_len]; exact hb)⟩
theorem last_at : ∀ l : List Nat, 2 ≤ l.length → l.length ≤ 3 → (∃ c, atI l (-1) = some c) ∧ ∃ c, atI l 0 = some c
  | [], h, _ => absurd h (by decide)
  | [_], h, _ => absurd h (by show ¬ 2 ≤ 1; decide)
  | [a, b], _, _ => ⟨⟨b, rfl⟩, ⟨a, rfl⟩⟩
  | [a, b, c], _, _ => ⟨⟨c, rfl⟩, ⟨a, rfl⟩⟩
  | _ :: _ :: _ :: _ :: _, _, h => by simp at h
/-- all of a list's values -/
def Shs (H : Hp) (ys : List V) : Prop := ∀ y ∈ ys, Shp H y
theorem Shs.same {H H' : Hp} {ys : List V} (s : Same H H') (h : Shs H ys) : Shs H' ys := fun y hy => (h y hy).same s
theorem Shs.upl {H : Hp} {ws : List V} {p : Addr} {xs ys : List V} (e : H p = some (.lst xs)) (h : Shs H ws) : Shs (upd H p (.lst ys)) ws := fun y hy => (h y hy).upl e
theorem Shs.app {H : Hp} {ys zs : List V} (h : Shs H ys) (h2 : Shs H zs) : Shs H (ys ++ zs) := fun y hy => (List.mem_append.mp hy).elim (h y) (h2 y)
theorem Shs.nil {H : Hp} : Shs H [] := fun y hy => by cases hy
theorem Shs.cons {H : Hp} {y : V} {ys : List V} (h : Shp H y) (h2 : Shs H ys) : Shs H (y :: ys) := fun z hz => (List.mem_cons.mp hz).elim (fun e => e ▸ h) (h2 z)
section
variable {P : Program} {w : World} {K : PySem.W.Frag} {mg : Str → Option Value} {base : Heap}

def spValues : Sp := fun vs H Q _ => ∃ (d p : Addr) (l : List Nat) (v : V) (r : Option MW.Place), vs = [.ref d, tx l, .ref p, v] ∧ H d = some (DiceO d) ∧ 2 ≤ l.length ∧ l.length ≤ 3 ∧ PlaceV H l v r ∧
  (∀ t pp q, r = some (t, pp, q) → t.length ≤ 200 ∧ ∃ t2, q = some t2 ∧ t2.length ≤ 200) ∧
  ∀ H' q ys, Same H H' → H' q = some (.lst ys) → Shs H' ys → ys.length ≤ 1000 → Q (.ref q) H'
theorem prs_ne {l : List Nat} (h : 2 ≤ l.length) : prs l ≠ [] := fun z => by
  have : ((0, 1) : Nat × Nat) ∈ ixp l.length := ixp_of (by decide) (by omega)
  have h2 : pt l (0, 1) ∈ prs l := List.mem_map.mpr ⟨_, this, rfl⟩
  rw [z] at h2
  cases h2
theorem cut_len (l : List Nat) (o1 o2 : Option Int) : (cutS ⟨l.toArray⟩ o1 o2).length ≤ l.length := by
  unfold cutS
  show (List.toArray _).size ≤ _
  rw [List.size_toArray, List.length_take, List.length_drop]
  have : (⟨l.toArray⟩ : Str).cps.toList.length = l.length := by simp
  omega
theorem scLawValues : FnScope ["_law_dice_here", "_law_letters_here", "_law_conflicts_here", "_law_place", "_law_found", "_law_turn", "_law_pair"] ["_law_dice_here", "_law_letters_here", "_law_conflicts_here", "_law_place"] (defScope sLawValues) := ⟨rfl, rfl, rfl, by decide +kernel, rfl, by decide +kernel, by decide +kernel⟩
theorem c_law_values (B : En P w K mg base) : Cal P w K mg base 4 "_law_values" (spValues) [] := by
  refine cal_mk B.f_law_values scLawValues (fun _ _ _ _ _ _ us hl => match us, hl with | [_, _, _, _], _ => rfl) (fun vs H Q E h => ?_) fun f cdv A outer s H vs Q E hr h => ?_
  · obtain ⟨d, p, l, v, r, rfl, _⟩ := h
    rfl
  · obtain ⟨d, p, l, v, r, rfl, hd, hl2, hl3, hpv, hplc, q⟩ := h
    have hu := hu_of hr
    have hu64 := hr.units
    refine ⟨_, (pss_cons (ps_set (i := 4) scLawValues.nd rfl (Or.inl rfl) (pe_lst (pa_cons pe_non (pa_cons (pe_tup pa_nil) (pa_cons (pe_tup (pa_cons pe_str (pa_cons pe_str (pa_cons pe_str pa_nil)))) (pa_cons (pe_tup (pa_cons pe_str (pa_cons (pe_slice sl_str (pv 1) po_none (po_some pe_int)) (pa_cons pe_str pa_nil)))) (pa_cons (pe_lst (pa_cons pe_str (pa_cons (pe_slice sl_str (pv 1) po_none (po_some pe_int)) (pa_cons pe_str pa_nil)))) (pa_cons (pe_tup (pa_cons pe_str (pa_cons (pe_slice sl_str (pv 1) po_none (po_some pe_int)) pa_nil))) (pa_cons (pe_tup (pa_cons pe_str (pa_cons pe_int (pa_cons pe_str pa_nil)))) pa_nil)))))))))
    (pss_cons (ps_for PassesOwn.never rfl (pi_range1 rfl B.range_ (pa_cons pe_int pa_nil)) (pg_name (i := 5) scLawValues.nd rfl (Or.inl rfl)) (pss_cons (ps_set (i := 6) scLawValues.nd rfl (Or.inl rfl) (pe_c (c_law_pickL B) hr (by decide) (by rfl) (pa_cons (pv 0) (pa_cons (pe_c (c_law_pairs B) hr (by decide) (by rfl) (pa_cons (pv 1) pa_nil)) pa_nil))))
    (pss_one (ps_expr (pe_bm PySem.F.plainAttrs_list PySem.F.slot_list_append PySem.F.type_list_append mt_append (pv 4) (pa_cons (pe_tup (pa_cons (pe_c (c_law_text B) hr (by decide) (by rfl) (pa_cons (pv 0) (pa_cons (pv 1) (pa_cons pe_int pa_nil)))) (pa_cons (pv 6) (pa_cons (pe_c (c_law_text B) hr (by decide) (by rfl) (pa_cons (pv 0) (pa_cons (pv 1) (pa_cons pe_int pa_nil)))) pa_nil)))) pa_nil))))))
    (pss_cons (ps_if (pt_cmp (pc_notN (pv 3))) (pss_cons (ps_set (i := 4) scLawValues.nd rfl (Or.inl rfl) (pe_op op_cat (pv 4) (pe_lst (pa_cons (pv 3) (pa_cons (pe_tup (pa_cons (pe_ix (ix_tupK K rfl) (pv 3) pe_int (fun _ _ => rfl)) (pa_cons (pe_revP (pe_ix (ix_tupK K rfl) (pv 3) pe_int (fun _ _ => rfl))) (pa_cons (pe_ix (ix_tupK K rfl) (pv 3) pe_int (fun _ _ => rfl)) pa_nil)))) (pa_cons (pe_tup (pa_cons (pe_ix (ix_tupK K rfl) (pv 3) pe_int (fun _ _ => rfl)) (pa_cons (pe_ix (ix_tupK K rfl) (pv 3) pe_int (fun _ _ => rfl)) (pa_cons (pe_op op_add_str (pe_ix (ix_tupK K rfl) (pv 3) pe_int (fun _ _ => rfl)) pe_str) pa_nil)))) (pa_cons (pe_callTy call_list_of (by rfl) B.list_ boot_list (pa_cons (pv 3) pa_nil)) pa_nil)))))))
    (pss_one (ps_set (i := 4) scLawValues.nd rfl (Or.inl rfl) (pe_op op_cat (pv 4) (pe_lst (pa_cons (pe_tup (pa_cons (pe_op op_add_str (pe_ix ix_str (pv 1) pe_int (fun _ _ => rfl)) (pe_ix (ix_tupK K rfl) (pv 3) pe_int (fun _ _ => rfl))) (pa_cons (pe_ix (ix_tupK K rfl) (pv 3) pe_int (fun _ _ => rfl)) (pa_cons (pe_ix (ix_tupK K rfl) (pv 3) pe_int (fun _ _ => rfl)) pa_nil)))) (pa_cons (pe_tup (pa_cons (pe_ix (ix_tupK K rfl) (pv 3) pe_int (fun _ _ => rfl)) (pa_cons (pe_ix (ix_tupK K rfl) (pv 3) pe_int (fun _ _ => rfl)) (pa_cons (pe_op op_add_str (pe_ix (ix_tupK K rfl) (pv 3) pe_int (fun _ _ => rfl)) (pe_ix ix_str (pv 1) (pe_un un_neg pe_int) (fun _ _ => rfl))) pa_nil)))) pa_nil))))))) pss_nil)
    (pss_one (ps_ret (pv 4)))))), ?_⟩
    have hlz : Str.length ⟨l.toArray⟩ ≤ sizeLine := by show l.toArray.size ≤ sizeLine; rw [List.size_toArray]; exact Nat.le_trans (m := 3) hl3 (by decide)
    have t3 : ∀ (x y z : V), ([x, y, z] : List V).length ≤ sizeLine := fun _ _ _ => by show 3 ≤ sizeLine; decide
    have ne : l ≠ [] := fun z => by rw [z] at hl2; simp at hl2
    refine ⟨Nat.zero_le _, fun p1 hp1 => ⟨t3 _ _ _, fun p2 hp2 => ⟨_, rfl, _, rfl, _, rfl, hlz, t3 _ _ _, fun p3 hp3 => ⟨_, rfl, _, rfl, _, rfl, hlz, t3 _ _ _, fun p4 hp4 => ⟨_, rfl, _, rfl, _, rfl, hlz, by show 2 ≤ sizeLine; decide, fun p5 hp5 => ⟨t3 _ _ _, fun p6 hp6 => ⟨by show 7 ≤ sizeLine; decide, fun fp hfp => ?_⟩⟩⟩⟩⟩⟩⟩
    have s1 := same_upd hp1 (o := .tup [])
    have s2 := same_upd hp2 (o := .tup [.str (Str.ofString ""), .str (Str.ofString ""), .str (Str.ofString "")])
    have s3 := same_upd hp3 (o := .tup [.str (Str.ofString ""), .str (cutS ⟨l.toArray⟩ none (some 2)), .str (Str.ofString "")])
    have s4 := same_upd hp4 (o := .lst [.str (Str.ofString ""), .str (cutS ⟨l.toArray⟩ none (some 2)), .str (Str.ofString "")])
    have s5 := same_upd hp5 (o := .tup [.str (Str.ofString ""), .str (cutS ⟨l.toArray⟩ none (some 2))])
    have s6 := same_upd hp6 (o := .tup [.str (Str.ofString ""), .int 3, .str (Str.ofString "")])
    have s7 := same_upd hfp (o := .lst [.non, .ref p1, .ref p2, .ref p3, .ref p4, .ref p5, .ref p6])
    have z0 : Str.length (Str.ofString "") ≤ 300 := by decide
    have a7 := (((((s1.trans s2).trans s3).trans s4).trans s5).trans s6).trans s7
    have sh7 : Shs (upd (upd (upd (upd (upd (upd (upd H p1 (.tup [])) p2 (.tup [.str (Str.ofString ""), .str (Str.ofString ""), .str (Str.ofString "")])) p3 (.tup [.str (Str.ofString ""), .str (cutS ⟨l.toArray⟩ none (some 2)), .str (Str.ofString "")])) p4 (.lst [.str (Str.ofString ""), .str (cutS ⟨l.toArray⟩ none (some 2)), .str (Str.ofString "")])) p5 (.tup [.str (Str.ofString ""), .str (cutS ⟨l.toArray⟩ none (some 2))])) p6 (.tup [.str (Str.ofString ""), .int 3, .str (Str.ofString "")])) fp (.lst [.non, .ref p1, .ref p2, .ref p3, .ref p4, .ref p5, .ref p6])) [.non, .ref p1, .ref p2, .ref p3, .ref p4, .ref p5, .ref p6] :=
      .cons .non (.cons ((Shp.size upd_same (by decide)).same (((((s2.trans s3).trans s4).trans s5).trans s6).trans s7)) (.cons ((Shp.txt upd_same z0 z0).same ((((s3.trans s4).trans s5).trans s6).trans s7)) (.cons ((Shp.txt upd_same z0 z0).same (((s4.trans s5).trans s6).trans s7)) (.cons ((Shp.lst upd_same).same ((s5.trans s6).trans s7)) (.cons ((Shp.size upd_same (by show 2 ≠ 3; decide)).same (s6.trans s7)) (.cons ((Shp.num upd_same z0 z0).same s7) .nil))))))
    have fp0 : H fp = none := (((((s1.trans s2).trans s3).trans s4).trans s5).trans s6).free hfp
    have hf7 : (upd (upd (upd (upd (upd (upd (upd H p1 (.tup [])) p2 (.tup [.str (Str.ofString ""), .str (Str.ofString ""), .str (Str.ofString "")])) p3 (.tup [.str (Str.ofString ""), .str (cutS ⟨l.toArray⟩ none (some 2)), .str (Str.ofString "")])) p4 (.lst [.str (Str.ofString ""), .str (cutS ⟨l.toArray⟩ none (some 2)), .str (Str.ofString "")])) p5 (.tup [.str (Str.ofString ""), .str (cutS ⟨l.toArray⟩ none (some 2))])) p6 (.tup [.str (Str.ofString ""), .int 3, .str (Str.ofString "")])) fp (.lst [.non, .ref p1, .ref p2, .ref p3, .ref p4, .ref p5, .ref p6])) fp = some (.lst [.non, .ref p1, .ref p2, .ref p3, .ref p4, .ref p5, .ref p6]) := upd_same
    generalize (upd (upd (upd (upd (upd (upd (upd H p1 (.tup [])) p2 (.tup [.str (Str.ofString ""), .str (Str.ofString ""), .str (Str.ofString "")])) p3 (.tup [.str (Str.ofString ""), .str (cutS ⟨l.toArray⟩ none (some 2)), .str (Str.ofString "")])) p4 (.lst [.str (Str.ofString ""), .str (cutS ⟨l.toArray⟩ none (some 2)), .str (Str.ofString "")])) p5 (.tup [.str (Str.ofString ""), .str (cutS ⟨l.toArray⟩ none (some 2))])) p6 (.tup [.str (Str.ofString ""), .int 3, .str (Str.ofString "")])) fp (.lst [.non, .ref p1, .ref p2, .ref p3, .ref p4, .ref p5, .ref p6])) = H7 at a7 sh7 hf7 ⊢
    refine ⟨6, rfl, by decide, by decide, for_range (n := 6) (fun i σ H2 => ∃ (ys : List V) (x5 x6 : Option V), σ = [some (.ref d), some (tx l), some (.ref p), some v, some (.ref fp), x5, x6] ∧ Same H H2 ∧ H2 fp = some (.lst ys) ∧ Shs H2 ys ∧ ys.length = 7 + i) ⟨_, _, _, rfl, a7, hf7, sh7, rfl⟩ (fun i σ H2 hi h => ?_) (fun σ H2 h => ?_)⟩
    · obtain ⟨ys, x5, x6, rfl, g1, g2, g3, g4⟩ := h
      refine ⟨_, rfl, _, rfl, l, rfl, by omega, fun H3 pa t1 pa0 hpa => ?_⟩
      refine ⟨d, pa, _, rfl, t1 _ _ (g1 _ _ hd), hpa, fun z => prs_ne hl2 (List.map_eq_nil_iff.mp z), by rw [List.length_map]; have := prs_len hl3; omega, fun x hx => ?_⟩
      obtain ⟨c, _, rfl⟩ := List.mem_map.mp hx
      have g2' := t1 _ _ g2
      refine ⟨_, rfl, .inl ⟨rfl, _, SqL.of g2'⟩, _, rfl, _, rfl, d, l, 4, rfl, t1 _ _ (g1 _ _ hd), ne, by omega, by decide, fun H4 u1 t2 hu1 _ => ?_⟩
      refine ⟨_, rfl, _, rfl, _, rfl, d, l, 4, rfl, t2 _ _ (t1 _ _ (g1 _ _ hd)), ne, by omega, by decide, fun H5 u2 t3' hu2 _ => ⟨t3 _ _ _, fun tp htp => ?_⟩⟩
      have t4 := same_upd htp (o := .tup [tx u1, tx c, tx u2])
      have tt := ((t1.trans t2).trans t3').trans t4
      have hf5 := tt _ _ g2
      refine ⟨fp, ys, _, rfl, rfl, hf5, Nat.lt_of_le_of_lt (m := 100) (by omega) (by decide), ?_⟩
      have l4 : ∀ u : List Nat, u.length ≤ 4 → Str.length ⟨u.toArray⟩ ≤ 300 := fun u hu => by show u.toArray.size ≤ 300; rw [List.size_toArray]; omega
      refine ⟨ys ++ [.ref tp], _, _, rfl, same_at (g1.trans tt) fp0, upd_same, Shs.upl hf5 ((g3.same tt).app (.cons (Shp.txt upd_same (l4 u1 hu1) (l4 u2 hu2)) .nil)), by rw [List.length_append, g4]; show 7 + i + 1 = 7 + (i + 1); omega⟩
    · obtain ⟨ys, x5, x6, rfl, g1, g2, g3, g4⟩ := h
      refine ⟨_, rfl, _, rfl, ?_⟩
      cases r with
      | none =>
        have hv : v = .non := hpv
        subst hv
        exact ite2 (fun h => absurd h (by decide)) (fun _ => ⟨_, rfl, q _ fp ys g1 g2 g3 (by omega)⟩)
      | some r =>
        obtain ⟨t, pp, qo⟩ := r
        obtain ⟨e, rfl, he⟩ := hpv
        obtain ⟨ht, t2, rfl, ht2⟩ := hplc t pp qo rfl
        have he : H e = some (.tup [tx t, tx (pt l pp), tx t2]) := he
        have he2 := g1 _ _ he
        refine ite2 (fun _ => ?_) (fun h => absurd (show (!decide (V.ref e = V.non)) = true by rw [decide_eq_false (fun z => nomatch z)]; rfl) h)
        have lt1 : Str.length ⟨t.toArray⟩ ≤ 300 := by show t.toArray.size ≤ 300; rw [List.size_toArray]; omega
        have lt2 : Str.length ⟨t2.toArray⟩ ≤ 300 := by show t2.toArray.size ≤ 300; rw [List.size_toArray]; omega
        have lta : ∀ {s : Str}, s.length = 1 → Str.length (⟨t2.toArray⟩ ++ s) ≤ 300 := fun {s} hs => by
          show (t2.toArray ++ s.cps).size ≤ 300
          have hs : s.cps.size = 1 := hs
          rw [Array.size_append, List.size_toArray, hs]; omega
        have ltb : ∀ {s : Str}, s.length = 1 → Str.length (s ++ ⟨t.toArray⟩) ≤ 300 := fun {s} hs => by
          show (s.cps ++ t.toArray).size ≤ 300
          have hs : s.cps.size = 1 := hs
          rw [Array.size_append, hs, List.size_toArray]; omega
        obtain ⟨⟨cl, hcl⟩, ⟨c0, hc0⟩⟩ := last_at l hl2 hl3
        refine ⟨_, rfl, _, rfl, _, rfl, e, _, 0, _, rfl, rfl, SqT.of he2, rfl, _, rfl, e, _, 1, _, rfl, rfl, SqT.of he2, rfl, l.getD pp.1 0, l.getD pp.2 0, rfl, _, rfl, e, _, 2, _, rfl, rfl, SqT.of he2, rfl, t3 _ _ _, fun q1 hq1 => ?_⟩
        have v1 := same_upd hq1 (o := .tup [tx t, .str ⟨#[l.getD pp.2 0, l.getD pp.1 0]⟩, tx t2])
        have he3 := v1 _ _ he2
        refine ⟨_, rfl, e, _, 0, _, rfl, rfl, SqT.of he3, rfl, _, rfl, e, _, 1, _, rfl, rfl, SqT.of he3, rfl, _, rfl, e, _, 2, _, rfl, rfl, SqT.of he3, rfl, _, _, rfl, rfl, ?_, t3 _ _ _, fun q2 hq2 => ?_⟩
        · exact Nat.le_trans (m := 301) (Nat.add_le_add lt2 (by decide : Str.length (Str.ofString "#") ≤ 1)) (by decide)
        have v2 := same_upd hq2 (o := .tup [tx t, tx (pt l pp), .str (⟨t2.toArray⟩ ++ Str.ofString "#")])
        refine ⟨_, rfl, e, _, rfl, .inr (SqT.of (v2 _ _ he3)), fun q3 hq3 => ⟨by show 4 ≤ sizeLine; decide, fun q4 hq4 => ?_⟩⟩
        have v3 := same_upd hq3 (o := .lst [tx t, tx (pt l pp), tx t2])
        have v4 := same_upd hq4 (o := .lst [.ref e, .ref q1, .ref q2, .ref q3])
        have va := ((v1.trans v2).trans v3).trans v4
        refine ⟨fp, q4, ys, _, rfl, rfl, va _ _ g2, upd_same, by show ys.length + 4 ≤ sizeLine; exact Nat.le_trans (m := 100) (by omega) (by decide), fun f2 hf2 => ?_⟩
        have v5 := same_upd hf2 (o := .lst (ys ++ [.ref e, .ref q1, .ref q2, .ref q3]))
        have sh8 : Shs _ (ys ++ [.ref e, .ref q1, .ref q2, .ref q3]) := (g3.same (va.trans v5)).app (.cons (Shp.txt ((va.trans v5) _ _ he2) lt1 lt2) (.cons ((Shp.txt upd_same lt1 lt2).same (((v2.trans v3).trans v4).trans v5)) (.cons ((Shp.txt upd_same lt1 (lta rfl)).same ((v3.trans v4).trans v5)) (.cons ((Shp.lst upd_same).same (v4.trans v5)) .nil))))
        have g18 := g1.trans (va.trans v5)
        have hf8 : upd (upd (upd (upd (upd H2 q1 (.tup [tx t, .str ⟨#[l.getD pp.2 0, l.getD pp.1 0]⟩, tx t2])) q2 (.tup [tx t, tx (pt l pp), .str (⟨t2.toArray⟩ ++ Str.ofString "#")])) q3 (.lst [tx t, tx (pt l pp), tx t2])) q4 (.lst [.ref e, .ref q1, .ref q2, .ref q3])) f2 (.lst (ys ++ [.ref e, .ref q1, .ref q2, .ref q3])) f2 = some (.lst (ys ++ [.ref e, .ref q1, .ref q2, .ref q3])) := upd_same
        generalize upd (upd (upd (upd (upd H2 q1 (.tup [tx t, .str ⟨#[l.getD pp.2 0, l.getD pp.1 0]⟩, tx t2])) q2 (.tup [tx t, tx (pt l pp), .str (⟨t2.toArray⟩ ++ Str.ofString "#")])) q3 (.lst [tx t, tx (pt l pp), tx t2])) q4 (.lst [.ref e, .ref q1, .ref q2, .ref q3])) f2 (.lst (ys ++ [.ref e, .ref q1, .ref q2, .ref q3])) = H8 at g18 sh8 hf8 ⊢
        have he8 := g18 _ _ he
        have lz : ∀ c : Nat, Str.length ⟨#[c]⟩ = 1 := fun _ => rfl
        refine ⟨_, rfl, _, rfl, _, _, c0, rfl, rfl, hlz, by simpa using hc0, _, rfl, e, _, 0, _, rfl, rfl, SqT.of he8, rfl, _, _, rfl, rfl, ?_, _, rfl, e, _, 1, _, rfl, rfl, SqT.of he8, rfl, _, rfl, e, _, 2, _, rfl, rfl, SqT.of he8, rfl, t3 _ _ _, fun q5 hq5 => ?_⟩
        · exact Nat.le_trans (m := 301) (by rw [lz]; omega) (by decide)
        have v6 := same_upd hq5 (o := .tup [.str (⟨#[c0]⟩ ++ ⟨t.toArray⟩), tx (pt l pp), tx t2])
        have he9 := v6 _ _ he8
        refine ⟨_, rfl, e, _, 0, _, rfl, rfl, SqT.of he9, rfl, _, rfl, e, _, 1, _, rfl, rfl, SqT.of he9, rfl, _, rfl, e, _, 2, _, rfl, rfl, SqT.of he9, rfl, _, rfl, _, rfl, _, _, cl, rfl, rfl, hlz, by simpa using hcl, _, _, rfl, rfl, ?_, t3 _ _ _, fun q6 hq6 => ⟨by show 2 ≤ sizeLine; decide, fun q7 hq7 => ?_⟩⟩
        · exact Nat.le_trans (m := 301) (by rw [lz]; omega) (by decide)
        have v7 := same_upd hq6 (o := .tup [tx t, tx (pt l pp), .str (⟨t2.toArray⟩ ++ ⟨#[cl]⟩)])
        have v8 := same_upd hq7 (o := .lst [.ref q5, .ref q6])
        have vb := (v6.trans v7).trans v8
        refine ⟨f2, q7, _, _, rfl, rfl, vb _ _ hf8, upd_same, by rw [List.length_append]; show ys.length + 4 + 2 ≤ sizeLine; exact Nat.le_trans (m := 100) (by omega) (by decide), fun f3 hf3 => ?_⟩
        have v9 := same_upd hf3 (o := .lst (ys ++ [.ref e, .ref q1, .ref q2, .ref q3] ++ [.ref q5, .ref q6]))
        refine ⟨_, rfl, q _ f3 _ (g18.trans (vb.trans v9)) upd_same ((sh8.same (vb.trans v9)).app (.cons ((Shp.txt upd_same (ltb (lz c0)) lt2).same ((v7.trans v8).trans v9)) (.cons ((Shp.txt upd_same lt1 (lta (lz cl))).same (v8.trans v9)) .nil))) ?_⟩
        rw [List.length_append, List.length_append]
        show ys.length + 4 + 2 ≤ 1000
        omega
end
end Ww
end S_Wl11

section S_Wl12
set_option Elab.async false
set_option linter.all false
set_option maxRecDepth 100000
set_option maxHeartbeats 2000000
/-! The law's walks 12: the law, one cell's second half. -/
namespace Ww
open PySem PySem.Spec PyProof.Rows L2 WwR SlX
open C8 (Cal pe_c)
open MW (Rows suc nx Tab Least LT Due FirstBad LPart TextOf goals)
theorem made_same {H H' : Hp} {x y C : Addr} (hx : H x = none) (hy : H y = none) (k : ∀ b o, upd (upd H y (.own x)) x (.ins C y []) b = some o → b ≠ x → b ≠ y → H' b = some o) : Same H H' := fun b o e =>
  k b o (by rw [upd_ne (ne_of_none e hx), upd_ne (ne_of_none e hy)]; exact e) (ne_of_none e hx) (ne_of_none e hy)
theorem made_up {H : Hp} {x y C : Addr} (hx : H x = none) (hy : H y = none) : Same H (upd (upd H y (.own x)) x (.ins C y [])) := fun b o e => by
  rw [upd_ne (ne_of_none e hx), upd_ne (ne_of_none e hy)]; exact e
theorem least_len {k : Nat} {R : Rows} {acc : Nat → Bool} {s0 : Nat} {T : Rows} {A : List Nat} (tb : Tab k R) (h0 : s0 < R.length) (h : Least k R acc s0 T A) : T.length ≤ R.length := by
  obtain ⟨S, m, q, _, rfl, _⟩ := h
  unfold MW.tabR
  rw [List.length_map]
  exact Nat.le_trans (MW.cnt_le m (fun _ z => z)) (qu_le tb h0 q)
theorem rd_slt {K : PySem.W.Frag} {H : Hp} {a : Addr} {l : List Nat} {cs : List (List Nat)} {R : Rows} {A0 : List Nat} {s0 : Nat} {T : Rows} {A : List Nat} (h : RdAt K H a l cs R A0 s0 T A) : ∃ dx vs, Slt H a (rdC K) dx vs := by
  obtain ⟨dx, wa, ra, aa, ka, ta, ba, vs, h1, _⟩ := h
  exact ⟨dx, vs, h1⟩
theorem plv_same {H H' : Hp} {l : List Nat} {v : V} {r : Option MW.Place} (s : Same H H') (h : PlaceV H l v r) : PlaceV H' l v r := by
  cases r with
  | none => exact h
  | some r =>
    obtain ⟨t, p, q⟩ := r
    obtain ⟨e, h1, h2⟩ := h
    exact ⟨e, h1, s _ _ h2⟩
/-! ### a place as data -/
def optd : Option (List Nat) → PyData
  | none => .none
  | some t => .str ⟨t.toArray⟩
def dPl (l : List Nat) : Option MW.Place → PyData
  | none => .none
  | some (t, p, q) => .tuple [.str ⟨t.toArray⟩, .str ⟨(pt l p).toArray⟩, optd q]
theorem optd_dp {K : PySem.W.Frag} {H : Hp} (q : Option (List Nat)) : Dp K H (optx q) (optd q) := by
  cases q with
  | none => exact .non
  | some t => exact .str _
theorem pl_dp {K : PySem.W.Frag} {H : Hp} {l : List Nat} {v : V} {r : Option MW.Place} (h : PlaceV H l v r) : Dp K H v (dPl l r) := by
  cases r with
  | none => rw [show v = .non from h]; exact .non
  | some r =>
    obtain ⟨t, p, q⟩ := r
    obtain ⟨e, rfl, he⟩ := h
    exact .tup (SqT.of he) (.cons (.str _) (.cons (.str _) (.cons (optd_dp q) .nil)))
theorem eqv_optd (q : Option (List Nat)) : PyData.eqv (optd q) (optd q) = true := by
  cases q with
  | none => rfl
  | some t => exact beq_self_eq_true (⟨t.toArray⟩ : Str)
theorem eqv_pl (l : List Nat) (r : Option MW.Place) : PyData.eqv (dPl l r) (dPl l r) = true := by
  cases r with
  | none => rfl
  | some r =>
    obtain ⟨t, p, q⟩ := r
    show ((⟨t.toArray⟩ : Str) == ⟨t.toArray⟩ && ((⟨(pt l p).toArray⟩ : Str) == ⟨(pt l p).toArray⟩ && (PyData.eqv (optd q) (optd q) && true))) = true
    rw [beq_self_eq_true, beq_self_eq_true, eqv_optd]
    rfl
/-- letters of a place -/
def PlOk (l : List Nat) : Option MW.Place → Prop
  | none => True
  | some (t, p, q) => (∀ c ∈ t, c < 0x110000) ∧ (∀ c ∈ pt l p, c < 0x110000) ∧ ∀ u, q = some u → ∀ c ∈ u, c < 0x110000
theorem shp_pl {l : List Nat} {r : Option MW.Place} (h : PlOk l r) : SeqAt.shaped (dPl l r) = true := by
  cases r with
  | none => rfl
  | some r =>
    obtain ⟨t, p, q⟩ := r
    obtain ⟨h1, h2, h3⟩ := h
    have hq : PyData.canLay0 (optd q) = true ∧ PyData.depth (optd q) = 0 := by
      cases q with
      | none => exact ⟨rfl, rfl⟩
      | some u => exact ⟨strOk_of (h3 u rfl), rfl⟩
    show ((PyData.strOk ⟨t.toArray⟩ && (PyData.strOk ⟨(pt l p).toArray⟩ && (PyData.canLay0 (optd q) && true))) && decide (max 0 (max 0 (max (PyData.depth (optd q)) 0)) + 1 ≤ 64)) = true
    rw [strOk_of h1, strOk_of h2, hq.1, hq.2]
    rfl
theorem dp_txs {K : PySem.W.Frag} {H : Hp} : ∀ cs : List (List Nat), DpAll K H (cs.map tx) (cs.map fun c => PyData.str ⟨c.toArray⟩)
  | [] => .nil
  | _ :: cs => .cons (.str _) (dp_txs cs)
theorem shp_txs {cs : List (List Nat)} (h : ∀ c ∈ cs, ∀ x ∈ c, x < 0x110000) : SeqAt.shaped (.tuple (cs.map fun c => PyData.str ⟨c.toArray⟩)) = true := by
  have h1 : ∀ cs : List (List Nat), (∀ c ∈ cs, ∀ x ∈ c, x < 0x110000) → PyData.canLayAll0 (cs.map fun c => PyData.str ⟨c.toArray⟩) = true := by
    intro cs
    induction cs with
    | nil => intro _; rfl
    | cons c cs ih =>
      intro h
      show (PyData.strOk ⟨c.toArray⟩ && PyData.canLayAll0 _) = true
      rw [strOk_of (h c List.mem_cons_self), ih fun d hd => h d (List.mem_cons_of_mem _ hd)]
      rfl
  have h2 : ∀ cs : List (List Nat), PyData.depthAll (cs.map fun c => PyData.str ⟨c.toArray⟩) = 0 := by
    intro cs
    induction cs with
    | nil => rfl
    | cons c cs ih =>
      show max 0 (PyData.depthAll _) = 0
      rw [ih]; rfl
  show (PyData.canLayAll0 _ && decide (PyData.depthAll _ + 1 ≤ 64)) = true
  rw [h1 cs h, h2]
  rfl
theorem eqv_cs (cs : List (List Nat)) : PyData.eqv (.tuple (cs.map fun c => PyData.str ⟨c.toArray⟩)) (.tuple []) = cs.isEmpty := by cases cs <;> rfl
theorem prs_lo {l : List Nat} {n : Nat} (h : ∀ c ∈ l, c < n) : ∀ c ∈ prs l, ∀ x ∈ c, x < n := fun c hc x hx => by
  obtain ⟨p, hp, rfl⟩ := List.mem_map.mp hc
  have hp := ixp_lt hp
  rcases (by simpa [pt] using hx : x = l.getD p.1 0 ∨ x = l.getD p.2 0) with z | z <;> rw [z] <;> exact h _ (MW.getD_mem (by omega))
section
variable {P : Program} {w : World} {K : PySem.W.Frag} {mg : Str → Option Value} {base : Heap}
def forBody : List Stmt := match (defBody sLaw).head? with
  | some (.For _ _ b _ _) => b
  | _ => []

theorem scLaw : FnScope ["_law_script", "_law_spot", "_law_dice_here", "_law_letters_here", "_law_conflicts_here", "_law_way", "_law_drawn", "_law_reader", "_law_rows", "_law_accepts", "_law_due", "_law_told", "_law_value"] ["_law_script"] (defScope sLaw) := ⟨rfl, rfl, rfl, by decide +kernel, rfl, by decide +kernel, by decide +kernel⟩
theorem law_for (B : En P w K mg base) {f : Addr} {cdv : Value} {A : Around} {outer : List Env} {s : Shared} {H0 : Hp} {E : XK} (hr : Room 7 (A.deeper (envOfC "law" (defScope sLaw) s.heap.objs.size f cdv))) :
    ∃ t, PSs (cxOf C8.CX0 P w K mg base ["_law_script", "_law_spot", "_law_dice_here", "_law_letters_here", "_law_conflicts_here", "_law_way", "_law_drawn", "_law_reader", "_law_rows", "_law_accepts", "_law_due", "_law_told", "_law_value"] "law" (defScope sLaw) f cdv A outer s H0 E).nox (forBody.drop 12) t ∧
      ∀ (D : Ends) (H : Hp) (x0 x1 x8 x9 x11 x12 : Option V) (d ca dt rx : Addr) (dv : V) (rr : Option MW.Place) (l : List Nat) (cs : List (List Nat)) (way : Nat) (R : Rows) (A0 : List Nat) (s0 : Nat) (T : Rows) (Ac : List Nat),
        H d = some (DiceO d) → H ca = some (.tup (cs.map tx)) → 2 ≤ l.length → l.length ≤ 3 → WOk l cs → Drawn H dt R A0 s0 → Aut l R A0 s0 → RdAt K H rx l cs R A0 s0 T Ac → PlaceV H l dv rr →
        (∀ t pp q, rr = some (t, pp, q) → t.length ≤ 200 ∧ ∃ t2, q = some t2 ∧ t2.length ≤ 200) →
        (∀ H' y11 y12, Same H H' → D.nx [x0, x1, some (.ref d), some (tx l), some (.ref ca), some (nv way), some (.ref dt), some (.ref rx), x8, x9, some dv, y11, y12] H') →
        t D [x0, x1, some (.ref d), some (tx l), some (.ref ca), some (nv way), some (.ref dt), some (.ref rx), x8, x9, some dv, x11, x12] H := by
  have hu := hu_of hr
  have hu64 := hr.units
  refine ⟨_, (pss_one (ps_for PassesOwn.never rfl (pi_listK K rfl (pe_c (c_law_values B) hr (by decide) (by rfl) (pa_cons (pv 2) (pa_cons (pv 3) (pa_cons (pv 4) (pa_cons (pv 10) pa_nil)))))) (pg_name (i := 12) scLaw.nd rfl (Or.inl rfl)) (pss_cons (ps_set (i := 11) scLaw.nd rfl (Or.inl rfl) (SlX.pe_methSl (pv 7) B.cR B.m_is_open_place (m_Reader_is_open_place B).run (hr.mono (by decide)) (C8.pass0 (E := C8.E0)) (pa_cons (pv 12) pa_nil)))
    (pss_one (ps_if (PW.pt (pw_or (pt_not (pt_val (pe_callB (call_isiK K rfl) (by rfl) B.isinstance_ boot_isinstance (pa_cons (pv 11) (pa_cons (pe_bltn (v := .ty "bool") (by rfl) B.bool_ boot_bool rfl) pa_nil))))) (pw_or1 (pt_cmpR op_ne (pv 11) (pe_c (c_law_is_open B) hr (by decide) (by rfl) (pa_cons (pv 3) (pa_cons (pv 4) (pa_cons (pv 6) (pa_cons (pv 12) pa_nil))))) (nomark _))))) (pss_one (ps_ret pe_bl)) pss_nil))))), ?_⟩
  intro D H x0 x1 x8 x9 x11 x12 d ca dt rx dv rr l cs way R A0 s0 T Ac hd hca hl2 hl3 wok hdr au hrd hpv plb q
  refine ⟨_, rfl, _, rfl, _, rfl, _, rfl, d, ca, l, dv, rr, rfl, hd, hl2, hl3, hpv, plb, fun H9 vl ys s9 hvl hsh hyl => ?_⟩
  refine ⟨vl, rfl, ⟨_, SqL.of hvl⟩, for_list (xs := ys) (fun j σ H10 => ∃ (x11 x12 : Option V), σ = [x0, x1, some (.ref d), some (tx l), some (.ref ca), some (nv way), some (.ref dt), some (.ref rx), x8, x9, some dv, x11, x12] ∧ Same H9 H10) ⟨_, _, rfl, Same.refl _⟩ (fun j σ H10 _ h => ?_) (fun j x σ H10 hx h => ?_) (fun σ H10 h => ?_)⟩
  · obtain ⟨_, _, _, g⟩ := h
    exact SqL.of (g _ _ hvl)
  · obtain ⟨y11, y12, rfl, g⟩ := h
    have s010 := s9.trans g
    obtain ⟨res, hres⟩ := ((hsh x (List.mem_of_getElem? hx)).same g).op (K := K) l cs R A0 s0
    have hrd10 := hrd.same s010
    obtain ⟨rdx, rvs, hsl10⟩ := rd_slt hrd10
    refine ⟨_, rfl, rx, rdx, rvs, rfl, hsl10, _, rfl, rx, x, l, cs, R, A0, s0, T, Ac, res, rfl, hrd10, wok, au, hres, fun H11 s11 => ?_⟩
    refine ⟨_, rfl, _, _, _, _, true, rfl, .ty _, .base (.bl _), kit_ty (by decide +kernel), true, rfl, iteF ?_⟩
    refine ⟨_, rfl, _, rfl, _, rfl, _, rfl, _, rfl, ca, dt, x, l, cs, R, A0, s0, res, rfl, s11 _ _ (s010 _ _ hca), hdr.same (s010.trans s11), wok, au, hres.same s11, fun H12 s12 => ⟨rfl, _, rfl, ?_⟩⟩
    rw [decide_eq_true rfl]
    exact iteF ⟨_, _, rfl, (g.trans s11).trans s12⟩
  · obtain ⟨y11, y12, rfl, g⟩ := h
    exact q _ _ _ (s9.trans g)
theorem law_rest (B : En P w K mg base) {f : Addr} {cdv : Value} {A : Around} {outer : List Env} {s : Shared} {H0 : Hp} {E : XK} (hr : Room 7 (A.deeper (envOfC "law" (defScope sLaw) s.heap.objs.size f cdv))) :
    ∃ t, PSs (cxOf C8.CX0 P w K mg base ["_law_script", "_law_spot", "_law_dice_here", "_law_letters_here", "_law_conflicts_here", "_law_way", "_law_drawn", "_law_reader", "_law_rows", "_law_accepts", "_law_due", "_law_told", "_law_value"] "law" (defScope sLaw) f cdv A outer s H0 E).nox (forBody.drop 6) t ∧
      ∀ (D : Ends) (H : Hp) (x0 x1 x7 x8 x9 x10 x11 x12 : Option V) (d ca dt : Addr) (l : List Nat) (cs : List (List Nat)) (way : Nat) (R : Rows) (A0 : List Nat) (s0 : Nat),
        H d = some (DiceO d) → H ca = some (.tup (cs.map tx)) → 2 ≤ l.length → l.length ≤ 3 → WOk l cs → Drawn H dt R A0 s0 → Aut l R A0 s0 → R.length ≤ 5 →
        (way < 2 → cs ≠ [] → ∀ p ∈ lps l cs, ∀ s, s < R.length → nx R (nx R s p.1) p.2 = nx R (nx R s p.2) p.1) →
        (∀ H' y7 y8 y9 y10 y11 y12, Same H H' → D.nx [x0, x1, some (.ref d), some (tx l), some (.ref ca), some (nv way), some (.ref dt), y7, y8, y9, y10, y11, y12] H') →
        t D [x0, x1, some (.ref d), some (tx l), some (.ref ca), some (nv way), some (.ref dt), x7, x8, x9, x10, x11, x12] H := by
  have hu := hu_of hr
  have hu64 := hr.units
  obtain ⟨fdW, dsW, FW, hbW, hdW⟩ := ok_web B
  obtain ⟨fdR, FR, _, ⟨mvR, hkR⟩⟩ := ok_reader B
  obtain ⟨tF, hF, runF⟩ := law_for B (outer := outer) (H0 := H0) (E := E) hr
  refine ⟨_, (pss_cons (ps_set (i := 7) scLaw.nd rfl (Or.inl rfl) (pe_makeK (n := 3) B.mR FR (hr.mono (by decide)) (by rfl) B.gR hkR (C8.pass0 (E := C8.E0)) (pa_cons (pe_make B.mW FW (hr.mono (by decide)) (by rfl) B.gW hbW hdW (C8.pass0 (E := C8.E0)) (pa_cons (pv 3) (pa_cons (pv 4) pa_nil))) (pa_cons (pe_ix (ix_tupK K rfl) (pv 6) pe_int (fun _ _ => rfl)) (pa_cons (pe_ix (ix_tupK K rfl) (pv 6) pe_int (fun _ _ => rfl)) pa_nil))) (pk_cons (pe_ix (ix_tupK K rfl) (pv 6) pe_int (fun _ _ => rfl)) pk_nil)))
    (pss_cons (ps_asg (pe_c (c_law_least_reader B) hr (by decide) (by rfl) (pa_cons (pe_ix (ix_tupK K rfl) (pv 6) pe_int (fun _ _ => rfl)) (pa_cons (pe_ix (ix_tupK K rfl) (pv 6) pe_int (fun _ _ => rfl)) (pa_cons (pe_ix (ix_tupK K rfl) (pv 6) pe_int (fun _ _ => rfl)) pa_nil)))) (pg_tup rfl (pgs_cons (pg_name (i := 8) scLaw.nd rfl (Or.inl rfl)) (pgs_cons (pg_name (i := 9) scLaw.nd rfl (Or.inl rfl)) pgs_nil))))
    (pss_cons (ps_set (i := 10) scLaw.nd rfl (Or.inl rfl) (pe_c (c_law_first_open B) hr (by decide) (by rfl) (pa_cons (pv 3) (pa_cons (pv 4) (pa_cons (pv 8) (pa_cons (pv 9) pa_nil))))))
    (pss_cons (ps_if (PW.pt (pw_or (pt_cmpR (op_neD hu64) (SlX.pe_methSl0 (pv 7) B.cR B.m_open_place (m_Reader_open_place B).run (hr.mono (by decide)) (C8.pass0 (E := C8.E0))) (pv 10) (nomark _)) (pw_or1 (pt_cmpR (op_neD hu64) (SlX.pe_methSl0 (SlX.pe_methSl0 (pv 7) B.cR B.m_least (m_Reader_least B).run (hr.mono (by decide)) (C8.pass0 (E := C8.E0))) B.cR B.m_open_place (m_Reader_open_place B).run (hr.mono (by decide)) (C8.pass0 (E := C8.E0))) (pv 10) (nomark _))))) (pss_one (ps_ret pe_bl)) pss_nil)
    (pss_cons (ps_set (i := 11) scLaw.nd rfl (Or.inl rfl) (SlX.pe_methSl0 (pv 7) B.cR B.m_is_closed (m_Reader_is_closed B).run (hr.mono (by decide)) (C8.pass0 (E := C8.E0))))
    (pss_cons (ps_if (PW.pt (pw_or (pt_not (pt_val (pe_callB (call_isiK K rfl) (by rfl) B.isinstance_ boot_isinstance (pa_cons (pv 11) (pa_cons (pe_bltn (v := .ty "bool") (by rfl) B.bool_ boot_bool rfl) pa_nil))))) (pw_or (pt_cmpR op_ne (pv 11) (pe_cmp (pc_isN (pv 10)) rfl) (nomark _)) (pw_or1 (PW.pt (pw_and (pt_cmpR op_lt (pv 5) pe_int (nomark _)) (pw_and (pt_cmpR (op_neD hu64) (pv 4) (pe_tup pa_nil) (nomark _)) (pw_and1 (pt_cmp (pc_notN (pv 10))))))))))) (pss_one (ps_ret pe_bl)) pss_nil)
    hF)))))), ?_⟩
  intro D H x0 x1 x7 x8 x9 x10 x11 x12 d ca dt l cs way R A0 s0 hd hca hl2 hl3 wok hdr au hRl hcl q
  obtain ⟨ra, aa, hdt, hra, haa⟩ := id hdr
  -- the reader
  refine ⟨_, rfl, _, rfl, fun wx wy hwx hwy hwxy => ?_⟩
  refine ⟨wx, wy, ca, l, cs, rfl, upd_same, by rw [upd_ne hwxy, upd_same], made_up hwx hwy _ _ hca, wok.len, wok.lo, wok.asc, wok.few, wok.sub, wok.asc2, fun H1 k1 hw => ⟨rfl, ?_⟩⟩
  have s1 := made_same hwx hwy k1
  refine ⟨_, rfl, dt, _, 0, _, rfl, rfl, SqT.of (s1 _ _ hdt), rfl, _, rfl, dt, _, 1, _, rfl, rfl, SqT.of (s1 _ _ hdt), rfl, _, rfl, dt, _, 2, _, rfl, rfl, SqT.of (s1 _ _ hdt), rfl, rfl, rfl, fun rx ry hrx hry hrxy => ?_⟩
  refine ⟨rx, ry, wx, ra, aa, l, cs, R, A0, s0, rfl, upd_same, by rw [upd_ne hrxy, upd_same], fun H' k => ⟨hw.same (made_same hrx hry k), hra.same (s1.trans (made_same hrx hry k)), (made_same hrx hry k) _ _ (s1 _ _ haa)⟩, wok, au, fun H2 T A k2 hrd lst => ⟨rfl, ?_⟩⟩
  have s2 := made_same hrx hry k2
  have s12 := s1.trans s2
  have lt : LT l.length T A := lst.lt au.tab au.h0
  have hTR := least_len au.tab au.h0 lst
  have hTl : T.length ≤ 200 := by omega
  -- the law's table
  refine ⟨_, rfl, dt, _, 0, _, rfl, rfl, SqT.of (s12 _ _ hdt), rfl, _, rfl, dt, _, 1, _, rfl, rfl, SqT.of (s12 _ _ hdt), rfl, _, rfl, dt, _, 2, _, rfl, rfl, SqT.of (s12 _ _ hdt), rfl, ra, aa, R, A0, l.length, s0, rfl, hra.same s12, s12 _ _ haa, au.tab, au.h0, au.le, wok.len, au.acc, fun H3 tr ta tba T2 A2 s3 tr0 htr hta htba lst2 => ?_⟩
  obtain ⟨e1, e2⟩ := MW.Least.uniq au.tab au.h0 lst2 lst
  subst e1 e2
  refine ⟨tr, _, rfl, SqT.of htr, rfl, _, _, rfl, _, _, rfl, rfl, ?_⟩
  have s03 := s12.trans s3
  refine ⟨_, rfl, _, rfl, _, rfl, _, rfl, ca, ta, tba, T2, A2, l, cs, rfl, s03 _ _ hca, hta, htba, lt, hTl, wok, fun H4 dv r s4 due hpv => ?_⟩
  have s04 := s03.trans s4
  have hrd4 := hrd.same (s3.trans s4)
  have plok : PlOk l r := by
    cases r with
    | none => trivial
    | some r =>
      obtain ⟨t, p, qo⟩ := r
      have sm := MW.Due.small lt (fun p hp => ⟨by have := lps_lt hp; omega, (lps_lt hp).2⟩) due
      have hp := lps_lt sm.1
      refine ⟨fun c hc => wok.small c (sm.2.2.1 c hc), fun c hc => ?_, fun u hu c hc => wok.small c ((sm.2.2.2 u hu).2 c hc)⟩
      rcases (by simpa [pt] using hc : c = l.getD p.1 0 ∨ c = l.getD p.2 0) with z | z <;> rw [z] <;> exact wok.small _ (MW.getD_mem (by omega))
  have shp := shp_pl plok
  -- open_place()
  obtain ⟨rdx, rvs, hsl4⟩ := rd_slt hrd4
  refine ⟨_, rfl, rx, rdx, rvs, rfl, hsl4, rx, l, cs, R, A0, s0, T2, A2, rfl, hrd4, wok, lt, hTl, fun H5 v5 r5 s5 due5 pv5 => ?_⟩
  have er := due5.uniq due
  subst er
  refine ⟨_, rfl, dPl l r5, dPl l r5, pl_dp pv5, pl_dp (plv_same s5 hpv), shp, shp, _, rfl, ?_⟩
  rw [eqv_pl]
  refine iteF ?_
  have hrd5 := hrd4.same s5
  obtain ⟨rdx5, rvs5, hsl5⟩ := rd_slt hrd5
  refine ⟨_, rfl, rx, rdx5, rvs5, rfl, hsl5, rx, l, cs, R, A0, s0, T2, A2, rfl, hrd5, wok, lt, hTl, fun H6 lb s6 hlb => ?_⟩
  obtain ⟨ldx, lvs, hslb⟩ := rd_slt hlb
  refine ⟨lb, ldx, lvs, rfl, hslb, lb, l, cs, T2, A2, 0, T2, A2, rfl, hlb, wok, lt, hTl, fun H7 v7 r7 s7 due7 pv7 => ?_⟩
  have er := due7.uniq due
  subst er
  have s57 := s6.trans s7
  refine ⟨_, rfl, dPl l r7, dPl l r7, pl_dp pv7, pl_dp (plv_same (s5.trans s57) hpv), shp, shp, _, rfl, ?_⟩
  rw [eqv_pl]
  refine iteF ?_
  have hrd7 := hrd5.same s57
  obtain ⟨rdx7, rvs7, hsl7⟩ := rd_slt hrd7
  cases r7 with
  | none =>
    have hdv : dv = .non := hpv
    subst hdv
    refine ⟨_, rfl, rx, rdx7, rvs7, rfl, hsl7, rx, l, cs, R, A0, s0, T2, A2, rfl, hrd7, wok, lt, hTl, fun H8 s8 hb => ?_, fun H8 x s8 hb => absurd (FirstBad.uniq (r := none) due hb) (fun z => nomatch z)⟩
    have s48 := ((s5.trans s57).trans s8)
    have s08 := s04.trans s48
    refine ⟨_, rfl, _, _, _, _, true, rfl, .ty _, .base (.bl _), kit_ty (by decide +kernel), true, rfl, iteF ?_⟩
    refine ⟨_, rfl, _, rfl, rfl, _, rfl, ite2 (fun h => absurd h (by decide)) (fun _ => ?_)⟩
    have fin : ∀ H9, Same H8 H9 → tF D [x0, x1, some (.ref d), some (tx l), some (.ref ca), some (nv way), some (.ref dt), some (.ref rx), some (.ref ta), some (.ref tba), some .non, some (.bl true), x12] H9 := fun H9 s89 =>
      runF D H9 _ _ _ _ _ _ d ca dt rx .non none l cs way R A0 s0 T2 A2 ((s08.trans s89) _ _ hd) ((s08.trans s89) _ _ hca) hl2 hl3 wok (hdr.same (s08.trans s89)) au (hrd7.same (s8.trans s89)) rfl (fun _ _ _ z => nomatch z) fun H' y11 y12 s' => q _ _ _ _ _ _ _ ((s08.trans s89).trans s')
    refine ⟨_, rfl, _, _, rfl, rfl, _, rfl, ite2 (fun _ => ?_) (fun _ => iteF (fin H8 (Same.refl _)))⟩
    refine ⟨_, rfl, Nat.zero_le _, fun ep hep => ⟨.tuple (cs.map fun c => PyData.str ⟨c.toArray⟩), .tuple [], .tup (SqT.of ((same_upd hep) _ _ (s08 _ _ hca))) (dp_txs cs), .tup (SqT.of upd_same) .nil, shp_txs (fun c hc => prs_lo wok.small c (wok.sub c hc)), rfl, _, rfl, ite2 (fun _ => ?_) (fun _ => iteF (fin _ (same_upd hep)))⟩⟩
    exact ⟨_, rfl, _, rfl, iteF (fin _ (same_upd hep))⟩
  | some r =>
    obtain ⟨t, p, qo⟩ := r
    obtain ⟨e, rfl, he⟩ := hpv
    refine ⟨_, rfl, rx, rdx7, rvs7, rfl, hsl7, rx, l, cs, R, A0, s0, T2, A2, rfl, hrd7, wok, lt, hTl, fun H8 s8 hb => absurd (FirstBad.uniq due.choose_spec.1 hb) (fun z => nomatch z), fun H8 x s8 hb => ?_⟩
    have s48 := ((s5.trans s57).trans s8)
    have s08 := s04.trans s48
    refine ⟨_, rfl, _, _, _, _, true, rfl, .ty _, .base (.bl _), kit_ty (by decide +kernel), true, rfl, iteF ?_⟩
    have en : decide (V.ref e = V.non) = false := decide_eq_false (fun z => nomatch z)
    refine ⟨_, rfl, _, rfl, rfl, _, rfl, ?_⟩
    rw [en]
    refine iteF ?_
    have hsm := MW.Due.small lt (fun p hp => ⟨by have := lps_lt hp; omega, (lps_lt hp).2⟩) due
    have hp := lps_lt hsm.1
    have hTT : T2.length ≤ 5 := by omega
    obtain ⟨i, hfb, htx, hlp⟩ := due
    have n1 : (goals T2 i p).1 < T2.length := lt.tab.nx_lt (lt.tab.nx_lt hfb.1 (by omega)) (by omega)
    have n2 : (goals T2 i p).2 < T2.length := lt.tab.nx_lt (lt.tab.nx_lt hfb.1 (by omega)) (by omega)
    have hpb : MW.parts T2 i p = true := List.find?_some hfb.2.2
    have hne : (goals T2 i p).1 ≠ (goals T2 i p).2 := of_decide_eq_true hpb
    obtain ⟨t2, rfl⟩ := MW.LPart.parted lt n1 n2 hne hlp
    have ht2 := (hsm.2.2.2 t2 rfl).1
    have hsq : T2.length * T2.length ≤ 25 := Nat.mul_le_mul hTT hTT
    have fin : ∀ H9, Same H8 H9 → tF D [x0, x1, some (.ref d), some (tx l), some (.ref ca), some (nv way), some (.ref dt), some (.ref rx), some (.ref ta), some (.ref tba), some (.ref e), some (.bl false), x12] H9 := fun H9 s89 =>
      runF D H9 _ _ _ _ _ _ d ca dt rx (.ref e) (some (t, p, some t2)) l cs way R A0 s0 T2 A2 ((s08.trans s89) _ _ hd) ((s08.trans s89) _ _ hca) hl2 hl3 wok (hdr.same (s08.trans s89)) au (hrd7.same (s8.trans s89)) ⟨e, rfl, (s48.trans s89) _ _ he⟩ (fun t' pp' q' z => by cases z; exact ⟨Nat.le_trans hsm.2.1 (by omega), t2, rfl, by omega⟩) fun H' y11 y12 s' => q _ _ _ _ _ _ _ ((s08.trans s89).trans s')
    refine ⟨_, rfl, _, _, rfl, rfl, _, rfl, ite2 (fun hw => ?_) (fun _ => iteF (fin H8 (Same.refl _)))⟩
    have hw : way < 2 := by have h : (way : Int) < 2 := of_decide_eq_true hw; omega
    have hcs : cs = [] := Classical.byContradiction fun hc => by
      have := FirstBad.none_of (T := T2) (LP := lps l cs) fun i hi p hp => MW.Least.comm au.tab au.h0 lst (by have := lps_lt hp; omega) (lps_lt hp).2 (hcl hw hc p hp) i hi
      exact absurd (FirstBad.uniq hfb this) (fun z => nomatch z)
    refine ⟨_, rfl, Nat.zero_le _, fun ep hep => ⟨.tuple (cs.map fun c => PyData.str ⟨c.toArray⟩), .tuple [], .tup (SqT.of ((same_upd hep) _ _ (s08 _ _ hca))) (dp_txs cs), .tup (SqT.of upd_same) .nil, shp_txs (fun c hc => prs_lo wok.small c (wok.sub c hc)), rfl, _, rfl, ?_⟩⟩
    rw [eqv_cs, hcs]
    exact iteF (iteF (fin _ (same_upd hep)))
end
end Ww
end S_Wl12

section S_Wl13
set_option Elab.async false
set_option linter.all false
set_option maxRecDepth 100000
set_option maxHeartbeats 2000000
/-! The law's walks 13: the law. -/
namespace Ww
open PySem PySem.Spec PyProof.Rows L2 WwR SlX
open C8 (Cal pe_c)
open MW (Rows suc nx Tab)
theorem getD_inj {l : List Nat} (hn : l.Nodup) {i j : Nat} (hi : i < l.length) (hj : j < l.length) (e : l.getD i 0 = l.getD j 0) : i = j := by
  rw [List.getD_eq_getElem?_getD, List.getD_eq_getElem?_getD, List.getElem?_eq_getElem hi, List.getElem?_eq_getElem hj] at e
  exact nd_inj hn hi hj e
/-- a loose pair is not within a pair in conflict -/
theorem loose_out {l : List Nat} {cs : List (List Nat)} (hn : l.Nodup) {p q : Nat × Nat} (hp : p ∈ lps l cs) (hq : q ∈ ixp l.length) (hc : pt l q ∈ cs) : l.getD p.1 0 ∉ pt l q ∨ l.getD p.2 0 ∉ pt l q := by
  have h1 := lps_lt hp
  have h2 := ixp_lt hq
  have hout : pt l p ∉ cs := by simpa using (List.mem_filter.mp hp).2
  by_cases a : l.getD p.1 0 ∈ pt l q
  · by_cases b : l.getD p.2 0 ∈ pt l q
    · exfalso
      have a := (by simpa [pt] using a : l.getD p.1 0 = l.getD q.1 0 ∨ l.getD p.1 0 = l.getD q.2 0)
      have b := (by simpa [pt] using b : l.getD p.2 0 = l.getD q.1 0 ∨ l.getD p.2 0 = l.getD q.2 0)
      have a : p.1 = q.1 ∨ p.1 = q.2 := a.imp (getD_inj hn (by omega) (by omega)) (getD_inj hn (by omega) (by omega))
      have b : p.2 = q.1 ∨ p.2 = q.2 := b.imp (getD_inj hn (by omega) (by omega)) (getD_inj hn (by omega) (by omega))
      have e : p = q := Prod.ext (by omega) (by omega)
      rw [e] at hout
      exact hout hc
    · exact .inr b
  · exact .inl a
section
variable {P : Program} {w : World} {K : PySem.W.Frag} {mg : Str → Option Value} {base : Heap}

def spLaw (K : PySem.W.Frag) : Sp := fun vs H Q _ => ∃ (a : Addr) (ns : List Int), vs = [.ref a] ∧ SqL K H a (ns.map V.int) ∧ ns.length ≤ 63 ∧ ∀ H', Q (.bl true) H'
theorem ok_law (B : En P w K mg base) {f : Addr} {fd : FuncData} (F : FunD K "law" "law" (defArgs sLaw) (defBody sLaw) (defScope sLaw) [] [] f fd) : FnOk P w K mg base C8.CX0 8 f fd ["_law_script"] (spLaw K) := by
  refine F.ok scLaw (fun vs H Q E h => ?_) fun cdv A outer s H vs Q E hr h => ?_
  · obtain ⟨a, ns, rfl, _⟩ := h
    rfl
  · obtain ⟨a, ns, rfl, hs, hl, q⟩ := h
    suffices hh : ∃ t, PSs (cxOf C8.CX0 P w K mg base ["_law_script", "_law_spot", "_law_dice_here", "_law_letters_here", "_law_conflicts_here", "_law_way", "_law_drawn", "_law_reader", "_law_rows", "_law_accepts", "_law_due", "_law_told", "_law_value"] "law" (defScope sLaw) f cdv A outer s H E).nox (defBody sLaw) t ∧ t { nx := fun _ H' => Q .non H', rt := Q } (start ["_law_script", "_law_spot", "_law_dice_here", "_law_letters_here", "_law_conflicts_here", "_law_way", "_law_drawn", "_law_reader", "_law_rows", "_law_accepts", "_law_due", "_law_told", "_law_value"] [.ref a]) H by
      obtain ⟨t, h1, h2⟩ := hh
      exact ⟨t, h1.nox, h2⟩
    have hu := hu_of hr
    have hu64 := hr.units
    obtain ⟨tT, hT, runT⟩ := law_rest B (outer := outer) (H0 := H) (E := E) hr
    refine ⟨_, (pss_cons (ps_for PassesOwn.never rfl (pi_range1 rfl B.range_ (pa_cons (pe_callB (call_max2 rfl) (by rfl) B.max_ boot_max (pa_cons pe_int (pa_cons (pe_callB (call_min2 rfl) (by rfl) B.min_ boot_min (pa_cons pe_int (pa_cons (pe_callB (call_len_seqK K rfl) (by rfl) B.len_ boot_len (pa_cons (pv 0) pa_nil)) pa_nil))) pa_nil))) pa_nil)) (pg_name (i := 1) scLaw.nd rfl (Or.inl rfl)) (pss_cons (ps_set (i := 2) scLaw.nd rfl (Or.inl rfl) (pe_c (c_law_dice B) hr (by decide) (by rfl) (pa_cons (pv 0) (pa_cons (pv 1) pa_nil))))
    (pss_cons (ps_set (i := 3) scLaw.nd rfl (Or.inl rfl) (pe_c (c_law_letters B) hr (by decide) (by rfl) (pa_cons (pv 2) (pa_cons pe_int (pa_cons pe_int pa_nil)))))
    (pss_cons (ps_set (i := 4) scLaw.nd rfl (Or.inl rfl) (pe_c (c_law_conflicts B) hr (by decide) (by rfl) (pa_cons (pv 2) (pa_cons (pv 3) pa_nil))))
    (pss_cons (ps_set (i := 5) scLaw.nd rfl (Or.inl rfl) (pe_c (c_law_roll B) hr (by decide) (by rfl) (pa_cons (pv 2) (pa_cons pe_int pa_nil))))
    (pss_cons (ps_set (i := 6) scLaw.nd rfl (Or.inl rfl) (pe_ifExp (pt_cmpR op_eq (pv 5) pe_int (nomark _)) (pe_c (c_law_counting_rows B) hr (by decide) (by rfl) (pa_cons (pv 2) (pa_cons (pv 3) pa_nil))) (pe_c (c_law_drawn_rows B) hr (by decide) (by rfl) (pa_cons (pv 2) (pa_cons (pv 3) (pa_cons pe_int pa_nil))))))
    (pss_cons (ps_if (PW.pt (pw_and (pt_cmpR op_eq (pv 5) pe_int (nomark _)) (pw_and1 (pt_cmpR (op_neD hu64) (pv 4) (pe_tup pa_nil) (nomark _))))) (pss_one (ps_set (i := 6) scLaw.nd rfl (Or.inl rfl) (pe_c (c_law_widened B) hr (by decide) (by rfl) (pa_cons (pv 2) (pa_cons (pv 3) (pa_cons (pe_c (c_law_pickT B) hr (by decide) (by rfl) (pa_cons (pv 2) (pa_cons (pv 4) pa_nil))) pa_nil)))))) pss_nil)
    hT))))))) (pss_one (ps_ret pe_bl))), ?_⟩
    refine ⟨_, rfl, a, _, rfl, .inl hs, _, _, rfl, _, _, rfl, _, rfl, ?_, ?_, for_range (n := Int.toNat _) (fun i σ H1 => ∃ (x1 x2 x3 x4 x5 x6 x7 x8 x9 x10 x11 x12 : Option V), σ = [some (.ref a), x1, x2, x3, x4, x5, x6, x7, x8, x9, x10, x11, x12] ∧ Same H H1) ⟨_, _, _, _, _, _, _, _, _, _, _, _, rfl, Same.refl _⟩ (fun i σ H1 hi h => ?_) (fun σ H1 h => q _)⟩
    · split <;> split <;> omega
    · split <;> split <;> omega
    obtain ⟨x1, x2, x3, x4, x5, x6, x7, x8, x9, x10, x11, x12, rfl, s1⟩ := h
    have hi4 : i ≤ 100 := by
      split at hi <;> split at hi <;> omega
    have e0 : ((0 : Int) + (i : Nat)) = (i : Nat) := by omega
    rw [e0]
    refine ⟨_, rfl, _, rfl, a, ns, i, rfl, s1.seq hs, hi4, fun H2 d s2 d0 hd => ?_⟩
    refine ⟨_, rfl, d, rfl, hd, fun H3 l s3 hl2 hl3 hlo pw => ?_⟩
    have hd3 := s3 _ _ hd
    refine ⟨_, rfl, _, rfl, d, l, rfl, hd3, hl3, pw, fun H4 ca cs s4 ca0 hca hsub asc hlen => ?_⟩
    have hd4 := s4 _ _ hd3
    refine ⟨_, rfl, d, 4, rfl, hd4, by decide, by decide, fun way hway => ?_⟩
    have wok : WOk l cs := ⟨by omega, hlo, asc_sub pw, pw_nodup pw, by omega, hsub, asc⟩
    have s04 := ((s1.trans s2).trans s3).trans s4
    refine ⟨_, rfl, rfl, _, rfl, ite2 (fun hw => ?_) (fun hw => ?_)⟩
    · have hw : way = 0 := by
        have h : nv way = nv 0 := of_decide_eq_true hw
        injection h with h
        omega
      subst hw
      refine ⟨_, rfl, _, rfl, d, l, rfl, hd4, by omega, fun H5 dt R A0 s0 s5 hdr au hRl ⟨st, hst⟩ => ?_⟩
      refine ⟨_, rfl, rfl, _, rfl, ite2 (fun h => absurd (of_decide_eq_true h) (fun z => by injection z with z; cases z)) (fun _ => iteF ?_)⟩
      refine runT _ H5 _ _ _ _ _ _ _ _ d ca dt l cs 0 R A0 s0 (s5 _ _ hd4) (s5 _ _ hca) hl2 hl3 wok hdr au hRl (fun _ _ p hp => ?_) fun H6 y7 y8 y9 y10 y11 y12 s6 => ⟨_, _, _, _, _, _, _, _, _, _, _, _, rfl, (s04.trans s5).trans s6⟩
      have hp := lps_lt hp
      exact MW.count_comm (k := l.length) (fun s a hs ha => hst s a hs ha) (by have := au.h0; omega) (by omega) hp.2
    · refine ⟨_, rfl, _, rfl, d, l, 5, rfl, hd4, by decide, by decide, by omega, fun H5 dt R A0 s0 s5 hdr au hRl => ?_⟩
      have hw0 : way ≠ 0 := fun z => hw (by rw [z]; exact decide_eq_true rfl)
      refine ⟨_, rfl, rfl, _, rfl, ite2 (fun h1 => ?_) (fun h1 => iteF ?_)⟩
      · refine ⟨_, rfl, Nat.zero_le _, fun ep hep => ⟨.tuple (cs.map fun c => PyData.str ⟨c.toArray⟩), .tuple [], .tup (SqT.of ((same_upd hep) _ _ (s5 _ _ hca))) (dp_txs cs), .tup (SqT.of upd_same) .nil, shp_txs (fun c hc => prs_lo wok.small c (wok.sub c hc)), rfl, _, rfl, ?_⟩⟩
        have s6 := same_upd hep (o := .tup [])
        rw [eqv_cs]
        cases he : cs.isEmpty with
        | true =>
          have hcs : cs = [] := List.isEmpty_iff.mp he
          refine iteF ?_
          refine runT _ _ _ _ _ _ _ _ _ _ d ca dt l cs way R A0 s0 (s6 _ _ (s5 _ _ hd4)) (s6 _ _ (s5 _ _ hca)) hl2 hl3 wok (hdr.same s6) au hRl (fun _ hc => absurd hcs hc) fun H7 y7 y8 y9 y10 y11 y12 s7 => ⟨_, _, _, _, _, _, _, _, _, _, _, _, rfl, ((s04.trans s5).trans s6).trans s7⟩
        | false =>
          have hne : cs ≠ [] := fun z => by rw [z] at he; cases he
          refine iteT ?_
          refine ⟨_, rfl, _, rfl, _, rfl, _, rfl, d, ca, cs.map tx, rfl, s6 _ _ (s5 _ _ hd4), s6 _ _ (s5 _ _ hca), fun z => hne (List.map_eq_nil_iff.mp z), by rw [List.length_map]; omega, fun x hx => ?_⟩
          obtain ⟨c, hc, rfl⟩ := List.mem_map.mp hx
          obtain ⟨pp, hpp, rfl⟩ := List.mem_map.mp (hsub c hc)
          have hpl := ixp_lt hpp
          have hpn : (pt l pp).Nodup := by
            refine List.nodup_cons.mpr ⟨fun z => ?_, List.nodup_cons.mpr ⟨(fun z => by cases z), List.nodup_nil⟩⟩
            have z := List.mem_singleton.mp z
            have := getD_inj wok.nd (by omega) (by omega) z
            omega
          refine ⟨d, l, pt l pp, rfl, s6 _ _ (s5 _ _ hd4), by omega, by show 2 ≤ 10; decide, hpn, fun H7 dt2 R2 A2 s02 s7 hdr2 au2 hRl2 hidle => ?_⟩
          refine runT _ H7 _ _ _ _ _ _ _ _ d ca dt2 l cs way R2 A2 s02 (s7 _ _ (s6 _ _ (s5 _ _ hd4))) (s7 _ _ (s6 _ _ (s5 _ _ hca))) hl2 hl3 wok hdr2 au2 hRl2 (fun _ _ p hp => ?_) fun H8 y7 y8 y9 y10 y11 y12 s8 => ⟨_, _, _, _, _, _, _, _, _, _, _, _, rfl, (((s04.trans s5).trans s6).trans s7).trans s8⟩
          have hp2 := lps_lt hp
          exact MW.Idle.comm au2.tab (by omega) hp2.2 ((loose_out wok.nd hp hpp hc).imp (hidle _ (by omega)) (hidle _ hp2.2))
      · have hw1 : way ≠ 1 := fun z => h1 (by rw [z]; exact decide_eq_true rfl)
        refine runT _ H5 _ _ _ _ _ _ _ _ d ca dt l cs way R A0 s0 (s5 _ _ hd4) (s5 _ _ hca) hl2 hl3 wok hdr au hRl (fun hw2 _ => absurd hw2 (by omega)) fun H6 y7 y8 y9 y10 y11 y12 s6 => ⟨_, _, _, _, _, _, _, _, _, _, _, _, rfl, (s04.trans s5).trans s6⟩
end
end Ww
end S_Wl13

section S_WwFacts
set_option Elab.async false
set_option linter.all false
set_option maxRecDepth 100000
set_option maxHeartbeats 2000000
/-! What the head leaves, as the walks want it. -/
namespace Ww
open PySem PySem.Spec PyProof.Rows L2 WwR SlX He5
section
variable {P : Program} {w : World} {K : PySem.W.Frag} {mg : Str → Option Value} {base : Heap} {h : Heap}
theorem cls_of {C : Str} (e : clsB K C = true) : SCls K (He.ga K C) := by
  obtain ⟨h1, e⟩ := He.ba e
  obtain ⟨h2, e⟩ := He.ba e
  obtain ⟨h3, h4⟩ := He.ba e
  exact ⟨h1, h2, h3, He.eqO_ok h4⟩
theorem isi_of {C : Str} (e : isiB K C = true) : SIsi K (He.ga K C) ∧ PySem.W.kitOne K (.ref (He.ga K C)) (.ref (He.ga K C)) = some true := by
  obtain ⟨h1, e⟩ := He.ba e
  obtain ⟨h2, e⟩ := He.ba e
  obtain ⟨h3, e⟩ := He.ba e
  obtain ⟨h4, h5⟩ := He.ba e
  exact ⟨⟨He.eqO_ok h1, He.eqO_ok h2, of_decide_eq_true h3, of_decide_eq_true h4⟩, of_decide_eq_true h5⟩
theorem slot_of {C f : Str} {i : Nat} (e : slotB K C f i = true) (hi : i < 1000) : Slot1 K (He.ga K C) f (He.ma K (He.ga K C) f) i := by
  obtain ⟨h1, e⟩ := He.ba e
  obtain ⟨h2, e⟩ := He.ba e
  obtain ⟨h3, e⟩ := He.ba e
  obtain ⟨h4, h5⟩ := He.ba e
  exact ⟨He.eqO_ok h1, He.eqO_ok h2, of_decide_eq_true h3, of_decide_eq_true h4, of_decide_eq_true h5, hi⟩
theorem prop_of {C f : Str} (e : propB K C f = true) : PySem.W.findIn K (.ref (He.ga K C)) f = some (some (.ref (He.ma K (He.ga K C) f))) ∧ PySem.W.specialIn K (.ref (He.ma K (He.ga K C) f)) "__get__" = some (some (.builtin "property.__get__")) ∧ PySem.W.takesIn K (.ref (He.ma K (He.ga K C) f)) = some true ∧
    ∃ rest, PySem.W.recIn K (He.ma K (He.ga K C) f) "property" = some (.ref (gt K C f) :: rest) := by
  obtain ⟨h1, e⟩ := He.ba e
  obtain ⟨h2, e⟩ := He.ba e
  obtain ⟨h3, h4⟩ := He.ba e
  refine ⟨He.eqO_ok h1, He.eqO_ok h2, of_decide_eq_true h3, ?_⟩
  unfold gt
  split at h4
  · rename_i g rest hg
    rw [hg]
    exact ⟨rest, rfl⟩
  · cases h4
theorem en_of (X : K.In h) (G : h.Ns mainGlobals mg) (c : obsK K = valK) : En P w K mg base := by
  have c1 : He5.SaysA fa fn K := congrArg Prod.fst c
  have c2 : ex K = true := congrArg Prod.snd c
  obtain ⟨x1, c2⟩ := He.ba c2
  obtain ⟨x2, c2⟩ := He.ba c2
  obtain ⟨x3, c2⟩ := He.ba c2
  obtain ⟨x4, c2⟩ := He.ba c2
  obtain ⟨x5, c2⟩ := He.ba c2
  obtain ⟨x6, c2⟩ := He.ba c2
  obtain ⟨x7, c2⟩ := He.ba c2
  obtain ⟨x8, c2⟩ := He.ba c2
  obtain ⟨x9, c2⟩ := He.ba c2
  obtain ⟨x10, c2⟩ := He.ba c2
  obtain ⟨x11, x12⟩ := He.ba c2
  exact {
    isinstance_ := He.free_ok X G (c1.fact 44 (f := .free "isinstance") rfl),
    len_ := He.free_ok X G (c1.fact 45 (f := .free "len") rfl),
    zip_ := He.free_ok X G (c1.fact 46 (f := .free "zip") rfl),
    all_ := He.free_ok X G (c1.fact 47 (f := .free "all") rfl),
    tuple_ := He.free_ok X G (c1.fact 48 (f := .free "tuple") rfl),
    list_ := He.free_ok X G (c1.fact 49 (f := .free "list") rfl),
    set_ := He.free_ok X G (c1.fact 50 (f := .free "set") rfl),
    enumerate_ := He.free_ok X G (c1.fact 51 (f := .free "enumerate") rfl),
    range_ := He.free_ok X G (c1.fact 52 (f := .free "range") rfl),
    int_ := He.free_ok X G (c1.fact 53 (f := .free "int") rfl),
    abs_ := He.free_ok X G (c1.fact 54 (f := .free "abs") rfl),
    max_ := He.free_ok X G (c1.fact 55 (f := .free "max") rfl),
    min_ := He.free_ok X G (c1.fact 56 (f := .free "min") rfl),
    sorted_ := He.free_ok X G (c1.fact 57 (f := .free "sorted") rfl),
    str_ := He.free_ok X G (c1.fact 58 (f := .free "str") rfl),
    bool_ := He.free_ok X G (c1.fact 59 (f := .free "bool") rfl),
    GREATEST := by obtain ⟨t, e⟩ := He.int_ok X G (c1.fact 60 (f := .int "GREATEST" (10 ^ 60)) rfl); exact ⟨_, e, t, rfl⟩,
    MAX_LETTERS := by obtain ⟨t, e⟩ := He.int_ok X G (c1.fact 61 (f := .int "MAX_LETTERS" 10) rfl); exact ⟨_, e, t, rfl⟩,
    MAX_STATES := by obtain ⟨t, e⟩ := He.int_ok X G (c1.fact 62 (f := .int "MAX_STATES" 200) rfl); exact ⟨_, e, t, rfl⟩,
    MAX_READ := by obtain ⟨t, e⟩ := He.int_ok X G (c1.fact 63 (f := .int "MAX_READ" 1000) rfl); exact ⟨_, e, t, rfl⟩,
    f_is_integer := by obtain ⟨fd, F⟩ := c1.def_ 0 (d := dG "is_integer" sIsInteger) rfl; exact ⟨_, fd, F, He.glo_ok X G (c1.fact 0 (f := .glo "is_integer") rfl)⟩,
    f_is_from := by obtain ⟨fd, F⟩ := c1.def_ 1 (d := dG "is_from" sIsFrom) rfl; exact ⟨_, fd, F, He.glo_ok X G (c1.fact 1 (f := .glo "is_from") rfl)⟩,
    f_is_letter := by obtain ⟨fd, F⟩ := c1.def_ 2 (d := dG "is_letter" sIsLetter) rfl; exact ⟨_, fd, F, He.glo_ok X G (c1.fact 2 (f := .glo "is_letter") rfl)⟩,
    f_are_ascending := by obtain ⟨fd, F⟩ := c1.def_ 3 (d := dG "are_ascending" sAreAscending) rfl; exact ⟨_, fd, F, He.glo_ok X G (c1.fact 3 (f := .glo "are_ascending") rfl)⟩,
    f_pair_of := by obtain ⟨fd, F⟩ := c1.def_ 4 (d := dG "pair_of" sPairOf) rfl; exact ⟨_, fd, F, He.glo_ok X G (c1.fact 4 (f := .glo "pair_of") rfl)⟩,
    f_pairs_of := by obtain ⟨fd, F⟩ := c1.def_ 5 (d := dG "pairs_of" sPairsOf) rfl; exact ⟨_, fd, F, He.glo_ok X G (c1.fact 5 (f := .glo "pairs_of") rfl)⟩,
    f_are_letters := by obtain ⟨fd, F⟩ := c1.def_ 6 (d := dG "are_letters" sAreLetters) rfl; exact ⟨_, fd, F, He.glo_ok X G (c1.fact 6 (f := .glo "are_letters") rfl)⟩,
    f_are_conflicts := by obtain ⟨fd, F⟩ := c1.def_ 7 (d := dG "are_conflicts" sAreConflicts) rfl; exact ⟨_, fd, F, He.glo_ok X G (c1.fact 7 (f := .glo "are_conflicts") rfl)⟩,
    f_close_row := by obtain ⟨fd, F⟩ := c1.def_ 8 (d := dG "close_row" sCloseRow) rfl; exact ⟨_, fd, F, He.glo_ok X G (c1.fact 8 (f := .glo "close_row") rfl)⟩,
    f_require_web := by obtain ⟨fd, F⟩ := c1.def_ 9 (d := dG "require_web" sRequireWeb) rfl; exact ⟨_, fd, F, He.glo_ok X G (c1.fact 9 (f := .glo "require_web") rfl)⟩,
    f_states_reached := by obtain ⟨fd, F⟩ := c1.def_ 10 (d := dG "states_reached" sStatesReached) rfl; exact ⟨_, fd, F, He.glo_ok X G (c1.fact 10 (f := .glo "states_reached") rfl)⟩,
    f_classes_of := by obtain ⟨fd, F⟩ := c1.def_ 11 (d := dG "classes_of" sClassesOf) rfl; exact ⟨_, fd, F, He.glo_ok X G (c1.fact 11 (f := .glo "classes_of") rfl)⟩,
    f_marks_of := by obtain ⟨fd, F⟩ := c1.def_ 12 (d := dG "marks_of" sMarksOf) rfl; exact ⟨_, fd, F, He.glo_ok X G (c1.fact 12 (f := .glo "marks_of") rfl)⟩,
    f_least_table := by obtain ⟨fd, F⟩ := c1.def_ 13 (d := dG "least_table" sLeastTable) rfl; exact ⟨_, fd, F, He.glo_ok X G (c1.fact 13 (f := .glo "least_table") rfl)⟩,
    f_least_parting := by obtain ⟨fd, F⟩ := c1.def_ 14 (d := dG "least_parting" sLeastParting) rfl; exact ⟨_, fd, F, He.glo_ok X G (c1.fact 14 (f := .glo "least_parting") rfl)⟩,
    f_first_open := by obtain ⟨fd, F⟩ := c1.def_ 15 (d := dG "first_open" sFirstOpen) rfl; exact ⟨_, fd, F, He.glo_ok X G (c1.fact 15 (f := .glo "first_open") rfl)⟩,
    f_is_state_of := by obtain ⟨fd, F⟩ := c1.def_ 16 (d := dG "is_state_of" sIsStateOf) rfl; exact ⟨_, fd, F, He.glo_ok X G (c1.fact 16 (f := .glo "is_state_of") rfl)⟩,
    f_are_state_rows := by obtain ⟨fd, F⟩ := c1.def_ 17 (d := dG "are_state_rows" sAreStateRows) rfl; exact ⟨_, fd, F, He.glo_ok X G (c1.fact 17 (f := .glo "are_state_rows") rfl)⟩,
    f_are_accepted := by obtain ⟨fd, F⟩ := c1.def_ 18 (d := dG "are_accepted" sAreAccepted) rfl; exact ⟨_, fd, F, He.glo_ok X G (c1.fact 18 (f := .glo "are_accepted") rfl)⟩,
    f_is_read_text := by obtain ⟨fd, F⟩ := c1.def_ 19 (d := dG "is_read_text" sIsReadText) rfl; exact ⟨_, fd, F, He.glo_ok X G (c1.fact 19 (f := .glo "is_read_text") rfl)⟩,
    f_law_dice := by obtain ⟨fd, F⟩ := c1.def_ 20 (d := dG "_law_dice" sLawDice) rfl; exact ⟨_, fd, F, He.glo_ok X G (c1.fact 20 (f := .glo "_law_dice") rfl)⟩,
    f_law_roll := by obtain ⟨fd, F⟩ := c1.def_ 21 (d := dG "_law_roll" sLawRoll) rfl; exact ⟨_, fd, F, He.glo_ok X G (c1.fact 21 (f := .glo "_law_roll") rfl)⟩,
    f_law_pick := by obtain ⟨fd, F⟩ := c1.def_ 22 (d := dG "_law_pick" sLawPick) rfl; exact ⟨_, fd, F, He.glo_ok X G (c1.fact 22 (f := .glo "_law_pick") rfl)⟩,
    f_law_mixed := by obtain ⟨fd, F⟩ := c1.def_ 23 (d := dG "_law_mixed" sLawMixed) rfl; exact ⟨_, fd, F, He.glo_ok X G (c1.fact 23 (f := .glo "_law_mixed") rfl)⟩,
    f_law_some := by obtain ⟨fd, F⟩ := c1.def_ 24 (d := dG "_law_some" sLawSome) rfl; exact ⟨_, fd, F, He.glo_ok X G (c1.fact 24 (f := .glo "_law_some") rfl)⟩,
    f_law_letters := by obtain ⟨fd, F⟩ := c1.def_ 25 (d := dG "_law_letters" sLawLetters) rfl; exact ⟨_, fd, F, He.glo_ok X G (c1.fact 25 (f := .glo "_law_letters") rfl)⟩,
    f_law_pairs := by obtain ⟨fd, F⟩ := c1.def_ 26 (d := dG "_law_pairs" sLawPairs) rfl; exact ⟨_, fd, F, He.glo_ok X G (c1.fact 26 (f := .glo "_law_pairs") rfl)⟩,
    f_law_conflicts := by obtain ⟨fd, F⟩ := c1.def_ 27 (d := dG "_law_conflicts" sLawConflicts) rfl; exact ⟨_, fd, F, He.glo_ok X G (c1.fact 27 (f := .glo "_law_conflicts") rfl)⟩,
    f_law_text := by obtain ⟨fd, F⟩ := c1.def_ 28 (d := dG "_law_text" sLawText) rfl; exact ⟨_, fd, F, He.glo_ok X G (c1.fact 28 (f := .glo "_law_text") rfl)⟩,
    f_law_read_state := by obtain ⟨fd, F⟩ := c1.def_ 29 (d := dG "_law_read_state" sLawReadState) rfl; exact ⟨_, fd, F, He.glo_ok X G (c1.fact 29 (f := .glo "_law_read_state") rfl)⟩,
    f_law_marks := by obtain ⟨fd, F⟩ := c1.def_ 30 (d := dG "_law_marks" sLawMarks) rfl; exact ⟨_, fd, F, He.glo_ok X G (c1.fact 30 (f := .glo "_law_marks") rfl)⟩,
    f_law_least_reader := by obtain ⟨fd, F⟩ := c1.def_ 31 (d := dG "_law_least_reader" sLawLeastReader) rfl; exact ⟨_, fd, F, He.glo_ok X G (c1.fact 31 (f := .glo "_law_least_reader") rfl)⟩,
    f_law_drawn_rows := by obtain ⟨fd, F⟩ := c1.def_ 32 (d := dG "_law_drawn_rows" sLawDrawnRows) rfl; exact ⟨_, fd, F, He.glo_ok X G (c1.fact 32 (f := .glo "_law_drawn_rows") rfl)⟩,
    f_law_least_parting := by obtain ⟨fd, F⟩ := c1.def_ 33 (d := dG "_law_least_parting" sLawLeastParting) rfl; exact ⟨_, fd, F, He.glo_ok X G (c1.fact 33 (f := .glo "_law_least_parting") rfl)⟩,
    f_law_loose_pairs := by obtain ⟨fd, F⟩ := c1.def_ 34 (d := dG "_law_loose_pairs" sLawLoosePairs) rfl; exact ⟨_, fd, F, He.glo_ok X G (c1.fact 34 (f := .glo "_law_loose_pairs") rfl)⟩,
    f_law_state_texts := by obtain ⟨fd, F⟩ := c1.def_ 35 (d := dG "_law_state_texts" sLawStateTexts) rfl; exact ⟨_, fd, F, He.glo_ok X G (c1.fact 35 (f := .glo "_law_state_texts") rfl)⟩,
    f_law_first_open := by obtain ⟨fd, F⟩ := c1.def_ 36 (d := dG "_law_first_open" sLawFirstOpen) rfl; exact ⟨_, fd, F, He.glo_ok X G (c1.fact 36 (f := .glo "_law_first_open") rfl)⟩,
    f_law_widened := by obtain ⟨fd, F⟩ := c1.def_ 37 (d := dG "_law_widened" sLawWidened) rfl; exact ⟨_, fd, F, He.glo_ok X G (c1.fact 37 (f := .glo "_law_widened") rfl)⟩,
    f_law_counting_rows := by obtain ⟨fd, F⟩ := c1.def_ 38 (d := dG "_law_counting_rows" sLawCountingRows) rfl; exact ⟨_, fd, F, He.glo_ok X G (c1.fact 38 (f := .glo "_law_counting_rows") rfl)⟩,
    f_law_is_open := by obtain ⟨fd, F⟩ := c1.def_ 39 (d := dG "_law_is_open" sLawIsOpen) rfl; exact ⟨_, fd, F, He.glo_ok X G (c1.fact 39 (f := .glo "_law_is_open") rfl)⟩,
    f_law_values := by obtain ⟨fd, F⟩ := c1.def_ 40 (d := dG "_law_values" sLawValues) rfl; exact ⟨_, fd, F, He.glo_ok X G (c1.fact 40 (f := .glo "_law_values") rfl)⟩,
    f_law := by obtain ⟨fd, F⟩ := c1.def_ 41 (d := dG "law" sLaw) rfl; exact ⟨_, fd, F, He.glo_ok X G (c1.fact 41 (f := .glo "law") rfl)⟩,
    f_Web_init := by obtain ⟨fd, F⟩ := c1.def_ 42 rfl; exact ⟨fd, _, F⟩,
    f_Web_loose := by obtain ⟨fd, F⟩ := c1.def_ 43 rfl; exact ⟨fd, F⟩,
    f_Reader_init := by obtain ⟨fd, F⟩ := c1.def_ 44 rfl; exact ⟨fd, F⟩,
    f_Reader_led := by obtain ⟨fd, F⟩ := c1.def_ 45 rfl; exact ⟨fd, F⟩,
    f_Reader_least := by obtain ⟨fd, F⟩ := c1.def_ 46 rfl; exact ⟨fd, F⟩,
    f_Reader_is_closed := by obtain ⟨fd, F⟩ := c1.def_ 47 rfl; exact ⟨fd, F⟩,
    f_Reader_open_place := by obtain ⟨fd, F⟩ := c1.def_ 48 rfl; exact ⟨fd, F⟩,
    f_Reader_is_open_place := by obtain ⟨fd, F⟩ := c1.def_ 49 rfl; exact ⟨fd, F⟩,
    cW := cls_of x1,
    cR := cls_of x2,
    iW := (isi_of x3).1,
    kW := (isi_of x3).2,
    s_own_close := slot_of x5 (by decide),
    s_own_conflicts := slot_of x6 (by decide),
    s_own_letters := slot_of x7 (by decide),
    s_own_accepts := slot_of x8 (by decide),
    s_own_key := slot_of x9 (by decide),
    s_own_rows := slot_of x10 (by decide),
    s_own_start := slot_of x11 (by decide),
    s_own_web := slot_of x12 (by decide),
    pr_at := (prop_of x4).1,
    pr_get := (prop_of x4).2.1,
    pr_tk := (prop_of x4).2.2.1,
    pr_rc := (prop_of x4).2.2.2,
    gW := He.glo_ok X G (c1.fact 42 (f := .glo "Web") rfl),
    gR := He.glo_ok X G (c1.fact 43 (f := .glo "Reader") rfl),
    mW := He.mkr_ok (c1.fact 64 (f := .mkr "Web") rfl),
    mR := He.mkr_ok (c1.fact 65 (f := .mkr "Reader") rfl),
    m_led := He.meth_ok (c1.fact 66 (f := .meth "Reader" "led") rfl),
    m_least := He.meth_ok (c1.fact 67 (f := .meth "Reader" "least") rfl),
    m_is_closed := He.meth_ok (c1.fact 68 (f := .meth "Reader" "is_closed") rfl),
    m_open_place := He.meth_ok (c1.fact 69 (f := .meth "Reader" "open_place") rfl),
    m_is_open_place := He.meth_ok (c1.fact 70 (f := .meth "Reader" "is_open_place") rfl) }
end
end Ww
end S_WwFacts

section S_WwEnd
set_option Elab.async false
set_option linter.all false
set_option maxRecDepth 100000
set_option maxHeartbeats 0
/-! The end: head and walk joined. -/
namespace Ww
open PySem PySem.Spec PyProof.Rows L2
theorem facts {P : Program} {w : World} {K : PySem.W.Frag} {h : Heap} {mg : Str → Option Value} {f : Addr} (X : K.In h) (G : h.Ns mainGlobals mg) (hfa : mg ("law" : Str) = some (.ref f)) (c : obsK K = valK) :
    ∃ fd : FuncData, (∀ (s : Shared) (v : Value), BindsTo s fd ⟨[v], []⟩ [("_law_script", v)]) ∧ ∀ base : Heap, K.In base → base.Ns mainGlobals mg → FnOk P w K mg base C8.CX0 8 f fd ["_law_script"] (spLaw K) := by
  have B0 : En P w K mg h := en_of X G c
  obtain ⟨f2, fd, F, hm⟩ := B0.f_law.ex
  rw [hfa] at hm
  cases hm
  have b := FunD.bindsA (ps := ["_law_script"]) F fun _ _ _ _ _ _ us hl => match us, hl with | [_], _ => rfl
  exact ⟨fd, fun s v => b s [v] rfl, fun base _ _ => ok_law (en_of X G c) F⟩
end Ww
open PySem PySem.W PySem.Calls PyProof.Rows
theorem PySem.Challenge.cw_webwords_k75_whole_open_places_holds : PySem.Challenge.rw_webwords_k75_whole_open_places.Holds := by
  w_on; o_law
  refine HandSHeadRun.head_any (r := OpenLaw.row PySem.Challenge.rw_webwords_k75_whole_open_places) (q := view (OpenLaw.row PySem.Challenge.rw_webwords_k75_whole_open_places).prog [71]) (H := Ww.hookK 5) (ob := Ww.ob) (M := 20000) (loose := Ww.loose) (d := HandSHeadRun.topDef (OpenLaw.row PySem.Challenge.rw_webwords_k75_whole_open_places).prog 71) (kwd := []) Ww.ob_eq
    (by kernel_rfl) (fun s => by kernel_rfl) Ww.run (by kernel_rfl) (by kernel_rfl) (by kernel_rfl) (by rfl) (by first | assumption | decide +kernel) (by decide +kernel) ⟨rfl, rfl, rfl, rfl, rfl, by decide +kernel⟩ ?hw ?hc
  case hw => w_witness2
  case hc =>
    refine L2.walk_ofE (l := PySem.Challenge.rw_webwords_k75_whole_open_places) (n := 63) (k := 8) (x := "_law_script") (CX := C8.CX0) rfl (by decide) (by kernel_rfl) ⟨rfl, by decide, by decide⟩ ?F (fun _ _ _ _ z => z)
    intro w mg fa h Y G hmg0
    obtain ⟨K, KX, c⟩ := Y
    have hmg : mg ("law" : PySem.Str) = some (.ref fa) := by
      have e : (HandSHeadRun.topDef (OpenLaw.row PySem.Challenge.rw_webwords_k75_whole_open_places).prog 71).name = ("law" : PySem.Str) := by kernel_rfl
      rw [← e]
      exact hmg0
    obtain ⟨fd, hb, hF⟩ := Ww.facts (P := (PySem.Challenge.rw_webwords_k75_whole_open_places).prog) (w := w) KX G hmg c
    exact ⟨K, fd, Ww.spLaw K, KX, hb, fun H a ns hl _ hS => ⟨a, ns, rfl, hS, hl, fun _ => rfl⟩, hF⟩
end S_WwEnd
