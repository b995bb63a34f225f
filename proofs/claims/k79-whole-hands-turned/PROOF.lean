import PyProof.Rows.All
import Wide.All
import OpenK.AllK
import Wide.FinOn
import HandS.ForMost
import HandS.Walk
import KE.GoesEnum
import PyProof.EnumMake
import PyProof.Draws
import KE.KeyNested
import KE.KDictKeyed
import KE.KDictDisplayH
import HandS.Deep
import HandS.Codes
import HandS.Defaults
import HandS.HeadHook4
import HandS.TupSets
import HandS.SetFor
import HandS.Strs
import HandS.More
import HandS.IsInst
import HandS.StrMore
import HandS.WordsExc
import HandS.ExcOwn
import HandS.DictComp
import HandS.MakeKwOnly
import HandS.Wide
import HandS.Flow
import HandS.HeadEnd
import HandS.Head2
import PySem.Challenge.RW_onehand_k79_whole_hands_turned
set_option Elab.async false
set_option linter.all false
set_option maxRecDepth 100000
set_option maxHeartbeats 0
/-! part MathA -/
/-! Searches and rounds, in plain Lean. -/
namespace K79
section
variable {α : Type} [DecidableEq α]
theorem len_le_of_sub : ∀ {l U : List α}, l.Nodup → (∀ x ∈ l, x ∈ U) → l.length ≤ U.length
  | [], _, _, _ => Nat.zero_le _
  | a :: l, U, hn, hs => by
    have h1 : a ∈ U := hs a List.mem_cons_self
    obtain ⟨ha, hl⟩ := List.nodup_cons.mp hn
    have h2 : l.length ≤ (U.erase a).length := len_le_of_sub hl fun x hx => by
      have hne : x ≠ a := fun e => ha (e ▸ hx)
      exact (List.mem_erase_of_ne hne).mpr (hs x (List.mem_cons_of_mem _ hx))
    have h3 := List.length_erase_of_mem h1
    have h4 : 0 < U.length := List.length_pos_of_mem h1
    simp only [List.length_cons]
    omega
theorem len_eq_of_same {l m : List α} (hl : l.Nodup) (hm : m.Nodup) (h : ∀ x, x ∈ l ↔ x ∈ m) : l.length = m.length :=
  Nat.le_antisymm (len_le_of_sub hl fun x hx => (h x).mp hx) (len_le_of_sub hm fun x hx => (h x).mpr hx)
/-- put in what is not there -/
def ins (l : List α) (x : α) : List α := if x ∈ l then l else l ++ [x]
def insAll (l xs : List α) : List α := xs.foldl ins l
theorem ins_pre (l : List α) (x : α) : ∃ e, ins l x = l ++ e := by
  unfold ins
  split
  · exact ⟨[], by simp⟩
  · exact ⟨[x], rfl⟩
theorem insAll_pre : ∀ (xs l : List α), ∃ e, insAll l xs = l ++ e
  | [], l => ⟨[], by simp [insAll]⟩
  | x :: xs, l => by
    obtain ⟨e1, h1⟩ := ins_pre l x
    obtain ⟨e2, h2⟩ := insAll_pre xs (ins l x)
    refine ⟨e1 ++ e2, ?_⟩
    show insAll (ins l x) xs = _
    rw [h2, h1, List.append_assoc]
theorem mem_ins {l : List α} {x y : α} : y ∈ ins l x ↔ y ∈ l ∨ y = x := by
  unfold ins
  split
  · rename_i h
    constructor
    · exact .inl
    · rintro (h1 | rfl)
      · exact h1
      · exact h
  · simp
theorem mem_insAll : ∀ {xs l : List α} {y : α}, y ∈ insAll l xs ↔ y ∈ l ∨ y ∈ xs
  | [], l, y => by simp [insAll]
  | x :: xs, l, y => by
    show y ∈ insAll (ins l x) xs ↔ _
    rw [mem_insAll, mem_ins, List.mem_cons, or_assoc]
theorem nodup_ins {l : List α} {x : α} (h : l.Nodup) : (ins l x).Nodup := by
  unfold ins
  split
  · exact h
  · rename_i hx
    rw [List.nodup_append]
    refine ⟨h, by simp, fun a ha b hb => ?_⟩
    simp only [List.mem_singleton] at hb
    subst hb
    exact fun e => hx (e ▸ ha)
theorem nodup_insAll : ∀ {xs l : List α}, l.Nodup → (insAll l xs).Nodup
  | [], _, h => h
  | x :: xs, l, h => by
    show (insAll (ins l x) xs).Nodup
    exact nodup_insAll (nodup_ins h)
/-- all that follow some, put in -/
def expd (su : α → List α) (K L : List α) : List α := L.foldl (fun k p => insAll k (su p)) K
theorem expd_cons (su : α → List α) (K : List α) (p : α) (L : List α) : expd su K (p :: L) = expd su (insAll K (su p)) L := rfl
theorem expd_snoc (su : α → List α) (K : List α) (p : α) (L : List α) : expd su K (L ++ [p]) = insAll (expd su K L) (su p) := by
  unfold expd
  rw [List.foldl_append]
  rfl
theorem expd_pre (su : α → List α) : ∀ (L K : List α), ∃ e, expd su K L = K ++ e
  | [], K => ⟨[], by simp [expd]⟩
  | p :: L, K => by
    obtain ⟨e1, h1⟩ := insAll_pre (su p) K
    obtain ⟨e2, h2⟩ := expd_pre su L (insAll K (su p))
    exact ⟨e1 ++ e2, by rw [expd_cons, h2, h1, List.append_assoc]⟩
theorem mem_expd (su : α → List α) : ∀ {L K : List α} {y : α}, y ∈ expd su K L ↔ y ∈ K ∨ ∃ p ∈ L, y ∈ su p
  | [], K, y => by simp [expd]
  | p :: L, K, y => by
    rw [expd_cons, mem_expd, mem_insAll, or_assoc]
    simp
theorem nodup_expd (su : α → List α) : ∀ {L K : List α}, K.Nodup → (expd su K L).Nodup
  | [], _, h => h
  | p :: L, K, h => by
    rw [expd_cons]
    exact nodup_expd su (nodup_insAll h)
theorem drop_expd (su : α → List α) (K L : List α) : expd su K L = K ++ (expd su K L).drop K.length := by
  obtain ⟨e, h⟩ := expd_pre su L K
  rw [h, List.drop_left]
/-- the search by a queue: from what is found and the place in it, all that is found -/
inductive QB (su : α → List α) : List α → Nat → List α → Prop
  | stop {F : List α} {a : Nat} : F.length ≤ a → QB su F a F
  | go {F R : List α} {a : Nat} {x : α} : F[a]? = some x → QB su (insAll F (su x)) (a + 1) R → QB su F a R
theorem QB.pre {su : α → List α} {F R : List α} {a : Nat} (q : QB su F a R) : ∃ e, R = F ++ e := by
  induction q with
  | stop _ => exact ⟨[], by simp⟩
  | @go F R a x _ _ ih =>
    obtain ⟨e, h⟩ := ih
    obtain ⟨e2, h2⟩ := insAll_pre (su x) F
    exact ⟨e2 ++ e, by rw [h, h2, List.append_assoc]⟩
theorem QB.step {su : α → List α} {F R : List α} {a : Nat} {x : α} (q : QB su F a R) (h : F[a]? = some x) : QB su (insAll F (su x)) (a + 1) R := by
  cases q with
  | stop hl =>
    rw [List.getElem?_eq_none hl] at h
    cases h
  | go h2 q2 =>
    rw [h] at h2
    cases h2
    exact q2
theorem QB.end_ {su : α → List α} {F R : List α} {a : Nat} (q : QB su F a R) (h : F.length ≤ a) : R = F := by
  cases q with
  | stop _ => rfl
  | go h2 _ =>
    rw [List.getElem?_eq_none h] at h2
    cases h2
/-- a whole stretch of the queue -/
theorem QB.run {su : α → List α} {R : List α} : ∀ (M A E F : List α), F = A ++ M ++ E → QB su F A.length R → QB su (expd su F M) (A.length + M.length) R
  | [], A, E, F, _, q => q
  | x :: M, A, E, F, e, q => by
    have hx : F[A.length]? = some x := by
      rw [e, List.append_assoc, List.getElem?_append_right (Nat.le_refl _)]
      simp
    obtain ⟨e2, h2⟩ := insAll_pre (su x) F
    have q2 := q.step hx
    have hl : (A ++ [x]).length = A.length + 1 := by simp
    rw [← hl] at q2
    have q3 := QB.run M (A ++ [x]) (E ++ e2) (insAll F (su x)) (by rw [h2, e]; simp) q2
    rw [expd_cons]
    rw [hl] at q3
    have hn : A.length + 1 + M.length = A.length + (x :: M).length := by simp; omega
    rw [← hn]
    exact q3
/-- the search by layers: from what is known and the last layer on -/
inductive Lay (su : α → List α) : List α → List α → List (List α) → Prop
  | stop {K : List α} : Lay su K [] [[]]
  | go {K L : List α} {Ls : List (List α)} : L ≠ [] → Lay su (expd su K L) ((expd su K L).drop K.length) Ls → Lay su K L (L :: Ls)
/-- what the law asks of a told list, layer by layer from a place on -/
inductive Chk (φ : α → α) (told : List α) : Nat → List (List α) → Prop
  | stop {a : Nat} : a = told.length → Chk φ told a []
  | go {a : Nat} {L : List α} {Ls : List (List α)} : (∀ p ∈ L, φ p ∈ (told.drop a).take L.length) → ((told.drop a).take L.length).length = L.length → Chk φ told (a + L.length) Ls → Chk φ told a (L :: Ls)
theorem Chk.len {φ : α → α} {told : List α} {a : Nat} {Ls : List (List α)} (c : Chk φ told a Ls) : told.length = a + (Ls.map List.length).sum := by
  induction c with
  | stop h => simp [h]
  | go _ _ _ ih =>
    rw [ih]
    simp only [List.map_cons, List.sum_cons]
    omega
theorem nodup_of_app_right {l m : List α} (h : (l ++ m).Nodup) : m.Nodup := (List.nodup_append.mp h).2.1
theorem chk_of {su1 su2 : α → List α} {φ : α → α} {Pr : α → Prop} (hφ : ∀ x y, Pr x → Pr y → φ x = φ y → x = y) (hcl : ∀ x, Pr x → ∀ y ∈ su1 x, Pr y) (hsu : ∀ x, Pr x → ∀ y, y ∈ su2 (φ x) ↔ ∃ z ∈ su1 x, y = φ z) {K L : List α} {Ls : List (List α)} (ly : Lay su1 K L Ls) :
    ∀ {A M R : List α}, (∀ x ∈ K, Pr x) → K.Nodup → (∃ K0, K = K0 ++ L) → (A ++ M).Nodup → (∀ x, x ∈ A ++ M ↔ ∃ z ∈ K, x = φ z) → (∀ x, x ∈ M ↔ ∃ z ∈ L, x = φ z) → QB su2 (A ++ M) A.length R → Chk φ R A.length Ls := by
  have hlen : ∀ {M L : List α}, (∀ x ∈ L, Pr x) → M.Nodup → L.Nodup → (∀ x, x ∈ M ↔ ∃ z ∈ L, x = φ z) → M.length = L.length := fun {M L} h0 h1 h2 h3 => by
    have h4 : (L.map φ).Nodup := by
      clear h3 h1
      induction L with
      | nil => exact List.nodup_nil
      | cons a L ih =>
        obtain ⟨p, q⟩ := List.nodup_cons.mp h2
        refine List.nodup_cons.mpr ⟨fun hm => ?_, ih (fun x hx => h0 x (List.mem_cons_of_mem _ hx)) q⟩
        obtain ⟨b, hb, e⟩ := List.mem_map.mp hm
        exact p ((hφ _ _ (h0 b (List.mem_cons_of_mem _ hb)) (h0 a List.mem_cons_self) e) ▸ hb)
    have h5 := len_eq_of_same h1 h4 fun x => by
      rw [h3, List.mem_map]
      constructor
      · rintro ⟨z, hz, rfl⟩
        exact ⟨z, hz, rfl⟩
      · rintro ⟨z, hz, rfl⟩
        exact ⟨z, hz, rfl⟩
    rw [h5, List.length_map]
  induction ly with
  | @stop K =>
    intro A M R hP hK hs hn hm hM q
    have hM0 : M = [] := List.eq_nil_iff_forall_not_mem.mpr fun x hx => by
      obtain ⟨z, hz, _⟩ := (hM x).mp hx
      cases hz
    subst hM0
    rw [List.append_nil] at q
    have hR := q.end_ (Nat.le_refl _)
    refine .go (fun p hp => by cases hp) (by simp) (.stop ?_)
    rw [hR]
    simp
  | @go K L Ls hL _ ih =>
    rintro A M R hP hK ⟨K0, hs⟩ hn hm hM q
    have hPL : ∀ x ∈ L, Pr x := fun x hx => hP x (by rw [hs]; exact List.mem_append_right _ hx)
    have hMn : M.Nodup := nodup_of_app_right hn
    have hLn : L.Nodup := by rw [hs] at hK; exact nodup_of_app_right hK
    have hl := hlen hPL hMn hLn hM
    obtain ⟨e, hR⟩ := q.pre
    have htk : (R.drop A.length).take L.length = M := by
      rw [hR, List.append_assoc, List.drop_left, ← hl, List.take_left]
    have q2 := QB.run M A [] (A ++ M) (by simp) q
    have hd := drop_expd su2 (A ++ M) M
    have hd1 := drop_expd su1 K L
    have hn2 : (expd su2 (A ++ M) M).Nodup := nodup_expd su2 hn
    have hn1 : (expd su1 K L).Nodup := nodup_expd su1 hK
    have hall : ∀ x, x ∈ expd su2 (A ++ M) M ↔ ∃ z ∈ expd su1 K L, x = φ z := fun x => by
      rw [mem_expd]
      constructor
      · rintro (h | ⟨p, hp, h⟩)
        · obtain ⟨z, hz, e⟩ := (hm x).mp h
          exact ⟨z, (mem_expd su1).mpr (.inl hz), e⟩
        · obtain ⟨y, hy, rfl⟩ := (hM p).mp hp
          obtain ⟨z, hz, e⟩ := (hsu y (hPL y hy) x).mp h
          exact ⟨z, (mem_expd su1).mpr (.inr ⟨y, hy, hz⟩), e⟩
      · rintro ⟨z, hz, rfl⟩
        rcases (mem_expd su1).mp hz with h | ⟨p, hp, h⟩
        · exact .inl ((hm _).mpr ⟨z, h, rfl⟩)
        · exact .inr ⟨φ p, (hM _).mpr ⟨p, hp, rfl⟩, (hsu p (hPL p hp) _).mpr ⟨z, h, rfl⟩⟩
    have hP1 : ∀ x ∈ expd su1 K L, Pr x := fun x hx => by
      rcases (mem_expd su1).mp hx with h | ⟨p, hp, h⟩
      · exact hP x h
      · exact hcl p (hPL p hp) x h
    have part : ∀ {K' L' : List α} {x : α}, (K' ++ L').Nodup → (x ∈ L' ↔ x ∈ K' ++ L' ∧ x ∉ K') := fun {K' L' x} h => by
      rw [List.mem_append]
      constructor
      · exact fun hx => ⟨.inr hx, fun hk => (List.nodup_append.mp h).2.2 x hk x hx rfl⟩
      · rintro ⟨h1 | h1, h2⟩
        · exact absurd h1 h2
        · exact h1
    refine .go (fun p hp => ?_) ?_ ?_
    · rw [htk]
      exact (hM _).mpr ⟨p, hp, rfl⟩
    · rw [htk, hl]
    · rw [← hl]
      have q3 : QB su2 ((A ++ M) ++ (expd su2 (A ++ M) M).drop (A ++ M).length) (A ++ M).length R := by
        rw [← hd, List.length_append]
        exact q2
      have h4 := ih (A := A ++ M) (M := (expd su2 (A ++ M) M).drop (A ++ M).length) (R := R) hP1 hn1 ⟨K, hd1⟩ (by rw [← hd]; exact hn2) (by rw [← hd]; exact hall) (fun x => ?_) q3
      · rw [List.length_append] at h4
        exact h4
      · have hn2' := hn2
        rw [hd] at hn2'
        have hn1' := hn1
        rw [hd1] at hn1'
        rw [part hn2', ← hd, hall]
        constructor
        · rintro ⟨⟨z, hz, rfl⟩, hx⟩
          refine ⟨z, ?_, rfl⟩
          rw [part hn1', ← hd1]
          exact ⟨hz, fun hk => hx ((hm _).mpr ⟨z, hk, rfl⟩)⟩
        · rintro ⟨z, hz, rfl⟩
          rw [part hn1', ← hd1] at hz
          refine ⟨⟨z, hz.1, rfl⟩, fun hx => ?_⟩
          obtain ⟨y, hy, e⟩ := (hm _).mp hx
          exact hz.2 ((hφ _ _ (hP1 z hz.1) (hP y hy) e) ▸ hy)
/-- the first place of a thing -/
def ixOf (l : List α) (x : α) : Nat := l.findIdx (fun y => decide (y = x))
theorem ixOf_lt {l : List α} {x : α} (h : x ∈ l) : ixOf l x < l.length := List.findIdx_lt_length_of_exists ⟨x, h, by simp⟩
theorem ixOf_at {l : List α} {x : α} (h : x ∈ l) : l[ixOf l x]? = some x := by
  have h1 := ixOf_lt h
  have h2 := List.findIdx_getElem (w := h1)
  rw [List.getElem?_eq_getElem h1]
  exact congrArg some (of_decide_eq_true h2)
theorem ixOf_first {l : List α} {x y : α} {m : Nat} (h : m < ixOf l x) (e : l[m]? = some y) : y ≠ x := by
  have h2 := List.not_of_lt_findIdx h
  obtain ⟨h3, h4⟩ := List.getElem?_eq_some_iff.mp e
  rw [← h4]
  simpa using h2
theorem ixOf_map {φ : α → α} {Pr : α → Prop} (hφ : ∀ x y, Pr x → Pr y → φ x = φ y → x = y) {x : α} (hx : Pr x) : ∀ (l : List α), (∀ y ∈ l, Pr y) → ixOf (l.map φ) (φ x) = ixOf l x
  | [], _ => rfl
  | y :: l, h => by
    have ih := ixOf_map hφ hx l fun z hz => h z (List.mem_cons_of_mem _ hz)
    unfold ixOf at ih ⊢
    rw [List.map_cons, List.findIdx_cons, List.findIdx_cons, ih]
    by_cases e : y = x
    · simp [e]
    · have e2 : ¬ φ y = φ x := fun z => e (hφ _ _ (h y List.mem_cons_self) hx z)
      simp [e, e2]
/-- a thing done again and again until one comes again: from what is found on -/
inductive Say (F : α → α) : List α → List α → Nat → Prop
  | stop {l : List α} {x : α} : l.getLast? = some x → F x ∈ l → Say F l l (ixOf l (F x))
  | go {l r : List α} {x : α} {n : Nat} : l.getLast? = some x → F x ∉ l → Say F (l ++ [F x]) r n → Say F l r n
theorem Say.map {F G φ : α → α} {Pr : α → Prop} (hφ : ∀ x y, Pr x → Pr y → φ x = φ y → x = y) {l r : List α} {n : Nat} (hG : ∀ x, Pr x → G (φ x) = φ (F x)) (hF : ∀ x, Pr x → Pr (F x)) (s : Say F l r n) (hl : ∀ x ∈ l, Pr x) : Say G (l.map φ) (r.map φ) n := by
  have hm : ∀ {l : List α} {x : α}, (∀ y ∈ l, Pr y) → Pr x → (φ x ∈ l.map φ ↔ x ∈ l) := fun {l x} h1 h2 => by
    rw [List.mem_map]
    constructor
    · rintro ⟨y, hy, e⟩
      exact (hφ _ _ (h1 y hy) h2 e) ▸ hy
    · exact fun h => ⟨x, h, rfl⟩
  induction s with
  | @stop l x h1 h2 =>
    have hx : Pr x := hl x (List.mem_of_getLast? h1)
    have h3 : (l.map φ).getLast? = some (φ x) := by rw [List.getLast?_map, h1]; rfl
    have h4 := Say.stop (F := G) h3 (by rw [hG x hx]; exact (hm hl (hF x hx)).mpr h2)
    rw [hG x hx, ixOf_map hφ (hF x hx) l hl] at h4
    exact h4
  | @go l r x n h1 h2 _ ih =>
    have hx : Pr x := hl x (List.mem_of_getLast? h1)
    have h3 : (l.map φ).getLast? = some (φ x) := by rw [List.getLast?_map, h1]; rfl
    refine .go h3 (by rw [hG x hx]; exact fun z => h2 ((hm hl (hF x hx)).mp z)) ?_
    have h4 := ih fun y hy => by
      rcases List.mem_append.mp hy with h | h
      · exact hl y h
      · rw [List.mem_singleton.mp h]
        exact hF x hx
    rw [List.map_append] at h4
    rw [hG x hx]
    exact h4
theorem Say.fn {F : α → α} {l r r' : List α} {n n' : Nat} (s : Say F l r n) (s' : Say F l r' n') : r = r' ∧ n = n' := by
  induction s with
  | stop h1 h2 =>
    cases s' with
    | stop h3 h4 =>
      rw [h1] at h3
      cases h3
      exact ⟨rfl, rfl⟩
    | go h3 h4 _ =>
      rw [h1] at h3
      cases h3
      exact absurd h2 h4
  | go h1 h2 _ ih =>
    cases s' with
    | stop h3 h4 =>
      rw [h1] at h3
      cases h3
      exact absurd h4 h2
    | go h3 h4 q =>
      rw [h1] at h3
      cases h3
      exact ih q
theorem Say.lt {F : α → α} {l r : List α} {n : Nat} (s : Say F l r n) : n < r.length := by
  induction s with
  | stop h1 h2 => exact ixOf_lt h2
  | go _ _ _ ih => exact ih
end
end K79
/-! part MathB -/
/-! Turns, floors, walkers, in plain Lean. -/
namespace K79
def ix (c : Nat) : Nat := if c = 117 then 0 else if c = 114 then 1 else if c = 100 then 2 else 3
def deeds : List Nat := [117, 114, 100, 108]
def turns8 : List (List Nat) := [[117, 114, 100, 108], [114, 100, 108, 117], [100, 108, 117, 114], [108, 117, 114, 100], [117, 108, 100, 114], [100, 114, 117, 108], [108, 100, 114, 117], [114, 117, 108, 100]]
def wy (t : List Nat) (c : Nat) : Nat := t.getD (ix c) 0
def bec (t s : List Nat) : List Nat := s.map (wy t)
theorem ix_lt (c : Nat) : ix c < 4 := by
  unfold ix
  split
  · decide
  · split
    · decide
    · split <;> decide
theorem turn_len {t : List Nat} (h : t ∈ turns8) : t.length = 4 := by
  have : ∀ t ∈ turns8, t.length = 4 := by decide
  exact this t h
theorem turn_deeds {t : List Nat} (h : t ∈ turns8) : ∀ c ∈ t, c ∈ deeds := by
  have : ∀ t ∈ turns8, ∀ c ∈ t, c ∈ deeds := by decide
  exact this t h
theorem wy_at {t : List Nat} (h : t.length = 4) (c : Nat) : t[ix c]? = some (wy t c) := by
  unfold wy
  have h2 : ix c < t.length := by rw [h]; exact ix_lt c
  rw [List.getD_eq_getElem?_getD, List.getElem?_eq_getElem h2]
  rfl
theorem wy_mem {t : List Nat} (h : t ∈ turns8) (c : Nat) : wy t c ∈ deeds := turn_deeds h _ (List.mem_of_getElem? (wy_at (turn_len h) c))
theorem wy_bec {t h : List Nat} (hl : h.length = 4) (c : Nat) : wy (bec t h) c = wy t (wy h c) := by
  have h2 : ix c < h.length := by rw [hl]; exact ix_lt c
  show (h.map (wy t)).getD (ix c) 0 = wy t (h.getD (ix c) 0)
  rw [List.getD_eq_getElem?_getD, List.getD_eq_getElem?_getD, List.getElem?_map, List.getElem?_eq_getElem h2]
  rfl
theorem bec_assoc {b t h : List Nat} (ht : t.length = 4) : bec b (bec t h) = bec (bec b t) h := by
  unfold bec
  rw [List.map_map]
  refine List.map_congr_left fun c _ => ?_
  exact (wy_bec ht c).symm
theorem bec_turn {t h : List Nat} (h1 : t ∈ turns8) (h2 : h ∈ turns8) : bec t h ∈ turns8 := by
  have : ∀ t ∈ turns8, ∀ h ∈ turns8, bec t h ∈ turns8 := by decide +kernel
  exact this t h1 h h2
theorem bec_inj {h t u : List Nat} (h0 : h ∈ turns8) (h1 : t ∈ turns8) (h2 : u ∈ turns8) (e : bec t h = bec u h) : t = u := by
  have : ∀ h ∈ turns8, ∀ t ∈ turns8, ∀ u ∈ turns8, bec t h = bec u h → t = u := by decide +kernel
  exact this h h0 t h1 u h2 e
theorem wy_onto {h : List Nat} (h0 : h ∈ turns8) {d : Nat} (hd : d ∈ deeds) : ∃ c ∈ deeds, wy h c = d := by
  have : ∀ h ∈ turns8, ∀ d ∈ deeds, ∃ c ∈ deeds, wy h c = d := by decide +kernel
  exact this h h0 d hd
theorem bec_deeds {t : List Nat} (h : t ∈ turns8) (s : List Nat) : ∀ c ∈ bec t s, c ∈ deeds := fun c hc => by
  obtain ⟨d, _, rfl⟩ := List.mem_map.mp hc
  exact wy_mem h d
theorem bec_len (t s : List Nat) : (bec t s).length = s.length := List.length_map _
theorem bec_take (t s : List Nat) (n : Nat) : (bec t s).take n = bec t (s.take n) := by
  unfold bec
  rw [List.map_take]
theorem deeds_turn : deeds ∈ turns8 := by decide
abbrev Pl := Int × Int
abbrev Post := Option (Pl × List Nat)
abbrev Rows := List (List Nat)
def hgt (r : Rows) : Nat := r.length
def wid (r : Rows) : Nat := (r.headD []).length
def onF (r : Rows) (p : Pl) : Bool := decide (0 ≤ p.1) && decide (p.1 ≤ (hgt r : Int) - 1) && (decide (0 ≤ p.2) && decide (p.2 ≤ (wid r : Int) - 1))
theorem onF_iff {r : Rows} {p : Pl} : onF r p = true ↔ (0 ≤ p.1 ∧ p.1 < hgt r) ∧ 0 ≤ p.2 ∧ p.2 < wid r := by
  unfold onF
  simp only [Bool.and_eq_true, decide_eq_true_eq]
  omega
def sgn (r : Rows) (p : Pl) : Nat := if onF r p then (r.getD p.1.toNat []).getD p.2.toNat 35 else 35
def signs : List Nat := [35, 126, 120, 46, 97, 98, 99, 100]
def isLet (s : Nat) : Bool := decide (s ∈ [97, 98, 99, 100])
/-- rows of a floor -/
structure RowsOk (r : Rows) : Prop where
  h1 : 1 ≤ r.length
  h6 : r.length ≤ 5
  w1 : 1 ≤ wid r
  w6 : wid r ≤ 5
  len : ∀ l ∈ r, l.length = wid r
  sgs : ∀ l ∈ r, ∀ c ∈ l, c ∈ signs
theorem RowsOk.row {r : Rows} (R : RowsOk r) {p : Pl} (h : onF r p = true) : ∃ l, r[p.1.toNat]? = some l ∧ l ∈ r ∧ l[p.2.toNat]? = some (sgn r p) ∧ l.length = wid r := by
  obtain ⟨⟨a, b⟩, c, d⟩ := onF_iff.mp h
  have hb : p.1.toNat < r.length := by unfold hgt at b; omega
  have hl := List.getElem?_eq_getElem hb
  have hm : r[p.1.toNat] ∈ r := List.getElem_mem hb
  have hw := R.len _ hm
  have hd : p.2.toNat < (r[p.1.toNat]).length := by rw [hw]; omega
  refine ⟨_, hl, hm, ?_, hw⟩
  unfold sgn
  rw [if_pos h]
  simp [List.getD_eq_getElem?_getD, List.getElem?_eq_getElem hb, List.getElem?_eq_getElem hd]
theorem RowsOk.sgn_mem {r : Rows} (R : RowsOk r) (p : Pl) : sgn r p ∈ signs := by
  by_cases h : onF r p = true
  · obtain ⟨l, _, h2, h3, _⟩ := R.row h
    exact R.sgs l h2 _ (List.mem_of_getElem? h3)
  · unfold sgn
    rw [if_neg h]
    decide
theorem sgn_off {r : Rows} {p : Pl} (h : sgn r p ≠ 35) : onF r p = true := by
  by_cases e : onF r p = true
  · exact e
  · unfold sgn at h
    rw [if_neg e] at h
    exact absurd rfl h
def stp (c : Nat) : Pl := if ix c = 0 then (-1, 0) else if ix c = 1 then (0, 1) else if ix c = 2 then (1, 0) else (0, -1)
def nxt (p : Pl) (c : Nat) : Pl := (p.1 + (stp c).1, p.2 + (stp c).2)
def slide (r : Rows) (c : Nat) : Nat → Pl → Pl → Pl × Pl
  | 0, h, t => (h, t)
  | n + 1, h, t => if sgn r t = 126 then slide r c n t (nxt t c) else (h, t)
def pot (c : Nat) (t : Pl) : Int := (stp c).1 * t.1 + (stp c).2 * t.2
theorem stp_cases (c : Nat) : stp c = (-1, 0) ∨ stp c = (0, 1) ∨ stp c = (1, 0) ∨ stp c = (0, -1) := by
  unfold stp
  split
  · exact .inl rfl
  · split
    · exact .inr (.inl rfl)
    · split
      · exact .inr (.inr (.inl rfl))
      · exact .inr (.inr (.inr rfl))
theorem pot_nxt (c : Nat) (t : Pl) : pot c (nxt t c) = pot c t + 1 := by
  unfold pot nxt
  rcases stp_cases c with e | e | e | e <;> rw [e] <;> simp <;> omega
theorem pot_on {r : Rows} (R : RowsOk r) (c : Nat) {t : Pl} (h : onF r t = true) : pot c t ≤ 5 ∧ -5 ≤ pot c t := by
  obtain ⟨⟨a, b⟩, d, e⟩ := onF_iff.mp h
  have h6 := R.h6
  have w6 := R.w6
  unfold hgt at b
  unfold pot
  rcases stp_cases c with q | q | q | q <;> rw [q] <;> simp <;> omega
theorem ice_room {r : Rows} (R : RowsOk r) {c n : Nat} {t : Pl} (h : sgn r t = 126) (hn : 6 - pot c t ≤ n) : ∃ m, n = m + 1 ∧ 6 - pot c (nxt t c) ≤ m := by
  have h1 := (pot_on R c (sgn_off (r := r) (p := t) (by rw [h]; decide))).1
  have h2 := pot_nxt c t
  exact ⟨n - 1, by omega, by omega⟩
theorem slide_ice {r : Rows} {c n : Nat} {h t : Pl} (e : sgn r t = 126) : slide r c (n + 1) h t = slide r c n t (nxt t c) := by
  show (if sgn r t = 126 then _ else _) = _
  rw [if_pos e]
theorem slide_end {r : Rows} {c n : Nat} {h t : Pl} (e : sgn r t ≠ 126) : slide r c n h t = (h, t) := by
  cases n with
  | zero => rfl
  | succ n =>
    show (if sgn r t = 126 then _ else _) = _
    rw [if_neg e]
/-- one can stand there -/
def canS (r : Rows) (p : Pl) : Bool := onF r p && decide (sgn r p ∈ [46, 97, 98, 99, 100, 126])
theorem canS_on {r : Rows} {p : Pl} (h : canS r p = true) : onF r p = true := (Bool.and_eq_true_iff.mp h).1
theorem canS_ice {r : Rows} {p : Pl} (h : sgn r p = 126) : canS r p = true := by
  unfold canS
  rw [sgn_off (by rw [h]; decide), h]
  decide
theorem slide_ok {r : Rows} (R : RowsOk r) (c : Nat) : ∀ (n : Nat) (h t : Pl), 6 - pot c t ≤ n → canS r h = true → canS r (slide r c n h t).1 = true ∧ sgn r (slide r c n h t).2 ≠ 126
  | 0, h, t, hn, hc => by
    refine ⟨hc, fun e => ?_⟩
    obtain ⟨m, e2, _⟩ := ice_room R e hn
    cases e2
  | n + 1, h, t, hn, hc => by
    by_cases e : sgn r t = 126
    · rw [slide_ice e]
      obtain ⟨m, e2, h2⟩ := ice_room R e hn
      have : m = n := by omega
      subst this
      exact slide_ok R c m t (nxt t c) h2 (canS_ice e)
    · rw [slide_end e]
      exact ⟨hc, e⟩
def slid (r : Rows) (p : Pl) (c : Nat) : Pl × Pl := slide r c 20 p (nxt p c)
def goes (r : Rows) (p : Pl) (c : Nat) : Option Pl := if sgn r (slid r p c).2 = 35 then some (slid r p c).1 else if sgn r (slid r p c).2 = 120 then none else some (slid r p c).2
theorem fuel_ok {r : Rows} (R : RowsOk r) {p : Pl} (h : canS r p = true) (c : Nat) : 6 - pot c (nxt p c) ≤ ((20 : Nat) : Int) := by
  have h1 := (pot_on R c (canS_on h)).2
  have h2 := pot_nxt c p
  omega
theorem slid_ok {r : Rows} (R : RowsOk r) {p : Pl} (h : canS r p = true) (c : Nat) : canS r (slid r p c).1 = true ∧ sgn r (slid r p c).2 ≠ 126 := slide_ok R c 20 p _ (fuel_ok R h c) h
theorem goes_ok {r : Rows} (R : RowsOk r) {p q : Pl} (h : canS r p = true) {c : Nat} (e : goes r p c = some q) : canS r q = true := by
  obtain ⟨h1, h2⟩ := slid_ok R h c
  unfold goes at e
  split at e
  · cases e
    exact h1
  · split at e
    · cases e
    · rename_i n1 n2
      cases e
      have hm := R.sgn_mem (slid r p c).2
      unfold canS
      rw [sgn_off n1]
      simp only [signs, List.mem_cons, List.not_mem_nil, or_false] at hm
      simp only [Bool.true_and, decide_eq_true_eq, List.mem_cons, List.not_mem_nil, or_false]
      omega
structure Land where
  rows : Rows
  book : Nat → List Nat
structure LandOk (L : Land) : Prop where
  rows : RowsOk L.rows
  book : ∀ s, L.book s ∈ turns8
def bhd (L : Land) : Post → Nat → Post
  | none, _ => none
  | some (p, t), c => match goes L.rows p (wy t c) with
    | none => none
    | some q => if q = p then some (p, t) else some (q, if isLet (sgn L.rows q) then bec (L.book (sgn L.rows q)) t else t)
def PostOk (r : Rows) : Post → Prop
  | none => True
  | some (p, t) => canS r p = true ∧ t ∈ turns8
theorem bhd_ok {L : Land} (O : LandOk L) {x : Post} (h : PostOk L.rows x) (c : Nat) : PostOk L.rows (bhd L x c) := by
  cases x with
  | none => exact trivial
  | some x =>
    obtain ⟨p, t⟩ := x
    obtain ⟨h1, h2⟩ := h
    unfold bhd
    dsimp only
    split
    · trivial
    · rename_i q e
      have hq := goes_ok O.rows h1 e
      split
      · exact ⟨h1, h2⟩
      · refine ⟨hq, ?_⟩
        split
        · exact bec_turn (O.book _) h2
        · exact h2
/-- the hand's turn ahead -/
def phi (h : List Nat) : Post → Post
  | none => none
  | some (p, t) => some (p, bec t h)
theorem phi_ok {r : Rows} {h : List Nat} (hh : h ∈ turns8) {x : Post} (hx : PostOk r x) : PostOk r (phi h x) := by
  cases x with
  | none => exact trivial
  | some x => exact ⟨hx.1, bec_turn hx.2 hh⟩
theorem phi_inj {r : Rows} {h : List Nat} (hh : h ∈ turns8) (x y : Post) (hx : PostOk r x) (hy : PostOk r y) (e : phi h x = phi h y) : x = y := by
  cases x with
  | none => cases y with
    | none => rfl
    | some y => cases e
  | some x => cases y with
    | none => cases e
    | some y =>
      obtain ⟨p, t⟩ := x
      obtain ⟨q, u⟩ := y
      have e2 : (p, bec t h) = (q, bec u h) := Option.some.inj e
      obtain ⟨e3, e4⟩ := Prod.mk.inj e2
      rw [e3, bec_inj hh hx.2 hy.2 e4]
theorem bhd_phi {L : Land} (O : LandOk L) {h : List Nat} (hh : h ∈ turns8) {x : Post} (hx : PostOk L.rows x) (c : Nat) : bhd L (phi h x) c = phi h (bhd L x (wy h c)) := by
  cases x with
  | none => rfl
  | some x =>
    obtain ⟨p, t⟩ := x
    unfold phi bhd
    dsimp only
    rw [wy_bec (turn_len hh)]
    cases goes L.rows p (wy t (wy h c)) with
    | none => rfl
    | some q =>
      dsimp only
      by_cases e : q = p
      · rw [if_pos e, if_pos e]
      · rw [if_neg e, if_neg e]
        dsimp only
        by_cases e2 : isLet (sgn L.rows q) = true
        · rw [if_pos e2, if_pos e2, bec_assoc (turn_len hx.2)]
        · rw [if_neg e2, if_neg e2]
/-- the stands behind a row's deeds -/
def gone (L : Land) (x : Post) (row : List Nat) : List Post := match row with
  | [] => [x]
  | c :: r => x :: gone L (bhd L x c) r
def last (L : Land) (x : Post) (row : List Nat) : Post := row.foldl (bhd L) x
theorem gone_len (L : Land) : ∀ (row : List Nat) (x : Post), (gone L x row).length = row.length + 1
  | [], _ => rfl
  | c :: r, x => by
    show (gone L (bhd L x c) r).length + 1 = _
    rw [gone_len L r]
    rfl
theorem gone_snoc (L : Land) : ∀ (row : List Nat) (x : Post) (c : Nat), gone L x (row ++ [c]) = gone L x row ++ [bhd L (last L x row) c]
  | [], _, _ => rfl
  | d :: r, x, c => by
    show x :: gone L (bhd L x d) (r ++ [c]) = x :: (gone L (bhd L x d) r ++ _)
    rw [gone_snoc L r]
    rfl
theorem gone_last (L : Land) : ∀ (row : List Nat) (x : Post), (gone L x row).getLast? = some (last L x row)
  | [], _ => rfl
  | c :: r, x => by
    have ih := gone_last L r (bhd L x c)
    show (x :: gone L (bhd L x c) r).getLast? = _
    rw [List.getLast?_cons, ih]
    rfl
theorem gone_ok {L : Land} (O : LandOk L) : ∀ (row : List Nat) (x : Post), PostOk L.rows x → ∀ y ∈ gone L x row, PostOk L.rows y
  | [], x, h, y, hy => by
    rw [List.mem_singleton.mp hy]
    exact h
  | c :: r, x, h, y, hy => by
    rcases List.mem_cons.mp hy with e | hy
    · rw [e]; exact h
    · exact gone_ok O r _ (bhd_ok O h c) y hy
theorem last_ok {L : Land} (O : LandOk L) (row : List Nat) {x : Post} (h : PostOk L.rows x) : PostOk L.rows (last L x row) := gone_ok O row x h _ (List.mem_of_getLast? (gone_last L row x))
theorem gone_phi {L : Land} (O : LandOk L) {h : List Nat} (hh : h ∈ turns8) : ∀ (row : List Nat) (x : Post), PostOk L.rows x → gone L (phi h x) row = (gone L x (bec h row)).map (phi h)
  | [], _, _ => rfl
  | c :: r, x, hx => by
    show phi h x :: gone L (bhd L (phi h x) c) r = phi h x :: (gone L (bhd L x (wy h c)) (bec h r)).map (phi h)
    rw [bhd_phi O hh hx, gone_phi O hh r _ (bhd_ok O hx _)]
theorem last_phi {L : Land} (O : LandOk L) {h : List Nat} (hh : h ∈ turns8) (row : List Nat) {x : Post} (hx : PostOk L.rows x) : last L (phi h x) row = phi h (last L x (bec h row)) := by
  have h1 := gone_last L row (phi h x)
  rw [gone_phi O hh row x hx, List.getLast?_map, gone_last] at h1
  exact (Option.some.inj h1).symm
/-- all stands that follow one -/
def su (L : Land) (x : Post) : List Post := deeds.map (bhd L x)
theorem su_ok {L : Land} (O : LandOk L) (x : Post) (hx : PostOk L.rows x) : ∀ y ∈ su L x, PostOk L.rows y := fun y hy => by
  obtain ⟨c, _, rfl⟩ := List.mem_map.mp hy
  exact bhd_ok O hx c
theorem su_phi {L : Land} (O : LandOk L) {h : List Nat} (hh : h ∈ turns8) (x : Post) (hx : PostOk L.rows x) (y : Post) : y ∈ su L (phi h x) ↔ ∃ z ∈ su L x, y = phi h z := by
  constructor
  · intro hy
    obtain ⟨c, hc, rfl⟩ := List.mem_map.mp hy
    exact ⟨bhd L x (wy h c), List.mem_map.mpr ⟨_, wy_mem hh c, rfl⟩, bhd_phi O hh hx c⟩
  · rintro ⟨z, hz, rfl⟩
    obtain ⟨d, hd, rfl⟩ := List.mem_map.mp hz
    obtain ⟨c, hc, e⟩ := wy_onto hh hd
    exact List.mem_map.mpr ⟨c, hc, by rw [bhd_phi O hh hx, e]⟩
/-- all that may come -/
def univ : List Post := none :: ((List.range 6).flatMap fun (y : Nat) => (List.range 6).flatMap fun (x : Nat) => turns8.map fun t => (some (((y : Int), (x : Int)), t) : Post))
theorem univ_len : univ.length = 289 := by decide +kernel
theorem univ_mem {r : Rows} (R : RowsOk r) {x : Post} (h : PostOk r x) : x ∈ univ := by
  cases x with
  | none => exact List.mem_cons_self
  | some x =>
    obtain ⟨⟨y, x⟩, t⟩ := x
    obtain ⟨h1, h2⟩ := h
    obtain ⟨⟨a, b⟩, c, d⟩ := onF_iff.mp (canS_on h1)
    have h6 := R.h6
    have w6 := R.w6
    unfold hgt at b
    dsimp only at a b c d
    refine List.mem_cons_of_mem _ ?_
    simp only [List.mem_flatMap, List.mem_range, List.mem_map]
    refine ⟨y.toNat, by omega, x.toNat, by omega, t, h2, ?_⟩
    have e1 : ((y.toNat : Nat) : Int) = y := by omega
    have e2 : ((x.toNat : Nat) : Int) = x := by omega
    rw [e1, e2]
theorem few {r : Rows} (R : RowsOk r) {l : List Post} (hn : l.Nodup) (h : ∀ x ∈ l, PostOk r x) : l.length ≤ 289 := by
  rw [← univ_len]
  exact len_le_of_sub hn fun x hx => univ_mem R (h x hx)
/-- the comings to plates: beats with letters -/
def comd (r : Rows) : Nat → List Post → List (Nat × Nat)
  | _, [] => []
  | _, [_] => []
  | b, a :: n :: rest => (match a, n with
    | some (p, _), some (q, _) => if q ≠ p ∧ isLet (sgn r q) then [(b, sgn r q)] else []
    | _, _ => []) ++ comd r (b + 1) (n :: rest)
theorem comd_phi (r : Rows) (h : List Nat) : ∀ (l : List Post) (b : Nat), comd r b (l.map (phi h)) = comd r b l
  | [], _ => rfl
  | [_], _ => rfl
  | a :: n :: rest, b => by
    have ih := comd_phi r h (n :: rest) (b + 1)
    show comd r b (phi h a :: phi h n :: rest.map (phi h)) = _
    unfold comd
    rw [show phi h n :: rest.map (phi h) = (n :: rest).map (phi h) from rfl, ih]
    cases a with
    | none => rfl
    | some a => cases n with
      | none => rfl
      | some n => rfl
/-- the stand at a beat of a row said again and again, of what was said -/
def atBeat (L : Land) (st : List Post) (since : Nat) (row : List Nat) (beat : Nat) : Post :=
  let said := beat / row.length
  let k := if said ≥ st.length then since + (said - since) % (st.length - since) else said
  last L (st.getD k none) (row.take (beat % row.length))
end K79
/-! part R1 -/
/-! A rule of our own: enumerate of a text. -/
namespace K79
open PySem PySem.Spec PyProof.Rows L2
/-- a text's signs, each in a new pair with its number -/
def Iet (z : Str) : It :=
  ⟨fun i _ => i < z.cps.size, fun i H v H' => ∃ T c, z.cps[i]? = some c ∧ v = .ref T ∧ H T = none ∧ H' = upd H T (.tup [.int (i : Nat), .str ⟨#[c]⟩]), fun i _ => i = z.cps.size⟩
theorem turn_enumS {P : Program} {w : World} {K : PySem.W.Frag} {elts : List Expr} {kk : Nat} {tpos : Pos} (e it : Addr) (z : Str) (tk0 : Tok) :
    Turn P w K (.Tuple elts kk tpos) (Iet z) [e, it] e (fun i h => (∃ old, IsEnum h e it ((i : Nat) : Int) old) ∧ h.IsStrIter it (strIterType z) z tk0 i ∧ e ≠ it) where
  mem := List.mem_cons_self
  obj := fun i h st b hb => by
    obtain ⟨⟨old, he⟩, ⟨o, ho, hc, hd⟩, _⟩ := st
    rcases List.mem_cons.mp hb with z1 | z1
    · subst z1
      exact ⟨_, he, fun v q => (nomatch q)⟩
    · rw [List.mem_singleton.mp z1]
      exact ⟨o, ho, fun v q => by rw [hd] at q; exact (nomatch q)⟩
  keep := fun i h h' st k => by
    obtain ⟨⟨old, he⟩, ⟨o, ho, r⟩, hne⟩ := st
    exact ⟨⟨old, k e List.mem_cons_self _ he⟩, ⟨o, k it (List.mem_cons_of_mem _ List.mem_cons_self) o ho, r⟩, hne⟩
  item := by
    intro X hP hw hK hc i pins s σ H E I hf st hg
    subst hP hw hK
    obtain ⟨⟨old, he⟩, hit, hne⟩ := st
    have hel : e < s.heap.objs.size := Heap.lt_size he
    have hil : it < s.heap.objs.size := by
      obtain ⟨_, q, _⟩ := hit
      exact Heap.lt_size q
    have D := Draws.text (prog := X.prog) (w := X.w) (A := X.A.in1) (I.ok.hd hc) it z tk0
    refine wpAny_pyNext_enum_itemD D he hit hg hne (by simpa using hne) fun v h' tk hv ho hit' hT hsz hk => ?_
    obtain ⟨c, u, hcx, rfl⟩ := hv
    refine ⟨_, rfl, wpAny_letOwnedTupleGo_enum (s := { s with heap := h', toks := tk + 1 }) ho fun h2 he2 sb => ?_⟩
    have hT2 := (sb.2 s.heap.objs.size (Nat.ne_of_gt hel)).trans hT
    have new : ObjOk X.prog X.w (upd H s.heap.objs.size (.tup [.int (i : Nat), .str ⟨#[c]⟩])) h2 s.heap.objs.size (.tup [.int (i : Nat), .str ⟨#[c]⟩]) :=
      ⟨(by decide : 2 ≤ sizeLine), [.int i tk, .str ⟨#[c]⟩ u], .cons ⟨_, rfl⟩ (.cons ⟨_, rfl⟩ .nil), ⟨_, hT2, rfl, _, rfl⟩⟩
    have I1 : Inv X pins σ (upd H s.heap.objs.size (.tup [.int (i : Nat), .str ⟨#[c]⟩])) { s with heap := h2, toks := tk + 1 } :=
      I.turnedNew (ch := [e, it]) (fun b ob hb q => by
        have n1 : b ≠ e := fun z => hb (by rw [z]; exact List.mem_cons_self)
        have n2 : b ≠ it := fun z => hb (by rw [z]; exact List.mem_cons_of_mem _ List.mem_cons_self)
        exact (sb.2 b n1).trans (hk b ob n1 n2 q)) hf (Nat.le_refl _) new
    refine ⟨.ref s.heap.objs.size, _, I1, rfl, ⟨_, c, hcx, rfl, I.hok.fresh (Nat.le_refl _), rfl⟩, ⟨⟨.str ⟨#[c]⟩ u, ?_⟩, ?_, hne⟩, fun b hb => ?_⟩
    · have e1 : ((i + 1 : Nat) : Int) = (i : Int) + 1 := by omega
      rw [e1]
      exact he2
    · obtain ⟨o, q1, q2⟩ := hit'
      exact ⟨o, (sb.2 it (Ne.symm hne)).trans q1, q2⟩
    · have hb' : b < s.heap.objs.size := by
        rcases List.mem_cons.mp hb with z1 | z1
        · rw [z1]; exact hel
        · rw [List.mem_singleton.mp z1]; exact hil
      rw [upd_ne (Nat.ne_of_lt hb')]
      exact (hf b hb).1
  done := by
    intro X hP hw hK hc i pins s σ H E I hf st hg
    subst hP hw hK
    obtain ⟨⟨old, he⟩, hit, hne⟩ := st
    have hg2 : i = z.cps.size := hg
    subst hg2
    obtain ⟨f0, f1, f2, f3, f4, f5⟩ := hf it (List.mem_cons_of_mem _ List.mem_cons_self)
    have D := Draws.text (prog := X.prog) (w := X.w) (A := X.A.in1) (I.ok.hd hc) it z tk0
    exact wpAny_pyNext_enum_endD D he hit fun h' eb => ⟨rfl, I.turned (t' := s.toks) (fun b o hb q => eb b o hb q) f0 f1 f3 f4 f5⟩
  self := fun A i s Q E st h => by
    obtain ⟨⟨_, he⟩, _⟩ := st
    exact wpAny_pyIter_enum he h
def iEnumS (ta : TA) : TI := fun σ H R => ta σ H fun vs H1 => ∃ z, vs = [.str z] ∧ R (Iet z) H1
theorem pi_enumS {X : Cx} {e : Expr} {ta : TA} {p pos tpos : Pos} {elts : List Expr} {kk : Nat} (hg : Gl X "enumerate") (hm : X.mg "enumerate" = none) (ha : PA X [e] ta) (hs : starEach [e] X.env = [(false, eval e X.env)] := by rfl) :
    PI X (.Tuple elts kk tpos) (.Call (.Name "enumerate" p) [e] [] pos) (iEnumS ta) := by
  refine ⟨fun pins s σ H R I h => ?_⟩
  refine Call_ (ld_blt I hg hm boot_enumerate (PyProof.Rows.callWith_type1 (thn (ha.run pos pins s σ H _ I h) fun us s1 ⟨vs, H1, I1, r1, q1⟩ => ?_) hs rfl))
  obtain ⟨z, ex, q⟩ := q1
  subst ex
  cases r1 with
  | cons r rr =>
    cases rr
    obtain ⟨tk0, rfl⟩ := r
    refine call_enumerate_str fun h' he hit hsz hk => wpAny_pyIter_enum he ?_
    have I2 : Inv X pins σ H1 { s1 with heap := h' } := I1.kept (t' := s1.toks) hk
    refine ⟨s1.heap.objs.size + 1, [s1.heap.objs.size + 1, s1.heap.objs.size], _, _, H1, rfl, I2, turn_enumS (s1.heap.objs.size + 1) s1.heap.objs.size z tk0, ⟨⟨.none, he⟩, hit, Nat.succ_ne_self _⟩, fun b hb => ?_, q⟩
    have hle : s1.heap.objs.size ≤ b := by
      rcases List.mem_cons.mp hb with z1 | z1
      · rw [z1]; exact Nat.le_add_right _ _
      · rw [List.mem_singleton.mp z1]; exact Nat.le_refl _
    exact I1.fpOk hle (I1.hok.fresh hle)
theorem walk_enumS {z : Str} : Walk (Iet z) z.cps.size (fun _ => True) (fun i H v H' => ∃ T c, z.cps[i]? = some c ∧ v = .ref T ∧ H T = none ∧ H' = upd H T (.tup [.int (i : Nat), .str ⟨#[c]⟩])) :=
  ⟨fun _ _ hi _ => hi, fun _ _ => rfl, fun _ _ _ _ _ _ y => y⟩
end K79
/-! part R2 -/
/-! A dict whose keys are None and nested tuples together: found, put. -/
namespace K79
open PySem PySem.Spec PyProof.Rows L2
def entN (w : World) (x : NestedKey × Value) : DictEntry := ⟨x.1.hash w, x.2, .bool true⟩
def IsKn (w : World) (h : Heap) (d : Addr) (xs : List (NestedKey × Value)) : Prop := ∃ o es ep, h.get? d = some o ∧ o.ExactDict ∧ o.data = .dict es ep ∧ es.toList = xs.map (entN w)
/-- a key's value: None, or an object -/
def nr : Value → Bool
  | .none => true
  | .ref _ => true
  | _ => false
section
variable {prog : Program} {w : World} {A : Around} {E : Value → Shared → Prop} {s : Shared} {d : Addr} {u : Value} {o : Obj} {es : Array DictEntry} {ep : Nat} {xs : List (NestedKey × Value)} {k : NestedKey}
theorem ent_at (he : es.toList = xs.map (entN w)) (j : Nat) : es[j]? = (xs[j]?).map (entN w) := by
  rw [← Array.getElem?_toList, he, List.getElem?_map]
theorem ent_len (he : es.toList = xs.map (entN w)) : es.size = xs.length := by
  rw [← Array.length_toList, he, List.length_map]
/-- what the search has looked at: places with the key's hash, one hit at most -/
structure Looked (xs : List (NestedKey × Value)) (k : NestedKey) (done : List Nat) (hit : Option Nat) : Prop where
  no : hit = none → ∀ j ∈ done, ∀ v, xs[j]? ≠ some (k, v)
  yes : ∀ j, hit = some j → j ∈ done ∧ ∃ v, xs[j]? = some (k, v)
theorem nd_at (hn : (xs.map (·.1)).Nodup) {i j : Nat} {v v' : Value} (a : xs[i]? = some (k, v)) (b : xs[j]? = some (k, v')) : i = j := by
  have h1 : (xs.map (·.1))[i]? = some k := by rw [List.getElem?_map, a]; rfl
  have h2 : (xs.map (·.1))[j]? = some k := by rw [List.getElem?_map, b]; rfl
  exact (List.getElem?_inj (List.getElem?_eq_some_iff.mp h1).1 hn).mp (h1.trans h2.symm)
theorem eq_n {x : NestedKey} {a b : Value} {Q : Bool → Shared → Prop} (hx : NestedIs s.heap x a) (hk : NestedIs s.heap k b) (hu : A.units + 8 < cLine) (hd : x.depth ≤ 8) (h : Q (decide (x = k)) s) : wpAny (model prog w) A (eqBool a b) Q E s :=
  eqAt_key x k A s a b hx hk (Nat.lt_of_le_of_lt (Nat.add_le_add_left (Nat.le_trans (Nat.min_le_left _ _) hd) _) hu) _ _ _ _ (by rw [← NestedKey.decide_eq]; exact h)
theorem tells_n {stored : List Value} {Q : Bool → Shared → Prop} (hk : NestedIs s.heap k u) (hkd : k.depth ≤ 8) (hst : ∀ v ∈ stored, ∃ k', NestedIs s.heap k' v ∧ k'.depth ≤ 8) (h : Q false s) : wpAny (model prog w) A (tableMayTell u stored) Q E s := by
  unfold tableMayTell
  split
  · exact wpAny_pure h
  · refine wpAny_bind (quiet_key k u 8 s hk hkd _ _ _ ?_)
    simp only [Bool.not_true, Bool.false_eq_true, if_false]
    refine wpAny_bind ?_
    refine wpAny_forIn_list _ (fun rest r s' => s' = s ∧ r = (none, ()) ∧ ∀ v ∈ rest, ∃ k', NestedIs s.heap k' v ∧ k'.depth ≤ 8) _ ?_ ?_ _ _ ⟨rfl, rfl, hst⟩
    · rintro x rest r s' ⟨rfl, rfl, hr⟩
      obtain ⟨k', h1, h2⟩ := hr x List.mem_cons_self
      refine wpAny_bind (quiet_key k' x 8 s' h1 h2 _ _ _ ?_)
      simp only [Bool.not_true, Bool.false_eq_true, if_false]
      exact wpAny_pure ⟨rfl, rfl, fun v hv => hr v (List.mem_cons_of_mem _ hv)⟩
    · rintro r s' ⟨rfl, rfl, _⟩
      exact wpAny_pure h
theorem find_n {Q : Option Nat → Shared → Prop} (hu : A.units + 8 < cLine) (hk : NestedIs s.heap k u) (hkd : k.depth ≤ 8) (hnr : nr u = true)
    (ho : s.heap.get? d = some o) (hd : o.data = .dict es ep) (he : es.toList = xs.map (entN w)) (his : ∀ x ∈ xs, NestedIs s.heap x.1 x.2 ∧ x.1.depth ≤ 8) (hn : (xs.map (·.1)).Nodup)
    (hnone : (∀ (j : Nat) v, xs[j]? ≠ some (k, v)) → Q none s) (hsome : ∀ (j : Nat) v, xs[j]? = some (k, v) → Q (some j) s) :
    wpAny (model prog w) A (dictFind d u (k.hash w)) Q E s := by
  have hsz := ent_len he
  generalize hpl : placesWithHash es.size (fun i => es[i]?.map (·.hash)) (k.hash w) = pl
  have mpl : ∀ i, i ∈ pl ↔ i < es.size ∧ ((es[i]?.map (·.hash)) == some (k.hash w)) = true := fun i => by
    rw [← hpl]
    unfold placesWithHash
    rw [List.mem_filter, List.mem_range]
  have ndp : pl.Nodup := by
    rw [← hpl]
    exact List.Pairwise.filter _ List.nodup_range
  have haskey : ∀ (j : Nat) v, xs[j]? = some (k, v) → j ∈ pl := fun j v hj => by
    rw [mpl]
    refine ⟨?_, ?_⟩
    · rw [hsz]
      exact (List.getElem?_eq_some_iff.mp hj).1
    · rw [ent_at he j, hj]
      simp [entN]
  have hst : ∀ v ∈ pl.filterMap (fun i => es[i]?.map (·.key)), ∃ k', NestedIs s.heap k' v ∧ k'.depth ≤ 8 := by
    intro v hv
    obtain ⟨i, _, hi⟩ := List.mem_filterMap.mp hv
    rw [ent_at he i] at hi
    cases hx : xs[i]? with
    | none => rw [hx] at hi; cases hi
    | some x =>
      rw [hx] at hi
      have e : x.2 = v := by simpa [entN] using hi
      rw [← e]
      exact ⟨x.1, his x (List.mem_of_getElem? hx)⟩
  have fin : ∀ hit, Looked xs k pl hit → Q hit s := fun hit L => by
    cases hit with
    | none => exact hnone fun j v hj => L.no rfl j (haskey j v hj) v hj
    | some j =>
      obtain ⟨_, v, hv⟩ := L.yes j rfl
      exact hsome j v hv
  -- one look
  have look : ∀ {done rest : List Nat} {x : Nat} {hit : Option Nat}, pl = done ++ x :: rest → Looked xs k done hit → ∃ k' v', xs[x]? = some (k', v') ∧ es[x]? = some ⟨k'.hash w, v', .bool true⟩ ∧ (k'.hash w == k.hash w) = true ∧ (k' ≠ k → Looked xs k (done ++ [x]) hit) ∧ (k' = k → hit = none ∧ Looked xs k (done ++ [x]) (some x)) := by
    intro done rest x hit hp L
    have hx : x ∈ pl := by rw [hp]; simp
    obtain ⟨h1, h2⟩ := (mpl x).mp hx
    have h3 : x < xs.length := by rw [← hsz]; exact h1
    have h4 := List.getElem?_eq_getElem h3
    refine ⟨(xs[x]).1, (xs[x]).2, h4, by rw [ent_at he x, h4]; rfl, ?_, fun hne => ⟨fun e j hj v => ?_, fun j e => ?_⟩, fun heq => ?_⟩
    · rw [ent_at he x, h4] at h2
      simpa [entN] using h2
    · rcases List.mem_append.mp hj with hj | hj
      · exact L.no e j hj v
      · rw [List.mem_singleton.mp hj, h4]
        exact fun z => hne (congrArg Prod.fst (Option.some.inj z))
    · obtain ⟨a, b⟩ := L.yes j e
      exact ⟨List.mem_append_left _ a, b⟩
    · have hv : xs[x]? = some (k, (xs[x]).2) := by rw [h4, ← heq]
      have hx0 : x ∉ done := fun z => by
        rw [hp] at ndp
        exact (List.nodup_append.mp ndp).2.2 x z x List.mem_cons_self rfl
      have hh : hit = none := by
        cases hit with
        | none => rfl
        | some j =>
          obtain ⟨a, v, b⟩ := L.yes j rfl
          exact absurd (nd_at hn b hv ▸ a) hx0
      exact ⟨hh, ⟨fun e => (nomatch e), fun j e => by
        cases e
        exact ⟨List.mem_append_right _ List.mem_cons_self, _, hv⟩⟩⟩
  have L0 : Looked xs k [] none := ⟨fun _ j hj => (nomatch hj), fun _ e => (nomatch e)⟩
  unfold dictFind
  try with_reducible refine wpAny_holding ?_
  refine wpAny_bind (wpAny_dictEntries ho hd ?_)
  dsimp only
  rw [hpl]
  have key : (nr u = true → u = .none ∨ ∃ a, u = .ref a) := fun h => by
    cases u <;> first
      | exact .inl rfl
      | exact .inr ⟨_, rfl⟩
      | cases h
  rcases key hnr with rfl | ⟨a, rfl⟩
  · dsimp only
    by_cases hc : ((Value.none :: pl.filterMap (fun i => es[i]?.map (·.key))).all carriedByValue) = true
    · rw [if_pos hc]
      unfold dictWalkPlain
      refine wpAny_bind ?_
      refine wpAny_forIn_list _ (fun rest b s' => s' = s ∧ ∃ done, b.1 = none ∧ pl = done ++ rest ∧ Looked xs k done none) _ ?_ ?_ _ _ ⟨rfl, [], rfl, rfl, L0⟩
      · rintro x rest b s' ⟨rfl, done, hb, hp, L⟩
        obtain ⟨k', v', hxs, hes, hh, lno, lyes⟩ := look hp L
        rw [hes]
        dsimp only
        rw [if_pos hh]
        have hx1 := his _ (List.mem_of_getElem? hxs)
        refine wpAny_bind (wpAny_dictEpoch ho hd (wpAny_bind (eq_n hx1.1 hk hu hx1.2 (wpAny_bind (wpAny_dictEpoch ho hd ?_)))))
        rw [if_neg (by simp)]
        by_cases hkk : k' = k
        · rw [if_pos (decide_eq_true hkk)]
          refine wpAny_bind (wpAny_rule ?_)
          exact wpAny_pure (wpAny_pure (hsome x v' (by rw [hxs, hkk])))
        · rw [if_neg (by simp [hkk])]
          refine wpAny_bind (wpAny_rule ?_)
          exact wpAny_pure ⟨rfl, done ++ [x], rfl, by rw [hp]; simp, lno hkk⟩
      · rintro b s' ⟨rfl, done, hb, hp, L⟩
        rw [List.append_nil] at hp
        subst hp
        dsimp only
        rw [hb]
        exact wpAny_pure (fin none L)
    rw [if_neg hc]
    by_cases hone : ((pl.filterMap (fun i => es[i]?.map (·.key))) == [Value.none]) = true
    all_goals (first | rw [if_pos hone] | rw [if_neg hone])
    all_goals (first | refine wpAny_bind (wpAny_pure ?_) | refine wpAny_bind (tells_n hk hkd hst ?_))
    all_goals rw [if_neg (by simp)]
    all_goals refine wpAny_bind ?_
    all_goals refine wpAny_forIn_list _ (fun rest b s' => s' = s ∧ ∃ done hit, b = (none, hit) ∧ pl = done ++ rest ∧ Looked xs k done hit) _ ?_ ?_ _ _ ⟨rfl, [], none, rfl, rfl, L0⟩
    · rintro x rest b s' ⟨rfl, done, hit, rfl, hp, L⟩
      obtain ⟨k', v', hxs, hes, hh, lno, lyes⟩ := look hp L
      rw [hes]
      dsimp only
      rw [if_pos hh]
      have hx1 := his _ (List.mem_of_getElem? hxs)
      refine wpAny_bind (wpAny_dictEpoch ho hd (wpAny_bind (eq_n hx1.1 hk hu hx1.2 (wpAny_bind (wpAny_dictEpoch ho hd ?_)))))
      rw [if_neg (by simp)]
      by_cases hkk : k' = k
      · obtain ⟨rfl, L2⟩ := lyes hkk
        rw [if_pos (decide_eq_true hkk)]
        simp only [Option.isSome_none, Bool.false_eq_true, if_false]
        refine wpAny_bind (wpAny_rule ?_)
        split
        · exact wpAny_pure (wpAny_pure (hsome x v' (by rw [hxs, hkk])))
        · exact wpAny_pure ⟨rfl, done ++ [x], some x, rfl, by rw [hp]; simp, L2⟩
      · rw [if_neg (by simp [hkk])]
        refine wpAny_bind (wpAny_rule ?_)
        simp only [Bool.false_and, Bool.false_eq_true, if_false]
        exact wpAny_pure ⟨rfl, done ++ [x], hit, rfl, by rw [hp]; simp, lno hkk⟩
    · rintro b s' ⟨rfl, done, hit, rfl, hp, L⟩
      rw [List.append_nil] at hp
      subst hp
      exact wpAny_pure (fin hit L)
    · rintro x rest b s' ⟨rfl, done, hit, rfl, hp, L⟩
      obtain ⟨k', v', hxs, hes, hh, lno, lyes⟩ := look hp L
      rw [hes]
      dsimp only
      rw [if_pos hh]
      have hx1 := his _ (List.mem_of_getElem? hxs)
      refine wpAny_bind (wpAny_dictEpoch ho hd (wpAny_bind (eq_n hx1.1 hk hu hx1.2 (wpAny_bind (wpAny_dictEpoch ho hd ?_)))))
      rw [if_neg (by simp)]
      by_cases hkk : k' = k
      · obtain ⟨rfl, L2⟩ := lyes hkk
        rw [if_pos (decide_eq_true hkk)]
        simp only [Option.isSome_none, Bool.false_eq_true, if_false]
        refine wpAny_bind (wpAny_rule ?_)
        split
        · exact wpAny_pure (wpAny_pure (hsome x v' (by rw [hxs, hkk])))
        · exact wpAny_pure ⟨rfl, done ++ [x], some x, rfl, by rw [hp]; simp, L2⟩
      · rw [if_neg (by simp [hkk])]
        refine wpAny_bind (wpAny_rule ?_)
        simp only [Bool.false_and, Bool.false_eq_true, if_false]
        exact wpAny_pure ⟨rfl, done ++ [x], hit, rfl, by rw [hp]; simp, lno hkk⟩
    · rintro b s' ⟨rfl, done, hit, rfl, hp, L⟩
      rw [List.append_nil] at hp
      subst hp
      exact wpAny_pure (fin hit L)
  · have hany : ¬ (es.any fun e => e.key == Value.ref a && e.hash != k.hash w) = true := by
      rw [← Array.any_toList, List.any_eq_true]
      rintro ⟨e, hin, hc⟩
      rw [he] at hin
      obtain ⟨x, hx, rfl⟩ := List.mem_map.mp hin
      simp only [entN, Bool.and_eq_true, beq_iff_eq, bne_iff_ne, ne_eq] at hc
      obtain ⟨hxa, hne⟩ := hc
      have h1 := (his x hx).1
      rw [hxa] at h1
      exact hne (congrArg (NestedKey.hash w) (NestedIs.inj _ _ _ h1 hk))
    dsimp only
    rw [if_neg (by simp [carriedByValue])]
    rw [if_neg hany]
    by_cases hone : ((pl.filterMap (fun i => es[i]?.map (·.key))) == [Value.ref a]) = true
    all_goals (first | rw [if_pos hone] | rw [if_neg hone])
    all_goals (first | refine wpAny_bind (wpAny_pure ?_) | refine wpAny_bind (tells_n hk hkd hst ?_))
    all_goals rw [if_neg (by simp)]
    all_goals refine wpAny_bind ?_
    all_goals refine wpAny_forIn_list _ (fun rest b s' => s' = s ∧ ∃ done hit, b = (none, hit) ∧ pl = done ++ rest ∧ Looked xs k done hit) _ ?_ ?_ _ _ ⟨rfl, [], none, rfl, rfl, L0⟩
    · rintro x rest b s' ⟨rfl, done, hit, rfl, hp, L⟩
      obtain ⟨k', v', hxs, hes, hh, lno, lyes⟩ := look hp L
      rw [hes]
      dsimp only
      rw [if_pos hh]
      have hx1 := his _ (List.mem_of_getElem? hxs)
      refine wpAny_bind (wpAny_dictEpoch ho hd (wpAny_bind (eq_n hx1.1 hk hu hx1.2 (wpAny_bind (wpAny_dictEpoch ho hd ?_)))))
      rw [if_neg (by simp)]
      by_cases hkk : k' = k
      · obtain ⟨rfl, L2⟩ := lyes hkk
        rw [if_pos (decide_eq_true hkk)]
        simp only [Option.isSome_none, Bool.false_eq_true, if_false]
        refine wpAny_bind (wpAny_rule ?_)
        split
        · exact wpAny_pure (wpAny_pure (hsome x v' (by rw [hxs, hkk])))
        · exact wpAny_pure ⟨rfl, done ++ [x], some x, rfl, by rw [hp]; simp, L2⟩
      · rw [if_neg (by simp [hkk])]
        refine wpAny_bind (wpAny_rule ?_)
        simp only [Bool.false_and, Bool.false_eq_true, if_false]
        exact wpAny_pure ⟨rfl, done ++ [x], hit, rfl, by rw [hp]; simp, lno hkk⟩
    · rintro b s' ⟨rfl, done, hit, rfl, hp, L⟩
      rw [List.append_nil] at hp
      subst hp
      exact wpAny_pure (fin hit L)
    · rintro x rest b s' ⟨rfl, done, hit, rfl, hp, L⟩
      obtain ⟨k', v', hxs, hes, hh, lno, lyes⟩ := look hp L
      rw [hes]
      dsimp only
      rw [if_pos hh]
      have hx1 := his _ (List.mem_of_getElem? hxs)
      refine wpAny_bind (wpAny_dictEpoch ho hd (wpAny_bind (eq_n hx1.1 hk hu hx1.2 (wpAny_bind (wpAny_dictEpoch ho hd ?_)))))
      rw [if_neg (by simp)]
      by_cases hkk : k' = k
      · obtain ⟨rfl, L2⟩ := lyes hkk
        rw [if_pos (decide_eq_true hkk)]
        simp only [Option.isSome_none, Bool.false_eq_true, if_false]
        refine wpAny_bind (wpAny_rule ?_)
        split
        · exact wpAny_pure (wpAny_pure (hsome x v' (by rw [hxs, hkk])))
        · exact wpAny_pure ⟨rfl, done ++ [x], some x, rfl, by rw [hp]; simp, L2⟩
      · rw [if_neg (by simp [hkk])]
        refine wpAny_bind (wpAny_rule ?_)
        simp only [Bool.false_and, Bool.false_eq_true, if_false]
        exact wpAny_pure ⟨rfl, done ++ [x], hit, rfl, by rw [hp]; simp, lno hkk⟩
    · rintro b s' ⟨rfl, done, hit, rfl, hp, L⟩
      rw [List.append_nil] at hp
      subst hp
      exact wpAny_pure (fin hit L)
/-- the keys stand for what they are told to be -/
def Keys (h : Heap) (xs : List (NestedKey × Value)) : Prop := ∀ x ∈ xs, NestedIs h x.1 x.2 ∧ x.1.depth ≤ 8
theorem Keys.at {h h' : Heap} (K : Keys h xs) (hk : ∀ b ob vs n, h.get? b = some ob → ob.data = .seq vs n → h'.get? b = some ob) : Keys h' xs := fun x hx => ⟨NestedIs.at hk _ _ (K x hx).1, (K x hx).2⟩
theorem contains_n {Q : Bool → Shared → Prop} (hu : A.units + 9 < cLine) (hk : NestedIs s.heap k u) (hkd : k.depth ≤ 8) (hnr : nr u = true) (hs : (d == sysModules) = false) (hm : IsKn w s.heap d xs) (his : Keys s.heap xs) (hn : (xs.map (·.1)).Nodup)
    (h : ∀ tk, Q (decide (k ∈ xs.map (·.1))) { s with toks := tk }) : wpAny (model prog w) A (contains (.ref d) u) Q E s := by
  obtain ⟨o, es, ep, ho, hx, hd, he⟩ := hm
  have hT : s.TypeIs (.ref d) "dict" := ⟨o, ho, hx.1⟩
  refine wpAny_contains_slot hT F.slot_dict_contains ?_
  refine call_meetsIn F.slot_dict_contains hT F.entry_dict_contains (F.args_dict_contains_2 _ _) (S := fun A' R s' => A' = A ∧ s' = s ∧ ∀ tk, R (.ok (.ret (.bool (decide (k ∈ xs.map (·.1)))))) { s with toks := tk }) (fun A' R s' hS => ?_) ⟨rfl, rfl, fun tk => wpAny_truthy_bool (h tk)⟩
  obtain ⟨rfl, rfl, hq⟩ := hS
  have hu2 : (A'.in1).units + 8 < cLine := by
    show A'.units + 1 + 8 < cLine
    omega
  show wpAny _ _ (dictGet d u >>= _) _ _ _
  refine wpAny_bind ?_
  unfold dictGet
  try with_reducible refine wpAny_holding ?_
  refine wpAny_bind (pyHash_key k u _ s' _ hk (by omega) ?_)
  refine wpAny_bind (find_n (s := { s' with toks := s'.toks + k.draws }) hu2 hk hkd hnr ho hd he his hn (fun hno => ?_) fun j v hj => ?_)
  · have h0 : decide (k ∈ xs.map (·.1)) = false := by
      refine decide_eq_false fun hm => ?_
      obtain ⟨x, hx, rfl⟩ := List.mem_map.mp hm
      obtain ⟨j, hj⟩ := List.mem_iff_getElem?.mp hx
      exact hno j x.2 hj
    rw [h0] at hq
    refine wpAny_pure ?_
    show wpAny _ _ (Builtin.Dict.pendingKey? d u >>= _) _ _ _
    exact wpAny_bind (wpAny_pendingKey_other hs (wpAny_pure (hq _)))
  · have h0 : decide (k ∈ xs.map (·.1)) = true := decide_eq_true (List.mem_map.mpr ⟨_, List.mem_of_getElem? hj, rfl⟩)
    rw [h0] at hq
    refine wpAny_bind (wpAny_dictEntries (s := { s' with toks := s'.toks + k.draws }) ho hd ?_)
    rw [ent_at he j, hj]
    refine wpAny_pure ?_
    show wpAny _ _ (ret (.bool true)) _ _ _
    exact wpAny_pure (hq _)
theorem set_n {Q : Unit → Shared → Prop} (hu : A.units + 8 < cLine) (hk : NestedIs s.heap k u) (hkd : k.depth ≤ 8) (hnr : nr u = true) (hm : IsKn w s.heap d xs) (his : Keys s.heap xs) (hn : (xs.map (·.1)).Nodup) (hnew : k ∉ xs.map (·.1)) (hz : xs.length ≤ sizeLine)
    (hQ : ∀ h' tk, IsKn w h' d (xs ++ [(k, u)]) → Heap.SameBut d s.heap h' → Q () { s with heap := h', toks := tk }) : wpAny (model prog w) A (dictSet d u (.bool true)) Q E s := by
  obtain ⟨o, es, ep, ho, hx, hd, he⟩ := hm
  unfold dictSet
  try with_reducible refine wpAny_holding ?_
  refine wpAny_bind (pyHash_key k u _ s _ hk (by omega) ?_)
  unfold dictSetHashed
  try with_reducible refine wpAny_holding ?_
  refine wpAny_bind (find_n (s := { s with toks := s.toks + k.draws }) hu hk hkd hnr ho hd he his hn (fun hno => ?_) fun j v hj => ?_)
  · have hsz := ent_len he
    refine wpAny_bind (wpAny_rule (wpAny_updateDictKeys (hz := by omega) (s := { s with toks := s.toks + k.draws }) ho hd (hQ _ _ ⟨_, _, ep + 1, Heap.get?_update_self _ ho (Obj.isFreed_of_dict (Obj.data_mapDictKeys hd _)),
      hx.mapDictKeys _, Obj.data_mapDictKeys hd _, ?_⟩ (Heap.SameBut.update ..))))
    simp [he, entN]
  · exact absurd (List.mem_map.mpr ⟨_, List.mem_of_getElem? hj, rfl⟩) hnew
end
end K79
/-! part Rep -/
/-! Places, stands and lists of them as they lie in the heap; the dict of stands. -/
namespace K79
open PySem PySem.Spec PyProof.Rows L2
abbrev S (l : List Nat) : Str := ⟨l.toArray⟩
def pdPl (p : Pl) : PyData := .tuple [.int p.1, .int p.2]
def pdPost : Post → PyData
  | none => .none
  | some (p, t) => .tuple [pdPl p, .str (S t)]
def kPost : Post → NestedKey
  | none => .none
  | some (p, t) => .tup [.tup [.num p.1, .num p.2], .text (S t)]
theorem S_inj {a b : List Nat} (h : S a = S b) : a = b := congrArg (fun x : Str => x.cps.toList) h
theorem kPost_inj {x y : Post} (h : kPost x = kPost y) : x = y := by
  cases x with
  | none => cases y with
    | none => rfl
    | some y => cases h
  | some x => cases y with
    | none => cases h
    | some y =>
      obtain ⟨⟨a, b⟩, t⟩ := x
      obtain ⟨⟨c, d⟩, u⟩ := y
      simp only [kPost, NestedKey.tup.injEq, List.cons.injEq, NestedKey.num.injEq, NestedKey.text.injEq, and_true] at h
      obtain ⟨⟨rfl, rfl⟩, h⟩ := h
      rw [S_inj h]
theorem kPost_depth (x : Post) : (kPost x).depth ≤ 8 := by
  cases x with
  | none => simp [kPost, NestedKey.depth]
  | some x => simp [kPost, NestedKey.depth, NestedKey.depthAll]
/-- its turn is one of the eight -/
def TOk : Post → Prop
  | none => True
  | some (_, t) => t ∈ turns8
theorem PostOk.tok {r : Rows} {x : Post} (h : PostOk r x) : TOk x := by
  cases x with
  | none => trivial
  | some x => exact h.2
theorem turn_strOk {t : List Nat} (h : t ∈ turns8) : PyData.strOk (S t) = true := by
  have h2 : ∀ t ∈ turns8, PyData.strOk (S t) = true := by decide +kernel
  exact h2 t h
theorem pd_lay {x : Post} (h : TOk x) : (pdPost x).canLay0 = true := by
  cases x with
  | none => simp [pdPost, PyData.canLay0]
  | some x =>
    have e := turn_strOk (show x.2 ∈ turns8 from h)
    simp [pdPost, pdPl, PyData.canLay0, PyData.canLayAll0, e]
theorem pd_depth (x : Post) : (pdPost x).depth ≤ 2 := by
  cases x with
  | none => simp [pdPost, PyData.depth]
  | some x => simp [pdPost, pdPl, PyData.depth, PyData.depthAll]
theorem pds_lay : ∀ l : List Post, (∀ x ∈ l, TOk x) → PyData.canLayAll0 (l.map pdPost) = true
  | [], _ => by simp [PyData.canLayAll0]
  | x :: l, h => by simp [PyData.canLayAll0, pd_lay (h x List.mem_cons_self), pds_lay l fun y hy => h y (List.mem_cons_of_mem _ hy)]
theorem pds_depth : ∀ l : List Post, PyData.depthAll (l.map pdPost) ≤ 2
  | [] => by simp [PyData.depthAll]
  | x :: l => by
    have h1 := pds_depth l
    have h2 := pd_depth x
    simp only [List.map_cons, PyData.depthAll]
    omega
theorem pd_shaped {x : Post} (hx : TOk x) : SeqAt.shaped (pdPost x) = true := by
  have h := pd_depth x
  show ((pdPost x).canLay0 && decide ((pdPost x).depth ≤ 64)) = true
  rw [pd_lay hx, Bool.true_and]
  exact decide_eq_true (by omega)
theorem pds_shaped {l : List Post} (hl : ∀ x ∈ l, TOk x) : SeqAt.shaped (.list (l.map pdPost)) = true := by
  have h1 := pds_depth l
  show (PyData.canLay0 (.list (l.map pdPost)) && decide (PyData.depth (.list (l.map pdPost)) ≤ 64)) = true
  rw [show PyData.canLay0 (.list (l.map pdPost)) = PyData.canLayAll0 (l.map pdPost) by simp only [PyData.canLay0], pds_lay l hl, Bool.true_and]
  refine decide_eq_true ?_
  simp only [PyData.depth]
  omega
theorem pdPl_shaped (p : Pl) : SeqAt.shaped (pdPl p) = true := by
  show ((pdPl p).canLay0 && decide ((pdPl p).depth ≤ 64)) = true
  simp [pdPl, PyData.canLay0, PyData.canLayAll0, PyData.depth, PyData.depthAll]
theorem pdPl_eqv (p q : Pl) : PyData.eqv (pdPl p) (pdPl q) = decide (p = q) := by
  obtain ⟨a, b⟩ := p
  obtain ⟨c, d⟩ := q
  simp only [pdPl, PyData.eqv, PyData.eqvAll]
  by_cases h1 : a = c <;> by_cases h2 : b = d <;> simp [h1, h2]
theorem S_beq (a b : List Nat) : (S a == S b) = decide (a = b) := by
  by_cases h : a = b
  · rw [h]; simp
  · rw [decide_eq_false h]
    exact beq_eq_false_iff_ne.mpr fun e => h (S_inj e)
theorem pd_eqv (x y : Post) : PyData.eqv (pdPost x) (pdPost y) = decide (x = y) := by
  cases x with
  | none => cases y with
    | none => simp [pdPost, PyData.eqv]
    | some y => simp [pdPost, PyData.eqv]
  | some x => cases y with
    | none => simp [pdPost, PyData.eqv]
    | some y =>
      obtain ⟨p, t⟩ := x
      obtain ⟨q, u⟩ := y
      have e : PyData.eqv (pdPost (some (p, t))) (pdPost (some (q, u))) = (PyData.eqv (pdPl p) (pdPl q) && ((S t == S u) && true)) := by simp only [pdPost, PyData.eqv, PyData.eqvAll]
      rw [e, pdPl_eqv, S_beq]
      by_cases h1 : p = q <;> by_cases h2 : t = u <;> simp [h1, h2]
theorem pds_eqv : ∀ l m : List Post, PyData.eqvAll (l.map pdPost) (m.map pdPost) = decide (l = m)
  | [], [] => by simp [PyData.eqvAll]
  | [], _ :: _ => by simp [PyData.eqvAll]
  | _ :: _, [] => by simp [PyData.eqvAll]
  | x :: l, y :: m => by
    simp only [List.map_cons, PyData.eqvAll]
    rw [pd_eqv, pds_eqv l m]
    by_cases h1 : x = y <;> by_cases h2 : l = m <;> simp [h1, h2]
theorem pdl_eqv (l m : List Post) : PyData.eqv (.list (l.map pdPost)) (.list (m.map pdPost)) = decide (l = m) := by
  have e : PyData.eqv (.list (l.map pdPost)) (.list (m.map pdPost)) = PyData.eqvAll (l.map pdPost) (m.map pdPost) := by simp only [PyData.eqv]
  rw [e, pds_eqv]
theorem any_eqv (l : List Post) (x : Post) : ((l.map pdPost).any fun z => PyData.eqv z (pdPost x)) = decide (x ∈ l) := by
  induction l with
  | nil => simp
  | cons y l ih =>
    rw [List.map_cons, List.any_cons, ih, pd_eqv]
    by_cases h1 : y = x
    · simp [h1]
    · have h2 : ¬ x = y := fun e => h1 e.symm
      by_cases h3 : x ∈ l <;> simp [h1, h2, h3]
/-! ### in the heap -/
section
variable {K : PySem.W.Frag} {H H' : Hp}
def PlV (K : PySem.W.Frag) (H : Hp) (v : V) (p : Pl) : Prop := ∃ q, v = .ref q ∧ SqT K H q [.int p.1, .int p.2]
def PV (K : PySem.W.Frag) (H : Hp) (v : V) : Post → Prop
  | none => v = .non
  | some (p, t) => ∃ q v', v = .ref q ∧ SqT K H q [v', .str (S t)] ∧ PlV K H v' p
/-- tuples stay -/
def KeepT (H H' : Hp) : Prop := (∀ b xs, H b = some (.tup xs) → H' b = some (.tup xs)) ∧ ∀ b o u, H b = some (.frz o u) → H' b = some (.frz o u)
theorem KeepT.refl (H : Hp) : KeepT H H := ⟨fun _ _ e => e, fun _ _ _ e => e⟩
theorem KeepT.trans {H1 H2 H3 : Hp} (a : KeepT H1 H2) (b : KeepT H2 H3) : KeepT H1 H3 := ⟨fun c xs e => b.1 c xs (a.1 c xs e), fun c o u e => b.2 c o u (a.2 c o u e)⟩
theorem Same.keepT (s : Same H H') : KeepT H H' := ⟨fun _ _ e => s _ _ e, fun _ _ _ e => s _ _ e⟩
theorem Same.new {p : Addr} {o : HO} (h : H p = Option.none) : Same H (upd H p o) := fun b u e => by
  rw [upd_ne (ne_of_none e h)]
  exact e
theorem Same.then_new {H0 : Hp} (s : Same H0 H) {p : Addr} {o : HO} (h : H p = Option.none) : Same H0 (upd H p o) := s.trans (Same.new h)
theorem sqT_keep {a : Addr} {xs : List V} (s : SqT K H a xs) (k : KeepT H H') : SqT K H' a xs := by
  rcases s with (h | ⟨o, h⟩) | h
  · exact .inl (.inl (k.1 _ _ h))
  · exact .inl (.inr ⟨o, k.2 _ _ _ h⟩)
  · exact .inr h
theorem PlV.keep {v : V} {p : Pl} (h : PlV K H v p) (k : KeepT H H') : PlV K H' v p := by
  obtain ⟨q, e, s⟩ := h
  exact ⟨q, e, sqT_keep s k⟩
theorem PV.keep {v : V} {x : Post} (h : PV K H v x) (k : KeepT H H') : PV K H' v x := by
  cases x with
  | none => exact h
  | some x =>
    obtain ⟨q, v', e, s, l⟩ := h
    exact ⟨q, v', e, sqT_keep s k, l.keep k⟩
theorem PlV.dp {v : V} {p : Pl} (h : PlV K H v p) : Dp K H v (pdPl p) := by
  obtain ⟨q, rfl, s⟩ := h
  exact .tup s (.cons (.int _) (.cons (.int _) .nil))
theorem PV.dp {v : V} {x : Post} (h : PV K H v x) : Dp K H v (pdPost x) := by
  cases x with
  | none =>
    cases (show v = .non from h)
    exact .non
  | some x =>
    obtain ⟨q, v', rfl, s, l⟩ := h
    exact .tup s (.cons l.dp (.cons (.str _) .nil))
def LV (K : PySem.W.Frag) (H : Hp) : List V → List Post → Prop := Paired (PV K H)
theorem LV.keep {vs : List V} {xs : List Post} (h : LV K H vs xs) (k : KeepT H H') : LV K H' vs xs := Paired.mapP h fun _ _ z => z.keep k
theorem LV.dp : ∀ {vs : List V} {xs : List Post}, LV K H vs xs → DpAll K H vs (xs.map pdPost)
  | _, _, .nil => .nil
  | _, _, .cons h t => .cons h.dp (LV.dp t)
theorem LV.len {vs : List V} {xs : List Post} (h : LV K H vs xs) : vs.length = xs.length := Paired.length h
theorem LV.app : ∀ {vs us : List V} {xs ys : List Post}, LV K H vs xs → LV K H us ys → LV K H (vs ++ us) (xs ++ ys)
  | _, _, _, _, .nil, h => h
  | _, _, _, _, .cons r t, h => .cons r (LV.app t h)
theorem LV.one {v : V} {x : Post} (h : PV K H v x) : LV K H [v] [x] := .cons h .nil
theorem LV.at : ∀ {vs : List V} {xs : List Post} {i : Nat} {v : V}, LV K H vs xs → vs[i]? = some v → ∃ x, xs[i]? = some x ∧ PV K H v x
  | _, _, i, _, .nil, e => by simp at e
  | _, _, 0, _, .cons r _, e => by
    simp only [List.getElem?_cons_zero, Option.some.injEq] at e
    subst e
    exact ⟨_, rfl, r⟩
  | _, _, i + 1, _, .cons _ t, e => by
    simp only [List.getElem?_cons_succ] at e
    obtain ⟨x, h1, h2⟩ := LV.at t e
    exact ⟨x, by simpa using h1, h2⟩
theorem LV.at' : ∀ {vs : List V} {xs : List Post} {i : Nat} {x : Post}, LV K H vs xs → xs[i]? = some x → ∃ v, vs[i]? = some v ∧ PV K H v x
  | _, _, i, _, .nil, e => by simp at e
  | _, _, 0, _, .cons r _, e => by
    simp only [List.getElem?_cons_zero, Option.some.injEq] at e
    subst e
    exact ⟨_, rfl, r⟩
  | _, _, i + 1, _, .cons _ t, e => by
    simp only [List.getElem?_cons_succ] at e
    obtain ⟨x, h1, h2⟩ := LV.at' t e
    exact ⟨x, by simpa using h1, h2⟩
theorem LV.take : ∀ {vs : List V} {xs : List Post} (n : Nat), LV K H vs xs → LV K H (vs.take n) (xs.take n)
  | _, _, 0, _ => .nil
  | _, _, _ + 1, .nil => .nil
  | _, _, n + 1, .cons r t => .cons r (LV.take n t)
theorem LV.drop : ∀ {vs : List V} {xs : List Post} (n : Nat), LV K H vs xs → LV K H (vs.drop n) (xs.drop n)
  | _, _, 0, h => h
  | _, _, _ + 1, .nil => .nil
  | _, _, n + 1, .cons _ t => LV.drop n t
end
/-! ### the dict of stands -/
def vv : V → Value
  | .ref a => .ref a
  | _ => .none
theorem PV.val {K : PySem.W.Frag} {H : Hp} {v : V} {x : Post} {u : Value} (h : PV K H v x) (r : RelV v u) : u = vv v ∧ nr u = true := by
  cases x with
  | none =>
    cases (show v = .non from h)
    cases (show u = Value.none from r)
    exact ⟨rfl, rfl⟩
  | some x =>
    obtain ⟨q, v', rfl, _⟩ := h
    cases (show u = Value.ref q from r)
    exact ⟨rfl, rfl⟩
theorem PV.rel {K : PySem.W.Frag} {H : Hp} {v : V} {x : Post} (h : PV K H v x) : RelV v (vv v) := by
  cases x with
  | none =>
    cases (show v = .non from h)
    exact rfl
  | some x =>
    obtain ⟨q, v', rfl, _⟩ := h
    exact rfl
def knx (ks : List (V × Post)) : List (NestedKey × Value) := ks.map fun x => (kPost x.2, vv x.1)
/-- the dict at d with these stands as keys, True behind each -/
def KnO (w : World) (d : Addr) (ks : List (V × Post)) : HO := .ext fun h => (d == sysModules) = false ∧ ks.length ≤ sizeLine ∧ IsKn w h d (knx ks)
section
variable {X : Cx} {pins : List (Addr × Obj)} {σ : L2.St} {H : Hp} {s : Shared}
theorem nested_pl (I : Inv X pins σ H s) {q : Addr} {p : Pl} (h : SqT X.K H q [.int p.1, .int p.2]) : NestedIs s.heap (.tup [.num p.1, .num p.2]) (.ref q) := by
  obtain ⟨its, r, ⟨o, e, c, n, dd⟩, _⟩ := I.tuple h
  cases r with
  | cons r1 r =>
    cases r with
    | cons r2 r =>
      cases r
      obtain ⟨t1, rfl⟩ := r1
      obtain ⟨t2, rfl⟩ := r2
      exact .tup e c dd (.cons (.int _ _) (.cons (.int _ _) .nil))
theorem nested_of (I : Inv X pins σ H s) {v : V} {x : Post} (h : PV X.K H v x) : NestedIs s.heap (kPost x) (vv v) := by
  cases x with
  | none =>
    cases (show v = .non from h)
    exact .none
  | some x =>
    obtain ⟨q, v', rfl, s1, q2, rfl, s2⟩ := h
    obtain ⟨its, r, ⟨o, e, c, n, dd⟩, _⟩ := I.tuple s1
    cases r with
    | cons r1 r =>
      cases r with
      | cons r2 r =>
        cases r
        cases r1
        obtain ⟨t2, rfl⟩ := r2
        exact .tup e c dd (.cons (nested_pl I s2) (.cons (.text _ _) .nil))
theorem knO_new {P : Program} {w : World} {H : Hp} {h : Heap} {d : Addr} {ks : List (V × Post)} (hs : (d == sysModules) = false) (hz : ks.length ≤ sizeLine) (k : IsKn w h d (knx ks)) : ObjOk P w H h d (KnO w d ks) := by
  refine ⟨⟨hs, hz, k⟩, let ⟨o, _, _, e, _⟩ := k; ⟨o, e⟩, ?_⟩
  rintro h1 h2 ⟨a, b, o, es, ep, e, r⟩ kk
  exact ⟨a, b, o, es, ep, kk o e, r⟩
theorem knO_get (I : Inv X pins σ H s) {d : Addr} {ks : List (V × Post)} (e : H d = some (KnO X.w d ks)) : (d == sysModules) = false ∧ ks.length ≤ sizeLine ∧ IsKn X.w s.heap d (knx ks) := (I.hok d _ e).1
theorem keys_of (I : Inv X pins σ H s) {ks : List (V × Post)} (h : ∀ x ∈ ks, PV X.K H x.1 x.2) : Keys s.heap (knx ks) := fun x hx => by
  obtain ⟨y, hy, rfl⟩ := List.mem_map.mp hx
  exact ⟨nested_of I (h y hy), kPost_depth _⟩
theorem knx_nodup {ks : List (V × Post)} (h : (ks.map (·.2)).Nodup) : ((knx ks).map (·.1)).Nodup := by
  have e : (knx ks).map (·.1) = (ks.map (·.2)).map kPost := by
    unfold knx
    rw [List.map_map, List.map_map]
    rfl
  rw [e]
  clear e
  generalize ks.map (·.2) = l at h
  induction l with
  | nil => exact List.nodup_nil
  | cons a l ih =>
    obtain ⟨p, q⟩ := List.nodup_cons.mp h
    rw [List.map_cons, List.nodup_cons]
    refine ⟨fun hm => ?_, ih q⟩
    obtain ⟨b, hb, e⟩ := List.mem_map.mp hm
    exact p (kPost_inj e ▸ hb)
theorem knx_mem {ks : List (V × Post)} {x : Post} : kPost x ∈ (knx ks).map (·.1) ↔ x ∈ ks.map (·.2) := by
  unfold knx
  simp only [List.mem_map]
  constructor
  · rintro ⟨_, ⟨y, hy, rfl⟩, e⟩
    exact ⟨y, hy, kPost_inj e⟩
  · rintro ⟨y, hy, rfl⟩
    exact ⟨_, ⟨y, hy, rfl⟩, rfl⟩
/-- stand not in known -/
def rKnNot (K : PySem.W.Frag) (w : World) : R2 := fun x y H Q => ∃ (d : Addr) (ks : List (V × Post)) (p : Post), y = .ref d ∧ H d = some (KnO w d ks) ∧ PV K H x p ∧ (∀ z ∈ ks, PV K H z.1 z.2) ∧ (ks.map (·.2)).Nodup ∧ Q (.bl (!decide (p ∈ ks.map (·.2)))) H
theorem op_knNot (hu : X.A.units + 9 < cLine) : OpR X (compareOp .NotIn) (rKnNot X.K X.w) := by
  intro pins s σ H x y v u Q I rx ry h
  obtain ⟨d, ks, p, rfl, hd, hx, hks, hn, q⟩ := h
  cases (show u = Value.ref d from ry)
  obtain ⟨h1, h2, h3⟩ := knO_get I hd
  obtain ⟨rfl, hnr⟩ := hx.val rx
  show wpAny _ _ (do return .bool (!(← contains (.ref d) (vv x)))) (EP X pins σ Q) X.xe s
  refine wpAny_bind (contains_n hu (nested_of I hx) (kPost_depth p) hnr h1 h3 (keys_of I hks) (knx_nodup hn) fun tk => wpAny_pure ?_)
  have e : decide (kPost p ∈ (knx ks).map (·.1)) = decide (p ∈ ks.map (·.2)) := by
    by_cases hm : p ∈ ks.map (·.2)
    · rw [decide_eq_true hm, decide_eq_true (knx_mem.mpr hm)]
    · rw [decide_eq_false hm, decide_eq_false fun z => hm (knx_mem.mp z)]
  rw [e]
  exact ⟨.bl _, H, I.tok tk, rfl, q⟩
/-- known[stand] = True, a new stand -/
def rKnSet (K : PySem.W.Frag) (w : World) : TSet := fun o i v H Q => ∃ (d : Addr) (ks : List (V × Post)) (p : Post), o = .ref d ∧ v = .bl true ∧ H d = some (KnO w d ks) ∧ PV K H i p ∧ (∀ z ∈ ks, PV K H z.1 z.2) ∧ (ks.map (·.2)).Nodup ∧ p ∉ ks.map (·.2) ∧ ks.length < sizeLine ∧
  Q (upd H d (KnO w d (ks ++ [(i, p)])))
theorem set_kn (hu : X.A.units + 9 < cLine) : PSet X (rKnSet X.K X.w) := by
  intro pins s σ H o i v ov iv u Q I ro ri rv h
  obtain ⟨d, ks, p, rfl, rfl, hd, hi, hks, hn, hnew, hz, q⟩ := h
  cases (show ov = Value.ref d from ro)
  cases (show u = Value.bool true from rv)
  obtain ⟨h1, h2, h3⟩ := knO_get I hd
  obtain ⟨rfl, hnr⟩ := hi.val ri
  have hT : s.TypeIs (.ref d) "dict" := let ⟨o, _, _, ho, hx, _⟩ := h3; ⟨o, ho, hx.1⟩
  unfold setItem
  try with_reducible refine wpAny_holding ?_
  refine wpAny_bind (wpAny_sequenceKey hT (by decide) ?_)
  refine wpAny_bind (wpAny_callSpecial?_slot (name := Str.ofString "__setitem__") hT slot_dict_setitem (wpAny_call_entry slot_dict_setitem hT entry_dict_setitem ?_ (args_dict_setitem _ _ _)))
  show wpAny _ _ (Builtin.Dict.notOrdered "__setitem__" ⟨[.ref d, vv i, .bool true], []⟩ >>= _) _ _ s
  refine wpAny_bind (wpAny_notOrdered_dict hT ?_)
  show wpAny _ _ (dictSet d (vv i) (.bool true) >>= _) _ _ s
  have hlen : (knx ks).length = ks.length := List.length_map _
  refine wpAny_bind (set_n (by omega) (nested_of I hi) (kPost_depth p) hnr h3 (keys_of I hks) (knx_nodup hn) (fun z => hnew (knx_mem.mp z)) (by omega) fun h' tk hm' hs' => wpAny_pure ⟨.none, rfl, wpAny_pure ?_⟩)
  have hm2 : IsKn X.w h' d (knx (ks ++ [(i, p)])) := by
    have e : knx (ks ++ [(i, p)]) = knx ks ++ [(kPost p, vv i)] := by
      unfold knx
      rw [List.map_append]
      rfl
    rw [e]
    exact hm'
  have hl2 : (ks ++ [(i, p)]).length ≤ sizeLine := by
    rw [List.length_append, List.length_singleton]
    omega
  refine ⟨_, d_write (ob := KnO X.w d (ks ++ [(i, p)])) I (by rw [hd]; exact True.intro) hs' (let ⟨o, _, _, e, _⟩ := hm2; ⟨o, e⟩) (knO_new h1 hl2 hm2), q⟩
/-- {stand: True} -/
def tKn1 (K : PySem.W.Frag) (w : World) (tk : TE) : TE := fun σ H Q => ∀ d, H d = none → tk σ (upd H d (KnO w d [])) fun v H1 => H1 d = some (KnO w d []) ∧ ∃ p, PV K H1 v p ∧ Q (.ref d) (upd H1 d (KnO w d [(v, p)]))
theorem pe_kn1 {k v : Expr} {pos : Pos} {tk : TE} (hu : X.A.units + 9 < cLine) (hk : PE X k tk) {j : Nat} {p2 : Pos} (hv : v = .Constant (.bool true) j p2) : PE X (.Dict [some k] [v] pos) (tKn1 X.K X.w tk) := by
  subst hv
  refine ⟨fun pins s σ H Q I q => ?_⟩
  have hn := I.hok.fresh (Nat.le_refl s.heap.objs.size)
  have hs : (s.heap.objs.size == sysModules) = false := beq_eq_false_iff_ne.mpr (Ne.symm (Nat.ne_of_lt I.big))
  have k0 : IsKn X.w (s.heap.push { cls := .type "dict", data := .dict #[] }) s.heap.objs.size (knx []) := ⟨_, #[], 0, Heap.get?_push_size _ rfl, ⟨rfl, rfl, rfl⟩, rfl, rfl⟩
  have I1 := I.laid (a := s.heap.objs.size) (o := KnO X.w s.heap.objs.size []) (h' := s.heap.push { cls := .type "dict", data := .dict #[] }) (t' := s.toks) (fun _ _ q => Heap.get?_push_of_some _ q) (Nat.le_refl _) (knO_new hs (Nat.zero_le _) k0)
  rw [arm_eval_Dict]
  have hsh : (evalEachOpt [some k] X.env).zip ((evalEach [.Constant (.bool true) j p2] X.env).map fun v => do let x ← v; standAt pos; pure x) = (pairTrees [some k] [.Constant (.bool true) j p2] X.env pos).map fun p => (some p.1, p.2) := zip_pairTrees _ _ _ _ rfl rfl
  have hone : (pairTrees [some k] [.Constant (.bool true) j p2] X.env pos).length = 1 := rfl
  rw [hsh, dictDisplay_pairs _ (by intro z; cases z) (by rw [hone]; decide)]
  refine wpAny_bind (wpAny_standAt (wpAny_bind ?_))
  unfold subDict
  refine wpAny_bind (wpAny_alloc ?_)
  refine wpAny_bind (wpAny_holding ?_)
  rw [if_pos (by rw [hone]; decide)]
  refine wpAny_bind ?_
  refine pairTrees_cons_walk (thn (hk.run pins _ σ _ _ I1 (q _ hn)) fun u s2 ⟨x, H2, I2, rx, e2, p, hp, q2⟩ => Constant_bool (pairTrees_nil_walk ?_))
  obtain ⟨h1, h2, h3⟩ := knO_get I2 e2
  obtain ⟨rfl, hnr⟩ := hp.val rx
  refine wpAny_holding (wpAny_bind ?_)
  rw [List.forIn_cons]
  refine wpAny_bind (wpAny_bind (set_n (by omega) (nested_of I2 hp) (kPost_depth p) hnr h3 (keys_of I2 (ks := []) fun z hz => by cases hz) List.nodup_nil (by intro z; cases z) (Nat.zero_le _) fun h' tk hm' hs' => wpAny_pure ?_))
  dsimp only
  rw [List.forIn_nil]
  refine wpAny_pure (wpAny_pure (wpAny_pure (wpAny_pure ?_)))
  exact ⟨.ref s.heap.objs.size, _, d_write (ob := KnO X.w s.heap.objs.size [(x, p)]) I2 (by rw [e2]; exact True.intro) hs' (let ⟨o, _, _, e, _⟩ := hm'; ⟨o, e⟩) (knO_new hs (show 1 ≤ sizeLine by decide) hm'), rfl, q2⟩
end
end K79
/-! part K0 -/
/-! The text by places, the defs as data, the facts of the head (printed by gen_k0.py). -/
namespace K79
open PySem L2
def top (i : Nat) : Stmt := PySem.Challenge.pw_onehand_k79_whole_hands_turned.main.body.getD i (.Pass ⟨0, 0, 0, 0⟩)
abbrev s_is_whole : Stmt := top 11
abbrev s_is_from : Stmt := top 12
abbrev s_is_place : Stmt := top 13
abbrev s_is_turn : Stmt := top 17
abbrev s_want_turn : Stmt := top 18
abbrev s_want_row : Stmt := top 19
abbrev s_want_deed : Stmt := top 20
abbrev s_way : Stmt := top 21
abbrev s_row_turned : Stmt := top 22
abbrev s_then : Stmt := top 23
abbrev s_is_text : Stmt := top 34
abbrev s_want_rows : Stmt := top 35
abbrev s_next_to : Stmt := top 36
abbrev s_Floor_init : Stmt := inClass (top 37) 0
abbrev s_Floor_size : Stmt := inClass (top 37) 4
abbrev s_Floor_has : Stmt := inClass (top 37) 5
abbrev s_Floor_seen : Stmt := inClass (top 37) 6
abbrev s_Floor_letters : Stmt := inClass (top 37) 8
abbrev s_Floor_places : Stmt := inClass (top 37) 9
abbrev s_Floor_open_places : Stmt := inClass (top 37) 10
abbrev s_Floor_can_stand : Stmt := inClass (top 37) 11
abbrev s_Floor_goes : Stmt := inClass (top 37) 12
abbrev s_is_stand : Stmt := top 40
abbrev s_is_book : Stmt := top 41
abbrev s_are_wishes : Stmt := top 42
abbrev s_first_wrong : Stmt := top 43
abbrev s_want_said : Stmt := top 44
abbrev s_World_init : Stmt := inClass (top 45) 0
abbrev s_World_start : Stmt := inClass (top 45) 5
abbrev s_World_want_stand : Stmt := inClass (top 45) 6
abbrev s_World_begun : Stmt := inClass (top 45) 7
abbrev s_World_behind : Stmt := inClass (top 45) 8
abbrev s_World_gone : Stmt := inClass (top 45) 10
abbrev s_World_walk : Stmt := inClass (top 45) 11
abbrev s_World_comings : Stmt := inClass (top 45) 12
abbrev s_World_comes : Stmt := inClass (top 45) 16
abbrev s_World_sayings : Stmt := inClass (top 45) 17
abbrev s_World_stand_at : Stmt := inClass (top 45) 18
abbrev s_World_round_of : Stmt := inClass (top 45) 19
abbrev s_hand_turned : Stmt := top 47
abbrev s_law_mixed : Stmt := top 49
abbrev s_law_source : Stmt := top 50
abbrev s_law_take : Stmt := top 51
abbrev s_law_one : Stmt := top 52
abbrev s_law_rows : Stmt := top 53
abbrev s_law_sense : Stmt := top 54
abbrev s_law_spots : Stmt := top 55
abbrev s_law_land : Stmt := top 56
abbrev s_law_made : Stmt := top 57
abbrev s_law_sign : Stmt := top 58
abbrev s_law_goes : Stmt := top 59
abbrev s_law_becomes : Stmt := top 60
abbrev s_law_behind : Stmt := top 61
abbrev s_law_gone : Stmt := top 62
abbrev s_law_line : Stmt := top 63
abbrev s_law_begun : Stmt := top 64
abbrev s_law_any_start : Stmt := top 65
abbrev s_law_both : Stmt := top 66
abbrev s_law_turn : Stmt := top 70
abbrev s_law_post_turned : Stmt := top 71
abbrev s_law_right : Stmt := top 72
abbrev s_law_again_right : Stmt := top 73
abbrev s_law_layers : Stmt := top 74
abbrev s_law_comes_right : Stmt := top 75
abbrev s_law : Stmt := top 76
/-- where the default of the wishes stands -/
def wishDfl (K : PySem.W.Frag) : Addr := match K.lookup (He.fAd K ("World", some "__init__")) with
  | some ⟨_, _, .func fd, _⟩ => (match fd.kwdefaults with
    | .ref D => (match PySem.W.nsIn K D "wishes" with
      | some (some (.ref a)) => a
      | _ => 0)
    | _ => 0)
  | _ => 0
def d_is_whole : He.DefD := ⟨("is_whole", none), "is_whole", "is_whole", C8.fnArgs s_is_whole, C8.fnBody s_is_whole, C8.fnScope s_is_whole, [], []⟩
def d_is_from : He.DefD := ⟨("is_from", none), "is_from", "is_from", C8.fnArgs s_is_from, C8.fnBody s_is_from, C8.fnScope s_is_from, [], []⟩
def d_is_place : He.DefD := ⟨("is_place", none), "is_place", "is_place", C8.fnArgs s_is_place, C8.fnBody s_is_place, C8.fnScope s_is_place, [], []⟩
def d_is_turn : He.DefD := ⟨("is_turn", none), "is_turn", "is_turn", C8.fnArgs s_is_turn, C8.fnBody s_is_turn, C8.fnScope s_is_turn, [], []⟩
def d_want_turn : He.DefD := ⟨("want_turn", none), "want_turn", "want_turn", C8.fnArgs s_want_turn, C8.fnBody s_want_turn, C8.fnScope s_want_turn, [], []⟩
def d_want_row : He.DefD := ⟨("want_row", none), "want_row", "want_row", C8.fnArgs s_want_row, C8.fnBody s_want_row, C8.fnScope s_want_row, [], []⟩
def d_want_deed : He.DefD := ⟨("want_deed", none), "want_deed", "want_deed", C8.fnArgs s_want_deed, C8.fnBody s_want_deed, C8.fnScope s_want_deed, [], []⟩
def d_way : He.DefD := ⟨("way", none), "way", "way", C8.fnArgs s_way, C8.fnBody s_way, C8.fnScope s_way, [], []⟩
def d_row_turned : He.DefD := ⟨("row_turned", none), "row_turned", "row_turned", C8.fnArgs s_row_turned, C8.fnBody s_row_turned, C8.fnScope s_row_turned, [], []⟩
def d_then : He.DefD := ⟨("then", none), "then", "then", C8.fnArgs s_then, C8.fnBody s_then, C8.fnScope s_then, [], []⟩
def d_is_text : He.DefD := ⟨("is_text", none), "is_text", "is_text", C8.fnArgs s_is_text, C8.fnBody s_is_text, C8.fnScope s_is_text, [], []⟩
def d_want_rows : He.DefD := ⟨("want_rows", none), "want_rows", "want_rows", C8.fnArgs s_want_rows, C8.fnBody s_want_rows, C8.fnScope s_want_rows, [], []⟩
def d_next_to : He.DefD := ⟨("next_to", none), "next_to", "next_to", C8.fnArgs s_next_to, C8.fnBody s_next_to, C8.fnScope s_next_to, [], []⟩
def d_Floor_init : He.DefD := ⟨("Floor", some "__init__"), "__init__", "Floor.__init__", C8.fnArgs s_Floor_init, C8.fnBody s_Floor_init, C8.fnScope s_Floor_init, [], []⟩
def d_Floor_size : He.DefD := ⟨("Floor", some "size"), "size", "Floor.size", C8.fnArgs s_Floor_size, C8.fnBody s_Floor_size, C8.fnScope s_Floor_size, [], []⟩
def d_Floor_has : He.DefD := ⟨("Floor", some "has"), "has", "Floor.has", C8.fnArgs s_Floor_has, C8.fnBody s_Floor_has, C8.fnScope s_Floor_has, [], []⟩
def d_Floor_seen : He.DefD := ⟨("Floor", some "seen"), "seen", "Floor.seen", C8.fnArgs s_Floor_seen, C8.fnBody s_Floor_seen, C8.fnScope s_Floor_seen, [], []⟩
def d_Floor_letters : He.DefD := ⟨("Floor", some "letters"), "letters", "Floor.letters", C8.fnArgs s_Floor_letters, C8.fnBody s_Floor_letters, C8.fnScope s_Floor_letters, [], []⟩
def d_Floor_places : He.DefD := ⟨("Floor", some "places"), "places", "Floor.places", C8.fnArgs s_Floor_places, C8.fnBody s_Floor_places, C8.fnScope s_Floor_places, [], []⟩
def d_Floor_open_places : He.DefD := ⟨("Floor", some "open_places"), "open_places", "Floor.open_places", C8.fnArgs s_Floor_open_places, C8.fnBody s_Floor_open_places, C8.fnScope s_Floor_open_places, [], []⟩
def d_Floor_can_stand : He.DefD := ⟨("Floor", some "can_stand"), "can_stand", "Floor.can_stand", C8.fnArgs s_Floor_can_stand, C8.fnBody s_Floor_can_stand, C8.fnScope s_Floor_can_stand, [], []⟩
def d_Floor_goes : He.DefD := ⟨("Floor", some "goes"), "goes", "Floor.goes", C8.fnArgs s_Floor_goes, C8.fnBody s_Floor_goes, C8.fnScope s_Floor_goes, [], []⟩
def d_is_stand : He.DefD := ⟨("is_stand", none), "is_stand", "is_stand", C8.fnArgs s_is_stand, C8.fnBody s_is_stand, C8.fnScope s_is_stand, [], []⟩
def d_is_book : He.DefD := ⟨("is_book", none), "is_book", "is_book", C8.fnArgs s_is_book, C8.fnBody s_is_book, C8.fnScope s_is_book, [], []⟩
def d_are_wishes : He.DefD := ⟨("are_wishes", none), "are_wishes", "are_wishes", C8.fnArgs s_are_wishes, C8.fnBody s_are_wishes, C8.fnScope s_are_wishes, [], []⟩
def d_first_wrong : He.DefD := ⟨("first_wrong", none), "first_wrong", "first_wrong", C8.fnArgs s_first_wrong, C8.fnBody s_first_wrong, C8.fnScope s_first_wrong, [], []⟩
def d_want_said : He.DefD := ⟨("want_said", none), "want_said", "want_said", C8.fnArgs s_want_said, C8.fnBody s_want_said, C8.fnScope s_want_said, [], []⟩
def d_World_init : He.DefD := ⟨("World", some "__init__"), "__init__", "World.__init__", C8.fnArgs s_World_init, C8.fnBody s_World_init, C8.fnScope s_World_init, [], [("turn", .str "urdl"), ("book", .non), ("wishes", .adr wishDfl)]⟩
def d_World_start : He.DefD := ⟨("World", some "start"), "start", "World.start", C8.fnArgs s_World_start, C8.fnBody s_World_start, C8.fnScope s_World_start, [], []⟩
def d_World_want_stand : He.DefD := ⟨("World", some "want_stand"), "want_stand", "World.want_stand", C8.fnArgs s_World_want_stand, C8.fnBody s_World_want_stand, C8.fnScope s_World_want_stand, [], []⟩
def d_World_begun : He.DefD := ⟨("World", some "begun"), "begun", "World.begun", C8.fnArgs s_World_begun, C8.fnBody s_World_begun, C8.fnScope s_World_begun, [], []⟩
def d_World_behind : He.DefD := ⟨("World", some "behind"), "behind", "World.behind", C8.fnArgs s_World_behind, C8.fnBody s_World_behind, C8.fnScope s_World_behind, [], []⟩
def d_World_gone : He.DefD := ⟨("World", some "gone"), "gone", "World.gone", C8.fnArgs s_World_gone, C8.fnBody s_World_gone, C8.fnScope s_World_gone, [], []⟩
def d_World_walk : He.DefD := ⟨("World", some "walk"), "walk", "World.walk", C8.fnArgs s_World_walk, C8.fnBody s_World_walk, C8.fnScope s_World_walk, [], []⟩
def d_World_comings : He.DefD := ⟨("World", some "comings"), "comings", "World.comings", C8.fnArgs s_World_comings, C8.fnBody s_World_comings, C8.fnScope s_World_comings, [], []⟩
def d_World_comes : He.DefD := ⟨("World", some "comes"), "comes", "World.comes", C8.fnArgs s_World_comes, C8.fnBody s_World_comes, C8.fnScope s_World_comes, [], []⟩
def d_World_sayings : He.DefD := ⟨("World", some "sayings"), "sayings", "World.sayings", C8.fnArgs s_World_sayings, C8.fnBody s_World_sayings, C8.fnScope s_World_sayings, [], []⟩
def d_World_stand_at : He.DefD := ⟨("World", some "stand_at"), "stand_at", "World.stand_at", C8.fnArgs s_World_stand_at, C8.fnBody s_World_stand_at, C8.fnScope s_World_stand_at, [], []⟩
def d_World_round_of : He.DefD := ⟨("World", some "round_of"), "round_of", "World.round_of", C8.fnArgs s_World_round_of, C8.fnBody s_World_round_of, C8.fnScope s_World_round_of, [], []⟩
def d_hand_turned : He.DefD := ⟨("hand_turned", none), "hand_turned", "hand_turned", C8.fnArgs s_hand_turned, C8.fnBody s_hand_turned, C8.fnScope s_hand_turned, [], []⟩
def d_law_mixed : He.DefD := ⟨("_law_mixed", none), "_law_mixed", "_law_mixed", C8.fnArgs s_law_mixed, C8.fnBody s_law_mixed, C8.fnScope s_law_mixed, [], []⟩
def d_law_source : He.DefD := ⟨("_law_source", none), "_law_source", "_law_source", C8.fnArgs s_law_source, C8.fnBody s_law_source, C8.fnScope s_law_source, [], []⟩
def d_law_take : He.DefD := ⟨("_law_take", none), "_law_take", "_law_take", C8.fnArgs s_law_take, C8.fnBody s_law_take, C8.fnScope s_law_take, [], []⟩
def d_law_one : He.DefD := ⟨("_law_one", none), "_law_one", "_law_one", C8.fnArgs s_law_one, C8.fnBody s_law_one, C8.fnScope s_law_one, [], []⟩
def d_law_rows : He.DefD := ⟨("_law_rows", none), "_law_rows", "_law_rows", C8.fnArgs s_law_rows, C8.fnBody s_law_rows, C8.fnScope s_law_rows, [], []⟩
def d_law_sense : He.DefD := ⟨("_law_sense", none), "_law_sense", "_law_sense", C8.fnArgs s_law_sense, C8.fnBody s_law_sense, C8.fnScope s_law_sense, [], []⟩
def d_law_spots : He.DefD := ⟨("_law_spots", none), "_law_spots", "_law_spots", C8.fnArgs s_law_spots, C8.fnBody s_law_spots, C8.fnScope s_law_spots, [], []⟩
def d_law_land : He.DefD := ⟨("_law_land", none), "_law_land", "_law_land", C8.fnArgs s_law_land, C8.fnBody s_law_land, C8.fnScope s_law_land, [], []⟩
def d_law_made : He.DefD := ⟨("_law_made", none), "_law_made", "_law_made", C8.fnArgs s_law_made, C8.fnBody s_law_made, C8.fnScope s_law_made, [], []⟩
def d_law_sign : He.DefD := ⟨("_law_sign", none), "_law_sign", "_law_sign", C8.fnArgs s_law_sign, C8.fnBody s_law_sign, C8.fnScope s_law_sign, [], []⟩
def d_law_goes : He.DefD := ⟨("_law_goes", none), "_law_goes", "_law_goes", C8.fnArgs s_law_goes, C8.fnBody s_law_goes, C8.fnScope s_law_goes, [], []⟩
def d_law_becomes : He.DefD := ⟨("_law_becomes", none), "_law_becomes", "_law_becomes", C8.fnArgs s_law_becomes, C8.fnBody s_law_becomes, C8.fnScope s_law_becomes, [], []⟩
def d_law_behind : He.DefD := ⟨("_law_behind", none), "_law_behind", "_law_behind", C8.fnArgs s_law_behind, C8.fnBody s_law_behind, C8.fnScope s_law_behind, [], []⟩
def d_law_gone : He.DefD := ⟨("_law_gone", none), "_law_gone", "_law_gone", C8.fnArgs s_law_gone, C8.fnBody s_law_gone, C8.fnScope s_law_gone, [], []⟩
def d_law_line : He.DefD := ⟨("_law_line", none), "_law_line", "_law_line", C8.fnArgs s_law_line, C8.fnBody s_law_line, C8.fnScope s_law_line, [], []⟩
def d_law_begun : He.DefD := ⟨("_law_begun", none), "_law_begun", "_law_begun", C8.fnArgs s_law_begun, C8.fnBody s_law_begun, C8.fnScope s_law_begun, [], []⟩
def d_law_any_start : He.DefD := ⟨("_law_any_start", none), "_law_any_start", "_law_any_start", C8.fnArgs s_law_any_start, C8.fnBody s_law_any_start, C8.fnScope s_law_any_start, [], []⟩
def d_law_both : He.DefD := ⟨("_law_both", none), "_law_both", "_law_both", C8.fnArgs s_law_both, C8.fnBody s_law_both, C8.fnScope s_law_both, [], []⟩
def d_law_turn : He.DefD := ⟨("_law_turn", none), "_law_turn", "_law_turn", C8.fnArgs s_law_turn, C8.fnBody s_law_turn, C8.fnScope s_law_turn, [], []⟩
def d_law_post_turned : He.DefD := ⟨("_law_post_turned", none), "_law_post_turned", "_law_post_turned", C8.fnArgs s_law_post_turned, C8.fnBody s_law_post_turned, C8.fnScope s_law_post_turned, [], []⟩
def d_law_right : He.DefD := ⟨("_law_right", none), "_law_right", "_law_right", C8.fnArgs s_law_right, C8.fnBody s_law_right, C8.fnScope s_law_right, [], []⟩
def d_law_again_right : He.DefD := ⟨("_law_again_right", none), "_law_again_right", "_law_again_right", C8.fnArgs s_law_again_right, C8.fnBody s_law_again_right, C8.fnScope s_law_again_right, [], []⟩
def d_law_layers : He.DefD := ⟨("_law_layers", none), "_law_layers", "_law_layers", C8.fnArgs s_law_layers, C8.fnBody s_law_layers, C8.fnScope s_law_layers, [], []⟩
def d_law_comes_right : He.DefD := ⟨("_law_comes_right", none), "_law_comes_right", "_law_comes_right", C8.fnArgs s_law_comes_right, C8.fnBody s_law_comes_right, C8.fnScope s_law_comes_right, [], []⟩
def d_law : He.DefD := ⟨("law", none), "law", "law", C8.fnArgs s_law, C8.fnBody s_law, C8.fnScope s_law, [], []⟩
def fn0 : List He.DefD := [d_is_whole, d_is_from, d_is_place, d_is_turn, d_want_turn, d_want_row, d_want_deed, d_way, d_row_turned, d_then, d_is_text, d_want_rows, d_next_to, d_Floor_init, d_Floor_size, d_Floor_has, d_Floor_seen, d_Floor_letters, d_Floor_places, d_Floor_open_places]
def fn1 : List He.DefD := [d_Floor_can_stand, d_Floor_goes, d_is_stand, d_is_book, d_are_wishes, d_first_wrong, d_want_said, d_World_init, d_World_start, d_World_want_stand, d_World_begun, d_World_behind, d_World_gone, d_World_walk, d_World_comings, d_World_comes, d_World_sayings, d_World_stand_at, d_World_round_of, d_hand_turned]
def fn2 : List He.DefD := [d_law_mixed, d_law_source, d_law_take, d_law_one, d_law_rows, d_law_sense, d_law_spots, d_law_land, d_law_made, d_law_sign, d_law_goes, d_law_becomes, d_law_behind, d_law_gone, d_law_line, d_law_begun, d_law_any_start, d_law_both, d_law_turn, d_law_post_turned]
def fn3 : List He.DefD := [d_law_right, d_law_again_right, d_law_layers, d_law_comes_right, d_law]
def fn : List He.DefD := fn0 ++ fn1 ++ fn2 ++ fn3
def faA0 : List He.Fa := [.free "isinstance", .free "int", .free "bool", .free "tuple", .free "str", .free "len", .free "enumerate", .free "list", .free "all", .free "any", .free "set", .free "sorted", .free "dict", .free "range", .str "DEEDS" "urdl", .str "WALL" "#", .str "ICE" "~", .str "PIT" "x", .str "LETTERS" "abcd", .str "OPEN" ".abcd", .str "SIGNS" "#~x.abcd", .int "MOST" 6, .int "MOST_BEAT" 1000000000000000000, .glo "TURNS", .glo "STEPS", .cls "Floor", .cls "World", .mkr "Floor", .mkr "World", .noat "Floor" "texts"]
def faA1 : List He.Fa := [.noat "World" "ground", .noat "World" "pages", .noat "World" "goals", .noat "World" "opening", .noat "World" "first"]
def faG0 : List He.Fa := [.glo "is_whole", .glo "is_from", .glo "is_place", .glo "is_turn", .glo "want_turn", .glo "want_row", .glo "want_deed", .glo "way", .glo "row_turned", .glo "then", .glo "is_text", .glo "want_rows", .glo "next_to", .glo "Floor", .glo "is_stand", .glo "is_book", .glo "are_wishes", .glo "first_wrong", .glo "want_said", .glo "World", .glo "hand_turned", .glo "_law_mixed", .glo "_law_source", .glo "_law_take", .glo "_law_one", .glo "_law_rows", .glo "_law_sense", .glo "_law_spots", .glo "_law_land", .glo "_law_made"]
def faG1 : List He.Fa := [.glo "_law_sign", .glo "_law_goes", .glo "_law_becomes", .glo "_law_behind", .glo "_law_gone", .glo "_law_line", .glo "_law_begun", .glo "_law_any_start", .glo "_law_both", .glo "_law_turn", .glo "_law_post_turned", .glo "_law_right", .glo "_law_again_right", .glo "_law_layers", .glo "_law_comes_right", .glo "law"]
def faM0 : List He.Fa := [.meth "Floor" "size", .meth "Floor" "has", .meth "Floor" "seen", .meth "Floor" "letters", .meth "Floor" "places", .meth "Floor" "open_places", .meth "Floor" "can_stand", .meth "Floor" "goes", .meth "World" "start", .meth "World" "want_stand", .meth "World" "begun", .meth "World" "behind", .meth "World" "gone", .meth "World" "walk", .meth "World" "comings", .meth "World" "comes", .meth "World" "sayings", .meth "World" "stand_at", .meth "World" "round_of"]
def fa : List He.Fa := faA0 ++ faA1 ++ faG0 ++ faG1 ++ faM0
/-- a tuple of the top -/
def tupAtB (K : PySem.W.Frag) (a : Addr) (vs : List V) : Bool := match K.lookup a with
  | some ⟨.type c, _, .seq its _, _⟩ => decide (c = "tuple") && decide (its.size ≤ sizeLine) && He.relAll vs its.toList
  | _ => false
theorem tupAtB_ok {K : PySem.W.Frag} {a : Addr} {vs : List V} (h : tupAtB K a vs = true) (H : Hp) : SqT K H a vs := by
  unfold tupAtB at h
  split at h
  · rename_i c d its n sl q
    simp only [Bool.and_eq_true, decide_eq_true_eq] at h
    obtain ⟨⟨rfl, h2⟩, h3⟩ := h
    exact .inr ⟨_, its, n, q, rfl, rfl, h2, He.relAll_ok h3⟩
  · cases h
/-- the i-th item of STEPS -/
def stAt (K : PySem.W.Frag) (i : Nat) : Addr := match K.lookup (He.ga K "STEPS") with
  | some ⟨_, _, .seq its _, _⟩ => (match its.toList[i]? with
    | some (.ref a) => a
    | _ => 0)
  | _ => 0
def turnsV : List V := [.str "urdl", .str "rdlu", .str "dlur", .str "lurd", .str "uldr", .str "drul", .str "ldru", .str "ruld"]
def stepsV (K : PySem.W.Frag) : List V := [.ref (stAt K 0), .ref (stAt K 1), .ref (stAt K 2), .ref (stAt K 3)]
/-- what isinstance(.., Floor) leans on -/
def isFB (K : PySem.W.Frag) : Bool := He.eqO (PySem.W.findIn K (.ref (He.ga K "Floor")) "__class__") (some (some (.builtin "object.__class__"))) && He.eqO (PySem.W.specialIn K (.builtin "object.__class__") "__get__") (some (some (.builtin "getset_descriptor.__get__"))) &&
  decide (PySem.W.takesIn K (.builtin "object.__class__") = some true) && decide (PySem.W.mroIn K (He.ga K "Floor") (.type "object") = some true) && decide (PySem.W.kitOne K (.ref (He.ga K "Floor")) (.ref (He.ga K "Floor")) = some true)
structure IsF (K : PySem.W.Frag) : Prop where
  i1 : PySem.W.findIn K (.ref (He.ga K "Floor")) "__class__" = some (some (.builtin "object.__class__"))
  i2 : PySem.W.specialIn K (.builtin "object.__class__") "__get__" = some (some (.builtin "getset_descriptor.__get__"))
  i3 : PySem.W.takesIn K (.builtin "object.__class__") = some true
  i4 : PySem.W.mroIn K (He.ga K "Floor") (.type "object") = some true
  i5 : PySem.W.kitOne K (.ref (He.ga K "Floor")) (.ref (He.ga K "Floor")) = some true
theorem isF_of {K : PySem.W.Frag} (h : isFB K = true) : IsF K := by
  unfold isFB at h
  simp only [Bool.and_eq_true, decide_eq_true_eq] at h
  obtain ⟨⟨⟨⟨h1, h2⟩, h3⟩, h4⟩, h5⟩ := h
  exact ⟨He.eqO_ok h1, He.eqO_ok h2, h3, h4, h5⟩
def exB (K : PySem.W.Frag) : Bool := isFB K && tupAtB K (He.ga K "TURNS") turnsV && tupAtB K (He.ga K "STEPS") (stepsV K) && tupAtB K (stAt K 0) [.int (-1), .int 0] && tupAtB K (stAt K 1) [.int 0, .int 1] && tupAtB K (stAt K 2) [.int 1, .int 0] && tupAtB K (stAt K 3) [.int 0, .int (-1)]
/-- a def under its name; a method under its class's -/
def Fn (K : PySem.W.Frag) (mg : Str → Option Value) (x : Str) (st : Stmt) : Prop := ∃ f fd, FunD K x x (C8.fnArgs st) (C8.fnBody st) (C8.fnScope st) [] [] f fd ∧ mg x = some (.ref f)
def Mt (K : PySem.W.Frag) (C m : Str) (qual : Str) (st : Stmt) : Prop := ∃ fd, FunD K m qual (C8.fnArgs st) (C8.fnBody st) (C8.fnScope st) [] [] (He.ma K (He.ga K C) m) fd ∧ Meth K (He.ga K C) m (He.ma K (He.ga K C) m)
abbrev cF (K : PySem.W.Frag) : Addr := He.ga K "Floor"
abbrev cW (K : PySem.W.Frag) : Addr := He.ga K "World"
/-- what the walks lean on -/
structure Txt (K : PySem.W.Frag) (mg : Str → Option Value) : Prop where
  b_isinstance : mg "isinstance" = none
  b_int : mg "int" = none
  b_bool : mg "bool" = none
  b_tuple : mg "tuple" = none
  b_str : mg "str" = none
  b_len : mg "len" = none
  b_enumerate : mg "enumerate" = none
  b_list : mg "list" = none
  b_all : mg "all" = none
  b_any : mg "any" = none
  b_set : mg "set" = none
  b_sorted : mg "sorted" = none
  b_dict : mg "dict" = none
  b_range : mg "range" = none
  c_DEEDS : ∃ t, mg "DEEDS" = some (.str "urdl" t)
  c_WALL : ∃ t, mg "WALL" = some (.str "#" t)
  c_ICE : ∃ t, mg "ICE" = some (.str "~" t)
  c_PIT : ∃ t, mg "PIT" = some (.str "x" t)
  c_LETTERS : ∃ t, mg "LETTERS" = some (.str "abcd" t)
  c_OPEN : ∃ t, mg "OPEN" = some (.str ".abcd" t)
  c_SIGNS : ∃ t, mg "SIGNS" = some (.str "#~x.abcd" t)
  c_MOST : ∃ t, mg "MOST" = some (.int 6 t)
  c_MOST_BEAT : ∃ t, mg "MOST_BEAT" = some (.int 1000000000000000000 t)
  c_TURNS : mg "TURNS" = some (.ref (He.ga K "TURNS"))
  c_STEPS : mg "STEPS" = some (.ref (He.ga K "STEPS"))
  turns : ∀ H, SqT K H (He.ga K "TURNS") turnsV
  steps : ∀ H, SqT K H (He.ga K "STEPS") (stepsV K)
  step0 : ∀ H, SqT K H (stAt K 0) [.int (-1), .int 0]
  step1 : ∀ H, SqT K H (stAt K 1) [.int 0, .int 1]
  step2 : ∀ H, SqT K H (stAt K 2) [.int 1, .int 0]
  step3 : ∀ H, SqT K H (stAt K 3) [.int 0, .int (-1)]
  isF : IsF K
  clF : Cls K (cF K)
  clW : Cls K (cW K)
  mkF : Mk K (cF K) (He.ma K (cF K) "__init__")
  mkW : Mk K (cW K) (He.ma K (cW K) "__init__")
  gF : mg "Floor" = some (.ref (cF K))
  gW : mg "World" = some (.ref (cW K))
  n_texts : NoAttr K (cF K) "texts"
  n_ground : NoAttr K (cW K) "ground"
  n_pages : NoAttr K (cW K) "pages"
  n_goals : NoAttr K (cW K) "goals"
  n_opening : NoAttr K (cW K) "opening"
  n_first : NoAttr K (cW K) "first"
  f_is_whole : Fn K mg "is_whole" s_is_whole
  f_is_from : Fn K mg "is_from" s_is_from
  f_is_place : Fn K mg "is_place" s_is_place
  f_is_turn : Fn K mg "is_turn" s_is_turn
  f_want_turn : Fn K mg "want_turn" s_want_turn
  f_want_row : Fn K mg "want_row" s_want_row
  f_want_deed : Fn K mg "want_deed" s_want_deed
  f_way : Fn K mg "way" s_way
  f_row_turned : Fn K mg "row_turned" s_row_turned
  f_then : Fn K mg "then" s_then
  f_is_text : Fn K mg "is_text" s_is_text
  f_want_rows : Fn K mg "want_rows" s_want_rows
  f_next_to : Fn K mg "next_to" s_next_to
  f_Floor_init : ∃ fd, FunD K "__init__" "Floor.__init__" (C8.fnArgs s_Floor_init) (C8.fnBody s_Floor_init) (C8.fnScope s_Floor_init) [] [] (He.ma K (cF K) "__init__") fd
  f_Floor_size : Mt K "Floor" "size" "Floor.size" s_Floor_size
  f_Floor_has : Mt K "Floor" "has" "Floor.has" s_Floor_has
  f_Floor_seen : Mt K "Floor" "seen" "Floor.seen" s_Floor_seen
  f_Floor_letters : Mt K "Floor" "letters" "Floor.letters" s_Floor_letters
  f_Floor_places : Mt K "Floor" "places" "Floor.places" s_Floor_places
  f_Floor_open_places : Mt K "Floor" "open_places" "Floor.open_places" s_Floor_open_places
  f_Floor_can_stand : Mt K "Floor" "can_stand" "Floor.can_stand" s_Floor_can_stand
  f_Floor_goes : Mt K "Floor" "goes" "Floor.goes" s_Floor_goes
  f_is_stand : Fn K mg "is_stand" s_is_stand
  f_is_book : Fn K mg "is_book" s_is_book
  f_are_wishes : Fn K mg "are_wishes" s_are_wishes
  f_first_wrong : Fn K mg "first_wrong" s_first_wrong
  f_want_said : Fn K mg "want_said" s_want_said
  f_World_init : ∃ fd, FunD K "__init__" "World.__init__" (C8.fnArgs s_World_init) (C8.fnBody s_World_init) (C8.fnScope s_World_init) [] [("turn", .str "urdl"), ("book", .non), ("wishes", .ref (wishDfl K))] (He.ma K (cW K) "__init__") fd
  f_World_start : Mt K "World" "start" "World.start" s_World_start
  f_World_want_stand : Mt K "World" "want_stand" "World.want_stand" s_World_want_stand
  f_World_begun : Mt K "World" "begun" "World.begun" s_World_begun
  f_World_behind : Mt K "World" "behind" "World.behind" s_World_behind
  f_World_gone : Mt K "World" "gone" "World.gone" s_World_gone
  f_World_walk : Mt K "World" "walk" "World.walk" s_World_walk
  f_World_comings : Mt K "World" "comings" "World.comings" s_World_comings
  f_World_comes : Mt K "World" "comes" "World.comes" s_World_comes
  f_World_sayings : Mt K "World" "sayings" "World.sayings" s_World_sayings
  f_World_stand_at : Mt K "World" "stand_at" "World.stand_at" s_World_stand_at
  f_World_round_of : Mt K "World" "round_of" "World.round_of" s_World_round_of
  f_hand_turned : Fn K mg "hand_turned" s_hand_turned
  f_law_mixed : Fn K mg "_law_mixed" s_law_mixed
  f_law_source : Fn K mg "_law_source" s_law_source
  f_law_take : Fn K mg "_law_take" s_law_take
  f_law_one : Fn K mg "_law_one" s_law_one
  f_law_rows : Fn K mg "_law_rows" s_law_rows
  f_law_sense : Fn K mg "_law_sense" s_law_sense
  f_law_spots : Fn K mg "_law_spots" s_law_spots
  f_law_land : Fn K mg "_law_land" s_law_land
  f_law_made : Fn K mg "_law_made" s_law_made
  f_law_sign : Fn K mg "_law_sign" s_law_sign
  f_law_goes : Fn K mg "_law_goes" s_law_goes
  f_law_becomes : Fn K mg "_law_becomes" s_law_becomes
  f_law_behind : Fn K mg "_law_behind" s_law_behind
  f_law_gone : Fn K mg "_law_gone" s_law_gone
  f_law_line : Fn K mg "_law_line" s_law_line
  f_law_begun : Fn K mg "_law_begun" s_law_begun
  f_law_any_start : Fn K mg "_law_any_start" s_law_any_start
  f_law_both : Fn K mg "_law_both" s_law_both
  f_law_turn : Fn K mg "_law_turn" s_law_turn
  f_law_post_turned : Fn K mg "_law_post_turned" s_law_post_turned
  f_law_right : Fn K mg "_law_right" s_law_right
  f_law_again_right : Fn K mg "_law_again_right" s_law_again_right
  f_law_layers : Fn K mg "_law_layers" s_law_layers
  f_law_comes_right : Fn K mg "_law_comes_right" s_law_comes_right
  f_law : Fn K mg "law" s_law
theorem txt_of {K : PySem.W.Frag} {mg : Str → Option Value} {h : Heap} (X : K.In h) (G : h.Ns mainGlobals mg) (c : He.SaysD fa fn K) (e : exB K = true) : Txt K mg := by
  unfold exB at e
  simp only [Bool.and_eq_true] at e
  obtain ⟨⟨⟨⟨⟨⟨e0, e1⟩, e2⟩, e3⟩, e4⟩, e5⟩, e6⟩ := e
  have fct : ∀ (i : Nat) (f : He.Fa), fa[i]? = some f → f.ok K = true := fun i f h => c.fact i h
  have dfs : ∀ (i : Nat) (d : He.DefD), fn[i]? = some d → ∃ fd, FunD K d.name d.qual d.params d.body d.scope (d.dvs K) (d.kws K) (He.fAd K d.at_) fd := fun i d h => c.def_ i h
  have mkFn : ∀ (x : Str) (st : Stmt) (i j : Nat), fn[i]? = some ⟨(x, none), x, x, C8.fnArgs st, C8.fnBody st, C8.fnScope st, [], []⟩ → fa[j]? = some (.glo x) → Fn K mg x st := fun x st i j h1 h2 => by
    obtain ⟨fd, F⟩ := dfs i _ h1
    exact ⟨_, fd, F, He.glo_ok X G (fct j _ h2)⟩
  have mkMt : ∀ (C m q : Str) (st : Stmt) (i j : Nat), fn[i]? = some ⟨(C, some m), m, q, C8.fnArgs st, C8.fnBody st, C8.fnScope st, [], []⟩ → fa[j]? = some (.meth C m) → Mt K C m q st := fun C m q st i j h1 h2 => by
    obtain ⟨fd, F⟩ := dfs i _ h1
    exact ⟨fd, F, He.meth_ok (fct j _ h2)⟩
  exact {
    b_isinstance := He.free_ok X G (fct 0 _ rfl)
    b_int := He.free_ok X G (fct 1 _ rfl)
    b_bool := He.free_ok X G (fct 2 _ rfl)
    b_tuple := He.free_ok X G (fct 3 _ rfl)
    b_str := He.free_ok X G (fct 4 _ rfl)
    b_len := He.free_ok X G (fct 5 _ rfl)
    b_enumerate := He.free_ok X G (fct 6 _ rfl)
    b_list := He.free_ok X G (fct 7 _ rfl)
    b_all := He.free_ok X G (fct 8 _ rfl)
    b_any := He.free_ok X G (fct 9 _ rfl)
    b_set := He.free_ok X G (fct 10 _ rfl)
    b_sorted := He.free_ok X G (fct 11 _ rfl)
    b_dict := He.free_ok X G (fct 12 _ rfl)
    b_range := He.free_ok X G (fct 13 _ rfl)
    c_DEEDS := He.str_ok X G (fct 14 _ rfl)
    c_WALL := He.str_ok X G (fct 15 _ rfl)
    c_ICE := He.str_ok X G (fct 16 _ rfl)
    c_PIT := He.str_ok X G (fct 17 _ rfl)
    c_LETTERS := He.str_ok X G (fct 18 _ rfl)
    c_OPEN := He.str_ok X G (fct 19 _ rfl)
    c_SIGNS := He.str_ok X G (fct 20 _ rfl)
    c_MOST := He.int_ok X G (fct 21 _ rfl)
    c_MOST_BEAT := He.int_ok X G (fct 22 _ rfl)
    c_TURNS := He.glo_ok X G (fct 23 _ rfl)
    c_STEPS := He.glo_ok X G (fct 24 _ rfl)
    turns := tupAtB_ok e1
    steps := tupAtB_ok e2
    step0 := tupAtB_ok e3
    step1 := tupAtB_ok e4
    step2 := tupAtB_ok e5
    step3 := tupAtB_ok e6
    isF := isF_of e0
    clF := He.cls_ok (fct 25 _ rfl)
    clW := He.cls_ok (fct 26 _ rfl)
    mkF := He.mkr_ok (fct 27 _ rfl)
    mkW := He.mkr_ok (fct 28 _ rfl)
    gF := He.glo_ok X G (fct 48 _ rfl)
    gW := He.glo_ok X G (fct 54 _ rfl)
    n_texts := He.noat_ok (fct 29 _ rfl)
    n_ground := He.noat_ok (fct 30 _ rfl)
    n_pages := He.noat_ok (fct 31 _ rfl)
    n_goals := He.noat_ok (fct 32 _ rfl)
    n_opening := He.noat_ok (fct 33 _ rfl)
    n_first := He.noat_ok (fct 34 _ rfl)
    f_is_whole := mkFn "is_whole" s_is_whole 0 35 rfl rfl
    f_is_from := mkFn "is_from" s_is_from 1 36 rfl rfl
    f_is_place := mkFn "is_place" s_is_place 2 37 rfl rfl
    f_is_turn := mkFn "is_turn" s_is_turn 3 38 rfl rfl
    f_want_turn := mkFn "want_turn" s_want_turn 4 39 rfl rfl
    f_want_row := mkFn "want_row" s_want_row 5 40 rfl rfl
    f_want_deed := mkFn "want_deed" s_want_deed 6 41 rfl rfl
    f_way := mkFn "way" s_way 7 42 rfl rfl
    f_row_turned := mkFn "row_turned" s_row_turned 8 43 rfl rfl
    f_then := mkFn "then" s_then 9 44 rfl rfl
    f_is_text := mkFn "is_text" s_is_text 10 45 rfl rfl
    f_want_rows := mkFn "want_rows" s_want_rows 11 46 rfl rfl
    f_next_to := mkFn "next_to" s_next_to 12 47 rfl rfl
    f_Floor_init := dfs 13 d_Floor_init rfl
    f_Floor_size := mkMt "Floor" "size" "Floor.size" s_Floor_size 14 81 rfl rfl
    f_Floor_has := mkMt "Floor" "has" "Floor.has" s_Floor_has 15 82 rfl rfl
    f_Floor_seen := mkMt "Floor" "seen" "Floor.seen" s_Floor_seen 16 83 rfl rfl
    f_Floor_letters := mkMt "Floor" "letters" "Floor.letters" s_Floor_letters 17 84 rfl rfl
    f_Floor_places := mkMt "Floor" "places" "Floor.places" s_Floor_places 18 85 rfl rfl
    f_Floor_open_places := mkMt "Floor" "open_places" "Floor.open_places" s_Floor_open_places 19 86 rfl rfl
    f_Floor_can_stand := mkMt "Floor" "can_stand" "Floor.can_stand" s_Floor_can_stand 20 87 rfl rfl
    f_Floor_goes := mkMt "Floor" "goes" "Floor.goes" s_Floor_goes 21 88 rfl rfl
    f_is_stand := mkFn "is_stand" s_is_stand 22 49 rfl rfl
    f_is_book := mkFn "is_book" s_is_book 23 50 rfl rfl
    f_are_wishes := mkFn "are_wishes" s_are_wishes 24 51 rfl rfl
    f_first_wrong := mkFn "first_wrong" s_first_wrong 25 52 rfl rfl
    f_want_said := mkFn "want_said" s_want_said 26 53 rfl rfl
    f_World_init := dfs 27 d_World_init rfl
    f_World_start := mkMt "World" "start" "World.start" s_World_start 28 89 rfl rfl
    f_World_want_stand := mkMt "World" "want_stand" "World.want_stand" s_World_want_stand 29 90 rfl rfl
    f_World_begun := mkMt "World" "begun" "World.begun" s_World_begun 30 91 rfl rfl
    f_World_behind := mkMt "World" "behind" "World.behind" s_World_behind 31 92 rfl rfl
    f_World_gone := mkMt "World" "gone" "World.gone" s_World_gone 32 93 rfl rfl
    f_World_walk := mkMt "World" "walk" "World.walk" s_World_walk 33 94 rfl rfl
    f_World_comings := mkMt "World" "comings" "World.comings" s_World_comings 34 95 rfl rfl
    f_World_comes := mkMt "World" "comes" "World.comes" s_World_comes 35 96 rfl rfl
    f_World_sayings := mkMt "World" "sayings" "World.sayings" s_World_sayings 36 97 rfl rfl
    f_World_stand_at := mkMt "World" "stand_at" "World.stand_at" s_World_stand_at 37 98 rfl rfl
    f_World_round_of := mkMt "World" "round_of" "World.round_of" s_World_round_of 38 99 rfl rfl
    f_hand_turned := mkFn "hand_turned" s_hand_turned 39 55 rfl rfl
    f_law_mixed := mkFn "_law_mixed" s_law_mixed 40 56 rfl rfl
    f_law_source := mkFn "_law_source" s_law_source 41 57 rfl rfl
    f_law_take := mkFn "_law_take" s_law_take 42 58 rfl rfl
    f_law_one := mkFn "_law_one" s_law_one 43 59 rfl rfl
    f_law_rows := mkFn "_law_rows" s_law_rows 44 60 rfl rfl
    f_law_sense := mkFn "_law_sense" s_law_sense 45 61 rfl rfl
    f_law_spots := mkFn "_law_spots" s_law_spots 46 62 rfl rfl
    f_law_land := mkFn "_law_land" s_law_land 47 63 rfl rfl
    f_law_made := mkFn "_law_made" s_law_made 48 64 rfl rfl
    f_law_sign := mkFn "_law_sign" s_law_sign 49 65 rfl rfl
    f_law_goes := mkFn "_law_goes" s_law_goes 50 66 rfl rfl
    f_law_becomes := mkFn "_law_becomes" s_law_becomes 51 67 rfl rfl
    f_law_behind := mkFn "_law_behind" s_law_behind 52 68 rfl rfl
    f_law_gone := mkFn "_law_gone" s_law_gone 53 69 rfl rfl
    f_law_line := mkFn "_law_line" s_law_line 54 70 rfl rfl
    f_law_begun := mkFn "_law_begun" s_law_begun 55 71 rfl rfl
    f_law_any_start := mkFn "_law_any_start" s_law_any_start 56 72 rfl rfl
    f_law_both := mkFn "_law_both" s_law_both 57 73 rfl rfl
    f_law_turn := mkFn "_law_turn" s_law_turn 58 74 rfl rfl
    f_law_post_turned := mkFn "_law_post_turned" s_law_post_turned 59 75 rfl rfl
    f_law_right := mkFn "_law_right" s_law_right 60 76 rfl rfl
    f_law_again_right := mkFn "_law_again_right" s_law_again_right 61 77 rfl rfl
    f_law_layers := mkFn "_law_layers" s_law_layers 62 78 rfl rfl
    f_law_comes_right := mkFn "_law_comes_right" s_law_comes_right 63 79 rfl rfl
    f_law := mkFn "law" s_law 64 80 rfl rfl
  }
end K79
/-! part R3a -/
/-! Sets made of a list or a tuple (printed by gen_r3.py). -/
namespace K79
open PySem PySem.Spec PyProof.Rows L2
/-- a new set's object -/
abbrev freshS (w : World) : Obj := { cls := .type "set", dict := none, data := .set #[] 0 (.fresh 0 0 (!w.params.followText "set-order")) }
section
variable {P : Program} {w : World} {A : Around} {E : Value → Shared → Prop} {s : Shared}
/-- what the loop leans on: SP i h, the set's state behind i items; h0 the heap ahead of it all -/
structure SetLoop (P : Program) (w : World) (A : Around) (S : Addr) (h0 : Heap) (n : Nat) (Pv : Nat → Value → Prop) (SP : Nat → Heap → Prop) : Prop where
  keep : ∀ i h h', SP i h → (∀ o, h.get? S = some o → h'.get? S = some o) → (∀ b o, h0.get? b = some o → h'.get? b = some o) → SP i h'
  add : ∀ i v (s : Shared) (Q : Bool → Shared → Prop) (E : Value → Shared → Prop), i < n → Pv i v → SP i s.heap → (∀ b o, h0.get? b = some o → s.heap.get? b = some o) →
    (∀ b h' tk, Heap.SameBut S s.heap h' → SP (i + 1) h' → s.toks ≤ tk → Q b { s with heap := h', toks := tk }) → wpAny (model P w) A (setAdd S v) Q E s
theorem set_loop {I : Addr} {fp wr : List Addr} {G : Array GenState → Array GenState → Prop} {n : Nat} {Pv : Nat → Value → Prop} {St : Nat → Shared → Prop} {SP : Nat → Heap → Prop} {R : Result → Shared → Prop} {S : Addr} {h0 : Heap}
    (W : WalksS P w A.in1 I fp wr G n Pv St) (hSf : S ∉ fp) (L : SetLoop P w A.in1 S h0 n Pv SP) (hS0 : h0.get? S = none) (hw0 : ∀ b ∈ wr, h0.get? b = none) :
    ∀ (k i : Nat) (s : Shared), n - i = k → i ≤ n → St i s → (∀ b o, h0.get? b = some o → s.heap.get? b = some o) → SP i s.heap →
      (∀ s', Moved (S :: wr) G s s' → SP n s'.heap → (∀ b o, h0.get? b = some o → s'.heap.get? b = some o) → R (.ok (.ret .none)) s') →
      codeAny (model P w) A (.builtin "set.update.loop" ⟨[.ref S, .ref I], []⟩) R s := by
  have hSw : S ∉ wr := fun h => hSf (W.sub _ h)
  have hsub : ∀ b ∈ wr, b ∈ S :: wr := fun b hb => List.mem_cons_of_mem _ hb
  have kept : ∀ {s s' : Shared}, Moved wr G s s' → (∀ b o, h0.get? b = some o → s.heap.get? b = some o) → ∀ b o, h0.get? b = some o → s'.heap.get? b = some o := fun hm hkp b o e =>
    hm.heap b o (fun hb => by have z := hw0 b hb; rw [z] at e; exact (nomatch e)) (hkp b o e)
  intro k
  induction k with
  | zero =>
    intro i s hk hi hst hkp hS hR
    obtain rfl : i = n := by omega
    refine codeAny_builtin F.entry_set_update_loop ?_
    rw [Around.under_plainId F.plain_set_update_loop _]
    show wpAny _ A.in1 (pyNext (.ref I) >>= _) _ _ s
    refine wpAny_bind (W.done s _ _ hst fun s' hm => ?_)
    show wpAny _ A.in1 (ret Value.none) _ _ s'
    have hkp' := kept hm hkp
    exact wpAny_pure (hR s' (hm.mono hsub) (L.keep _ _ _ hS (fun o e => hm.heap S o hSw e) hkp') hkp')
  | succ k ih =>
    intro i s hk hi hst hkp hS hR
    have hlt : i < n := by omega
    refine codeAny_builtin F.entry_set_update_loop ?_
    rw [Around.under_plainId F.plain_set_update_loop _]
    show wpAny _ A.in1 (pyNext (.ref I) >>= _) _ _ s
    refine wpAny_bind (W.item i s _ _ hlt hst fun v s' hP hst' hm => ?_)
    have hkp' := kept hm hkp
    have hS' := L.keep _ _ _ hS (fun o e => hm.heap S o hSw e) hkp'
    show wpAny _ A.in1 (holding [v] (setAdd S v) >>= _) _ _ s'
    refine wpAny_bind (wpAny_holding (L.add i v s' _ _ hlt hP hS' hkp' fun b h' tk sb hS2 htk => ?_))
    have hkp2 : ∀ b o, h0.get? b = some o → h'.get? b = some o := fun b o e => (sb.2 b (fun z => by rw [z, hS0] at e; exact (nomatch e))).trans (hkp' b o e)
    refine wpAny_pure ⟨plainId_quiet F.plain_set_update_loop _, ih (i + 1) _ (by omega) hlt (W.frame _ s' _ _ hst' htk fun b hb o e => ?_) hkp2 hS2 fun s'' hm'' hS'' hkp'' => ?_⟩
    · rw [sb.2 b (fun h : b = S => hSf (by rw [← h]; exact hb))]
      exact e
    · refine hR s'' (Moved.trans W.gtrans ((hm.mono hsub).then_heap htk fun b o hb e => ?_) hm'') hS'' hkp''
      rw [sb.2 b (fun h : b = S => hb (by rw [h]; exact List.mem_cons_self))]
      exact e
/-- set(x), x a list -/
theorem call_set_list {l : Addr} {items : Array Value} (SP : Nat → Heap → Prop) {Q : Value → Shared → Prop} (hh : A.handled = none) (hl : s.heap.IsList l items)
    (L : ∀ A', A'.units ≤ A.units + 4 → A'.handled = none → SetLoop P w A' s.heap.objs.size s.heap items.size (fun i v => items[i]? = some v) SP)
    (h00 : ∀ h : Heap, h.get? s.heap.objs.size = some (freshS w) → SP 0 h)
    (h : ∀ (h' : Heap) (tk : Nat), SP items.size h' → (∀ b o, s.heap.get? b = some o → h'.get? b = some o) → Q (.ref s.heap.objs.size) { s with heap := h', toks := tk }) :
    wpAny (model P w) A (call (.type "set") [.ref l]) Q E s := by
  obtain ⟨c, tl, hmro⟩ := F.called_set.mro
  have hmade := F.called_set.made
  have hsub := F.called_set.sub
  refine wpAny_call (codeAny_of_tree ?_)
  show wpAny _ _ (callAny (.type "set") _) _ _ _
  refine wpAny_pure ⟨Code.quiet_builtin _ (by decide +kernel), codeAny_builtin F.entry_type_call ?_⟩
  rw [Around.under_plain (weight_type_call_type "set" [.ref l] []) rfl]
  have h1 := F.called_set.notType
  have h2 := F.called_set.canCreate
  have hct := F.typeCall_set_1 (.ref l)
  repeat (any_goals (first | assumption | wp_step))
  refine codeAny_mono (code_set_led1 (.ref l) (E := E) (Q₁ := fun obj s₁ => obj = .ref s.heap.objs.size ∧ s₁ = { s with heap := s.heap.push (freshS w) }) ⟨rfl, rfl⟩) fun r s₁ hr => ?_
  cases r with
  | error e => exact hr
  | ok fl =>
    cases fl with
    | ret obj =>
      obtain ⟨rfl, rfl⟩ := hr
      have hS : (s.heap.push (freshS w)).get? s.heap.objs.size = some (freshS w) := Heap.get?_push_size _ rfl
      have hT : Shared.TypeIs { s with heap := s.heap.push (freshS w) } (.ref s.heap.objs.size) "set" := ⟨_, hS, rfl⟩
      have hli := F.called_set.init.lookup
      have hbi := F.called_set.init.bind (.ref s.heap.objs.size)
      repeat (any_goals (first | assumption | wp_step))
      refine codeAny_mono (codeAny_call_builtin (R := wants (fun r s₂ => r = .none ∧ ∃ h' tk, s₂ = { s with heap := h', toks := tk } ∧ SP items.size h' ∧
          (∀ b o, s.heap.get? b = some o → h'.get? b = some o)) E) F.called_set.init.plain F.entry_set_init (check_set_init_1 hT ?_)) fun r₂ s₂ hr₂ => ?_
      · obtain ⟨ol, hol, hcl, nl, hdl⟩ := hl
        obtain ⟨ocls, odict, odata, oslots⟩ := ol
        simp only at hcl hdl
        subst hcl; subst hdl
        have hol' : (s.heap.push (freshS w)).get? l = some { cls := .type "list", dict := odict, data := .seq items nl, slots := oslots } := Heap.get?_push_of_some _ hol
        have hsls := F.sub_list_set
        have hslf := F.sub_list_frozenset
        have hne : (Value.type "list" == Value.type "dict") = false := by decide
        have hl1 : (s.heap.push (freshS w)).IsList l items := ⟨_, hol', rfl, nl, rfl⟩
        unfold Builtin.«set.__init__» noKeywords Builtin.Frozenset.updateFrom
        generalize hPI : pyIter = PI
        wp_walk
        subst hPI
        refine wpAny_pyIter_list hl1 ?_
        refine wpAny_bind (wpAny_runValue ?_)
        have hlS : l < s.heap.objs.size := Heap.lt_size hol
        have hh3 : A.in1.in1.in1.handled = none := by simp [hh]
        have hneI : l ≠ (s.heap.push (freshS w)).objs.size := by
          rw [Heap.size_push]; exact Nat.ne_of_lt (Nat.lt_succ_of_lt hlS)
        have hSf : s.heap.objs.size ∉ [(s.heap.push (freshS w)).objs.size, l] := by
          rw [Heap.size_push]; simp only [List.mem_cons, List.mem_singleton, List.not_mem_nil, or_false, not_or]
          exact ⟨Nat.ne_of_lt (Nat.lt_succ_self _), Nat.ne_of_gt hlS⟩
        have none_of : ∀ b, s.heap.objs.size ≤ b → s.heap.get? b = none := fun b hb => by
          cases q : s.heap.get? b with
          | none => rfl
          | some o => exact absurd (Nat.lt_of_lt_of_le (Heap.lt_size q) hb) (Nat.lt_irrefl _)
        refine set_loop (SP := SP) ((Walks.list hh3 _ l hneI items).toS) hSf (L _ (by show A.units + 1 + 1 + 1 ≤ A.units + 4; omega) hh3) (none_of _ (Nat.le_refl _)) (fun b hb => none_of b (by
            rw [List.mem_singleton.mp hb, Heap.size_push]
            exact Nat.le_succ _)) (items.size - 0) 0 _ (by omega) (Nat.zero_le _)
          ⟨⟨_, Heap.get?_push_size _ rfl, rfl, rfl⟩, (hl1.push _)⟩ (fun b o e => Heap.get?_push_of_some _ (Heap.get?_push_of_some _ e)) (h00 _ (Heap.get?_push_of_some _ hS)) ?hR
        case hR =>
          intro s' hm hS' hkp
          obtain ⟨h', g2, d', tk', os'⟩ := s'
          have eg : g2 = s.gens := hm.gens
          have ed : d' = s.drawn := hm.drawn
          have eo : os' = s.os := hm.os
          subst eg; subst ed; subst eo
          show wpAny _ _ _ _ _ _
          refine wpAny_pure ?_
          show wpAny _ _ (ret Value.none) _ _ _
          exact wpAny_pure ⟨rfl, h', tk', rfl, hS', hkp⟩
      · cases r₂ with
        | error e => exact hr₂
        | ok fl₂ =>
          cases fl₂ with
          | ret r =>
            obtain ⟨rfl, h', tk, rfl, hS', hk'⟩ := hr₂
            repeat (any_goals (first | assumption | wp_step))
            exact h _ _ hS' hk'
          | _ => exact hr₂.elim
    | _ => exact hr.elim
/-- set(x), x a tuple -/
theorem call_set_tuple {l : Addr} {items : Array Value} (SP : Nat → Heap → Prop) {Q : Value → Shared → Prop} (hh : A.handled = none) (hl : s.heap.IsTuple l items)
    (L : ∀ A', A'.units ≤ A.units + 4 → A'.handled = none → SetLoop P w A' s.heap.objs.size s.heap items.size (fun i v => items[i]? = some v) SP)
    (h00 : ∀ h : Heap, h.get? s.heap.objs.size = some (freshS w) → SP 0 h)
    (h : ∀ (h' : Heap) (tk : Nat), SP items.size h' → (∀ b o, s.heap.get? b = some o → h'.get? b = some o) → Q (.ref s.heap.objs.size) { s with heap := h', toks := tk }) :
    wpAny (model P w) A (call (.type "set") [.ref l]) Q E s := by
  obtain ⟨c, tl, hmro⟩ := F.called_set.mro
  have hmade := F.called_set.made
  have hsub := F.called_set.sub
  refine wpAny_call (codeAny_of_tree ?_)
  show wpAny _ _ (callAny (.type "set") _) _ _ _
  refine wpAny_pure ⟨Code.quiet_builtin _ (by decide +kernel), codeAny_builtin F.entry_type_call ?_⟩
  rw [Around.under_plain (weight_type_call_type "set" [.ref l] []) rfl]
  have h1 := F.called_set.notType
  have h2 := F.called_set.canCreate
  have hct := F.typeCall_set_1 (.ref l)
  repeat (any_goals (first | assumption | wp_step))
  refine codeAny_mono (code_set_led1 (.ref l) (E := E) (Q₁ := fun obj s₁ => obj = .ref s.heap.objs.size ∧ s₁ = { s with heap := s.heap.push (freshS w) }) ⟨rfl, rfl⟩) fun r s₁ hr => ?_
  cases r with
  | error e => exact hr
  | ok fl =>
    cases fl with
    | ret obj =>
      obtain ⟨rfl, rfl⟩ := hr
      have hS : (s.heap.push (freshS w)).get? s.heap.objs.size = some (freshS w) := Heap.get?_push_size _ rfl
      have hT : Shared.TypeIs { s with heap := s.heap.push (freshS w) } (.ref s.heap.objs.size) "set" := ⟨_, hS, rfl⟩
      have hli := F.called_set.init.lookup
      have hbi := F.called_set.init.bind (.ref s.heap.objs.size)
      repeat (any_goals (first | assumption | wp_step))
      refine codeAny_mono (codeAny_call_builtin (R := wants (fun r s₂ => r = .none ∧ ∃ h' tk, s₂ = { s with heap := h', toks := tk } ∧ SP items.size h' ∧
          (∀ b o, s.heap.get? b = some o → h'.get? b = some o)) E) F.called_set.init.plain F.entry_set_init (check_set_init_1 hT ?_)) fun r₂ s₂ hr₂ => ?_
      · obtain ⟨ol, hol, hcl, nl, hdl⟩ := hl
        obtain ⟨ocls, odict, odata, oslots⟩ := ol
        simp only at hcl hdl
        subst hcl; subst hdl
        have hol' : (s.heap.push (freshS w)).get? l = some { cls := .type "tuple", dict := odict, data := .seq items nl, slots := oslots } := Heap.get?_push_of_some _ hol
        have hsls := F.sub_tuple_set
        have hslf := F.sub_tuple_frozenset
        have hne : (Value.type "tuple" == Value.type "dict") = false := by decide
        have hl1 : (s.heap.push (freshS w)).IsTuple l items := ⟨_, hol', rfl, nl, rfl⟩
        unfold Builtin.«set.__init__» noKeywords Builtin.Frozenset.updateFrom
        generalize hPI : pyIter = PI
        wp_walk
        subst hPI
        refine wpAny_pyIter_tuple hl1 ?_
        refine wpAny_bind (wpAny_runValue ?_)
        have hlS : l < s.heap.objs.size := Heap.lt_size hol
        have hh3 : A.in1.in1.in1.handled = none := by simp [hh]
        have hneI : l ≠ (s.heap.push (freshS w)).objs.size := by
          rw [Heap.size_push]; exact Nat.ne_of_lt (Nat.lt_succ_of_lt hlS)
        have hSf : s.heap.objs.size ∉ [(s.heap.push (freshS w)).objs.size, l] := by
          rw [Heap.size_push]; simp only [List.mem_cons, List.mem_singleton, List.not_mem_nil, or_false, not_or]
          exact ⟨Nat.ne_of_lt (Nat.lt_succ_self _), Nat.ne_of_gt hlS⟩
        have none_of : ∀ b, s.heap.objs.size ≤ b → s.heap.get? b = none := fun b hb => by
          cases q : s.heap.get? b with
          | none => rfl
          | some o => exact absurd (Nat.lt_of_lt_of_le (Heap.lt_size q) hb) (Nat.lt_irrefl _)
        refine set_loop (SP := SP) ((Walks.tuple hh3 _ l hneI items).toS) hSf (L _ (by show A.units + 1 + 1 + 1 ≤ A.units + 4; omega) hh3) (none_of _ (Nat.le_refl _)) (fun b hb => none_of b (by
            rw [List.mem_singleton.mp hb, Heap.size_push]
            exact Nat.le_succ _)) (items.size - 0) 0 _ (by omega) (Nat.zero_le _)
          ⟨⟨_, Heap.get?_push_size _ rfl, rfl, rfl⟩, (hl1.push _)⟩ (fun b o e => Heap.get?_push_of_some _ (Heap.get?_push_of_some _ e)) (h00 _ (Heap.get?_push_of_some _ hS)) ?hR
        case hR =>
          intro s' hm hS' hkp
          obtain ⟨h', g2, d', tk', os'⟩ := s'
          have eg : g2 = s.gens := hm.gens
          have ed : d' = s.drawn := hm.drawn
          have eo : os' = s.os := hm.os
          subst eg; subst ed; subst eo
          show wpAny _ _ _ _ _ _
          refine wpAny_pure ?_
          show wpAny _ _ (ret Value.none) _ _ _
          exact wpAny_pure ⟨rfl, h', tk', rfl, hS', hkp⟩
      · cases r₂ with
        | error e => exact hr₂
        | ok fl₂ =>
          cases fl₂ with
          | ret r =>
            obtain ⟨rfl, h', tk, rfl, hS', hk'⟩ := hr₂
            repeat (any_goals (first | assumption | wp_step))
            exact h _ _ hS' hk'
          | _ => exact hr₂.elim
    | _ => exact hr.elim
end
end K79
/-! part R3b -/
namespace K79
open PySem PySem.Spec PyProof.Rows L2
section
variable {P : Program} {w : World} {A : Around} {E : Value → Shared → Prop} {s : Shared}
/-! ### tuples of ints -/
def SPt (P : Program) (w : World) (S : Addr) (ks : List (Addr × List Int)) (i : Nat) (h : Heap) : Prop := ∃ L es ep t, SetTR P w h S L es ep t ∧ Got ks i L
theorem loop_t {S : Addr} {h0 : Heap} {ks : List (Addr × List Int)} {Pv : Nat → Value → Prop} {n : Nat} (hk : ∀ p ∈ ks, IsT P w h0 p.2 p.1) (hfew : ks.length < 64) (hu : A.units < cLine) (hval : ∀ i v, Pv i v → ∃ p, ks[i]? = some p ∧ v = .ref p.1) : SetLoop P w A S h0 n Pv (SPt P w S ks) where
  keep := fun i h h' ⟨L, es, ep, t, R, g⟩ h1 h2 => ⟨L, es, ep, t, R.keep h1 fun p hp => isT_keep (hk p (List.mem_of_mem_take (g.sub p hp))) h2, g⟩
  add := fun i v s Q E hi hP ⟨L, es, ep, t, R, g⟩ hkp hQ => by
    obtain ⟨p, hp, rfl⟩ := hval i v hP
    have hx : IsT P w s.heap p.2 p.1 := isT_keep (hk p (List.mem_of_getElem? hp)) hkp
    unfold setAdd
    refine wpAny_holding (wpAny_bind (wpAny_pyHash_tuple hu hx ?_))
    have hlen : i < ks.length := (List.getElem?_eq_some_iff.mp hp).1
    refine add_at (s := { s with toks := s.toks + (p.2.length + 1) }) R hx hu (by have := g.len; omega) fun b h' L' es' ep' t' sb R2 c1 c2 => hQ b h' _ sb ⟨L', es', ep', t', R2, ?_⟩ (Nat.le_add_right _ _)
    rcases Classical.em (p.2 ∈ L.map (·.2)) with c | c
    · rw [c1 c]
      exact g.same hp c
    · exact g.more hp (c2 c)
/-! ### texts -/
def txOf (e : Int × Value) : Str := match e.2 with | .str x _ => x | _ => Str.empty
def GoodX (w : World) (e : Int × Value) : Prop := ∃ x tk, e.2 = Value.str x tk ∧ e.1 = hashStr w x
/-- the set of texts at a: its members, in its table's order -/
def SetX (w : World) (h : Heap) (a : Addr) (xs : List Str) : Prop :=
  ∃ o es ep t, h.get? a = some o ∧ o.ExactSet ∧ o.data = .set es ep t ∧ (∀ e ∈ es.toList, GoodX w e) ∧ es.toList.map txOf = xs ∧ xs.Nodup ∧
    es.size < scanBound ∧ t.fits es.size = true ∧ Ris t.place.toList ∧ (w.params.followText "set-order" = true ∨ t.led = true)
theorem SetX.at {h h' : Heap} {a : Addr} {xs : List Str} (R : SetX w h a xs) (k : ∀ o, h.get? a = some o → h'.get? a = some o) : SetX w h' a xs := by
  obtain ⟨o, es, ep, t, ho, r⟩ := R
  exact ⟨o, es, ep, t, k o ho, r⟩
theorem goodX_elems {l : List (Int × Value)} (g : ∀ e ∈ l, GoodX w e) : ElemsOf (PySem.strKind P w) l := fun e he => by
  obtain ⟨x, tk, h1, h2⟩ := g e he
  exact ⟨⟨x, by rw [h1]; exact strKind_is P w x tk, h2⟩, by rw [h1] <;> rfl⟩
theorem goodX_is {e : Int × Value} (g : GoodX w e) (x : Str) : (PySem.strKind P w).is x e.2 = true ↔ txOf e = x := by
  obtain ⟨y, tk, h1, _⟩ := g
  unfold txOf
  rw [h1]
  constructor
  · intro z
    obtain ⟨t, e⟩ := Value.isStrOf_shape (x := x) (v := .str y tk) z
    injection e
  · rintro rfl
    exact strKind_is P w _ tk
theorem storeX_tail {g : Bool → Sem Unit} (hg : ∀ (b : Bool) (s₁ : Shared) (Q' : Unit → Shared → Prop), Q' () s₁ → wpAny (model P w) A (g b) Q' E s₁) {a : Addr}
    {o : Obj} {es : Array (Int × Value)} {ep : Nat} {t : SetTable} (ho : s.heap.get? a = some o) (hex : o.ExactSet) (hd : o.data = .set es ep t)
    {es1 : Array (Int × Value)} {t2 : SetTable} (g1 : ∀ e ∈ es1.toList, GoodX w e) (nd1 : (es1.toList.map txOf).Nodup)
    (hb1 : es1.size < scanBound) (hf2 : t2.fits es1.size = true) (hr : Ris t2.place.toList) (hl : w.params.followText "set-order" = true ∨ t2.led = true) {wasDummy : Bool} {R : Option Bool → Shared → Prop}
    (hR : ∀ h' ys, Heap.SameBut a s.heap h' → ys.Perm (es1.toList.map txOf) → SetX w h' a ys → R (some true) { s with heap := h' }) :
    wpAny (model P w) A (do
        storeSet a es1 t2
        if (!wasDummy && t2.tooFull) = true then do
            g (relayAll t2 es1 (SetTable.grown es1.size)).2.2
            storeSet a (relayAll t2 es1 (SetTable.grown es1.size)).1 (relayAll t2 es1 (SetTable.grown es1.size)).2.1
            pure (some true)
          else pure (some true)) R E s := by
  refine wpAny_bind (wpAny_storeSet_of ho hd ?_ (fits_of_scanBound hb1))
  have ho1 := store_at (es' := es1) (t' := t2) ho hd
  have sb1 := Heap.SameBut.update s.heap a (Obj.putSet es1 t2)
  split
  · have pm := relayAll_perm t2 es1 (SetTable.grown es1.size)
    have hf3 := relayAll_fits t2 es1 (SetTable.grown es1.size)
    have hr3 := relayAll_ris t2 es1 (SetTable.grown es1.size)
    have hl3 := relayAll_led t2 es1 (SetTable.grown es1.size)
    generalize relayAll t2 es1 (SetTable.grown es1.size) = Z at pm hf3 hr3 hl3 ⊢
    obtain ⟨es2, t3, gave⟩ := Z
    dsimp only at pm hf3 hr3 hl3 ⊢
    have hsz : es2.size = es1.size := by rw [← Array.length_toList, pm.length_eq, Array.length_toList]
    have hb2 : es2.size < scanBound := by rw [hsz]; exact hb1
    refine wpAny_bind (hg _ _ _ ?_)
    refine wpAny_bind (wpAny_storeSet_of ho1 rfl ?_ (fits_of_scanBound hb2))
    have ho2 := store_at (es' := es2) (t' := t3) ho1 rfl
    refine wpAny_pure (hR _ (es2.toList.map txOf) (sb1.trans (Heap.SameBut.update _ a _)) (pm.map txOf) ?_)
    exact ⟨_, es2, _, t3, ho2, hex, rfl, fun e he => g1 e (pm.mem_iff.mp he), rfl, (pm.map txOf).nodup_iff.mpr nd1, hb2, hf3, hr3, hl.imp id fun z => by rw [hl3]; exact z⟩
  · exact wpAny_pure (hR _ _ sb1 (List.Perm.refl _) ⟨_, es1, _, t2, ho1, hex, rfl, g1, rfl, nd1, hb1, hf2, hr, hl⟩)
theorem setX_add {a : Addr} {xs : List Str} {x : Str} {tk : Tok} {Q : Bool → Shared → Prop} (R : SetX w s.heap a xs) (room : xs.length + 1 < scanBound)
    (hQ : ∀ b h' ys, Heap.SameBut a s.heap h' → SetX w h' a ys → (x ∈ xs → ys = xs) → (x ∉ xs → ys.Perm (x :: xs)) → Q b { s with heap := h' }) :
    wpAny (model P w) A (setAddHashed a (.str x tk) ((PySem.strKind P w).hash x)) Q E s := by
  obtain ⟨o, es, ep, t, ho, hex, hd, g, hxs, nd, hb, hf, hr, hl⟩ := R
  have hkey : (PySem.strKind P w).is x (.str x tk) = true := strKind_is P w x tk
  have hsc : (Value.str x tk).scannable = true := rfl
  have hel : ElemsOf (PySem.strKind P w) es.toList := goodX_elems g
  have hn : es.size = xs.length := by
    rw [← hxs, List.length_map, Array.length_toList]
  unfold setAddHashed setAddHashedIn
  refine wpAny_holding (wpAny_bind (wpAny_setState_of ho hd hf ?_))
  dsimp only
  rw [byScan_of hsc hb hel]
  simp only [↓reduceIte]
  unfold setAddByScan
  refine wpAny_bind ?_
  refine wpAny_bind (wpAny_rule ?_)
  refine wpAny_bind (wpAny_setScan_of hkey ho hd hf hel ?_)
  cases hfi : List.findIdx? (fun e => (PySem.strKind P w).is x e.2) es.toList with
  | some j =>
    dsimp only
    obtain ⟨hj, pj, _⟩ := List.findIdx?_eq_some_iff_getElem.mp hfi
    have hm : x ∈ xs := by
      rw [← hxs]
      exact List.mem_map.mpr ⟨_, List.getElem_mem hj, (goodX_is (P := P) (g _ (List.getElem_mem hj)) x).mp pj⟩
    exact wpAny_pure (wpAny_pure (hQ false s.heap xs (Heap.SameBut.refl a s.heap) ⟨o, es, ep, t, ho, hex, hd, g, hxs, nd, hb, hf, hr, hl⟩ (fun _ => rfl) fun z => absurd hm z))
  | none =>
    dsimp only
    have hnk : x ∉ es.toList.map txOf := fun z => by
      obtain ⟨e, he, q⟩ := List.mem_map.mp z
      have c := List.findIdx?_eq_none_iff.mp hfi e he
      rw [(goodX_is (P := P) (g e he) x).mpr q] at c
      cases c
    have hgw : ∀ (b : Bool) {s₁ : Shared} {Q' : Unit → Shared → Prop}, Q' () s₁ → wpAny (model P w) A (match b with | true => rule "set.scan.the-table-gave-way" | false => pure ()) Q' E s₁ :=
      fun b s₁ Q' q => by cases b <;> first | exact wpAny_pure q | exact wpAny_rule q
    have pm := layNew_perm t es ((PySem.strKind P w).hash x) (.str x tk)
    have hf1 := layNew_fits t es ((PySem.strKind P w).hash x) (.str x tk)
    have hr1 := layNew_ris t es ((PySem.strKind P w).hash x) (.str x tk) hr
    have hl1 := layNew_led t es ((PySem.strKind P w).hash x) (.str x tk)
    generalize layNew t es ((PySem.strKind P w).hash x) (.str x tk) = Z at pm hf1 hr1 hl1 ⊢
    obtain ⟨es1, t1, wasDummy, gave⟩ := Z
    dsimp only at pm hf1 hr1 hl1 ⊢
    rw [Array.toList_push] at pm
    have pc : es1.toList.Perm (((PySem.strKind P w).hash x, Value.str x tk) :: es.toList) := pm.trans (List.perm_append_singleton _ _)
    have pk : (es1.toList.map txOf).Perm (x :: es.toList.map txOf) := pc.map txOf
    have g1 : ∀ e ∈ es1.toList, GoodX w e := fun e he => by
      rcases List.mem_cons.mp (pc.mem_iff.mp he) with z | z
      · rw [z]; exact ⟨x, tk, rfl, rfl⟩
      · exact g e z
    have nd0 : (es.toList.map txOf).Nodup := by rw [hxs]; exact nd
    have nd1 : (es1.toList.map txOf).Nodup := pk.nodup_iff.mpr (List.nodup_cons.mpr ⟨hnk, nd0⟩)
    have hsz : es1.size = xs.length + 1 := by rw [← Array.length_toList, pc.length_eq, List.length_cons, Array.length_toList, hn]
    have hb1 : es1.size < scanBound := by rw [hsz]; exact room
    have hled : w.params.followText "set-order" = true ∨ t1.led = true := hl.imp id fun z => by rw [hl1]; exact z
    have fin : ∀ h' ys, Heap.SameBut a s.heap h' → ys.Perm (es1.toList.map txOf) → SetX w h' a ys → Q true { s with heap := h' } := fun h' ys sb py r => by
      refine hQ true h' ys sb r (fun z => absurd (by rw [hxs]; exact z) hnk) fun _ => ?_
      rw [← hxs]
      exact py.trans pk
    refine wpAny_bind (hgw _ ?_)
    split
    · refine wpAny_bind ?_
      rw [hashByValue_scannable 8 hsc]
      refine wpAny_pure ?_
      refine storeX_tail ?_ ho hex hd g1 nd1 hb1 ?_ ?_ ?_ ?_
      · intro b s₁ Q' q; cases b <;> first | exact wpAny_pure q | exact wpAny_rule q
      · first | (split <;> first | exact hf1 | exact SetTable.fits_plain_off hf1) | exact hf1
      · first | (split <;> exact hr1) | exact hr1
      · first | (split <;> exact hled) | exact hled
      · intro h' ys sb py r; dsimp only; exact wpAny_pure (fin h' ys sb py r)
    · refine wpAny_bind (wpAny_pure ?_)
      simp only [↓reduceIte]
      refine storeX_tail ?_ ho hex hd g1 nd1 hb1 hf1 hr1 hled ?_
      · intro b s₁ Q' q; cases b <;> first | exact wpAny_pure q | exact wpAny_rule q
      · intro h' ys sb py r; dsimp only; exact wpAny_pure (fin h' ys sb py r)
def SPx (w : World) (S : Addr) (zs : List Str) (i : Nat) (h : Heap) : Prop := ∃ xs, SetX w h S xs ∧ (∀ x, x ∈ xs ↔ x ∈ zs.take i) ∧ xs.length ≤ i
theorem loop_x {S : Addr} {h0 : Heap} {zs : List Str} {Pv : Nat → Value → Prop} {n : Nat} (hfew : zs.length + 1 < scanBound) (hval : ∀ i v, Pv i v → ∃ x t, zs[i]? = some x ∧ v = .str x t) : SetLoop P w A S h0 n Pv (SPx w S zs) where
  keep := fun i h h' ⟨xs, R, g⟩ h1 h2 => ⟨xs, R.at h1, g⟩
  add := fun i v s Q E hi hP ⟨xs, R, g, hlen⟩ hkp hQ => by
    obtain ⟨x, t, hx, rfl⟩ := hval i v hP
    have hl : i < zs.length := (List.getElem?_eq_some_iff.mp hx).1
    unfold setAdd
    refine wpAny_holding (wpAny_bind ((PySem.strKind P w).pyHash (k := x) (strKind_is _ _ _ _) ?_))
    refine setX_add (s := { s with toks := s.toks + 1 }) R (by omega) fun b h' ys sb R2 c1 c2 => hQ b h' _ sb ⟨ys, R2, fun y => ?_, ?_⟩ (Nat.le_succ _)
    · rw [List.take_add_one, hx]
      show y ∈ ys ↔ y ∈ zs.take i ++ [x]
      rw [List.mem_append, List.mem_singleton, ← g]
      by_cases hm : x ∈ xs
      · rw [c1 hm]
        exact ⟨.inl, fun z => z.elim id fun e => e ▸ hm⟩
      · rw [(c2 hm).mem_iff, List.mem_cons]
        exact Or.comm
    · by_cases hm : x ∈ xs
      · rw [c1 hm]; omega
      · rw [(c2 hm).length_eq, List.length_cons]; omega
/-- sorted(set of texts) -/
theorem sortedX {a : Addr} {xs : List Str} {Q : Value → Shared → Prop} (R : SetX w s.heap a xs) (hh : A.handled = none) (h64 : xs.length < 64)
    (hQ : ∀ s' p (out : Array Value) (c : Nat) (ys : List Str), (∀ b o, s.heap.get? b = some o → s'.heap.get? b = some o) → s'.gens = s.gens → s'.os = s.os → s.heap.objs.size ≤ p →
      s'.heap.get? p = some (seqObj "list" out c) → StrsAre out.toList ys → ys.Perm xs → Q (.ref p) s') :
    wpAny (model P w) A (call (.builtin "sorted") [.ref a]) Q E s := by
  obtain ⟨o, es, ep, t, ho, hex, hd, g, hxs, nd, hb, hf, hr, hl⟩ := R
  have hn : es.size = xs.length := by
    rw [← hxs, List.length_map, Array.length_toList]
  refine Calls.call_function_entry kind_sorted plain_sorted entry_sorted (args_sorted1 _) ?_
  unfold Builtin.«sorted»
  refine wpAny_bind (m := checkCount "sorted" 1 1 _) (wpAny_pure ?_)
  refine wpAny_bind (collect_set (A := A.in1) hh ⟨o, ho, hex.1, hd⟩ hf hb hr hl fun s1 vs k1 hz g1 o1 pm => ?_)
  have hvl : vs.length = xs.length := by rw [pm.length_eq, List.length_map, Array.length_toList]; exact hn
  have txts : ∀ l : List Value, (∀ v ∈ l, ∃ x tk, v = Value.str x tk) → StrsAre l (l.map fun v => txOf (0, v)) := by
    intro l
    induction l with
    | nil => intro _; exact .nil
    | cons v l ih =>
      intro hv
      obtain ⟨x, tk, rfl⟩ := hv v List.mem_cons_self
      exact .cons x tk (ih fun u hu => hv u (List.mem_cons_of_mem _ hu))
  have hI : StrsAre vs (vs.map fun v => txOf (0, v)) := txts vs fun v hv => by
    obtain ⟨e, he, q⟩ := List.mem_map.mp (pm.mem_iff.mp hv)
    obtain ⟨x, tk, h1, _⟩ := g e he
    exact ⟨x, tk, by rw [← q]; exact h1⟩
  have pk : (vs.map fun v => txOf (0, v)).Perm xs := by
    have q := pm.map fun v => txOf (0, v)
    rw [List.map_map] at q
    rw [← hxs]
    exact q
  refine wpAny_bind (wpAny_newList ?_ (by rw [hvl, sizeLine_eq]; omega))
  have hoL : (s1.heap.push (seqObj "list" vs.toArray 0)).get? s1.heap.objs.size = some (seqObj "list" vs.toArray 0) := Heap.get?_push_size _ rfl
  refine wpAny_bind (wpAny_holding (wpAny_call_entry slot_list_sort ⟨_, hoL, rfl⟩ entry_list_sort (list_sort_treeK strKind_oneLt hoL hI.keysOf (fun v₁ v₂ rest e => keyKind_strs (by rw [← e]; exact hI)) (by rw [hvl]; exact h64) fun st' hp hs => ⟨_, rfl, ?_⟩) (args_list_sort _)))
  obtain ⟨ys, y1, y2, y3⟩ := sorted_out_str hI hp hs
  obtain ⟨c, hc⟩ := sortedHeap_at (vs := vs) (out := (arrOf st').map (·.2)) hoL
  refine wpAny_pure ⟨_, rfl, hQ _ s1.heap.objs.size ((arrOf st').map (·.2)) c ys (fun b u e => ?_) g1 o1 hz hc y1 (y2.trans pk)⟩
  have q := k1 b u e
  have hlt := Heap.lt_size q
  show (sortedHeap (s1.heap.push (seqObj "list" vs.toArray 0)) s1.heap.objs.size vs ((arrOf st').map (·.2))).get? b = some u
  rw [sortedHeap_old (Nat.ne_of_lt hlt) (by rw [size_push']; exact Nat.lt_succ_of_lt hlt)]
  exact Heap.get?_push_of_some _ q
end
end K79
/-! part R4 -/
/-! The rules by values: set of texts, of pairs; sorted and len of them; sorted of a tuple of pairs. -/
namespace K79
open PySem PySem.Spec PyProof.Rows L2
section
variable {prog : Program} {w : World} {A : Around} {E : Value → Shared → Prop} {s : Shared}
theorem collect_tup {l : Addr} {vs : List Value} {Q : List Value → Shared → Prop} (hl : IsTup s.heap l vs.toArray)
    (h : Q vs { s with heap := (s.heap.push (seqObj "list" #[] 0)).update s.heap.objs.size (Obj.mapSeq (· ++ vs.toArray)) }) (hsz : vs.length ≤ sizeLine) :
    wpAny (model prog w) A (collect (.ref l)) Q E s := by
  obtain ⟨o, ho, hc, n, hd⟩ := id hl
  unfold collect
  refine wpAny_bind (wpAny_runValue (codeAny_builtin entry_proto_collect' ?_))
  show wpAny _ _ (do again (.builtin "list.__iadd__" ⟨[← newList [], .ref l], []⟩)) _ _ s
  refine wpAny_bind (wpAny_newList (wpAny_pure ⟨Code.quiet_builtin _ (by decide +kernel), codeAny_builtin entry_list_iadd' ?_⟩))
  show wpAny _ _ (Builtin.List.listExtendWith (.ref s.heap.objs.size) (.ref l) (.ref s.heap.objs.size)) _ _ { s with heap := s.heap.push (seqObj "list" #[] 0) }
  unfold Builtin.List.listExtendWith
  have ho' : (s.heap.push (seqObj "list" #[] 0)).get? l = some o := Heap.get?_push_of_some _ ho
  refine wpAny_bind (wpAny_typeOf (T := "tuple") ⟨o, ho', hc⟩ ?_)
  have ht : (Value.type "tuple" == Value.type "tuple") = true := by rfl
  rw [if_pos (by rw [ht]; simp)]
  refine wpAny_bind (listItems_at ho' hd ?_)
  refine wpAny_bind (listItems_at (xs := #[]) (n := 0) (Heap.get?_push_size _ rfl) rfl ?_)
  rw [if_neg (by simp)]
  refine wpAny_bind (listUpdate_at (xs := #[]) (n := 0) (Heap.get?_push_size _ rfl) rfl ?_ (Nat.zero_le _) (by show (#[] ++ vs.toArray).size ≤ sizeLine + 1; simp only [Array.size_append, List.size_toArray, List.length_nil]; omega))
  refine wpAny_pure ?_
  show wpAny (model prog w) A (do
      let o ← load s.heap.objs.size
      match o.data with
      | .seq xs _ => pure xs.toList
      | _ => unsupported "internal:collect") Q E { s with heap := (s.heap.push (seqObj "list" #[] 0)).update s.heap.objs.size (Obj.mapSeq (· ++ vs.toArray)) }
  refine wpAny_bind (wpAny_load (get?_update_seq (Heap.get?_push_size _ rfl) _) ?_)
  show wpAny _ _ (pure ((#[] : Array Value) ++ vs.toArray).toList) Q E _
  rw [show ((#[] : Array Value) ++ vs.toArray).toList = vs by simp]
  exact wpAny_pure h
/-- sorted of a tuple of tuples of ints -/
theorem sorted_tup2 {l : Addr} {vs : List Value} {d : Nat} {B : Int} {Q : Value → Shared → Prop} (hl : IsTup s.heap l vs.toArray) (h64 : vs.length < 64) (hd : 1 ≤ d) (x : TS.TupsOk s.heap d B vs)
    (h : ∀ out : Array Value, out.toList.Perm vs → Q (.ref (s.heap.objs.size + 1)) { s with heap := sortedAll s.heap vs out }) :
    wpAny (model prog w) A (call (.builtin "sorted") [.ref l]) Q E s := by
  refine Calls.call_function_entry kind_sorted plain_sorted entry_sorted (args_sorted1 _) ?_
  unfold Builtin.«sorted»
  refine wpAny_bind (m := checkCount "sorted" 1 1 _) (wpAny_pure ?_)
  refine wpAny_bind (collect_tup hl ?_ (by rw [sizeLine_eq]; omega))
  refine wpAny_bind (wpAny_newList ?_ (by rw [sizeLine_eq]; omega))
  have hsz : ((s.heap.push (seqObj "list" #[] 0)).update s.heap.objs.size (Obj.mapSeq (· ++ vs.toArray))).objs.size = s.heap.objs.size + 1 := by
    rw [Heap.size_update, size_push']
  have hoL : (((s.heap.push (seqObj "list" #[] 0)).update s.heap.objs.size (Obj.mapSeq (· ++ vs.toArray))).push (seqObj "list" vs.toArray 0)).get? (s.heap.objs.size + 1) = some (seqObj "list" vs.toArray 0) := by
    rw [← hsz]; exact Heap.get?_push_size _ rfl
  have keep : ∀ b o, s.heap.get? b = some o → o.cls = .type "tuple" → (((s.heap.push (seqObj "list" #[] 0)).update s.heap.objs.size (Obj.mapSeq (· ++ vs.toArray))).push (seqObj "list" vs.toArray 0)).get? b = some o := fun b o q _ => by
    have hlt : b < s.heap.objs.size := Heap.lt_size q
    rw [Heap.get?_push_ne _ _ _ (by rw [hsz]; exact Nat.ne_of_lt (Nat.lt_succ_of_lt hlt)), Heap.get?_update_ne _ _ _ _ (Nat.ne_of_lt hlt), Heap.get?_push_ne _ _ _ (Nat.ne_of_lt hlt)]
    exact q
  show wpAny _ _ _ _ _ { s with heap := ((s.heap.push (seqObj "list" #[] 0)).update s.heap.objs.size (Obj.mapSeq (· ++ vs.toArray))).push (seqObj "list" vs.toArray 0) }
  rw [hsz]
  refine wpAny_bind (wpAny_holding (wpAny_call_entry slot_list_sort ⟨_, hoL, rfl⟩ entry_list_sort (TS.sort_tups hoL h64 hd (x.keeps keep) (fun v => TS.code B (TS.intsOf s.heap v)) (fun v hv ns t => ?_) fun out a1 a2 => ⟨_, rfl, ?_⟩) (args_list_sort _)))
  · obtain ⟨ns0, t0, _⟩ := x v hv
    have e : ns = ns0 := t.ints.symm.trans (t0.keeps keep).ints
    rw [e]
    show TS.code B (TS.intsOf s.heap v) = TS.code B ns0
    rw [t0.ints]
  · exact wpAny_pure ⟨_, rfl, h out a1⟩
end
theorem str_at {zs : List Str} {its : List Value} (r : Vals (zs.map V.str) its) {i : Nat} {v : Value} (h : its[i]? = some v) : ∃ x t, zs[i]? = some x ∧ v = .str x t := by
  have hl := r.length
  rw [List.length_map] at hl
  have hi : i < zs.length := by rw [hl]; exact (List.getElem?_eq_some_iff.mp h).1
  have h1 : (zs.map V.str)[i]? = some (.str zs[i]) := by rw [List.getElem?_map, List.getElem?_eq_getElem hi]; rfl
  obtain ⟨u, h2, t, rfl⟩ := r.get h1
  rw [h] at h2
  cases h2
  exact ⟨zs[i], t, List.getElem?_eq_getElem hi, rfl⟩
theorem ref_at {ks : List (Addr × List Int)} {its : List Value} (r : Vals (ks.map fun p => V.ref p.1) its) {i : Nat} {v : Value} (h : its[i]? = some v) : ∃ p, ks[i]? = some p ∧ v = .ref p.1 := by
  have hl := r.length
  rw [List.length_map] at hl
  have hi : i < ks.length := by rw [hl]; exact (List.getElem?_eq_some_iff.mp h).1
  have h1 : (ks.map fun p => V.ref p.1)[i]? = some (.ref (ks[i]).1) := by rw [List.getElem?_map, List.getElem?_eq_getElem hi]; rfl
  obtain ⟨u, h2, h3⟩ := r.get h1
  rw [h] at h2
  cases h2
  exact ⟨ks[i], List.getElem?_eq_getElem hi, h3⟩
def SetXO (w : World) (a : Addr) (xs : List Str) : HO := .ext fun h => SetX w h a xs
section
variable {X : Cx}
theorem setXO_new {P : Program} {w : World} {H : Hp} {h : Heap} {a : Addr} {xs : List Str} (R : SetX w h a xs) : ObjOk P w H h a (SetXO w a xs) :=
  ⟨R, let ⟨o, _, _, _, ho, _⟩ := R; ⟨o, ho⟩, fun _ _ p k => SetX.at p k⟩
/-- set(xs), xs a list of texts -/
def rSetX (K : PySem.W.Frag) (w : World) : List V → Hp → VK → Prop := fun xs H Q => ∃ (l : Addr) (zs : List Str), xs = [V.ref l] ∧ SqL K H l (zs.map V.str) ∧ zs.length < 64 ∧
  ∀ a ys, H a = none → (∀ x, x ∈ ys ↔ x ∈ zs) → ys.length ≤ zs.length → Q (.ref a) (upd H a (SetXO w a ys))
theorem cr_setX (hc : X.calm = true) : CallR X (.type "set") (rSetX X.K X.w) := by
  intro pins s σ H xs us Q I r h
  obtain ⟨l, zs, rfl, hl, hf, q⟩ := h
  rw [Vals.ref1 r]
  obtain ⟨its, rv, pl, hz⟩ := I.list hl
  have hn : H s.heap.objs.size = none := I.hok.fresh (Nat.le_refl _)
  have hlen : its.toArray.size = zs.length := by rw [List.size_toArray, ← rv.length, List.length_map]
  refine call_set_list (P := X.prog) (w := X.w) (SPx X.w s.heap.objs.size zs) (I.ok.hd hc) pl.isList (fun A' _ _ => loop_x (by unfold scanBound; omega) fun i v hv => str_at rv (by simpa using hv)) (fun h hget => ?_) fun h' tk hS k => ?_
  · refine ⟨[], ⟨_, #[], 0, _, hget, ⟨rfl, rfl, rfl⟩, rfl, (fun e he => by simp at he), rfl, List.nodup_nil, by decide, by rfl, List.Pairwise.nil, ?_⟩, fun x => by simp, Nat.zero_le _⟩
    show _ ∨ (!X.w.params.followText "set-order") = true
    cases X.w.params.followText "set-order"
    · exact .inr rfl
    · exact .inl rfl
  · obtain ⟨ys, R, h1, h2⟩ := hS
    rw [hlen] at h1 h2
    refine ⟨.ref s.heap.objs.size, upd H s.heap.objs.size (SetXO X.w s.heap.objs.size ys), I.laid (t' := tk) k (Nat.le_refl _) (setXO_new R), rfl, q _ ys hn (fun x => ?_) h2⟩
    rw [h1, List.take_length]
/-- sorted(set), fewer than 64 texts -/
def rSortX (w : World) : List V → Hp → VK → Prop := fun vs H Q => ∃ (a : Addr) (ys : List Str), vs = [V.ref a] ∧ H a = some (SetXO w a ys) ∧ ys.length < 64 ∧ ∀ (zs : List Str) (p : Addr), zs.Perm ys → zs.Nodup → H p = none → Q (.ref p) (upd H p (.lst (zs.map V.str)))
theorem cr_sortX (hc : X.calm = true) : CallR X (.builtin "sorted") (rSortX X.w) := by
  intro pins s σ H vs us Q I r h
  obtain ⟨a, ys, rfl, ha, h64, q⟩ := h
  have R : SetX X.w s.heap a ys := (I.hok a _ ha).1
  have hnd : ys.Nodup := let ⟨_, _, _, _, _, _, _, _, _, n, _⟩ := R; n
  rw [Vals.ref1 r]
  refine sortedX R (I.ok.hd hc) h64 fun s' p out c zs k g o hp hg hs pm => ?_
  have hlen : (zs.map V.str).length ≤ sizeLine := by rw [List.length_map, pm.length_eq, sizeLine_eq]; omega
  have hn : H p = none := I.hok.fresh hp
  have J : Inv X pins σ (upd H p (.lst (zs.map V.str))) { s with heap := s'.heap, gens := s'.gens, drawn := s'.drawn, toks := s'.toks } :=
    I.call (ch := []) (Un.laid k hp hn) (I.hok.laid k hp ⟨hlen, out.toList, c, vals_of_strs hs, hg⟩) (by rw [g]; exact I.bare) (fun _ z => nomatch z)
  have e : s' = { s with heap := s'.heap, gens := s'.gens, drawn := s'.drawn, toks := s'.toks } := by
    cases s'
    cases s
    cases o
    rfl
  rw [e]
  exact ⟨.ref p, _, J, rfl, q zs p pm (pm.nodup_iff.mpr hnd) hn⟩
/-- set(x), x a list or a tuple of tuples of ints -/
def rSetT2 (K : PySem.W.Frag) (P : Program) (w : World) : List V → Hp → VK → Prop := fun xs H Q => ∃ (l : Addr) (ks : List (Addr × List Int)), xs = [V.ref l] ∧ (SqL K H l (ks.map fun p => V.ref p.1) ∨ SqT K H l (ks.map fun p => V.ref p.1)) ∧ (∀ p ∈ ks, SqT K H p.1 (p.2.map V.int)) ∧ ks.length < 64 ∧
  ∀ a L, H a = none → (∀ p ∈ L, p ∈ ks) → (∀ p ∈ ks, p.2 ∈ L.map (·.2)) → (L.map (·.2)).Nodup → Q (.ref a) (upd H a (SetTO P w a L))
theorem cr_setT2 (hc : X.calm = true) (hu : X.A.units + 64 < cLine) : CallR X (.type "set") (rSetT2 X.K X.prog X.w) := by
  intro pins s σ H xs us Q I r h
  obtain ⟨l, ks, rfl, hl, hk, hf, q⟩ := h
  rw [Vals.ref1 r]
  have hn : H s.heap.objs.size = none := I.hok.fresh (Nat.le_refl _)
  have h00 : ∀ h : Heap, h.get? s.heap.objs.size = some (freshS X.w) → SPt X.prog X.w s.heap.objs.size ks 0 h := fun h hg => ⟨[], #[], 0, _, setTR_fresh hg, Got.zero ks⟩
  have fin : ∀ (h' : Heap) (tk : Nat), SPt X.prog X.w s.heap.objs.size ks ks.length h' → (∀ b o, s.heap.get? b = some o → h'.get? b = some o) → EP X pins σ Q (.ref s.heap.objs.size) { s with heap := h', toks := tk } := fun h' tk ⟨L, es, ep, t, R, g⟩ k => by
    refine ⟨.ref s.heap.objs.size, upd H s.heap.objs.size (SetTO X.prog X.w s.heap.objs.size L), I.laid (t' := tk) k (Nat.le_refl _) (setTO_new R.t0), rfl, q _ L hn (fun p hp => ?_) (fun p hp => ?_) R.nd⟩
    · exact List.mem_of_mem_take (g.sub p hp)
    · exact g.all p (by rw [List.take_length]; exact hp)
  rcases hl with hl | hl
  · obtain ⟨its, rv, pl, hz⟩ := I.list hl
    have hlen : its.toArray.size = ks.length := by rw [List.size_toArray, ← rv.length, List.length_map]
    refine call_set_list (P := X.prog) (w := X.w) (SPt X.prog X.w s.heap.objs.size ks) (I.ok.hd hc) pl.isList (fun A' hA _ => loop_t (fun p hp => I.isT (hk p hp)) hf (by omega) fun i v hv => ref_at rv (by simpa using hv)) h00 fun h' tk hS k => ?_
    rw [hlen] at hS
    exact fin h' tk hS k
  · obtain ⟨its, rv, pl, hz⟩ := I.tuple hl
    have hlen : its.toArray.size = ks.length := by rw [List.size_toArray, ← rv.length, List.length_map]
    refine call_set_tuple (P := X.prog) (w := X.w) (SPt X.prog X.w s.heap.objs.size ks) (I.ok.hd hc) pl (fun A' hA _ => loop_t (fun p hp => I.isT (hk p hp)) hf (by omega) fun i v hv => ref_at rv (by simpa using hv)) h00 fun h' tk hS k => ?_
    rw [hlen] at hS
    exact fin h' tk hS k
theorem call_lenT : CallR X (.builtin "len") (fun xs H Q => ∃ (a : Addr) (L : List (Addr × List Int)), xs = [V.ref a] ∧ H a = some (SetTO X.prog X.w a L) ∧ (∀ p ∈ L, SqT X.K H p.1 (p.2.map V.int)) ∧ Q (.int L.length) H) := by
  intro pins s σ H xs us Q I r h
  obtain ⟨a, L, rfl, ha, hk, q⟩ := h
  rw [Vals.ref1 r]
  have R0 : SetT0 X.prog X.w s.heap a L := (I.hok a _ ha).1
  obtain ⟨es, ep, t, R⟩ := R0.full fun p hp => I.isT (hk p hp)
  obtain ⟨o, ho, hx, hd⟩ := R.ob
  have hs := R.size
  have hf := R.few
  exact call_len_set ho hx hd R.fits (by omega) ⟨.int L.length, H, I.tok _, ⟨_, by rw [hs]⟩, q⟩
/-- sorted(x), x a tuple of tuples of ints: a new list of the same -/
def rSortTt (K : PySem.W.Frag) (d : Nat) (B : Int) : List V → Hp → VK → Prop := fun vs H Q => ∃ (a : Addr) (xs : List V), vs = [V.ref a] ∧ SqT K H a xs ∧ xs.length < 64 ∧ (∀ x ∈ xs, ∃ ns, TupI K H x ns ∧ ns.length = d ∧ TS.Bd B ns) ∧
  ∀ (ys : List V) (p : Addr), ys.Perm xs → H p = none → Q (.ref p) (upd H p (.lst ys))
theorem cr_sortTt {d : Nat} {B : Int} (hd : 1 ≤ d) : CallR X (.builtin "sorted") (rSortTt X.K d B) := by
  intro pins s σ H vs us Q I r h
  obtain ⟨a, xs, rfl, hs, h64, hx, q⟩ := h
  obtain ⟨its, rv, hl, hz⟩ := I.tuple hs
  rw [Vals.ref1 r]
  obtain ⟨e1, e2⟩ := bkV_refs rv fun x m => by
    obtain ⟨ns, ⟨t, e, _⟩, _⟩ := hx x m
    exact ⟨t, e⟩
  refine sorted_tup2 (d := d) (B := B) hl (by rw [← rv.length]; exact h64) hd (fun v hv => ?_) fun out h1 => ?_
  · obtain ⟨t, rfl⟩ := e2 v hv
    have hm : V.ref t ∈ xs := by
      rw [e1]
      exact List.mem_map.mpr ⟨_, hv, rfl⟩
    obtain ⟨ns, ⟨t', e, ht⟩, hn, hb⟩ := hx _ hm
    cases e
    exact ⟨ns, tupI_raw I ht, hn, hb⟩
  · obtain ⟨ep, he'⟩ := PyProof.Rows.sortedAll_at s.heap its out
    have h3 : ∀ u ∈ out.toList, ∃ a, u = Value.ref a := fun u hu => e2 u (h1.mem_iff.mp hu)
    have hp : (out.toList.map bkV).Perm xs := by
      rw [e1]
      exact h1.map bkV
    have hlen : (out.toList.map bkV).length ≤ sizeLine := by
      rw [hp.length_eq]
      exact hz
    exact ⟨.ref _, upd H (s.heap.objs.size + 1) (.lst (out.toList.map bkV)), I.laid (t' := s.toks) (fun _ _ => PyProof.Rows.sortedAll_old) (Nat.le_succ _) ⟨hlen, out.toList, ep, bkV_vals h3, he'⟩, rfl, q _ _ hp (I.hok.fresh (Nat.le_succ _))⟩
end
end K79
/-! part W0 -/
/-! Short words for the walks. -/
namespace K79
open PySem PySem.Spec PyProof.Rows L2
section
variable {P : Program} {w : World} {K : PySem.W.Frag} {mg : Str → Option Value} {base : Heap}
/-- a def of the module by its body -/
theorem cal {x : Str} {st : Stmt} {N ps : List Str} {k : Nat} {sp : Sp} (F : Fn K mg x st) (S : C8.scC N ps (C8.fnScope st) = true)
    (hb : ∀ (kV doc pm : Value) (an : Option Addr) (cdv ct : Value) (us : List Value), us.length = ps.length → bindArgs (PySem.W.fnOf x x (C8.fnArgs st) (C8.fnBody st) (C8.fnScope st) .none kV doc pm an cdv ct) ⟨us, []⟩ = pure (ps.zip us))
    (len : ∀ vs H Q E, sp vs H Q E → vs.length = ps.length)
    (hbody : ∀ (f : Addr) (cdv : Value) (A : Around) (outer : List Env) (s : Shared) (H : Hp) (vs : List V) (Q : VK) (E : XK), Room k (A.deeper (envOfC x (C8.fnScope st) s.heap.objs.size f cdv)) → sp vs H Q E →
      ∃ t, PSs (cxOf C8.CX0 P w K mg base N x (C8.fnScope st) f cdv A outer s H E).nox (C8.fnBody st) t ∧ t { nx := fun _ H' => Q .non H', rt := Q } (start N vs) H) : C8.Cal P w K mg base (k + 1) x sp [] := by
  obtain ⟨f, fd, F, hm⟩ := F
  refine ⟨f, fd, ps, [], F.ok (C8.fnScope_by S) len (fun cdv A outer s H vs Q E hr h => ?_), hm, F.kp, F.bindsN hb, .nil⟩
  obtain ⟨t, h1, h2⟩ := hbody f cdv A outer s H vs Q E hr h
  exact ⟨t, h1.nox, h2⟩
/-- a method by its body -/
theorem met {C m qual : Str} {st : Stmt} {N ps : List Str} {k : Nat} {sp : Sp} (c : Cls K (He.ga K C)) (F : Mt K C m qual st) (S : C8.scC N ps (C8.fnScope st) = true)
    (hb : ∀ (kV doc pm : Value) (an : Option Addr) (cdv ct : Value) (us : List Value), us.length = ps.length → bindArgs (PySem.W.fnOf m qual (C8.fnArgs st) (C8.fnBody st) (C8.fnScope st) .none kV doc pm an cdv ct) ⟨us, []⟩ = pure (ps.zip us))
    (len : ∀ vs H Q E, sp vs H Q E → vs.length = ps.length)
    (hbody : ∀ (f : Addr) (cdv : Value) (A : Around) (outer : List Env) (s : Shared) (H : Hp) (vs : List V) (Q : VK) (E : XK), Room k (A.deeper (envOfC qual (C8.fnScope st) s.heap.objs.size f cdv)) → sp vs H Q E →
      ∃ t, PSs (cxOf C8.CX0 P w K mg base N qual (C8.fnScope st) f cdv A outer s H E).nox (C8.fnBody st) t ∧ t { nx := fun _ H' => Q .non H', rt := Q } (start N vs) H) : C8.Met P w K mg base (k + 1) (He.ga K C) m sp [] := by
  obtain ⟨fd, F, hm⟩ := F
  refine ⟨_, fd, ps, [], c, hm, F.ok (C8.fnScope_by S) len (fun cdv A outer s H vs Q E hr h => ?_), F.bindsN hb, .nil⟩
  obtain ⟨t, h1, h2⟩ := hbody _ cdv A outer s H vs Q E hr h
  exact ⟨t, h1.nox, h2⟩
end
theorem ty_tup {K : PySem.W.Frag} {H : Hp} {q : Addr} {xs : List V} (h : SqT K H q xs) : TyX K H (.ref q) (.type "tuple") := by
  rcases h with (h | ⟨o, h⟩) | ⟨o, its, n, h, c, _⟩
  · exact .base (.tup h)
  · exact .fTuple h
  · exact .kTuple h c
theorem dE : ("urdl" : Str) = S deeds := by decide +kernel
theorem lE : ("abcd" : Str) = S [97, 98, 99, 100] := by decide +kernel
theorem in_dec {c : Nat} {l : List Nat} : decide (c ∈ (S l).cps.toList) = decide (c ∈ l) := rfl
theorem index_deed {c : Nat} (h : c ∈ deeds) : Txt.index0 ("urdl" : Str) ⟨#[c]⟩ = some (ix c) := by
  have h2 : ∀ c ∈ deeds, Txt.index0 ("urdl" : Str) ⟨#[c]⟩ = some (ix c) := by decide +kernel
  exact h2 c h
theorem turnsV_in {t : List Nat} (h : t ∈ turns8) : inV (.str (S t)) turnsV = true := by
  have h2 : ∀ t ∈ turns8, inV (.str (S t)) turnsV = true := by decide +kernel
  exact h2 t h
end K79
/-! part W1 -/
namespace K79
open PySem PySem.Spec PyProof.Rows L2
section
variable {P : Program} {w : World} {K : PySem.W.Frag} {mg : Str → Option Value} {base : Heap}
/-! ### is_whole, is_from, is_place -/
def spIsWhole : Sp := fun vs H Q _ => ∃ i : Int, vs = [.int i] ∧ Q (.bl true) H
theorem ok_is_whole (T : Txt K mg) : C8.Cal P w K mg base 1 "is_whole" spIsWhole [] := by
  refine cal T.f_is_whole (N := ["thing"]) (ps := ["thing"]) (by decide +kernel) (fun _ _ _ _ _ _ us hl => match us, hl with | [_], _ => rfl) (fun vs H Q E h => by obtain ⟨_, rfl, _⟩ := h; rfl) (fun f cdv A outer s H vs Q E hr h => ?_)
  obtain ⟨i, rfl, k⟩ := h
  refine ⟨_, pss_one (ps_ret (pe_and (pe_callB call_isi (by rfl) T.b_isinstance (by decide +kernel) (pa_cons (pv 0) (pa_cons (pe_bltn (by rfl) T.b_int (by decide +kernel) (v := .ty "int") rfl) pa_nil)))
    (pe_one (pe_not (pe_callB call_isi (by rfl) T.b_isinstance (by decide +kernel) (pa_cons (pv 0) (pa_cons (pe_bltn (by rfl) T.b_bool (by decide +kernel) (v := .ty "bool") rfl) pa_nil))))))), ?_⟩
  refine ⟨_, rfl, _, _, _, _, _, rfl, .ty "int", .base (.int _), kit_ty (a := "int") (b := "int") (r := true) (by decide +kernel), _, rfl, ?_⟩
  refine iteT ⟨_, rfl, _, _, _, _, _, rfl, .ty "bool", .base (.int _), kit_ty (a := "int") (b := "bool") (r := false) (by decide +kernel), _, rfl, k⟩
def spIsFrom : Sp := fun vs H Q _ => ∃ i lo hi : Int, vs = [.int i, .int lo, .int hi] ∧ Q (.bl (decide (lo ≤ i) && decide (i ≤ hi))) H
theorem ok_is_from (T : Txt K mg) (h1 : C8.Cal P w K mg base 1 "is_whole" spIsWhole []) : C8.Cal P w K mg base 2 "is_from" spIsFrom [] := by
  refine cal T.f_is_from (N := ["thing", "least", "most"]) (ps := ["thing", "least", "most"]) (by decide +kernel) (fun _ _ _ _ _ _ us hl => match us, hl with | [_, _, _], _ => rfl) (fun vs H Q E h => by obtain ⟨_, _, _, rfl, _⟩ := h; rfl) (fun f cdv A outer s H vs Q E hr h => ?_)
  obtain ⟨i, lo, hi, rfl, k⟩ := h
  refine ⟨_, pss_one (ps_ret (pe_and (C8.pe_c h1 hr (by decide) rfl (pa_cons (pv 0) pa_nil)) (pe_one (pe_chain op_le op_le (pv 1) (pv 0) (pv 2))))), ?_⟩
  refine ⟨_, rfl, _, rfl, _, rfl, iteT ⟨_, rfl, _, rfl, _, _, rfl, rfl, _, rfl, ?_⟩⟩
  by_cases e : lo ≤ i
  · rw [if_pos (decide_eq_true e)]
    refine ⟨_, rfl, _, _, rfl, rfl, ?_⟩
    rw [decide_eq_true e, Bool.true_and] at k
    exact k
  · rw [if_neg (by rw [decide_eq_false e]; exact Bool.false_ne_true)]
    rw [decide_eq_false e, Bool.false_and] at k
    exact k
def inFl (p : Pl) (r c : Int) : Bool := decide (0 ≤ p.1) && decide (p.1 ≤ r - 1) && (decide (0 ≤ p.2) && decide (p.2 ≤ c - 1))
def spIsPlace (K : PySem.W.Frag) : Sp := fun vs H Q _ => ∃ (v : V) (p : Pl) (r c : Int), vs = [v, .int r, .int c] ∧ PlV K H v p ∧ Q (.bl (inFl p r c)) H
theorem ok_is_place (T : Txt K mg) (h1 : C8.Cal P w K mg base 2 "is_from" spIsFrom []) : C8.Cal P w K mg base 3 "is_place" (spIsPlace K) [] := by
  have S : C8.scC ["thing", "rows", "columns", "row", "column"] ["thing", "rows", "columns"] (C8.fnScope s_is_place) = true := by decide +kernel
  refine cal T.f_is_place S (fun _ _ _ _ _ _ us hl => match us, hl with | [_, _, _], _ => rfl) (fun vs H Q E h => by obtain ⟨_, _, _, _, rfl, _⟩ := h; rfl) (fun f cdv A outer s H vs Q E hr h => ?_)
  obtain ⟨v, p, r, c, rfl, ⟨q, rfl, hq⟩, k⟩ := h
  have nd := (C8.fnScope_by S).nd
  refine ⟨_, pss_cons (ps_if (PW.pt (pw_or (pt_not (pt_val (pe_callB call_isi (by rfl) T.b_isinstance (by decide +kernel) (pa_cons (pv 0) (pa_cons (pe_bltn (by rfl) T.b_tuple (by decide +kernel) (v := .ty "tuple") rfl) pa_nil)))))
      (pw_or1 (pt_cmpR op_ne (pe_callB call_len (by rfl) T.b_len PySem.boot_len (pa_cons (pv 0) pa_nil)) pe_int (nomark _))))) pss_never pss_nil)
    (pss_cons (ps_asg (pv 0) (pg_tup rfl (pgs_cons (pg_name (i := 3) nd rfl (.inl rfl)) (pgs_cons (pg_name (i := 4) nd rfl (.inl rfl)) pgs_nil))))
    (pss_one (ps_ret (pe_and (C8.pe_c h1 hr (by decide) rfl (pa_cons (pv 3) (pa_cons pe_int (pa_cons (pe_op op_sub (pv 1) pe_int) pa_nil))))
      (pe_one (C8.pe_c h1 hr (by decide) rfl (pa_cons (pv 4) (pa_cons pe_int (pa_cons (pe_op op_sub (pv 2) pe_int) pa_nil))))))))), ?_⟩
  refine ⟨_, rfl, _, _, _, _, _, rfl, .ty "tuple", ty_tup hq, kit_ty (a := "tuple") (b := "tuple") (r := true) (by decide +kernel), _, rfl, iteF ?_⟩
  refine ⟨_, rfl, _, _, rfl, .inr ⟨_, hq, rfl⟩, rfl, _, rfl, iteF ?_⟩
  refine ⟨_, rfl, q, _, rfl, hq, rfl, _, _, rfl, _, _, rfl, rfl, ?_⟩
  refine ⟨_, rfl, _, rfl, _, _, rfl, rfl, _, _, _, rfl, _, rfl, ?_⟩
  unfold inFl at k
  by_cases e : (decide (0 ≤ p.1) && decide (p.1 ≤ r - 1)) = true
  · rw [if_pos e]
    refine ⟨_, rfl, _, rfl, _, _, rfl, rfl, _, _, _, rfl, ?_⟩
    rw [e, Bool.true_and] at k
    exact k
  · rw [if_neg e]
    rw [Bool.eq_false_iff.mpr e, Bool.false_and] at k
    exact k
/-! ### turns -/
def spIsTurn : Sp := fun vs H Q _ => ∃ t : List Nat, vs = [.str (S t)] ∧ t ∈ turns8 ∧ Q (.bl true) H
theorem ok_is_turn (T : Txt K mg) : C8.Cal P w K mg base 1 "is_turn" spIsTurn [] := by
  refine cal T.f_is_turn (N := ["thing"]) (ps := ["thing"]) (by decide +kernel) (fun _ _ _ _ _ _ us hl => match us, hl with | [_], _ => rfl) (fun vs H Q E h => by obtain ⟨_, rfl, _⟩ := h; rfl) (fun f cdv A outer s H vs Q E hr h => ?_)
  obtain ⟨t, rfl, ht, k⟩ := h
  refine ⟨_, pss_one (ps_ret (pe_and (pe_callB call_isi (by rfl) T.b_isinstance (by decide +kernel) (pa_cons (pv 0) (pa_cons (pe_bltn (by rfl) T.b_str (by decide +kernel) (v := .ty "str") rfl) pa_nil)))
    (pe_one (pe_cmpR op_in_seq (pv 0) (pe_glob (by rfl) T.c_TURNS (v := .ref (He.ga K "TURNS")) rfl) (by rfl))))), ?_⟩
  refine ⟨_, rfl, _, _, _, _, _, rfl, .ty "str", .base (.str _), kit_ty (a := "str") (b := "str") (r := true) (by decide +kernel), _, rfl, iteT ⟨_, rfl, _, _, rfl, .inr (T.turns _), rfl, by decide +kernel, ?_⟩⟩
  rw [turnsV_in ht]
  exact k
def spWantTurn : Sp := fun vs H Q _ => ∃ t : List Nat, vs = [.str (S t)] ∧ t ∈ turns8 ∧ Q .non H
theorem ok_want_turn (T : Txt K mg) (h1 : C8.Cal P w K mg base 1 "is_turn" spIsTurn []) : C8.Cal P w K mg base 2 "want_turn" spWantTurn [] := by
  refine cal T.f_want_turn (N := ["thing"]) (ps := ["thing"]) (by decide +kernel) (fun _ _ _ _ _ _ us hl => match us, hl with | [_], _ => rfl) (fun vs H Q E h => by obtain ⟨_, rfl, _⟩ := h; rfl) (fun f cdv A outer s H vs Q E hr h => ?_)
  obtain ⟨t, rfl, ht, k⟩ := h
  refine ⟨_, pss_one (ps_if (pt_not (pt_val (C8.pe_c h1 hr (by decide) rfl (pa_cons (pv 0) pa_nil)))) pss_never pss_nil), ?_⟩
  exact ⟨_, rfl, t, rfl, ht, _, rfl, iteF k⟩
def spWantDeed : Sp := fun vs H Q _ => ∃ c : Nat, vs = [.str (S [c])] ∧ c ∈ deeds ∧ Q .non H
theorem ok_want_deed (T : Txt K mg) : C8.Cal P w K mg base 1 "want_deed" spWantDeed [] := by
  obtain ⟨td, hd⟩ := T.c_DEEDS
  refine cal T.f_want_deed (N := ["thing"]) (ps := ["thing"]) (by decide +kernel) (fun _ _ _ _ _ _ us hl => match us, hl with | [_], _ => rfl) (fun vs H Q E h => by obtain ⟨_, rfl, _⟩ := h; rfl) (fun f cdv A outer s H vs Q E hr h => ?_)
  obtain ⟨c, rfl, hc, k⟩ := h
  refine ⟨_, pss_cons (ps_if (pt_not (pt_val (pe_callB call_isi (by rfl) T.b_isinstance (by decide +kernel) (pa_cons (pv 0) (pa_cons (pe_bltn (by rfl) T.b_str (by decide +kernel) (v := .ty "str") rfl) pa_nil))))) pss_never pss_nil)
    (pss_one (ps_if (PW.pt (pw_or (pt_cmpR op_ne (pe_callB call_len (by rfl) T.b_len PySem.boot_len (pa_cons (pv 0) pa_nil)) pe_int (nomark _)) (pw_or1 (pt_cmpR op_notIn_sign (pv 0) (pe_glob (by rfl) hd (v := .str "urdl") ⟨_, rfl⟩) (by rfl))))) pss_never pss_nil)), ?_⟩
  refine ⟨_, rfl, _, _, _, _, _, rfl, .ty "str", .base (.str _), kit_ty (a := "str") (b := "str") (r := true) (by decide +kernel), _, rfl, iteF ?_⟩
  refine ⟨_, rfl, _, 1, rfl, ⟨by show 1 ≤ sizeLine; decide, rfl⟩, rfl, _, rfl, iteF ?_⟩
  refine ⟨_, rfl, c, _, rfl, rfl, _, rfl, ?_⟩
  have e : decide (c ∈ ("urdl" : Str).cps.toList) = true := by
    rw [dE]
    exact decide_eq_true hc
  rw [e]
  exact iteF k
def spWay : Sp := fun vs H Q _ => ∃ (t : List Nat) (c : Nat), vs = [.str (S t), .str (S [c])] ∧ t ∈ turns8 ∧ c ∈ deeds ∧ Q (.str (S [wy t c])) H
theorem ok_way (T : Txt K mg) (h1 : C8.Cal P w K mg base 2 "want_turn" spWantTurn []) (h2 : C8.Cal P w K mg base 1 "want_deed" spWantDeed []) : C8.Cal P w K mg base 3 "way" spWay [] := by
  obtain ⟨td, hd⟩ := T.c_DEEDS
  refine cal T.f_way (N := ["turn", "deed"]) (ps := ["turn", "deed"]) (by decide +kernel) (fun _ _ _ _ _ _ us hl => match us, hl with | [_, _], _ => rfl) (fun vs H Q E h => by obtain ⟨_, _, rfl, _⟩ := h; rfl) (fun f cdv A outer s H vs Q E hr h => ?_)
  obtain ⟨t, c, rfl, ht, hc, k⟩ := h
  refine ⟨_, pss_cons (ps_expr (C8.pe_c h1 hr (by decide) rfl (pa_cons (pv 0) pa_nil)))
    (pss_cons (ps_expr (C8.pe_c h2 hr (by decide) rfl (pa_cons (pv 1) pa_nil)))
    (pss_one (ps_ret (pe_ix ix_str (pv 0) (pe_bmS PySem.F.plainAttrs_str PySem.F.slot_str_index PySem.F.type_str_index (mt_indexX (W := fun _ _ _ _ => False) rfl takes0) (pe_glob (by rfl) hd (v := .str "urdl") ⟨_, rfl⟩) (pa_cons (pv 1) pa_nil)) (fun _ _ => rfl))))), ?_⟩
  refine ⟨_, rfl, t, rfl, ht, _, rfl, c, rfl, hc, _, rfl, rfl, _, rfl, _, _, rfl, rfl, fun j hj => ?_, fun hn => ?_⟩
  · rw [show (S [c]) = ⟨#[c]⟩ from rfl, index_deed hc] at hj
    cases hj
    have hl := turn_len ht
    have hw := wy_at hl c
    refine ⟨_, (ix c : Int), wy t c, rfl, rfl, ?_, ?_, k⟩
    · show t.length ≤ sizeLine
      rw [hl]
      decide
    · exact atI_nat (by exact hw)
  · rw [show (S [c]) = ⟨#[c]⟩ from rfl, index_deed hc] at hn
    cases hn
end
end K79
/-! part LC -/
/-! A comprehension by what its list so far says. -/
namespace K79
open PySem PySem.Spec PyProof.Rows L2
theorem keepT_upd {H : Hp} {D : Addr} {l l' : List V} (h : H D = some (.lst l)) : KeepT H (upd H D (.lst l')) := by
  constructor
  · intro b xs e
    rw [upd_ne (fun z => by rw [z, h] at e; cases e)]
    exact e
  · intro b o u e
    rw [upd_ne (fun z => by rw [z, h] at e; cases e)]
    exact e
theorem same_upd {H1 H : Hp} {D : Addr} {o : HO} (s : Same H1 H) (h : H1 D = none) : Same H1 (upd H D o) := fun b u e => by
  rw [upd_ne (ne_of_none e h)]
  exact s b u e
theorem lc_gen {J : It} {n : Nat} {G : Hp → Prop} {Y : Nat → Hp → V → Hp → Prop} (w : Walk J n G Y) {g : TG} {tt : TT} {te : TE} {vs : List Nat} {σ : L2.St} {H1 : Hp} {D : Addr} {Qd : Hp → Prop}
    (R : Nat → List V → Hp → Prop) (hD : H1 D = none) (hG : ∀ H, Same H1 H → G H) (hz : n ≤ sizeLine) (hK : ∀ i l H H', KeepT H H' → R i l H → R i l H') (h0 : R 0 [] H1)
    (hs : ∀ i l x H H', i < n → Same H1 H → R i l H → Y i H x H' → ∀ (Kn : V → Hp → Prop) (El : Hp → Prop), (∀ y H4, Same H H4 → R (i + 1) (l ++ [y]) H4 → Kn y H4) → (∀ H3, Same H H3 → R (i + 1) l H3 → El H3) →
      g x (wipe σ vs) H' fun σ2 H2 => wipe σ2 vs = wipe σ vs ∧ tt σ2 H2 fun b H3 => if b = true then te σ2 H3 Kn else El H3)
    (hd : ∀ l H, Same H1 H → H D = some (.lst l) → l.length ≤ n → R n l H → Qd H) :
    ∃ W : Nat → Nat → Hp → Prop, (∃ m, W 0 m (upd H1 D (.lst []))) ∧ ∀ i m H, W i m H →
      (J.stop i H ∧ Qd H) ∨ (J.go i H ∧ ∃ Nx : Hp → Prop, (∀ H', Nx H' → ∃ m', m' < m ∧ W (i + 1) m' H') ∧ ∀ x H', J.yld i H x H' → g x (wipe σ vs) H' fun σ2 H2 => wipe σ2 vs = wipe σ vs ∧ tt σ2 H2 fun b H3 =>
        if b = true then te σ2 H3 fun y H4 => ∃ acc, H4 D = some (.lst acc) ∧ acc.length < sizeLine ∧ Nx (upd H4 D (.lst (acc ++ [y]))) else Nx H3) := by
  refine lc_it w (fun i H => Same H1 H ∧ ∃ l, H D = some (.lst l) ∧ l.length ≤ i ∧ R i l H) ?_ (fun i H _ p => hG H p.1) ?_ ?_
  · exact ⟨Same.new hD, [], upd_same, Nat.le_refl _, hK 0 [] _ _ (Same.keepT (Same.new hD)) h0⟩
  · intro i x H H' hi p y
    obtain ⟨s, l, hl, hn, r⟩ := p
    refine hs i l x H H' hi s r y _ _ (fun y H4 s4 r4 => ?_) (fun H3 s3 r3 => ?_)
    · exact ⟨l, s4 _ _ hl, by omega, same_upd (s.trans s4) hD, l ++ [y], upd_same, by rw [List.length_append]; exact Nat.succ_le_succ hn, hK _ _ _ _ (keepT_upd (s4 _ _ hl)) r4⟩
    · exact ⟨s.trans s3, l, s3 _ _ hl, by omega, r3⟩
  · intro H p
    obtain ⟨s, l, hl, hn, r⟩ := p
    exact hd l H s hl hn r
/-- the values are known ahead -/
theorem lc_vals {J : It} {n : Nat} {G : Hp → Prop} {Y : Nat → Hp → V → Hp → Prop} (w : Walk J n G Y) {g : TG} {tt : TT} {te : TE} {vs : List Nat} {σ : L2.St} {H1 : Hp} {D : Addr} {Qd : Hp → Prop}
    (ys : List V) (hD : H1 D = none) (hG : ∀ H, Same H1 H → G H) (hz : n ≤ sizeLine) (hn : ys.length = n)
    (hs : ∀ i x H H', i < n → Same H1 H → Y i H x H' → ∀ (Kn : V → Hp → Prop) (El : Hp → Prop), (∀ y H4, Same H H4 → ys[i]? = some y → Kn y H4) →
      g x (wipe σ vs) H' fun σ2 H2 => wipe σ2 vs = wipe σ vs ∧ tt σ2 H2 fun b H3 => if b = true then te σ2 H3 Kn else El H3)
    (hd : ∀ H, Same H1 H → H D = some (.lst ys) → Qd H) :
    ∃ W : Nat → Nat → Hp → Prop, (∃ m, W 0 m (upd H1 D (.lst []))) ∧ ∀ i m H, W i m H →
      (J.stop i H ∧ Qd H) ∨ (J.go i H ∧ ∃ Nx : Hp → Prop, (∀ H', Nx H' → ∃ m', m' < m ∧ W (i + 1) m' H') ∧ ∀ x H', J.yld i H x H' → g x (wipe σ vs) H' fun σ2 H2 => wipe σ2 vs = wipe σ vs ∧ tt σ2 H2 fun b H3 =>
        if b = true then te σ2 H3 fun y H4 => ∃ acc, H4 D = some (.lst acc) ∧ acc.length < sizeLine ∧ Nx (upd H4 D (.lst (acc ++ [y]))) else Nx H3) := by
  refine lc_gen w (fun i l _ => l = ys.take i) hD hG hz (fun _ _ _ _ _ r => r) rfl ?_ ?_
  · intro i l x H H' hi s r y Kn El hk he
    refine hs i x H H' hi s y Kn El (fun y H4 s4 ey => hk y H4 s4 ?_)
    rw [r, List.take_succ, ey]
    rfl
  · intro l H s hl _ r
    rw [r, ← hn, List.take_length] at hl
    exact hd H s hl
end K79
/-! part W2 -/
namespace K79
open PySem PySem.Spec PyProof.Rows L2
section
variable {P : Program} {w : World} {K : PySem.W.Frag} {mg : Str → Option Value} {base : Heap}
def spWantRow : Sp := fun vs H Q _ => ∃ l : List Nat, vs = [.str (S l)] ∧ (∀ c ∈ l, c ∈ deeds) ∧ ∀ H', Same H H' → Q .non H'
theorem ok_want_row (T : Txt K mg) : C8.Cal P w K mg base 1 "want_row" spWantRow [] := by
  obtain ⟨td, hd⟩ := T.c_DEEDS
  have SC : C8.scC ["thing", "at", "deed"] ["thing"] (C8.fnScope s_want_row) = true := by decide +kernel
  have nd := (C8.fnScope_by SC).nd
  refine cal T.f_want_row SC (fun _ _ _ _ _ _ us hl => match us, hl with | [_], _ => rfl) (fun vs H Q E h => by obtain ⟨_, rfl, _⟩ := h; rfl) (fun f cdv A outer s H vs Q E hr h => ?_)
  obtain ⟨l, rfl, hl, k⟩ := h
  refine ⟨_, pss_cons (ps_if (pt_not (pt_val (pe_callB call_isi (by rfl) T.b_isinstance (by decide +kernel) (pa_cons (pv 0) (pa_cons (pe_bltn (by rfl) T.b_str (by decide +kernel) (v := .ty "str") rfl) pa_nil))))) pss_never pss_nil)
    (pss_one (ps_for PassesOwn.never rfl (pi_enumS (by rfl) T.b_enumerate (pa_cons (pv 0) pa_nil))
      (pg_tup rfl (pgs_cons (pg_name (i := 1) nd rfl (.inl rfl)) (pgs_cons (pg_name (i := 2) nd rfl (.inl rfl)) pgs_nil)))
      (pss_one (ps_if (pt_cmpR op_notIn_sign (pv 2) (pe_glob (by rfl) hd (v := .str "urdl") ⟨_, rfl⟩) (by rfl)) pss_never pss_nil)))), ?_⟩
  refine ⟨_, rfl, _, _, _, _, _, rfl, .ty "str", .base (.str _), kit_ty (a := "str") (b := "str") (r := true) (by decide +kernel), _, rfl, iteF ?_⟩
  refine ⟨_, rfl, _, rfl, ?_⟩
  refine for_it walk_enumS (fun i σ H' => Same H H' ∧ ∃ x y, σ = [some (.str (S l)), x, y]) ⟨Same.refl _, _, _, rfl⟩ (fun _ _ _ _ _ => trivial) ?_ ?_
  · intro i x σ H1 H2 hi p y
    obtain ⟨s1, a, b, rfl⟩ := p
    obtain ⟨t, c, hc, rfl, nt, rfl⟩ := y
    have hm : c ∈ l := List.mem_of_getElem? (by simpa using hc)
    refine ⟨t, _, rfl, SqT.of upd_same, rfl, _, _, rfl, _, _, rfl, rfl, ?_⟩
    refine ⟨_, rfl, c, _, rfl, rfl, _, rfl, ?_⟩
    have e : decide (c ∈ ("urdl" : Str).cps.toList) = true := by
      rw [dE]
      exact decide_eq_true (hl c hm)
    rw [e]
    exact iteF ⟨Same.then_new s1 nt, _, _, rfl⟩
  · intro σ H1 p
    exact k _ p.1
def spRowTurned : Sp := fun vs H Q _ => ∃ t l : List Nat, vs = [.str (S t), .str (S l)] ∧ t ∈ turns8 ∧ (∀ c ∈ l, c ∈ deeds) ∧ l.length ≤ 1000 ∧ ∀ H', Same H H' → Q (.str (S (bec t l))) H'
theorem joinL_nil : ∀ ls : List (List Nat), TL.joinL [] ls = ls.flatten
  | [] => rfl
  | [x] => by simp [TL.joinL]
  | x :: y :: ls => by
    have h := joinL_nil (y :: ls)
    simp only [TL.joinL, List.nil_append, List.flatten_cons] at h ⊢
    rw [h]
theorem join_ones (l : List Nat) : Txt.join "" (l.map fun c => S [c]) = S l := by
  have h := SX.join_S [] (l.map fun c => [c])
  rw [List.map_map, joinL_nil] at h
  refine h.trans ?_
  congr 2
  clear h
  induction l with
  | nil => rfl
  | cons c l ih => simpa using ih
theorem ones_len (l : List Nat) : ((l.map fun c => S [c]).map (·.length)).sum = l.length := by
  induction l with
  | nil => rfl
  | cons c l ih =>
    simp only [List.map_cons, List.sum_cons, List.length_cons]
    rw [ih]
    have : (S [c]).length = 1 := rfl
    omega
theorem ok_row_turned (T : Txt K mg) (h1 : C8.Cal P w K mg base 2 "want_turn" spWantTurn []) (h2 : C8.Cal P w K mg base 1 "want_row" spWantRow []) (h3 : C8.Cal P w K mg base 3 "way" spWay []) : C8.Cal P w K mg base 4 "row_turned" spRowTurned [] := by
  have SC : C8.scC ["turn", "row", "deed"] ["turn", "row"] (C8.fnScope s_row_turned) = true := by decide +kernel
  have nd := (C8.fnScope_by SC).nd
  refine cal T.f_row_turned SC (fun _ _ _ _ _ _ us hl => match us, hl with | [_, _], _ => rfl) (fun vs H Q E h => by obtain ⟨_, _, rfl, _⟩ := h; rfl) (fun f cdv A outer s H vs Q E hr h => ?_)
  obtain ⟨t, l, rfl, ht, hl, hz, k⟩ := h
  refine ⟨_, pss_cons (ps_expr (C8.pe_c h1 hr (by decide) rfl (pa_cons (pv 0) pa_nil)))
    (pss_cons (ps_expr (C8.pe_c h2 hr (by decide) rfl (pa_cons (pv 1) pa_nil)))
    (pss_one (ps_ret (pe_join pe_str (pe_lc (own := [("deed", 2)]) (g := gName 2) (tt := tYes) rfl nd (pi_str (pv 1)) (blkOk_by (N := ["turn", "row", "deed"]) (sc := C8.fnScope s_row_turned) (by decide +kernel)) (fun _ _ _ _ _ => pg_name (i := 2) nd rfl (.inl rfl)) (fun _ _ _ _ _ => pts_nil)
      (fun _ _ _ _ _ => C8.pe_c h3 hr (by decide) rfl (pa_cons (pv 0) (pa_cons (pv 2) pa_nil)))))))), ?_⟩
  refine ⟨_, rfl, t, rfl, ht, _, rfl, l, rfl, hl, fun H1 s1 => ?_⟩
  refine ⟨⟨_, rfl⟩, _, rfl, _, rfl, fun D hD => ?_⟩
  refine lc_vals walk_str ((bec t l).map fun c => V.str (S [c])) hD (fun _ _ => trivial) (by show l.length ≤ sizeLine; unfold sizeLine; omega) (by simp [bec]) ?_ ?_
  · intro i x H2 H3 hi s2 y Kn El hk
    obtain ⟨rfl, c, hc, rfl⟩ := y
    have hm : c ∈ l := List.mem_of_getElem? (by simpa using hc)
    have hc2 : l[i]? = some c := by simpa using hc
    refine ⟨rfl, ?_⟩
    refine ⟨_, rfl, _, rfl, t, c, rfl, ht, hl c hm, hk _ _ (Same.refl _) ?_⟩
    simp [bec, hc2]
  · intro H2 s2 e2
    refine ⟨_, _, (bec t l).map fun c => S [c], rfl, rfl, .inl (SqL.of (by rw [e2, List.map_map]; rfl)), ?_, ?_⟩
    · have e := ones_len (bec t l)
      have e3 : (bec t l).length = l.length := by simp [bec]
      have e4 : ("" : Str).length = 0 := rfl
      rw [e, e4]
      omega
    · rw [join_ones]
      exact k _ (s1.trans s2)
def spThen : Sp := fun vs H Q _ => ∃ t u : List Nat, vs = [.str (S t), .str (S u)] ∧ t ∈ turns8 ∧ u ∈ turns8 ∧ ∀ H', Same H H' → Q (.str (S (bec u t))) H'
theorem ok_then (T : Txt K mg) (h1 : C8.Cal P w K mg base 2 "want_turn" spWantTurn []) (h2 : C8.Cal P w K mg base 4 "row_turned" spRowTurned []) : C8.Cal P w K mg base 5 "then" spThen [] := by
  refine cal T.f_then (N := ["one", "other"]) (ps := ["one", "other"]) (by decide +kernel) (fun _ _ _ _ _ _ us hl => match us, hl with | [_, _], _ => rfl) (fun vs H Q E h => by obtain ⟨_, _, rfl, _⟩ := h; rfl) (fun f cdv A outer s H vs Q E hr h => ?_)
  obtain ⟨t, u, rfl, ht, hu, k⟩ := h
  refine ⟨_, pss_cons (ps_expr (C8.pe_c h1 hr (by decide) rfl (pa_cons (pv 0) pa_nil)))
    (pss_cons (ps_expr (C8.pe_c h1 hr (by decide) rfl (pa_cons (pv 1) pa_nil)))
    (pss_one (ps_ret (C8.pe_c h2 hr (by decide) rfl (pa_cons (pv 1) (pa_cons (pv 0) pa_nil)))))), ?_⟩
  refine ⟨_, rfl, t, rfl, ht, _, rfl, u, rfl, hu, _, rfl, _, rfl, u, t, rfl, hu, turn_deeds ht, by rw [turn_len ht]; decide, fun H' s => k _ s⟩
end
end K79
/-! part W3 -/
/-! The floor: size, has, seen, can_stand; next_to. -/
namespace K79
open PySem PySem.Spec PyProof.Rows L2
def FlV (K : PySem.W.Frag) (H : Hp) (a : Addr) (r : Rows) : Prop := ∃ dx q, H a = some (.ins (cF K) dx [("texts", .ref q)]) ∧ SqT K H q (r.map fun l => V.str (S l))
theorem FlV.same {K : PySem.W.Frag} {H H' : Hp} {a : Addr} {r : Rows} (h : FlV K H a r) (s : Same H H') : FlV K H' a r := by
  obtain ⟨dx, q, h1, h2⟩ := h
  exact ⟨dx, q, s _ _ h1, sqT_keep h2 (Same.keepT s)⟩
theorem pl_same {K : PySem.W.Frag} {H H' : Hp} {v : V} {p : Pl} (h : PlV K H v p) (s : Same H H') : PlV K H' v p := h.keep (Same.keepT s)
theorem pv_same {K : PySem.W.Frag} {H H' : Hp} {v : V} {p : Post} (h : PV K H v p) (s : Same H H') : PV K H' v p := h.keep (Same.keepT s)
theorem RowsOk.row0 {r : Rows} (R : RowsOk r) : ∃ l, r[0]? = some l ∧ l ∈ r ∧ l.length = wid r := by
  have h := R.h1
  cases r with
  | nil => exact absurd h (by decide)
  | cons l r => exact ⟨l, rfl, List.mem_cons_self, rfl⟩
section
variable {P : Program} {w : World} {K : PySem.W.Frag} {mg : Str → Option Value} {base : Heap}
theorem hu1 {k : Nat} {A : Around} (h : Room k A) : A.units + 65 < cLine := by have := h.un; omega
theorem small {n : Nat} (h : n ≤ 1000) : n ≤ sizeLine := Nat.le_of_lt (small1000 h)
def spSize (K : PySem.W.Frag) : Sp := fun vs H Q _ => ∃ a r, vs = [.ref a] ∧ FlV K H a r ∧ RowsOk r ∧ ∀ q H', Same H H' → SqT K H' q [.int (hgt r : Nat), .int (wid r : Nat)] → Q (.ref q) H'
theorem ok_size (T : Txt K mg) : C8.Met P w K mg base 1 (cF K) "size" (spSize K) [] := by
  refine met T.clF T.f_Floor_size (N := ["self"]) (ps := ["self"]) (by decide +kernel) (fun _ _ _ _ _ _ us hl => match us, hl with | [_], _ => rfl) (fun vs H Q E h => by obtain ⟨_, _, rfl, _⟩ := h; rfl) (fun f cdv A outer s H vs Q E hr h => ?_)
  obtain ⟨a, r, rfl, ⟨dx, q, ha, hq⟩, R, k⟩ := h
  obtain ⟨l, h0, hm, hl⟩ := R.row0
  refine ⟨_, pss_one (ps_ret (pe_tup (pa_cons (pe_callB call_len (by rfl) T.b_len PySem.boot_len (pa_cons (pe_fld (pv 0) rfl) pa_nil)) (pa_cons (pe_callB call_len (by rfl) T.b_len PySem.boot_len (pa_cons (pe_ix ix_tup (pe_fld (pv 0) rfl) pe_int (fun _ _ => rfl)) pa_nil)) pa_nil)))), ?_⟩
  refine ⟨_, rfl, a, _, dx, _, _, rfl, ha, T.clF, T.n_texts, rfl, _, _, rfl, .inr ⟨_, hq, rfl⟩, ?_⟩
  refine ⟨_, rfl, a, _, dx, _, _, rfl, ha, T.clF, T.n_texts, rfl, q, _, _, .str (S l), rfl, rfl, hq, atI_nat (j := 0) (by rw [List.getElem?_map, h0]; rfl), ?_⟩
  have w6 := R.w6
  refine ⟨_, l.length, rfl, ⟨by show l.length ≤ sizeLine; exact small (by omega), rfl⟩, ?_⟩
  refine ⟨by show 2 ≤ sizeLine; decide, fun t ht => ?_⟩
  refine k _ _ (Same.new ht) (SqT.of ?_)
  rw [upd_same, List.length_map, hl]
  rfl
def spHas (K : PySem.W.Frag) : Sp := fun vs H Q _ => ∃ a r v p, vs = [.ref a, v] ∧ FlV K H a r ∧ RowsOk r ∧ PlV K H v p ∧ ∀ H', Same H H' → Q (.bl (onF r p)) H'
theorem ok_has (T : Txt K mg) (h1 : C8.Met P w K mg base 1 (cF K) "size" (spSize K) []) (h2 : C8.Cal P w K mg base 3 "is_place" (spIsPlace K) []) : C8.Met P w K mg base 4 (cF K) "has" (spHas K) [] := by
  have SC : C8.scC ["self", "thing", "rows", "columns"] ["self", "thing"] (C8.fnScope s_Floor_has) = true := by decide +kernel
  have nd := (C8.fnScope_by SC).nd
  refine met T.clF T.f_Floor_has SC (fun _ _ _ _ _ _ us hl => match us, hl with | [_, _], _ => rfl) (fun vs H Q E h => by obtain ⟨_, _, _, _, rfl, _⟩ := h; rfl) (fun f cdv A outer s H vs Q E hr h => ?_)
  obtain ⟨a, r, v, p, rfl, hf, R, hp, k⟩ := h
  refine ⟨_, pss_cons (ps_asg (C8.pe_mt0 h1 hr (by decide) (pv 0)) (pg_tup rfl (pgs_cons (pg_name (i := 2) nd rfl (.inl rfl)) (pgs_cons (pg_name (i := 3) nd rfl (.inl rfl)) pgs_nil))))
    (pss_one (ps_ret (C8.pe_c h2 hr (by decide) rfl (pa_cons (pv 1) (pa_cons (pv 2) (pa_cons (pv 3) pa_nil)))))), ?_⟩
  have hf' := hf
  obtain ⟨dx, q, ha, hq⟩ := hf'
  refine ⟨_, rfl, a, dx, _, rfl, ha, rfl, a, r, rfl, hf, R, fun t H1 s1 ht => ?_⟩
  refine ⟨t, _, rfl, ht, rfl, _, _, rfl, _, _, rfl, rfl, ?_⟩
  exact ⟨_, rfl, _, rfl, _, rfl, v, p, _, _, rfl, pl_same hp s1, k _ s1⟩
def spSeen (K : PySem.W.Frag) : Sp := fun vs H Q _ => ∃ a r v p, vs = [.ref a, v] ∧ FlV K H a r ∧ RowsOk r ∧ PlV K H v p ∧ ∀ H', Same H H' → Q (.str (S [sgn r p])) H'
theorem ok_seen (T : Txt K mg) (h1 : C8.Met P w K mg base 4 (cF K) "has" (spHas K) []) : C8.Met P w K mg base 5 (cF K) "seen" (spSeen K) [] := by
  obtain ⟨tw, hw⟩ := T.c_WALL
  refine met T.clF T.f_Floor_seen (N := ["self", "place"]) (ps := ["self", "place"]) (by decide +kernel) (fun _ _ _ _ _ _ us hl => match us, hl with | [_, _], _ => rfl) (fun vs H Q E h => by obtain ⟨_, _, _, _, rfl, _⟩ := h; rfl) (fun f cdv A outer s H vs Q E hr h => ?_)
  obtain ⟨a, r, v, p, rfl, hf, R, hp, k⟩ := h
  refine ⟨_, pss_cons (ps_if (pt_not (pt_val (C8.pe_mt h1 hr (by decide) (pv 0) (pa_cons (pv 1) pa_nil)))) (pss_one (ps_ret (pe_glob (by rfl) hw (v := .str "#") ⟨_, rfl⟩))) pss_nil)
    (pss_one (ps_ret (pe_ix ix_str (pe_ix ix_tup (pe_fld (pv 0) rfl) (pe_ix ix_tup (pv 1) pe_int (fun _ _ => rfl)) (fun _ _ => rfl)) (pe_ix ix_tup (pv 1) pe_int (fun _ _ => rfl)) (fun _ _ => rfl)))), ?_⟩
  have hf' := hf
  obtain ⟨dx, q, ha, hq⟩ := hf'
  refine ⟨_, rfl, a, dx, _, rfl, ha, rfl, _, rfl, a, r, v, p, rfl, hf, R, hp, fun H1 s1 => ?_⟩
  refine ⟨_, rfl, ?_⟩
  by_cases e : onF r p = true
  · rw [e]
    obtain ⟨l, hl, hm, hc, hw⟩ := R.row e
    obtain ⟨⟨e1, e2⟩, e3, e4⟩ := onF_iff.mp e
    obtain ⟨t, rfl, ht⟩ := hp
    have ht1 := sqT_keep ht (Same.keepT s1)
    refine iteF ⟨_, rfl, a, _, dx, _, _, rfl, s1 _ _ ha, T.clF, T.n_texts, rfl, _, rfl, t, _, _, _, rfl, rfl, ht1, atI_nat (j := 0) rfl, ?_⟩
    refine ⟨q, _, _, .str (S l), rfl, rfl, sqT_keep hq (Same.keepT s1), ?_, ?_⟩
    · rw [show p.1 = ((p.1.toNat : Nat) : Int) by omega]
      exact atI_nat (by rw [List.getElem?_map, hl]; rfl)
    refine ⟨_, rfl, t, _, _, _, rfl, rfl, ht1, atI_nat (j := 1) rfl, ?_⟩
    have w6 := R.w6
    refine ⟨S l, _, sgn r p, rfl, rfl, ?_, ?_, k _ s1⟩
    · show l.length ≤ sizeLine
      exact small (by omega)
    · rw [show p.2 = ((p.2.toNat : Nat) : Int) by omega]
      exact atI_nat (by exact hc)
  · have e2 : sgn r p = 35 := by
      unfold sgn
      rw [if_neg e]
    rw [e2] at k
    rw [Bool.eq_false_iff.mpr e]
    exact iteT (k _ s1)
def spCanStand (K : PySem.W.Frag) : Sp := fun vs H Q _ => ∃ a r v p, vs = [.ref a, v] ∧ FlV K H a r ∧ RowsOk r ∧ PlV K H v p ∧ ∀ H', Same H H' → Q (.bl (canS r p)) H'
theorem openIce : (".abcd" : Str) ++ ("~" : Str) = S [46, 97, 98, 99, 100, 126] := by decide +kernel
theorem ok_can_stand (T : Txt K mg) (h1 : C8.Met P w K mg base 4 (cF K) "has" (spHas K) []) (h2 : C8.Met P w K mg base 5 (cF K) "seen" (spSeen K) []) : C8.Met P w K mg base 6 (cF K) "can_stand" (spCanStand K) [] := by
  obtain ⟨to, ho⟩ := T.c_OPEN
  obtain ⟨ti, hi⟩ := T.c_ICE
  refine met T.clF T.f_Floor_can_stand (N := ["self", "thing"]) (ps := ["self", "thing"]) (by decide +kernel) (fun _ _ _ _ _ _ us hl => match us, hl with | [_, _], _ => rfl) (fun vs H Q E h => by obtain ⟨_, _, _, _, rfl, _⟩ := h; rfl) (fun f cdv A outer s H vs Q E hr h => ?_)
  obtain ⟨a, r, v, p, rfl, hf, R, hp, k⟩ := h
  refine ⟨_, pss_one (ps_ret (pe_and (C8.pe_mt h1 hr (by decide) (pv 0) (pa_cons (pv 1) pa_nil)) (pe_one (pe_cmpR op_in_sign (C8.pe_mt h2 hr (by decide) (pv 0) (pa_cons (pv 1) pa_nil)) (pe_op op_add_str (pe_glob (by rfl) ho (v := .str ".abcd") ⟨_, rfl⟩) (pe_glob (by rfl) hi (v := .str "~") ⟨_, rfl⟩)) (by rfl))))), ?_⟩
  have hf' := hf
  obtain ⟨dx, q, ha, hq⟩ := hf'
  refine ⟨_, rfl, a, dx, _, rfl, ha, rfl, _, rfl, a, r, v, p, rfl, hf, R, hp, fun H1 s1 => ?_⟩
  refine ⟨_, rfl, ?_⟩
  unfold canS at k
  by_cases e : onF r p = true
  · rw [e] at k ⊢
    refine iteT ⟨_, rfl, a, dx, _, rfl, s1 _ _ ha, rfl, _, rfl, a, r, v, p, rfl, hf.same s1, R, pl_same hp s1, fun H2 s2 => ?_⟩
    refine ⟨_, _, rfl, rfl, by decide +kernel, ?_⟩
    refine ⟨_, _, rfl, rfl, ?_⟩
    rw [openIce]
    rw [Bool.true_and] at k
    exact k _ (s1.trans s2)
  · rw [Bool.eq_false_iff.mpr e] at k ⊢
    exact iteF (k _ s1)
def spNextTo (K : PySem.W.Frag) : Sp := fun vs H Q _ => ∃ v p c, vs = [v, .str (S [c])] ∧ PlV K H v p ∧ c ∈ deeds ∧ ∀ v' H', Same H H' → PlV K H' v' (nxt p c) → Q v' H'
theorem ok_next_to (T : Txt K mg) : C8.Cal P w K mg base 1 "next_to" (spNextTo K) [] := by
  obtain ⟨td, hd⟩ := T.c_DEEDS
  have SC : C8.scC ["place", "way", "down", "along"] ["place", "way"] (C8.fnScope s_next_to) = true := by decide +kernel
  have nd := (C8.fnScope_by SC).nd
  refine cal T.f_next_to SC (fun _ _ _ _ _ _ us hl => match us, hl with | [_, _], _ => rfl) (fun vs H Q E h => by obtain ⟨_, _, _, rfl, _⟩ := h; rfl) (fun f cdv A outer s H vs Q E hr h => ?_)
  obtain ⟨v, p, c, rfl, ⟨q, rfl, hq⟩, hc, k⟩ := h
  refine ⟨_, pss_cons (ps_asg (pe_ix ix_tup (pe_glob (by rfl) T.c_STEPS (v := .ref (He.ga K "STEPS")) rfl) (pe_bmS PySem.F.plainAttrs_str PySem.F.slot_str_index PySem.F.type_str_index (mt_indexX (W := fun _ _ _ _ => False) rfl takes0) (pe_glob (by rfl) hd (v := .str "urdl") ⟨_, rfl⟩) (pa_cons (pv 1) pa_nil)) (fun _ _ => rfl))
      (pg_tup rfl (pgs_cons (pg_name (i := 2) nd rfl (.inl rfl)) (pgs_cons (pg_name (i := 3) nd rfl (.inl rfl)) pgs_nil))))
    (pss_one (ps_ret (pe_tup (pa_cons (pe_op op_add (pe_ix ix_tup (pv 0) pe_int (fun _ _ => rfl)) (pv 2)) (pa_cons (pe_op op_add (pe_ix ix_tup (pv 0) pe_int (fun _ _ => rfl)) (pv 3)) pa_nil))))), ?_⟩
  refine ⟨rfl, _, rfl, _, _, rfl, rfl, fun j hj => ?_, fun hn => ?_⟩
  · rw [show (S [c]) = ⟨#[c]⟩ from rfl, index_deed hc] at hj
    cases hj
    have hs : ∃ t, (stepsV K)[ix c]? = some (.ref t) ∧ SqT K H t [.int (stp c).1, .int (stp c).2] := by
      have h2 : ix c = 0 ∨ ix c = 1 ∨ ix c = 2 ∨ ix c = 3 := by
        have := ix_lt c
        omega
      unfold stp
      rcases h2 with e | e | e | e <;> rw [e]
      · exact ⟨_, rfl, T.step0 _⟩
      · exact ⟨_, rfl, T.step1 _⟩
      · exact ⟨_, rfl, T.step2 _⟩
      · exact ⟨_, rfl, T.step3 _⟩
    obtain ⟨t, h1, h2⟩ := hs
    refine ⟨_, _, _, .ref t, rfl, rfl, T.steps _, atI_nat h1, ?_⟩
    refine ⟨t, _, rfl, h2, rfl, _, _, rfl, _, _, rfl, rfl, ?_⟩
    refine ⟨_, rfl, q, _, _, _, rfl, rfl, hq, atI_nat (j := 0) rfl, _, rfl, _, _, rfl, rfl, ?_⟩
    refine ⟨_, rfl, q, _, _, _, rfl, rfl, hq, atI_nat (j := 1) rfl, _, rfl, _, _, rfl, rfl, ?_⟩
    refine ⟨by show 2 ≤ sizeLine; decide, fun u hu => ?_⟩
    exact k _ _ (Same.new hu) ⟨u, rfl, SqT.of upd_same⟩
  · rw [show (S [c]) = ⟨#[c]⟩ from rfl, index_deed hc] at hn
    cases hn
end
end K79
/-! part W4 -/
/-! The floor: goes. -/
namespace K79
open PySem PySem.Spec PyProof.Rows L2
section
variable {P : Program} {w : World} {K : PySem.W.Frag} {mg : Str → Option Value} {base : Heap}
theorem dec_S (a b : List Nat) : decide (V.str (S a) = V.str (S b)) = decide (a = b) := by
  by_cases h : a = b
  · rw [h, decide_eq_true rfl, decide_eq_true rfl]
  · rw [decide_eq_false h, decide_eq_false fun e => h (S_inj (V.str.inj e))]
theorem iceE : ("~" : Str) = S [126] := by decide +kernel
theorem wallE : ("#" : Str) = S [35] := by decide +kernel
theorem pitE : ("x" : Str) = S [120] := by decide +kernel
theorem one_eq (a b : Nat) : decide (([a] : List Nat) = [b]) = decide (a = b) := by
  by_cases h : a = b
  · rw [h, decide_eq_true rfl, decide_eq_true rfl]
  · rw [decide_eq_false h, decide_eq_false fun e => h (List.cons.inj e).1]
/-- a place, or none -/
def OplV (K : PySem.W.Frag) (H : Hp) (v : V) : Option Pl → Prop
  | none => v = .non
  | some p => PlV K H v p
def spGoes (K : PySem.W.Frag) : Sp := fun vs H Q _ => ∃ a r v p c, vs = [.ref a, v, .str (S [c])] ∧ FlV K H a r ∧ RowsOk r ∧ PlV K H v p ∧ canS r p = true ∧ c ∈ deeds ∧ ∀ v' H', Same H H' → OplV K H' v' (goes r p c) → Q v' H'
theorem ok_goes (T : Txt K mg) (h1 : C8.Met P w K mg base 6 (cF K) "can_stand" (spCanStand K) []) (h2 : C8.Cal P w K mg base 1 "want_deed" spWantDeed []) (h3 : C8.Cal P w K mg base 1 "next_to" (spNextTo K) []) (h4 : C8.Met P w K mg base 5 (cF K) "seen" (spSeen K) []) : C8.Met P w K mg base 7 (cF K) "goes" (spGoes K) [] := by
  obtain ⟨ti, hi⟩ := T.c_ICE
  obtain ⟨tw, hw⟩ := T.c_WALL
  obtain ⟨tp, hpi⟩ := T.c_PIT
  have SC : C8.scC ["self", "place", "way", "here", "there"] ["self", "place", "way"] (C8.fnScope s_Floor_goes) = true := by decide +kernel
  have nd := (C8.fnScope_by SC).nd
  refine met T.clF T.f_Floor_goes SC (fun _ _ _ _ _ _ us hl => match us, hl with | [_, _, _], _ => rfl) (fun vs H Q E h => by obtain ⟨_, _, _, _, _, rfl, _⟩ := h; rfl) (fun f cdv A outer s H vs Q E hr h => ?_)
  obtain ⟨a, r, v, p, c, rfl, hf, R, hp, hs, hc, k⟩ := h
  refine ⟨_, pss_cons (ps_if (pt_not (pt_val (C8.pe_mt h1 hr (by decide) (pv 0) (pa_cons (pv 1) pa_nil)))) pss_never pss_nil)
    (pss_cons (ps_expr (C8.pe_c h2 hr (by decide) rfl (pa_cons (pv 2) pa_nil)))
    (pss_cons (ps_par (i := 3) (j := 4) (by rfl) nd rfl rfl (by decide) rfl rfl (pa_cons (pv 1) (pa_cons (C8.pe_c h3 hr (by decide) rfl (pa_cons (pv 1) (pa_cons (pv 2) pa_nil))) pa_nil)) (by rfl))
    (pss_cons (ps_while PassesOwn.never (pt_cmpR op_eq (C8.pe_mt h4 hr (by decide) (pv 0) (pa_cons (pv 4) pa_nil)) (pe_glob (by rfl) hi (v := .str "~") ⟨_, rfl⟩) (nomark _))
        (pss_one (ps_par (i := 3) (j := 4) (by rfl) nd rfl rfl (by decide) rfl rfl (pa_cons (pv 4) (pa_cons (C8.pe_c h3 hr (by decide) rfl (pa_cons (pv 4) (pa_cons (pv 2) pa_nil))) pa_nil)) (by rfl))))
    (pss_cons (ps_if (pt_cmpR op_eq (C8.pe_mt h4 hr (by decide) (pv 0) (pa_cons (pv 4) pa_nil)) (pe_glob (by rfl) hw (v := .str "#") ⟨_, rfl⟩) (nomark _)) (pss_one (ps_ret (pv 3))) pss_nil)
    (pss_one (ps_ret (pe_ifExp (pt_cmpR op_eq (C8.pe_mt h4 hr (by decide) (pv 0) (pa_cons (pv 4) pa_nil)) (pe_glob (by rfl) hpi (v := .str "x") ⟨_, rfl⟩) (nomark _)) pe_non (pv 4)))))))), ?_⟩
  have hf' := hf
  obtain ⟨dx, q, ha, hq⟩ := hf'
  refine ⟨_, rfl, a, dx, _, rfl, ha, rfl, _, rfl, a, r, v, p, rfl, hf, R, hp, fun H1 s1 => ?_⟩
  refine ⟨_, rfl, ?_⟩
  rw [hs]
  refine iteF ⟨_, rfl, c, rfl, hc, ?_⟩
  refine ⟨_, rfl, _, rfl, _, rfl, v, p, c, rfl, pl_same hp s1, hc, fun v2 H2 s2 hv2 => ?_⟩
  refine ⟨_, _, rfl, ?_⟩
  refine ⟨fun m σ H' => Same H H' ∧ ∃ vh vt h t, σ = [some (.ref a), some v, some (.str (S [c])), some vh, some vt] ∧ PlV K H' vh h ∧ PlV K H' vt t ∧ slide r c m h t = slid r p c ∧ 6 - pot c t ≤ (m : Int),
    ⟨20, s1.trans s2, v, v2, p, nxt p c, rfl, pl_same hp (s1.trans s2), hv2, rfl, fuel_ok R hs c⟩, ?_⟩
  rintro m σ H3 ⟨s3, vh, vt, h, t, rfl, hh, ht, e, hm⟩
  refine ⟨_, rfl, a, dx, _, rfl, s3 _ _ ha, rfl, _, rfl, a, r, vt, t, rfl, hf.same s3, R, ht, fun H4 s4 => ?_⟩
  refine ⟨rfl, _, rfl, ?_⟩
  rw [iceE, dec_S, one_eq]
  have s04 := s3.trans s4
  by_cases ei : sgn r t = 126
  · rw [decide_eq_true ei]
    obtain ⟨n, rfl, hn⟩ := ice_room R ei hm
    refine iteT ⟨fun σ' H' => Same H H' ∧ ∃ vh vt h t, σ' = [some (.ref a), some v, some (.str (S [c])), some vh, some vt] ∧ PlV K H' vh h ∧ PlV K H' vt t ∧ slide r c n h t = slid r p c ∧ 6 - pot c t ≤ (n : Int), fun σ' H' h => ⟨n, Nat.lt_succ_self _, h⟩, ?_⟩
    refine ⟨_, rfl, _, rfl, _, rfl, vt, t, c, rfl, pl_same ht s4, hc, fun v5 H5 s5 hv5 => ?_⟩
    refine ⟨_, _, rfl, s04.trans s5, vt, v5, t, nxt t c, rfl, pl_same ht (s4.trans s5), hv5, ?_, hn⟩
    rw [← e, slide_ice ei]
  · rw [decide_eq_false ei]
    refine iteF ?_
    rw [slide_end ei] at e
    refine ⟨_, rfl, a, dx, _, rfl, s04 _ _ ha, rfl, _, rfl, a, r, vt, t, rfl, hf.same s04, R, pl_same ht s4, fun H5 s5 => ?_⟩
    refine ⟨rfl, _, rfl, ?_⟩
    rw [wallE, dec_S, one_eq]
    have s05 := s04.trans s5
    unfold goes at k
    rw [← e] at k
    by_cases ew : sgn r t = 35
    · rw [decide_eq_true ew]
      rw [if_pos ew] at k
      exact iteT ⟨_, rfl, k _ _ s05 (pl_same hh (s4.trans s5))⟩
    · rw [decide_eq_false ew]
      rw [if_neg ew] at k
      refine iteF ?_
      refine ⟨_, rfl, a, dx, _, rfl, s05 _ _ ha, rfl, _, rfl, a, r, vt, t, rfl, hf.same s05, R, pl_same ht (s4.trans s5), fun H6 s6 => ?_⟩
      refine ⟨rfl, _, rfl, ?_⟩
      rw [pitE, dec_S, one_eq]
      by_cases ep : sgn r t = 120
      · rw [decide_eq_true ep]
        rw [if_pos ep] at k
        exact iteT (k _ _ (s05.trans s6) rfl)
      · rw [decide_eq_false ep]
        rw [if_neg ep] at k
        exact iteF ⟨_, rfl, k _ _ (s05.trans s6) (pl_same ht ((s4.trans s5).trans s6))⟩
end
end K79
/-! part KV -/
/-! Rules with the frame as a letter of its own (for use inside a comprehension). -/
namespace K79
open PySem PySem.Spec PyProof.Rows L2
section
variable {X : Cx} {K : PySem.W.Frag}
theorem k_any (hK : X.K = K) (hc : X.calm = true) : CallR X (.builtin "any") (rAny K) := by subst hK; exact cr_any hc
theorem k_all (hK : X.K = K) (hc : X.calm = true) : CallR X (.builtin "all") (rAll K) := by subst hK; exact cr_all hc
theorem k_fld {e : Expr} {f : Str} {pos : Pos} {ta : TE} (hK : X.K = K) (he : PE X e ta) (hb : attributeBase e f X.env (eval e X.env) = eval e X.env) : PE X (.Attribute e f pos) (tFld K ta f) := by subst hK; exact pe_fld he hb
theorem k_ixT (hK : X.K = K) : IxR X (rIxT K) := by subst hK; exact ix_tup
theorem k_ixL (hK : X.K = K) : IxR X (rIxL K) := by subst hK; exact ix_list
theorem k_list {tg l : Expr} {tl : TE} (hK : X.K = K) (hl : PE X l tl) : PI X tg l (iList K tl) := by subst hK; exact pi_list hl
theorem k_tup {tg l : Expr} {tl : TE} (hK : X.K = K) (hl : PE X l tl) : PI X tg l (iTup K tl) := by subst hK; exact pi_tup hl
theorem k_gtup {es : List Expr} {k : Nat} {pos : Pos} {t : TGs} {n : Nat} (hK : X.K = K) (hc : X.calm = true) (h : PGs X es t) (hn : (assignEach es X.env).length = n := by rfl) (hst : (assignEach es X.env).findIdx? (·.1) = none := by rfl) : PG X (.Tuple es k pos) (gTup K n t) := by subst hK; exact pg_tup hc h hn hst
theorem k_len (hK : X.K = K) : CallR X (.builtin "len") (fun xs H Q => ∃ x n, xs = [x] ∧ LenV K x H n ∧ Q (.int n) H) := by subst hK; exact call_len
theorem k_eqD (hK : X.K = K) (hu : X.A.units + 64 < cLine) : OpR X (compareOp .Eq) (rEqD K) := by subst hK; exact op_eqD hu
theorem k_neD (hK : X.K = K) (hu : X.A.units + 64 < cLine) : OpR X (compareOp .NotEq) (rNeD K) := by subst hK; exact op_neD hu
theorem k_inD (hK : X.K = K) (hu : X.A.units + 65 < cLine) : OpR X (compareOp .In) (rInD K) := by subst hK; exact op_inD hu
theorem k_notInD (hK : X.K = K) (hu : X.A.units + 65 < cLine) : OpR X (compareOp .NotIn) (rNotInD K) := by subst hK; exact op_notInD hu
theorem k_isi (hK : X.K = K) : CallR X (.builtin "isinstance") (rIsi K) := by subst hK; exact call_isi
end
end K79
/-! part W5 -/
/-! The floor: letters, places, open_places. -/
namespace K79
open PySem PySem.Spec PyProof.Rows L2
def lettersOf (r : Rows) : List Nat := [97, 98, 99, 100].filter fun c => r.any fun l => decide (c ∈ l)
def cells (h w : Nat) : List Pl := (List.range h).flatMap fun (y : Nat) => (List.range w).map fun (x : Nat) => ((y : Int), (x : Int))
theorem cells_mem {r : Rows} {p : Pl} (h : onF r p = true) : p ∈ cells (hgt r) (wid r) := by
  obtain ⟨⟨a, b⟩, c, d⟩ := onF_iff.mp h
  simp only [cells, List.mem_flatMap, List.mem_range, List.mem_map]
  refine ⟨p.1.toNat, by omega, p.2.toNat, by omega, ?_⟩
  have e1 : ((p.1.toNat : Nat) : Int) = p.1 := by omega
  have e2 : ((p.2.toNat : Nat) : Int) = p.2 := by omega
  rw [e1, e2]
theorem cells_on {r : Rows} {p : Pl} (h : p ∈ cells (hgt r) (wid r)) : onF r p = true := by
  simp only [cells, List.mem_flatMap, List.mem_range, List.mem_map] at h
  obtain ⟨y, hy, x, hx, rfl⟩ := h
  exact onF_iff.mpr ⟨⟨by omega, by show (y : Int) < hgt r; omega⟩, by show (0 : Int) ≤ x; omega, by show (x : Int) < wid r; omega⟩
theorem cells_succ (i w : Nat) : cells (i + 1) w = cells i w ++ (List.range w).map fun (x : Nat) => ((i : Int), (x : Int)) := by
  unfold cells
  rw [List.range_succ, List.flatMap_append]
  simp
theorem cells_len (h w : Nat) : (cells h w).length = h * w := by
  induction h with
  | zero => simp [cells]
  | succ h ih =>
    rw [cells_succ, List.length_append, ih, List.length_map, List.length_range, Nat.succ_mul]
def PLs (K : PySem.W.Frag) (H : Hp) : List V → List Pl → Prop := Paired (PlV K H)
theorem PLs.keep {K : PySem.W.Frag} {H H' : Hp} {vs : List V} {xs : List Pl} (h : PLs K H vs xs) (k : KeepT H H') : PLs K H' vs xs := Paired.mapP h fun _ _ z => z.keep k
theorem PLs.app {K : PySem.W.Frag} {H : Hp} : ∀ {vs us : List V} {xs ys : List Pl}, PLs K H vs xs → PLs K H us ys → PLs K H (vs ++ us) (xs ++ ys)
  | _, _, _, _, .nil, h => h
  | _, _, _, _, .cons r t, h => .cons r (PLs.app t h)
theorem PLs.one {K : PySem.W.Frag} {H : Hp} {v : V} {x : Pl} (h : PlV K H v x) : PLs K H [v] [x] := .cons h .nil
theorem PLs.len {K : PySem.W.Frag} {H : Hp} {vs : List V} {xs : List Pl} (h : PLs K H vs xs) : vs.length = xs.length := Paired.length h
theorem PLs.at {K : PySem.W.Frag} {H : Hp} : ∀ {vs : List V} {xs : List Pl} {i : Nat} {v : V}, PLs K H vs xs → vs[i]? = some v → ∃ x, xs[i]? = some x ∧ PlV K H v x
  | _, _, i, _, .nil, e => by simp at e
  | _, _, 0, _, .cons r _, e => by
    simp only [List.getElem?_cons_zero, Option.some.injEq] at e
    subst e
    exact ⟨_, rfl, r⟩
  | _, _, i + 1, _, .cons _ t, e => by
    simp only [List.getElem?_cons_succ] at e
    obtain ⟨x, h1, h2⟩ := PLs.at t e
    exact ⟨x, by simpa using h1, h2⟩
theorem PLs.dp {K : PySem.W.Frag} {H : Hp} : ∀ {vs : List V} {xs : List Pl}, PLs K H vs xs → DpAll K H vs (xs.map pdPl)
  | _, _, .nil => .nil
  | _, _, .cons h t => .cons h.dp (PLs.dp t)
theorem take_succ_filter {f : Nat → Bool} {l : List Nat} {i c : Nat} (h : l[i]? = some c) : (l.take (i + 1)).filter f = (l.take i).filter f ++ (if f c = true then [c] else []) := by
  rw [List.take_succ, h, List.filter_append]
  by_cases e : f c = true
  · rw [if_pos e]; simp [e]
  · rw [if_neg e]; simp [e]
theorem take_succ_filterP {α : Type} {f : α → Bool} {l : List α} {i : Nat} {c : α} (h : l[i]? = some c) : (l.take (i + 1)).filter f = (l.take i).filter f ++ (if f c = true then [c] else []) := by
  rw [List.take_succ, h, List.filter_append]
  by_cases e : f c = true
  · rw [if_pos e]; simp [e]
  · rw [if_neg e]; simp [e]
section
variable {P : Program} {w : World} {K : PySem.W.Frag} {mg : Str → Option Value} {base : Heap}
def spLetters (K : PySem.W.Frag) : Sp := fun vs H Q _ => ∃ a r, vs = [.ref a] ∧ FlV K H a r ∧ RowsOk r ∧ ∀ H', Same H H' → Q (.str (S (lettersOf r))) H'
theorem ok_letters (T : Txt K mg) : C8.Met P w K mg base 1 (cF K) "letters" (spLetters K) [] := by
  obtain ⟨tl, hl⟩ := T.c_LETTERS
  have SC : C8.scC ["self", "letter", "text"] ["self"] (C8.fnScope s_Floor_letters) = true := by decide +kernel
  have nd := (C8.fnScope_by SC).nd
  refine met T.clF T.f_Floor_letters SC (fun _ _ _ _ _ _ us hl => match us, hl with | [_], _ => rfl) (fun vs H Q E h => by obtain ⟨_, _, rfl, _⟩ := h; rfl) (fun f cdv A outer s H vs Q E hr h => ?_)
  obtain ⟨a, r, rfl, hf, R, k⟩ := h
  refine ⟨_, pss_one (ps_ret (pe_join pe_str (pe_lc (own := [("letter", 1)]) (g := gName 1) rfl nd (pi_str (pe_glob (by rfl) hl (v := .str "abcd") ⟨_, rfl⟩)) (blkOk_by (N := ["self", "letter", "text"]) (sc := C8.fnScope s_Floor_letters) (by decide +kernel)) (fun _ _ _ _ _ => pg_name (i := 1) nd rfl (.inr rfl))
      (fun _ _ _ _ _ => pts_one (pt_val (pe_callB (k_any (K := K) rfl rfl) (by rfl) T.b_any (by decide +kernel) (pa_cons (pe_lc (own := [("text", 2)]) (g := gName 2) (tt := tYes) rfl nd (k_tup (K := K) rfl (k_fld (K := K) rfl (pv 0) rfl))
        (by refine blkOk_by (N := ["self", "letter", "text"]) (sc := relS _ (C8.fnScope s_Floor_letters)) ?_; decide +kernel) (fun _ _ _ _ _ => pg_name (i := 2) nd rfl (.inl rfl)) (fun _ _ _ _ _ => pts_nil)
        (fun _ _ _ _ _ => pe_cmpR op_in_sign (pv 1) (pv 2) (by rfl))) pa_nil))))
      (fun _ _ _ _ _ => pv 1)))), ?_⟩
  obtain ⟨dx, q, ha, hq⟩ := hf
  refine ⟨⟨_, rfl⟩, _, rfl, fun D hD => ?_⟩
  refine lc_gen walk_str (fun i l _ => l = ((([97, 98, 99, 100] : List Nat).take i).filter fun c => r.any fun l => decide (c ∈ l)).map fun c => V.str (S [c])) hD (fun _ _ => trivial) (by show 4 ≤ sizeLine; decide) (fun _ _ _ _ _ r => r) rfl ?_ ?_
  · intro i l x H2 H3 hi s2 rl y Kn El hk he
    obtain ⟨rfl, c, hc, rfl⟩ := y
    have hc2 : ([97, 98, 99, 100] : List Nat)[i]? = some c := by
      have e : ("abcd" : Str).cps = #[97, 98, 99, 100] := by rw [lE]
      rw [e] at hc
      simpa using hc
    refine ⟨rfl, ?_⟩
    refine ⟨_, rfl, a, _, dx, _, _, rfl, s2 _ _ ha, T.clF, T.n_texts, rfl, q, rfl, ⟨_, sqT_keep hq (Same.keepT s2)⟩, fun D2 hD2 => ?_⟩
    refine lc_vals walk_tup (r.map fun l => V.bl (decide (c ∈ l))) hD2 (fun _ s => sqT_keep hq (Same.keepT (s2.trans s))) (by rw [List.length_map]; have := R.h6; exact small (by omega)) (by simp) ?_ ?_
    · intro j x H4 H5 hj s4 y Kn2 El2 hk2
      obtain ⟨rfl, hx⟩ := y
      rw [List.getElem?_map] at hx
      obtain ⟨l2, hl2, rfl⟩ := Option.map_eq_some_iff.mp hx
      refine ⟨rfl, ?_⟩
      refine ⟨_, rfl, _, rfl, c, S l2, rfl, rfl, hk2 _ _ (Same.refl _) ?_⟩
      rw [List.getElem?_map, hl2]
      rfl
    · intro H4 s4 e4
      refine ⟨D2, r.map fun l => decide (c ∈ l), rfl, SqL.of (by rw [e4, List.map_map]; rfl), ?_⟩
      refine ⟨_, rfl, ?_⟩
      have e5 : (r.map fun l => decide (c ∈ l)).any id = r.any fun l => decide (c ∈ l) := by rw [List.any_map]; rfl
      rw [e5]
      by_cases e : (r.any fun l => decide (c ∈ l)) = true
      · rw [e]
        refine iteT ⟨_, rfl, hk _ _ s4 ?_⟩
        rw [rl, take_succ_filter hc2, if_pos e, List.map_append]
        rfl
      · rw [Bool.eq_false_iff.mpr e]
        refine iteF (he _ s4 ?_)
        rw [rl, take_succ_filter hc2, if_neg e, List.append_nil]
  · intro l H2 s2 e2 hn rl
    refine ⟨_, _, (lettersOf r).map fun c => S [c], rfl, rfl, .inl (SqL.of (by rw [e2, rl, List.map_map]; rfl)), ?_, ?_⟩
    · have e := ones_len (lettersOf r)
      have e3 : (lettersOf r).length ≤ 4 := List.length_filter_le _ [97, 98, 99, 100]
      have e4 : ("" : Str).length = 0 := rfl
      rw [e, e4]
      omega
    · rw [join_ones]
      exact k _ s2
def spPlaces (K : PySem.W.Frag) : Sp := fun vs H Q _ => ∃ a r, vs = [.ref a] ∧ FlV K H a r ∧ RowsOk r ∧ ∀ p us H', Same H H' → H' p = some (.lst us) → PLs K H' us (cells (hgt r) (wid r)) → Q (.ref p) H'
theorem ok_places (T : Txt K mg) (h1 : C8.Met P w K mg base 1 (cF K) "size" (spSize K) []) : C8.Met P w K mg base 2 (cF K) "places" (spPlaces K) [] := by
  have SC : C8.scC ["self", "rows", "columns", "row", "column"] ["self"] (C8.fnScope s_Floor_places) = true := by decide +kernel
  have nd := (C8.fnScope_by SC).nd
  refine met T.clF T.f_Floor_places SC (fun _ _ _ _ _ _ us hl => match us, hl with | [_], _ => rfl) (fun vs H Q E h => by obtain ⟨_, _, rfl, _⟩ := h; rfl) (fun f cdv A outer s H vs Q E hr h => ?_)
  obtain ⟨a, r, rfl, hf, R, k⟩ := h
  refine ⟨_, pss_cons (ps_asg (C8.pe_mt0 h1 hr (by decide) (pv 0)) (pg_tup rfl (pgs_cons (pg_name (i := 1) nd rfl (.inl rfl)) (pgs_cons (pg_name (i := 2) nd rfl (.inr rfl)) pgs_nil))))
    (pss_one (ps_ret (pe_lc2 (own := [("row", 3), ("column", 4)]) (vs1 := [4]) (g := gName 3) (g1 := gName 4) (tt := tYes) (tt1 := tYes) rfl nd (pi_range1 rfl T.b_range (pa_cons (pv 1) pa_nil)) (blkOk_by (N := ["self", "rows", "columns", "row", "column"]) (sc := C8.fnScope s_Floor_places) (by decide +kernel)) (by decide)
      (fun _ _ _ _ _ => pg_name (i := 3) nd rfl (.inl rfl)) (fun _ _ _ _ _ => pts_nil) (fun _ _ _ _ _ => pi_range1 (by rfl) T.b_range (pa_cons (pv 2) pa_nil)) (fun _ _ _ _ _ => pg_name (i := 4) nd rfl (.inl rfl)) (fun _ _ _ _ _ => pts_nil)
      (fun _ _ _ _ _ => pe_tup (pa_cons (pv 3) (pa_cons (pv 4) pa_nil)))))), ?_⟩
  have hf' := hf
  obtain ⟨dx, q, ha, hq⟩ := hf'
  refine ⟨_, rfl, a, dx, _, rfl, ha, rfl, a, r, rfl, hf, R, fun t H1 s1 ht => ?_⟩
  refine ⟨t, _, rfl, ht, rfl, _, _, rfl, _, _, rfl, rfl, ?_⟩
  have h6 := R.h6
  have w6 := R.w6
  have hh : hgt r ≤ 5 := h6
  refine ⟨_, rfl, _, rfl, by omega, by omega, fun D hD => ?_⟩
  refine ⟨fun i m H' => m = hgt r - i ∧ i ≤ hgt r ∧ Same H1 H' ∧ ∃ acc, H' D = some (.lst acc) ∧ PLs K H' acc (cells i (wid r)), ⟨_, rfl, Nat.zero_le _, Same.new hD, [], upd_same, .nil⟩, ?_⟩
  rintro i m H2 ⟨rfl, hi, s2, acc, e2, ps⟩
  by_cases hlt : i < hgt r
  · refine .inr ⟨by show i < (((hgt r : Nat) : Int)).toNat; omega, fun H' => i + 1 ≤ hgt r ∧ Same H1 H' ∧ ∃ acc, H' D = some (.lst acc) ∧ PLs K H' acc (cells (i + 1) (wid r)), fun H' h => ⟨hgt r - (i + 1), by omega, rfl, h.1, h.2⟩, ?_⟩
    rintro x H3 ⟨rfl, rfl⟩
    refine ⟨rfl, ?_⟩
    refine ⟨_, rfl, _, rfl, by omega, by omega, ?_⟩
    refine ⟨fun j k H' => k = wid r - j ∧ j ≤ wid r ∧ Same H1 H' ∧ ∃ acc, H' D = some (.lst acc) ∧ PLs K H' acc (cells i (wid r) ++ (List.range j).map fun (x : Nat) => ((i : Int), (x : Int))),
      ⟨_, rfl, Nat.zero_le _, s2, acc, e2, by simpa using ps⟩, ?_⟩
    rintro j k2 H4 ⟨rfl, hj, s4, acc4, e4, ps4⟩
    by_cases hjt : j < wid r
    · refine .inr ⟨by show j < (((wid r : Nat) : Int)).toNat; omega, fun H' => j + 1 ≤ wid r ∧ Same H1 H' ∧ ∃ acc, H' D = some (.lst acc) ∧ PLs K H' acc (cells i (wid r) ++ (List.range (j + 1)).map fun (x : Nat) => ((i : Int), (x : Int))), fun H' h => ⟨wid r - (j + 1), by omega, rfl, h.1, h.2⟩, ?_⟩
      rintro y H5 ⟨rfl, rfl⟩
      refine ⟨rfl, ?_⟩
      refine ⟨_, rfl, _, rfl, by show 2 ≤ sizeLine; decide, fun u hu => ?_⟩
      have sn : Same H5 (upd H5 u (.tup [.int (0 + (i : Nat)), .int (0 + (j : Nat))])) := Same.new hu
      have el : acc4.length = (cells i (wid r) ++ (List.range j).map fun (x : Nat) => ((i : Int), (x : Int))).length := ps4.len
      have hsm : acc4.length ≤ 100 := by
        rw [el, List.length_append, cells_len, List.length_map, List.length_range]
        have : i * wid r ≤ 5 * 5 := Nat.mul_le_mul (by omega) w6
        omega
      refine ⟨acc4, sn _ _ e4, small1000 (by omega), hjt, same_upd (s4.trans sn) hD, _, upd_same, ?_⟩
      have k1 : KeepT H5 (upd (upd H5 u (.tup [.int (0 + (i : Nat)), .int (0 + (j : Nat))])) D (.lst (acc4 ++ [.ref u]))) := (Same.keepT sn).trans (keepT_upd (sn _ _ e4))
      rw [List.range_succ, List.map_append, ← List.append_assoc]
      refine PLs.app (ps4.keep k1) (PLs.one ⟨u, rfl, SqT.of ?_⟩)
      have hne : u ≠ D := fun z => by rw [z, e4] at hu; cases hu
      rw [upd_ne hne, upd_same]
      simp
    · have e : j = wid r := by omega
      subst e
      refine .inl ⟨by show (((wid r : Nat) : Int)).toNat ≤ wid r; omega, hlt, s4, acc4, e4, ?_⟩
      rw [cells_succ]
      exact ps4
  · have e : i = hgt r := by omega
    subst e
    exact .inl ⟨by show (((hgt r : Nat) : Int)).toNat ≤ hgt r; omega, k _ _ _ (s1.trans s2) e2 ps⟩
def opn (r : Rows) : List Pl := (cells (hgt r) (wid r)).filter fun p => decide (sgn r p ∈ [46, 97, 98, 99, 100])
def spOpenPlaces (K : PySem.W.Frag) : Sp := fun vs H Q _ => ∃ a r, vs = [.ref a] ∧ FlV K H a r ∧ RowsOk r ∧ ∀ p us H', Same H H' → H' p = some (.lst us) → PLs K H' us (opn r) → Q (.ref p) H'
theorem openE : (".abcd" : Str) = S [46, 97, 98, 99, 100] := by decide +kernel
theorem ok_open_places (T : Txt K mg) (h1 : C8.Met P w K mg base 2 (cF K) "places" (spPlaces K) []) (h2 : C8.Met P w K mg base 5 (cF K) "seen" (spSeen K) []) : C8.Met P w K mg base 6 (cF K) "open_places" (spOpenPlaces K) [] := by
  obtain ⟨to, ho⟩ := T.c_OPEN
  have SC : C8.scC ["self", "place"] ["self"] (C8.fnScope s_Floor_open_places) = true := by decide +kernel
  have nd := (C8.fnScope_by SC).nd
  refine met T.clF T.f_Floor_open_places SC (fun _ _ _ _ _ _ us hl => match us, hl with | [_], _ => rfl) (fun vs H Q E h => by obtain ⟨_, _, rfl, _⟩ := h; rfl) (fun f cdv A outer s H vs Q E hr h => ?_)
  obtain ⟨a, r, rfl, hf, R, k⟩ := h
  refine ⟨_, pss_one (ps_ret (pe_lc (own := [("place", 1)]) (g := gName 1) rfl nd (pi_list (C8.pe_mt0 h1 hr (by decide) (pv 0))) (blkOk_by (N := ["self", "place"]) (sc := C8.fnScope s_Floor_open_places) (by decide +kernel)) (fun _ _ _ _ _ => pg_name (i := 1) nd rfl (.inl rfl))
      (fun _ _ _ _ _ => pts_one (pt_cmpR op_in_sign (C8.pe_mt h2 hr (by decide) (pv 0) (pa_cons (pv 1) pa_nil)) (pe_glob (by rfl) ho (v := .str ".abcd") ⟨_, rfl⟩) (by rfl)))
      (fun _ _ _ _ _ => pv 1))), ?_⟩
  have hf' := hf
  obtain ⟨dx, q, ha, hq⟩ := hf'
  refine ⟨_, rfl, a, dx, _, rfl, ha, rfl, a, r, rfl, hf, R, fun p us H1 s1 e1 ps => ?_⟩
  refine ⟨p, rfl, ⟨us, SqL.of e1⟩, fun D hD => ?_⟩
  have el := ps.len
  rw [cells_len] at el
  have h6 := R.h6
  have w6 := R.w6
  have hh : hgt r ≤ 5 := h6
  have hsm : us.length ≤ 25 := by
    rw [el]
    exact Nat.mul_le_mul hh w6
  refine lc_gen walk_list (fun i l H => PLs K H l (((cells (hgt r) (wid r)).take i).filter fun p => decide (sgn r p ∈ [46, 97, 98, 99, 100]))) hD (fun _ s => SqL.of (s _ _ e1)) (small (by omega)) (fun _ _ _ _ k r => r.keep k) .nil ?_ ?_
  · intro i l x H2 H3 hi s2 rl y Kn El hk he
    obtain ⟨rfl, hx⟩ := y
    obtain ⟨c, hc, hp⟩ := PLs.at ps hx
    refine ⟨rfl, ?_⟩
    refine ⟨_, rfl, a, dx, _, rfl, s2 _ _ (s1 _ _ ha), rfl, _, rfl, a, r, x, c, rfl, (hf.same s1).same s2, R, pl_same hp s2, fun H4 s4 => ?_⟩
    refine ⟨_, _, rfl, rfl, _, rfl, ?_⟩
    rw [openE, in_dec]
    by_cases e : sgn r c ∈ [46, 97, 98, 99, 100]
    · rw [decide_eq_true e]
      refine iteT ⟨_, rfl, hk _ _ s4 ?_⟩
      rw [take_succ_filterP hc, if_pos (decide_eq_true e)]
      exact (rl.keep (Same.keepT s4)).app (PLs.one (pl_same (pl_same hp s2) s4))
    · rw [decide_eq_false e]
      refine iteF (he _ s4 ?_)
      rw [take_succ_filterP hc, if_neg (by rw [decide_eq_false e]; decide), List.append_nil]
      exact rl.keep (Same.keepT s4)
  · intro l H2 s2 e2 hn rl
    refine k D l H2 (s1.trans s2) e2 ?_
    have e : (cells (hgt r) (wid r)).take us.length = cells (hgt r) (wid r) := by
      rw [ps.len]
      exact List.take_length
    rw [e] at rl
    exact rl
end
end K79
/-! part W6 -/
/-! The floor is made. -/
namespace K79
open PySem PySem.Spec PyProof.Rows L2
/-- all but the object at a stands -/
def SameBut (a : Addr) (H H' : Hp) : Prop := ∀ b o, b ≠ a → H b = some o → H' b = some o
theorem SameBut.refl (a : Addr) (H : Hp) : SameBut a H H := fun _ _ _ e => e
theorem SameBut.trans {a : Addr} {H H1 H2 : Hp} (s : SameBut a H H1) (t : SameBut a H1 H2) : SameBut a H H2 := fun b o n e => t b o n (s b o n e)
theorem Same.but {a : Addr} {H H' : Hp} (s : Same H H') : SameBut a H H' := fun b o _ e => s b o e
theorem SameBut.upd {a : Addr} {H H' : Hp} {o : HO} (s : SameBut a H H') : SameBut a H (upd H' a o) := fun b u n e => by
  rw [upd_ne n]
  exact s b u n e
theorem SameBut.made {a dx C : Addr} {H H' : Hp} (n : H a = none) (nd : H dx = none) (s : SameBut a (L2.upd (L2.upd H dx (.own a)) a (.ins C dx [])) H') : Same H H' := fun b o e => by
  have h1 := ne_of_none e n
  have h2 := ne_of_none e nd
  exact s b o h1 (by rw [upd_ne h1, upd_ne h2]; exact e)
section
variable {P : Program} {w : World} {K : PySem.W.Frag} {mg : Str → Option Value} {base : Heap}
theorem mak {x : Str} {C f : Addr} {fd : FuncData} {qual : Str} {st : Stmt} {N ps : List Str} {k : Nat} {sp : Sp} (M : Mk K C f) (hm : mg x = some (.ref C)) (F : FunD K "__init__" qual (C8.fnArgs st) (C8.fnBody st) (C8.fnScope st) [] [] f fd) (S : C8.scC N ps (C8.fnScope st) = true)
    (hb : ∀ (kV doc pm : Value) (an : Option Addr) (cdv ct : Value) (us : List Value), us.length = ps.length → bindArgs (PySem.W.fnOf "__init__" qual (C8.fnArgs st) (C8.fnBody st) (C8.fnScope st) .none kV doc pm an cdv ct) ⟨us, []⟩ = pure (ps.zip us))
    (len : ∀ vs H Q E, sp vs H Q E → vs.length = ps.length)
    (hbody : ∀ (f : Addr) (cdv : Value) (A : Around) (outer : List Env) (s : Shared) (H : Hp) (vs : List V) (Q : VK) (E : XK), Room k (A.deeper (envOfC qual (C8.fnScope st) s.heap.objs.size f cdv)) → sp vs H Q E →
      ∃ t, PSs (cxOf C8.CX0 P w K mg base N qual (C8.fnScope st) f cdv A outer s H E).nox (C8.fnBody st) t ∧ t { nx := fun _ H' => Q .non H', rt := Q } (start N vs) H) : C8.Mak P w K mg base (k + 1) x C sp [] := by
  refine ⟨f, fd, ps, [], M, F.ok (C8.fnScope_by S) len (fun cdv A outer s H vs Q E hr h => ?_), hm, F.bindsN hb, .nil⟩
  obtain ⟨t, h1, h2⟩ := hbody _ cdv A outer s H vs Q E hr h
  exact ⟨t, h1.nox, h2⟩
def spIsText : Sp := fun vs H Q _ => ∃ l : List Nat, vs = [.str (S l)] ∧ 1 ≤ l.length ∧ l.length ≤ 5 ∧ (∀ c ∈ l, c ∈ signs) ∧ ∀ H', Same H H' → Q (.bl true) H'
theorem signsE : ("#~x.abcd" : Str) = S signs := by decide +kernel
theorem ok_is_text (T : Txt K mg) : C8.Cal P w K mg base 1 "is_text" spIsText [] := by
  obtain ⟨tm, hm⟩ := T.c_MOST
  obtain ⟨ts, hs⟩ := T.c_SIGNS
  have SC : C8.scC ["thing", "sign"] ["thing"] (C8.fnScope s_is_text) = true := by decide +kernel
  have nd := (C8.fnScope_by SC).nd
  refine cal T.f_is_text SC (fun _ _ _ _ _ _ us hl => match us, hl with | [_], _ => rfl) (fun vs H Q E h => by obtain ⟨_, rfl, _⟩ := h; rfl) (fun f cdv A outer s H vs Q E hr h => ?_)
  obtain ⟨l, rfl, h1, h5, hl, k⟩ := h
  refine ⟨_, pss_cons (ps_if (PW.pt (pw_or (pt_not (pt_val (pe_callB call_isi (by rfl) T.b_isinstance (by decide +kernel) (pa_cons (pv 0) (pa_cons (pe_bltn (by rfl) T.b_str (by decide +kernel) (v := .ty "str") rfl) pa_nil)))))
      (pw_or1 (pt_not (pt_chain op_le op_le pe_int (pe_callB call_len (by rfl) T.b_len PySem.boot_len (pa_cons (pv 0) pa_nil)) (pe_glob (by rfl) hm (v := .int 6) ⟨_, rfl⟩)))))) pss_never pss_nil)
    (pss_one (ps_ret (pe_callB (cr_all rfl) (by rfl) T.b_all (by decide +kernel) (pa_cons (pe_lc (own := [("sign", 1)]) (g := gName 1) (tt := tYes) rfl nd (pi_str (pv 0)) (blkOk_by (N := ["thing", "sign"]) (sc := C8.fnScope s_is_text) (by decide +kernel)) (fun _ _ _ _ _ => pg_name (i := 1) nd rfl (.inl rfl)) (fun _ _ _ _ _ => pts_nil)
      (fun _ _ _ _ _ => pe_cmpR op_in_sign (pv 1) (pe_glob (by rfl) hs (v := .str "#~x.abcd") ⟨_, rfl⟩) (by rfl))) pa_nil)))), ?_⟩
  refine ⟨_, rfl, _, _, _, _, _, rfl, .ty "str", .base (.str _), kit_ty (a := "str") (b := "str") (r := true) (by decide +kernel), _, rfl, iteF ?_⟩
  refine ⟨_, rfl, _, l.length, rfl, ⟨by show l.length ≤ sizeLine; exact small (by omega), rfl⟩, ?_⟩
  refine ⟨_, _, rfl, rfl, _, rfl, ?_⟩
  rw [decide_eq_true (show (1 : Int) ≤ (l.length : Nat) by omega)]
  refine iteT ⟨_, _, rfl, rfl, _, rfl, ?_⟩
  rw [decide_eq_true (show ((l.length : Nat) : Int) ≤ 6 by omega)]
  refine iteF ⟨_, rfl, _, rfl, fun D hD => ?_⟩
  refine lc_vals walk_str (l.map fun c => V.bl true) hD (fun _ _ => trivial) (by show l.length ≤ sizeLine; exact small (by omega)) (by simp) ?_ ?_
  · intro i x H2 H3 hi s2 y Kn El hk
    obtain ⟨rfl, c, hc, rfl⟩ := y
    have hc2 : l[i]? = some c := by simpa using hc
    refine ⟨rfl, ?_⟩
    refine ⟨_, rfl, c, _, rfl, rfl, hk _ _ (Same.refl _) ?_⟩
    rw [signsE, in_dec, decide_eq_true (hl c (List.mem_of_getElem? hc2)), List.getElem?_map, hc2]
    rfl
  · intro H2 s2 e2
    refine ⟨D, l.map fun _ => true, rfl, SqL.of (by rw [e2, List.map_map]; rfl), ?_⟩
    have e : (l.map fun _ => true).all id = true := by rw [List.all_map]; simp
    rw [e]
    exact k _ s2
def rowsV (r : Rows) : List V := r.map fun l => V.str (S l)
def spWantRows (K : PySem.W.Frag) : Sp := fun vs H Q _ => ∃ p r, vs = [.ref p] ∧ H p = some (.lst (rowsV r)) ∧ RowsOk r ∧ ∀ H', Same H H' → Q .non H'
theorem ok_want_rows (T : Txt K mg) (h1 : C8.Cal P w K mg base 1 "is_text" spIsText []) : C8.Cal P w K mg base 2 "want_rows" (spWantRows K) [] := by
  obtain ⟨tm, hm⟩ := T.c_MOST
  have SC : C8.scC ["thing", "at", "text"] ["thing"] (C8.fnScope s_want_rows) = true := by decide +kernel
  have nd := (C8.fnScope_by SC).nd
  refine cal T.f_want_rows SC (fun _ _ _ _ _ _ us hl => match us, hl with | [_], _ => rfl) (fun vs H Q E h => by obtain ⟨_, _, rfl, _⟩ := h; rfl) (fun f cdv A outer s H vs Q E hr h => ?_)
  obtain ⟨p, r, rfl, hp, R, k⟩ := h
  refine ⟨_, pss_cons (ps_if (PW.pt (pw_or (pt_not (pt_val (pe_callB call_isi (by rfl) T.b_isinstance (by decide +kernel) (pa_cons (pv 0) (pa_cons (pe_bltn (by rfl) T.b_list (by decide +kernel) (v := .ty "list") rfl) pa_nil)))))
      (pw_or1 (pt_not (pt_chain op_le op_le pe_int (pe_callB call_len (by rfl) T.b_len PySem.boot_len (pa_cons (pv 0) pa_nil)) (pe_glob (by rfl) hm (v := .int 6) ⟨_, rfl⟩)))))) pss_never pss_nil)
    (pss_one (ps_for PassesOwn.never rfl (pi_enum (by rfl) T.b_enumerate (pa_cons (pv 0) pa_nil))
      (pg_tup rfl (pgs_cons (pg_name (i := 1) nd rfl (.inl rfl)) (pgs_cons (pg_name (i := 2) nd rfl (.inl rfl)) pgs_nil)))
      (pss_one (ps_if (PW.pt (pw_or (pt_not (pt_val (C8.pe_c h1 hr (by decide) rfl (pa_cons (pv 2) pa_nil))))
        (pw_or1 (pt_cmpR op_ne (pe_callB call_len (by rfl) T.b_len PySem.boot_len (pa_cons (pv 2) pa_nil)) (pe_callB call_len (by rfl) T.b_len PySem.boot_len (pa_cons (pe_ix ix_list (pv 0) pe_int (fun _ _ => rfl)) pa_nil)) (nomark _))))) pss_never pss_nil)))), ?_⟩
  have h1' := R.h1
  have h6 := R.h6
  have w1 := R.w1
  have w6 := R.w6
  refine ⟨_, rfl, _, _, _, _, _, rfl, .ty "list", .base (.lst hp), kit_ty (a := "list") (b := "list") (r := true) (by decide +kernel), _, rfl, iteF ?_⟩
  have hlen : (rowsV r).length = r.length := by simp [rowsV]
  refine ⟨_, rfl, _, r.length, rfl, .inl ⟨_, SqL.of hp, hlen.symm⟩, ?_⟩
  refine ⟨_, _, rfl, rfl, _, rfl, ?_⟩
  rw [decide_eq_true (show (1 : Int) ≤ (r.length : Nat) by omega)]
  refine iteT ⟨_, _, rfl, rfl, _, rfl, ?_⟩
  rw [decide_eq_true (show ((r.length : Nat) : Int) ≤ 6 by omega)]
  refine iteF ⟨_, rfl, p, rowsV r, rfl, SqL.of hp, ?_⟩
  obtain ⟨l0, e0, hm0, hl0⟩ := R.row0
  refine for_it walk_enum (fun i σ H' => Same H H' ∧ ∃ x y, σ = [some (.ref p), x, y]) ⟨Same.refl _, _, _, rfl⟩ (fun _ _ _ _ h => SqL.of (h.1 _ _ hp)) ?_ ?_
  · intro i x σ H1 H2 hi pp y
    obtain ⟨s1, a, b, rfl⟩ := pp
    obtain ⟨t, x1, x2, rfl, nt, rfl, e1, e2⟩ := y
    obtain rfl := Option.some.inj e1
    have e2 : (r.map fun l => V.str (S l))[i]? = some x2 := e2
    rw [List.getElem?_map] at e2
    obtain ⟨l, hl, rfl⟩ := Option.map_eq_some_iff.mp e2
    have hlm : l ∈ r := List.mem_of_getElem? hl
    have hw := R.len l hlm
    refine ⟨t, _, rfl, SqT.of upd_same, rfl, _, _, rfl, _, _, rfl, rfl, ?_⟩
    refine ⟨_, rfl, l, rfl, by omega, by omega, R.sgs l hlm, fun H3 s3 => ?_⟩
    refine ⟨_, rfl, iteF ?_⟩
    have s13 : Same H H3 := (Same.then_new s1 nt).trans s3
    refine ⟨_, rfl, _, l.length, rfl, ⟨by show l.length ≤ sizeLine; exact small (by omega), rfl⟩, ?_⟩
    refine ⟨_, rfl, p, _, _, .str (S l0), rfl, rfl, SqL.of (s13 _ _ hp), atI_nat (j := 0) (by rw [rowsV, List.getElem?_map, e0]; rfl), ?_⟩
    refine ⟨_, l0.length, rfl, ⟨by show l0.length ≤ sizeLine; exact small (by omega), rfl⟩, ?_⟩
    rw [hw, hl0]
    refine ⟨rfl, _, rfl, ?_⟩
    rw [decide_eq_true rfl]
    exact iteF ⟨s13, _, _, rfl⟩
  · intro σ H1 pp
    exact k _ pp.1
def spFloor (K : PySem.W.Frag) : Sp := fun vs H Q _ => ∃ a p r dx, vs = [.ref a, .ref p] ∧ H a = some (.ins (cF K) dx []) ∧ H p = some (.lst (rowsV r)) ∧ RowsOk r ∧ ∀ H', SameBut a H H' → FlV K H' a r → Q .non H'
theorem ok_floor (T : Txt K mg) (h1 : C8.Cal P w K mg base 2 "want_rows" (spWantRows K) []) : C8.Mak P w K mg base 3 "Floor" (cF K) (spFloor K) [] := by
  obtain ⟨fd, F⟩ := T.f_Floor_init
  refine mak T.mkF T.gF F (N := ["self", "rows"]) (ps := ["self", "rows"]) (by decide +kernel) (fun _ _ _ _ _ _ us hl => match us, hl with | [_, _], _ => rfl) (fun vs H Q E h => by obtain ⟨_, _, _, _, rfl, _⟩ := h; rfl) (fun f cdv A outer s H vs Q E hr h => ?_)
  obtain ⟨a, p, r, dx, rfl, ha, hp, R, k⟩ := h
  refine ⟨_, pss_cons (ps_expr (C8.pe_c h1 hr (by decide) rfl (pa_cons (pv 1) pa_nil)))
    (pss_one (ps_fld (pv 0) (pe_callTy call_tuple_of (by rfl) T.b_tuple (by decide +kernel) (pa_cons (pv 1) pa_nil)) rfl)), ?_⟩
  refine ⟨_, rfl, p, r, rfl, hp, R, fun H1 s1 => ?_⟩
  refine ⟨_, rfl, p, _, rfl, .inl ⟨SqL.of (s1 _ _ hp), fun q hq => ?_⟩⟩
  have s2 : Same H (upd H1 q (.tup (rowsV r))) := Same.then_new s1 hq
  refine ⟨_, rfl, a, cF K, dx, _, rfl, s2 _ _ ha, T.clF, T.n_texts, by decide, ?_⟩
  have hne : q ≠ a := fun z => by rw [z] at hq; rw [s1 _ _ ha] at hq; cases hq
  exact k _ (SameBut.upd (Same.but s2)) ⟨dx, q, by rw [upd_same]; rfl, SqT.of (by rw [upd_ne hne, upd_same]; rfl)⟩
end
end K79
/-! part W7 -/
/-! What the world asks: is_stand, is_book, are_wishes, first_wrong, want_said. -/
namespace K79
open PySem PySem.Spec PyProof.Rows L2
def bkK (ls : List Nat) (bk : Nat → List Nat) : List (Key × V) := ls.map fun c => (Sum.inr (S [c]), V.str (S (bk c)))
def BkV (H : Hp) (pd : Addr) (r : Rows) (bk : Nat → List Nat) : Prop := ∃ ls : List Nat, ls.Nodup ∧ (∀ c, c ∈ ls ↔ c ∈ lettersOf r) ∧ H pd = some (.dK (bkK ls bk))
theorem letters_nodup (r : Rows) : (lettersOf r).Nodup := by
  have h : ([97, 98, 99, 100] : List Nat).Nodup := by decide
  exact h.sublist List.filter_sublist
theorem letters_len (r : Rows) : (lettersOf r).length ≤ 4 := List.length_filter_le _ [97, 98, 99, 100]
theorem letter_mem {r : Rows} {c : Nat} (h : c ∈ lettersOf r) : c ∈ ([97, 98, 99, 100] : List Nat) := (List.mem_filter.mp h).1
theorem valV_bk (bk : Nat → List Nat) : ∀ (ls : List Nat) (c : Nat), valV (bkK ls bk) (Sum.inr (S [c])) = if c ∈ ls then some (V.str (S (bk c))) else none
  | [], c => by simp [bkK, valV]
  | d :: ls, c => by
    have ih := valV_bk bk ls c
    unfold bkK valV at ih ⊢
    rw [List.map_cons, List.find?_cons]
    by_cases e : d = c
    · subst e
      simp
    · have e2 : ¬ (Sum.inr (S [d]) : Key) = Sum.inr (S [c]) := fun z => e (List.cons.inj (S_inj (Sum.inr.inj z))).1
      have e3 : ¬ c = d := fun z => e z.symm
      rw [show (decide ((Sum.inr (S [d]) : Key) = Sum.inr (S [c]))) = false from decide_eq_false e2]
      dsimp only
      rw [ih]
      simp [e3]
theorem PLs.ks {K : PySem.W.Frag} {H : Hp} : ∀ {us : List V} {gs : List Pl}, PLs K H us gs → ∃ ks : List (Addr × List Int), us = ks.map (fun p => V.ref p.1) ∧ (∀ p ∈ ks, SqT K H p.1 (p.2.map V.int)) ∧ ks.map (·.2) = gs.map fun g => [g.1, g.2]
  | _, _, .nil => ⟨[], rfl, (fun _ h => nomatch h), rfl⟩
  | _, _, .cons h t => by
    obtain ⟨ks, h1, h2, h3⟩ := PLs.ks t
    obtain ⟨q, rfl, hq⟩ := h
    refine ⟨(q, [_, _]) :: ks, by rw [h1]; rfl, fun p hp => ?_, by rw [List.map_cons, List.map_cons, h3]⟩
    rcases List.mem_cons.mp hp with rfl | hp
    · exact hq
    · exact h2 p hp
theorem tyL {K : PySem.W.Frag} {H : Hp} {q : Addr} {xs : List V} (h : SqL K H q xs) : TyX K H (.ref q) (.type "list") := by
  rcases h with (h | ⟨o, h⟩) | ⟨o, its, n, h, c, _⟩
  · exact .base (.lst h)
  · exact .base (.frz h)
  · exact .kList h c
section
variable {P : Program} {w : World} {K : PySem.W.Frag} {mg : Str → Option Value} {base : Heap}
def spIsStand (K : PySem.W.Frag) : Sp := fun vs H Q _ => ∃ a r v x, vs = [.ref a, v] ∧ FlV K H a r ∧ RowsOk r ∧ PV K H v x ∧ PostOk r x ∧ ∀ H', Same H H' → Q (.bl true) H'
theorem ok_is_stand (T : Txt K mg) (h1 : C8.Met P w K mg base 6 (cF K) "can_stand" (spCanStand K) []) (h2 : C8.Cal P w K mg base 1 "is_turn" spIsTurn []) : C8.Cal P w K mg base 7 "is_stand" (spIsStand K) [] := by
  refine cal T.f_is_stand (N := ["floor", "thing"]) (ps := ["floor", "thing"]) (by decide +kernel) (fun _ _ _ _ _ _ us hl => match us, hl with | [_, _], _ => rfl) (fun vs H Q E h => by obtain ⟨_, _, _, _, rfl, _⟩ := h; rfl) (fun f cdv A outer s H vs Q E hr h => ?_)
  obtain ⟨a, r, v, x, rfl, hf, R, hv, hx, k⟩ := h
  refine ⟨_, pss_cons (ps_if (pt_cmpR op_isN (pv 1) pe_non (nomark _)) (pss_one (ps_ret pe_bl)) pss_nil)
    (pss_cons (ps_if (PW.pt (pw_or (pt_not (pt_val (pe_callB call_isi (by rfl) T.b_isinstance (by decide +kernel) (pa_cons (pv 1) (pa_cons (pe_bltn (by rfl) T.b_tuple (by decide +kernel) (v := .ty "tuple") rfl) pa_nil)))))
      (pw_or1 (pt_cmpR op_ne (pe_callB call_len (by rfl) T.b_len PySem.boot_len (pa_cons (pv 1) pa_nil)) pe_int (nomark _))))) pss_never pss_nil)
    (pss_one (ps_ret (pe_and (C8.pe_mt h1 hr (by decide) (pv 0) (pa_cons (pe_ix ix_tup (pv 1) pe_int (fun _ _ => rfl)) pa_nil)) (pe_one (C8.pe_c h2 hr (by decide) rfl (pa_cons (pe_ix ix_tup (pv 1) pe_int (fun _ _ => rfl)) pa_nil))))))), ?_⟩
  cases x with
  | none =>
    cases (show v = .non from hv)
    exact ⟨_, rfl, rfl, _, rfl, iteT (k _ (Same.refl _))⟩
  | some x =>
    obtain ⟨p, t⟩ := x
    obtain ⟨q, v', rfl, hq, hp⟩ := hv
    have hf' := hf
    obtain ⟨dx, fq, ha, hfq⟩ := hf'
    refine ⟨_, rfl, rfl, _, rfl, iteF ?_⟩
    refine ⟨_, rfl, _, _, _, _, _, rfl, .ty "tuple", ty_tup hq, kit_ty (a := "tuple") (b := "tuple") (r := true) (by decide +kernel), _, rfl, iteF ?_⟩
    refine ⟨_, rfl, _, _, rfl, .inr ⟨_, hq, rfl⟩, rfl, _, rfl, iteF ?_⟩
    refine ⟨_, rfl, a, dx, _, rfl, ha, rfl, ?_⟩
    refine ⟨_, rfl, q, _, _, _, rfl, rfl, hq, atI_nat (j := 0) rfl, ?_⟩
    refine ⟨a, r, v', p, rfl, hf, R, hp, fun H1 s1 => ?_⟩
    refine ⟨_, rfl, ?_⟩
    rw [hx.1]
    refine iteT ⟨_, rfl, q, _, _, _, rfl, rfl, sqT_keep hq (Same.keepT s1), atI_nat (j := 1) rfl, ?_⟩
    exact ⟨t, rfl, hx.2, k _ s1⟩
def spIsBook (K : PySem.W.Frag) : Sp := fun vs H Q _ => ∃ a r pd bk, vs = [.ref a, .ref pd] ∧ FlV K H a r ∧ RowsOk r ∧ BkV H pd r bk ∧ (∀ s, bk s ∈ turns8) ∧ ∀ H', Same H H' → Q (.bl true) H'
theorem ok_is_book (T : Txt K mg) (h1 : C8.Met P w K mg base 1 (cF K) "letters" (spLetters K) []) (h2 : C8.Cal P w K mg base 1 "is_turn" spIsTurn []) : C8.Cal P w K mg base 2 "is_book" (spIsBook K) [] := by
  have SC : C8.scC ["floor", "thing", "letters", "letter"] ["floor", "thing"] (C8.fnScope s_is_book) = true := by decide +kernel
  have nd := (C8.fnScope_by SC).nd
  refine cal T.f_is_book SC (fun _ _ _ _ _ _ us hl => match us, hl with | [_, _], _ => rfl) (fun vs H Q E h => by obtain ⟨_, _, _, _, rfl, _⟩ := h; rfl) (fun f cdv A outer s H vs Q E hr h => ?_)
  obtain ⟨a, r, pd, bk, rfl, hf, R, ⟨ls, ln, lm, hd⟩, hb, k⟩ := h
  have hu := hu_of hr
  refine ⟨_, pss_cons (ps_if (pt_cmpR op_isN (pv 1) pe_non (nomark _)) (pss_one (ps_ret pe_bl)) pss_nil)
    (pss_cons (ps_set (i := 2) nd rfl (.inl rfl) (C8.pe_mt0 h1 hr (by decide) (pv 0)))
    (pss_cons (ps_if (PW.pt (pw_or (pt_not (pt_val (pe_callB call_isi (by rfl) T.b_isinstance (by decide +kernel) (pa_cons (pv 1) (pa_cons (pe_bltn (by rfl) T.b_dict (by decide +kernel) (v := .ty "dict") rfl) pa_nil)))))
      (pw_or1 (pt_cmpR op_ne (pe_callB call_lenD (by rfl) T.b_len PySem.boot_len (pa_cons (pv 1) pa_nil)) (pe_callB call_len (by rfl) T.b_len PySem.boot_len (pa_cons (pv 2) pa_nil)) (nomark _))))) pss_never pss_nil)
    (pss_one (ps_ret (pe_callB (cr_all rfl) (by rfl) T.b_all (by decide +kernel) (pa_cons (pe_lc (own := [("letter", 3)]) (g := gName 3) (tt := tYes) rfl nd (pi_str (pv 2)) (blkOk_by (N := ["floor", "thing", "letters", "letter"]) (sc := C8.fnScope s_is_book) (by decide +kernel)) (fun _ _ _ _ _ => pg_name (i := 3) nd rfl (.inl rfl)) (fun _ _ _ _ _ => pts_nil)
      (fun _ _ _ _ _ => pe_and (pe_cmp (pc_din hu (pv 3) (pv 1))) (pe_one (C8.pe_c h2 hr (by decide) rfl (pa_cons (pe_dget hu (pv 1) (pv 3) (fun _ _ => rfl)) pa_nil))))) pa_nil)))))), ?_⟩
  have hf' := hf
  obtain ⟨dx, fq, ha, hfq⟩ := hf'
  refine ⟨_, rfl, rfl, _, rfl, iteF ?_⟩
  refine ⟨_, rfl, a, dx, _, rfl, ha, rfl, a, r, rfl, hf, R, fun H1 s1 => ?_⟩
  have hd1 := s1 _ _ hd
  refine ⟨_, rfl, _, _, _, _, _, rfl, .ty "dict", .base (.dK hd1), kit_ty (a := "dict") (b := "dict") (r := true) (by decide +kernel), _, rfl, iteF ?_⟩
  have el : ls.length = (lettersOf r).length := len_eq_of_same ln (letters_nodup r) lm
  have l4 := letters_len r
  refine ⟨_, rfl, pd, _, rfl, hd1, ?_⟩
  refine ⟨_, rfl, _, (lettersOf r).length, rfl, ⟨by show (lettersOf r).length ≤ sizeLine; exact small (by omega), rfl⟩, ?_⟩
  refine ⟨rfl, _, rfl, ?_⟩
  rw [show (bkK ls bk).length = ls.length by simp [bkK], el, decide_eq_true rfl]
  refine iteF ⟨_, rfl, _, rfl, fun D hD => ?_⟩
  refine lc_vals walk_str ((lettersOf r).map fun c => V.bl true) hD (fun _ _ => trivial) (by show (lettersOf r).length ≤ sizeLine; exact small (by omega)) (by simp) ?_ ?_
  · intro i x H2 H3 hi s2 y Kn El hk
    obtain ⟨rfl, c, hc, rfl⟩ := y
    have hc2 : (lettersOf r)[i]? = some c := by simpa using hc
    have hm := (lm c).mpr (List.mem_of_getElem? hc2)
    have hv : valV (bkK ls bk) (Sum.inr (S [c])) = some (V.str (S (bk c))) := by rw [valV_bk, if_pos hm]
    have hd2 := s2 _ _ hd1
    have dg := DGet.k (k := Sum.inr (S [c])) hd2
    rw [hv] at dg
    refine ⟨rfl, ?_⟩
    refine ⟨_, rfl, _, rfl, pd, _, rfl, dg, _, rfl, iteT ?_⟩
    refine ⟨_, rfl, _, rfl, pd, _, rfl, dg, bk c, rfl, hb c, hk _ _ (Same.refl _) ?_⟩
    rw [List.getElem?_map, hc2]
    rfl
  · intro H2 s2 e2
    refine ⟨D, (lettersOf r).map fun _ => true, rfl, SqL.of (by rw [e2, List.map_map]; rfl), ?_⟩
    have e : ((lettersOf r).map fun _ => true).all id = true := by rw [List.all_map]; simp
    rw [e]
    exact k _ (s1.trans s2)
/-- places wished -/
def WhV (K : PySem.W.Frag) (H : Hp) (v : V) (r : Rows) : Prop := ∃ p us gs, v = .ref p ∧ (SqL K H p us ∨ SqT K H p us) ∧ PLs K H us gs ∧ gs.Nodup ∧ (∀ g ∈ gs, onF r g = true) ∧ gs.length ≤ 9
theorem WhV.same {H H' : Hp} {v : V} {r : Rows} (h : WhV K H v r) (s : Same H H') : WhV K H' v r := by
  obtain ⟨p, us, gs, h1, h2, h3, h4⟩ := h
  refine ⟨p, us, gs, h1, ?_, h3.keep (Same.keepT s), h4⟩
  rcases h2 with h2 | h2
  · exact .inl (Same.seq s h2)
  · exact .inr (sqT_keep h2 (Same.keepT s))
def spAreWishes (K : PySem.W.Frag) : Sp := fun vs H Q _ => ∃ a r v, vs = [.ref a, v] ∧ FlV K H a r ∧ RowsOk r ∧ WhV K H v r ∧ ∀ H', Same H H' → Q (.bl true) H'
theorem ok_are_wishes (T : Txt K mg) (h1 : C8.Met P w K mg base 4 (cF K) "has" (spHas K) []) : C8.Cal P w K mg base 5 "are_wishes" (spAreWishes K) [] := by
  have SC : C8.scC ["floor", "thing", "place"] ["floor", "thing"] (C8.fnScope s_are_wishes) = true := by decide +kernel
  have nd := (C8.fnScope_by SC).nd
  refine cal T.f_are_wishes SC (fun _ _ _ _ _ _ us hl => match us, hl with | [_, _], _ => rfl) (fun vs H Q E h => by obtain ⟨_, _, _, rfl, _⟩ := h; rfl) (fun f cdv A outer s H vs Q E hr h => ?_)
  obtain ⟨a, r, v, rfl, hf, R, ⟨p, us, gs, rfl, hl, ps, gn, go, g9⟩, k⟩ := h
  have hu := hr.units
  have hf' := hf
  obtain ⟨dx, fq, ha, hfq⟩ := hf'
  have el := ps.len
  have nk : (gs.map fun g => [g.1, g.2]).Nodup := by
    refine List.Pairwise.map _ ?_ gn
    intro x y e z
    apply e
    obtain ⟨x1, x2⟩ := x
    obtain ⟨y1, y2⟩ := y
    simp only [List.cons.injEq, and_true] at z
    rw [z.1, z.2]
  rcases hl with hl | hl
  · refine ⟨_, pss_cons (ps_if (PW.pt (pw_or (pt_not (pt_val (pe_callB call_isiT (by rfl) T.b_isinstance (by decide +kernel) (pa_cons (pv 1) (pa_cons (pe_tup (pa_cons (pe_bltn (by rfl) T.b_list (by decide +kernel) (v := .ty "list") rfl) (pa_cons (pe_bltn (by rfl) T.b_tuple (by decide +kernel) (v := .ty "tuple") rfl) pa_nil))) pa_nil)))))
      (pw_or1 (pt_not (pt_val (pe_callB (cr_all rfl) (by rfl) T.b_all (by decide +kernel) (pa_cons (pe_lc (own := [("place", 2)]) (g := gName 2) (tt := tYes) rfl nd (pi_list (pv 1)) (blkOk_by (N := ["floor", "thing", "place"]) (sc := C8.fnScope s_are_wishes) (by decide +kernel)) (fun _ _ _ _ _ => pg_name (i := 2) nd rfl (.inl rfl)) (fun _ _ _ _ _ => pts_nil)
        (fun _ _ _ _ _ => C8.pe_mt h1 hr (by decide) (pv 0) (pa_cons (pv 2) pa_nil))) pa_nil))))))) pss_never pss_nil)
      (pss_one (ps_ret (pe_cmpR op_eq (pe_callB call_lenT (by rfl) T.b_len PySem.boot_len (pa_cons (pe_callTy (cr_setT2 rfl hu) (by rfl) T.b_set (by decide +kernel) (pa_cons (pv 1) pa_nil)) pa_nil)) (pe_callB call_len (by rfl) T.b_len PySem.boot_len (pa_cons (pv 1) pa_nil)) (nomark _)))), ?_⟩
    refine ⟨_, rfl, by show 2 ≤ sizeLine; decide, fun tp htp => ?_⟩
    have s1 : Same H (upd H tp (.tup [.ty "list", .ty "tuple"])) := Same.new htp
    have hl1 := Same.seq s1 hl
    refine ⟨_, tp, _, .type "list", [.type "list", .type "tuple"], true, rfl, upd_same, .cons (.ty "list") (.cons (.ty "tuple") .nil), tyL hl1, by exact kitAny_cons (kit_ty (a := "list") (b := "list") (r := true) (by decide +kernel)) (fun e => nomatch e) (fun _ => rfl), _, rfl, iteF ?_⟩
    refine ⟨_, rfl, p, rfl, ⟨us, hl1⟩, fun D hD => ?_⟩
    refine lc_vals walk_list (us.map fun _ => V.bl true) hD (fun H' s => Same.seq s hl1) (small (by omega)) (by simp) ?_ ?_
    · intro i x H2 H3 hi s2 y Kn El hk
      obtain ⟨rfl, hx⟩ := y
      obtain ⟨g, hg, hp⟩ := PLs.at ps hx
      refine ⟨rfl, ?_⟩
      refine ⟨_, rfl, a, dx, _, rfl, s2 _ _ (s1 _ _ ha), rfl, _, rfl, a, r, x, g, rfl, (hf.same s1).same s2, R, pl_same (pl_same hp s1) s2, fun H4 s4 => hk _ _ s4 ?_⟩
      rw [go g (List.mem_of_getElem? hg), List.getElem?_map, hx]
      rfl
    · intro H2 s2 e2
      refine ⟨D, us.map fun _ => true, rfl, SqL.of (by rw [e2, List.map_map]; rfl), ?_⟩
      have e : (us.map fun _ => true).all id = true := by rw [List.all_map]; simp
      rw [e]
      refine ⟨_, rfl, iteF ?_⟩
      have s02 := s1.trans s2
      obtain ⟨ks, e1, hk, e3⟩ := (ps.keep (Same.keepT s02)).ks
      have lk : ks.length = gs.length := by
        have := congrArg List.length e3
        simpa using this
      have hl2 := Same.seq s02 hl
      refine ⟨_, rfl, p, ks, rfl, .inl (by rw [← e1]; exact hl2), hk, by omega, fun b L hb hL1 hL2 hL3 => ?_⟩
      have s3 : Same H2 (upd H2 b (SetTO P w b L)) := Same.new hb
      refine ⟨b, L, rfl, upd_same, fun q hq => sqT_keep (hk q (hL1 q hq)) (Same.keepT s3), ?_⟩
      have s03 := s02.trans s3
      refine ⟨_, rfl, _, us.length, rfl, .inl ⟨_, Same.seq s03 hl, rfl⟩, ?_⟩
      have eL : L.length = us.length := by
        have e4 : (L.map (·.2)).length = (ks.map (·.2)).length := len_eq_of_same hL3 (by rw [e3]; exact nk) fun x => ⟨fun hx => by
          obtain ⟨q, hq, rfl⟩ := List.mem_map.mp hx
          exact List.mem_map.mpr ⟨q, hL1 q hq, rfl⟩, fun hx => by
          obtain ⟨q, hq, rfl⟩ := List.mem_map.mp hx
          exact hL2 q hq⟩
        rw [List.length_map, List.length_map] at e4
        omega
      refine ⟨rfl, ?_⟩
      rw [eL, decide_eq_true rfl]
      exact k _ s03
  · refine ⟨_, pss_cons (ps_if (PW.pt (pw_or (pt_not (pt_val (pe_callB call_isiT (by rfl) T.b_isinstance (by decide +kernel) (pa_cons (pv 1) (pa_cons (pe_tup (pa_cons (pe_bltn (by rfl) T.b_list (by decide +kernel) (v := .ty "list") rfl) (pa_cons (pe_bltn (by rfl) T.b_tuple (by decide +kernel) (v := .ty "tuple") rfl) pa_nil))) pa_nil)))))
      (pw_or1 (pt_not (pt_val (pe_callB (cr_all rfl) (by rfl) T.b_all (by decide +kernel) (pa_cons (pe_lc (own := [("place", 2)]) (g := gName 2) (tt := tYes) rfl nd (pi_tup (pv 1)) (blkOk_by (N := ["floor", "thing", "place"]) (sc := C8.fnScope s_are_wishes) (by decide +kernel)) (fun _ _ _ _ _ => pg_name (i := 2) nd rfl (.inl rfl)) (fun _ _ _ _ _ => pts_nil)
        (fun _ _ _ _ _ => C8.pe_mt h1 hr (by decide) (pv 0) (pa_cons (pv 2) pa_nil))) pa_nil))))))) pss_never pss_nil)
      (pss_one (ps_ret (pe_cmpR op_eq (pe_callB call_lenT (by rfl) T.b_len PySem.boot_len (pa_cons (pe_callTy (cr_setT2 rfl hu) (by rfl) T.b_set (by decide +kernel) (pa_cons (pv 1) pa_nil)) pa_nil)) (pe_callB call_len (by rfl) T.b_len PySem.boot_len (pa_cons (pv 1) pa_nil)) (nomark _)))), ?_⟩
    refine ⟨_, rfl, by show 2 ≤ sizeLine; decide, fun tp htp => ?_⟩
    have s1 : Same H (upd H tp (.tup [.ty "list", .ty "tuple"])) := Same.new htp
    have hl1 := sqT_keep hl (Same.keepT s1)
    refine ⟨_, tp, _, .type "tuple", [.type "list", .type "tuple"], true, rfl, upd_same, .cons (.ty "list") (.cons (.ty "tuple") .nil), ty_tup hl1, by exact kitAny_cons (kit_ty (a := "tuple") (b := "list") (r := false) (by decide +kernel)) (fun _ => kitAny_cons (kit_ty (a := "tuple") (b := "tuple") (r := true) (by decide +kernel)) (fun e => nomatch e) (fun _ => rfl)) (fun e => nomatch e), _, rfl, iteF ?_⟩
    refine ⟨_, rfl, p, rfl, ⟨us, hl1⟩, fun D hD => ?_⟩
    refine lc_vals walk_tup (us.map fun _ => V.bl true) hD (fun H' s => sqT_keep hl1 (Same.keepT s)) (small (by omega)) (by simp) ?_ ?_
    · intro i x H2 H3 hi s2 y Kn El hk
      obtain ⟨rfl, hx⟩ := y
      obtain ⟨g, hg, hp⟩ := PLs.at ps hx
      refine ⟨rfl, ?_⟩
      refine ⟨_, rfl, a, dx, _, rfl, s2 _ _ (s1 _ _ ha), rfl, _, rfl, a, r, x, g, rfl, (hf.same s1).same s2, R, pl_same (pl_same hp s1) s2, fun H4 s4 => hk _ _ s4 ?_⟩
      rw [go g (List.mem_of_getElem? hg), List.getElem?_map, hx]
      rfl
    · intro H2 s2 e2
      refine ⟨D, us.map fun _ => true, rfl, SqL.of (by rw [e2, List.map_map]; rfl), ?_⟩
      have e : (us.map fun _ => true).all id = true := by rw [List.all_map]; simp
      rw [e]
      refine ⟨_, rfl, iteF ?_⟩
      have s02 := s1.trans s2
      obtain ⟨ks, e1, hk, e3⟩ := (ps.keep (Same.keepT s02)).ks
      have lk : ks.length = gs.length := by
        have := congrArg List.length e3
        simpa using this
      have hl2 := sqT_keep hl (Same.keepT s02)
      refine ⟨_, rfl, p, ks, rfl, .inr (by rw [← e1]; exact hl2), hk, by omega, fun b L hb hL1 hL2 hL3 => ?_⟩
      have s3 : Same H2 (upd H2 b (SetTO P w b L)) := Same.new hb
      refine ⟨b, L, rfl, upd_same, fun q hq => sqT_keep (hk q (hL1 q hq)) (Same.keepT s3), ?_⟩
      have s03 := s02.trans s3
      refine ⟨_, rfl, _, us.length, rfl, .inr ⟨_, sqT_keep hl (Same.keepT s03), rfl⟩, ?_⟩
      have eL : L.length = us.length := by
        have e4 : (L.map (·.2)).length = (ks.map (·.2)).length := len_eq_of_same hL3 (by rw [e3]; exact nk) fun x => ⟨fun hx => by
          obtain ⟨q, hq, rfl⟩ := List.mem_map.mp hx
          exact List.mem_map.mpr ⟨q, hL1 q hq, rfl⟩, fun hx => by
          obtain ⟨q, hq, rfl⟩ := List.mem_map.mp hx
          exact hL2 q hq⟩
        rw [List.length_map, List.length_map] at e4
        omega
      refine ⟨rfl, ?_⟩
      rw [eL, decide_eq_true rfl]
      exact k _ s03
end
end K79
/-! part W8 -/
/-! first_wrong, want_said. -/
namespace K79
open PySem PySem.Spec PyProof.Rows L2
theorem pls_lay : ∀ l : List Pl, PyData.canLayAll0 (l.map pdPl) = true
  | [] => by simp [PyData.canLayAll0]
  | p :: l => by
    have e : (pdPl p).canLay0 = true := by simp [pdPl, PyData.canLay0, PyData.canLayAll0]
    simp [PyData.canLayAll0, e, pls_lay l]
theorem pls_depth : ∀ l : List Pl, PyData.depthAll (l.map pdPl) ≤ 1
  | [] => by simp [PyData.depthAll]
  | p :: l => by
    have h1 := pls_depth l
    have h2 : (pdPl p).depth ≤ 1 := by simp [pdPl, PyData.depth, PyData.depthAll]
    simp only [List.map_cons, PyData.depthAll]
    omega
theorem pls_shaped (l : List Pl) : SeqAt.shaped (.list (l.map pdPl)) = true := by
  have h1 := pls_depth l
  show (PyData.canLay0 (.list (l.map pdPl)) && decide (PyData.depth (.list (l.map pdPl)) ≤ 64)) = true
  rw [show PyData.canLay0 (.list (l.map pdPl)) = PyData.canLayAll0 (l.map pdPl) by simp only [PyData.canLay0], pls_lay l, Bool.true_and]
  refine decide_eq_true ?_
  simp only [PyData.depth]
  omega
theorem any_pl (l : List Pl) (x : Pl) : ((l.map pdPl).any fun z => PyData.eqv z (pdPl x)) = decide (x ∈ l) := by
  induction l with
  | nil => simp
  | cons y l ih =>
    rw [List.map_cons, List.any_cons, ih, pdPl_eqv]
    by_cases h1 : y = x
    · simp [h1]
    · have h2 : ¬ x = y := fun e => h1 e.symm
      by_cases h3 : x ∈ l <;> simp [h1, h2, h3]
theorem opn_on {r : Rows} {p : Pl} (h : p ∈ opn r) : onF r p = true := cells_on (List.mem_filter.mp h).1
section
variable {P : Program} {w : World} {K : PySem.W.Frag} {mg : Str → Option Value} {base : Heap}
def spFirstWrong (K : PySem.W.Frag) : Sp := fun vs H Q _ => ∃ a r vb p t pd bk vw, vs = [.ref a, vb, .str (S t), .ref pd, vw] ∧ FlV K H a r ∧ RowsOk r ∧ PlV K H vb p ∧ p ∈ opn r ∧ t ∈ turns8 ∧ BkV H pd r bk ∧ (∀ s, bk s ∈ turns8) ∧ WhV K H vw r ∧ ∀ H', Same H H' → Q .non H'
theorem BkV.same {H H' : Hp} {pd : Addr} {r : Rows} {bk : Nat → List Nat} (h : BkV H pd r bk) (s : Same H H') : BkV H' pd r bk := by
  obtain ⟨ls, h1, h2, h3⟩ := h
  exact ⟨ls, h1, h2, s _ _ h3⟩
theorem ok_first_wrong (T : Txt K mg) (h1 : C8.Met P w K mg base 4 (cF K) "has" (spHas K) []) (h2 : C8.Met P w K mg base 6 (cF K) "open_places" (spOpenPlaces K) []) (h3 : C8.Cal P w K mg base 1 "is_turn" spIsTurn [])
    (h4 : C8.Cal P w K mg base 2 "is_book" (spIsBook K) []) (h5 : C8.Cal P w K mg base 5 "are_wishes" (spAreWishes K) []) : C8.Cal P w K mg base 7 "first_wrong" (spFirstWrong K) [] := by
  refine cal T.f_first_wrong (N := ["floor", "begin", "turn", "book", "wishes"]) (ps := ["floor", "begin", "turn", "book", "wishes"]) (by decide +kernel) (fun _ _ _ _ _ _ us hl => match us, hl with | [_, _, _, _, _], _ => rfl) (fun vs H Q E h => by obtain ⟨_, _, _, _, _, _, _, _, rfl, _⟩ := h; rfl) (fun f cdv A outer s H vs Q E hr h => ?_)
  obtain ⟨a, r, vb, p, t, pd, bk, vw, rfl, hf, R, hp, ho, ht, hbk, hb, hw, k⟩ := h
  refine ⟨_, pss_cons (ps_if (pt_not (pt_val (pe_callB call_isi (by rfl) T.b_isinstance (by decide +kernel) (pa_cons (pv 0) (pa_cons (pe_glob (by rfl) T.gF (v := .ref (cF K)) rfl) pa_nil))))) pss_never pss_nil)
    (pss_cons (ps_if (PW.pt (pw_or (pt_not (pt_val (C8.pe_mt h1 hr (by decide) (pv 0) (pa_cons (pv 1) pa_nil)))) (pw_or1 (pt_cmpR (op_notInD (hu1 hr)) (pv 1) (C8.pe_mt0 h2 hr (by decide) (pv 0)) (by rfl))))) pss_never pss_nil)
    (pss_cons (ps_if (pt_not (pt_val (C8.pe_c h3 hr (by decide) rfl (pa_cons (pv 2) pa_nil)))) pss_never pss_nil)
    (pss_cons (ps_if (pt_not (pt_val (C8.pe_c h4 hr (by decide) rfl (pa_cons (pv 0) (pa_cons (pv 3) pa_nil))))) pss_never pss_nil)
    (pss_one (ps_ret (pe_ifExp (pt_val (C8.pe_c h5 hr (by decide) rfl (pa_cons (pv 0) (pa_cons (pv 4) pa_nil)))) pe_non pe_str)))))), ?_⟩
  have hf' := hf
  obtain ⟨dx, q, ha, hq⟩ := hf'
  refine ⟨_, rfl, _, _, _, _, _, rfl, .own (cF K), .base (.ins ha T.clF T.isF.i1 T.isF.i2 T.isF.i3 T.isF.i4), T.isF.i5, _, rfl, iteF ?_⟩
  refine ⟨_, rfl, a, dx, _, rfl, ha, rfl, _, rfl, a, r, vb, p, rfl, hf, R, hp, fun H1 s1 => ?_⟩
  refine ⟨_, rfl, ?_⟩
  rw [opn_on ho]
  refine iteF ?_
  refine ⟨_, rfl, _, rfl, a, dx, _, rfl, s1 _ _ ha, rfl, a, r, rfl, hf.same s1, R, fun l us H2 s2 e2 ps => ?_⟩
  have s02 := s1.trans s2
  refine ⟨pdPl p, (opn r).map pdPl, (pl_same hp s02).dp, .lst (SqL.of e2) ps.dp, pdPl_shaped p, pls_shaped _, ?_⟩
  refine ⟨_, rfl, ?_⟩
  rw [any_pl, decide_eq_true ho]
  refine iteF ?_
  refine ⟨_, rfl, t, rfl, ht, _, rfl, iteF ?_⟩
  refine ⟨_, rfl, _, rfl, a, r, pd, bk, rfl, hf.same s02, R, hbk.same s02, hb, fun H3 s3 => ?_⟩
  refine ⟨_, rfl, iteF ?_⟩
  have s03 := s02.trans s3
  refine ⟨_, rfl, _, rfl, a, r, vw, rfl, hf.same s03, R, hw.same s03, fun H4 s4 => ?_⟩
  exact ⟨_, rfl, iteT (k _ (s03.trans s4))⟩
def spWantSaid : Sp := fun vs H Q _ => ∃ l : List Nat, vs = [.str (S l)] ∧ (∀ c ∈ l, c ∈ deeds) ∧ l ≠ [] ∧ ∀ H', Same H H' → Q .non H'
theorem ok_want_said (T : Txt K mg) (h1 : C8.Cal P w K mg base 1 "want_row" spWantRow []) : C8.Cal P w K mg base 2 "want_said" spWantSaid [] := by
  refine cal T.f_want_said (N := ["row"]) (ps := ["row"]) (by decide +kernel) (fun _ _ _ _ _ _ us hl => match us, hl with | [_], _ => rfl) (fun vs H Q E h => by obtain ⟨_, rfl, _⟩ := h; rfl) (fun f cdv A outer s H vs Q E hr h => ?_)
  obtain ⟨l, rfl, hl, hn, k⟩ := h
  refine ⟨_, pss_cons (ps_expr (C8.pe_c h1 hr (by decide) rfl (pa_cons (pv 0) pa_nil))) (pss_one (ps_if (pt_cmpR op_eq (pv 0) pe_str (nomark _)) pss_never pss_nil)), ?_⟩
  refine ⟨_, rfl, l, rfl, hl, fun H1 s1 => ?_⟩
  refine ⟨_, rfl, rfl, _, rfl, ?_⟩
  rw [show ("" : Str) = S [] by decide +kernel, dec_S, decide_eq_false hn]
  exact iteF (k _ s1)
end
end K79
/-! part W9 -/
/-! The world is made. -/
namespace K79
open PySem PySem.Spec PyProof.Rows L2
def WoV (K : PySem.W.Frag) (H : Hp) (a : Addr) (L : Land) (x : Post) : Prop := ∃ dx g pd gt vop vf op, H a = some (.ins (cW K) dx [("ground", .ref g), ("pages", .ref pd), ("goals", .ref gt), ("opening", vop), ("first", vf)]) ∧
  FlV K H g L.rows ∧ BkV H pd L.rows L.book ∧ WhV K H (.ref gt) L.rows ∧ PlV K H vop op ∧ op ∈ opn L.rows ∧ PV K H vf x
theorem WoV.same {K : PySem.W.Frag} {H H' : Hp} {a : Addr} {L : Land} {x : Post} (h : WoV K H a L x) (s : Same H H') : WoV K H' a L x := by
  obtain ⟨dx, g, pd, gt, vop, vf, op, h1, h2, h3, h4, h5, h6, h7⟩ := h
  exact ⟨dx, g, pd, gt, vop, vf, op, s _ _ h1, h2.same s, h3.same s, h4.same s, pl_same h5 s, h6, pv_same h7 s⟩
/-- an object that is no tuple may change -/
def NoTup (H : Hp) (a : Addr) : Prop := (∀ xs, H a ≠ some (.tup xs)) ∧ ∀ o u, H a ≠ some (.frz o u)
theorem SameBut.keepT {a : Addr} {H H' : Hp} (s : SameBut a H H') (n : NoTup H a) : KeepT H H' := by
  constructor
  · intro b xs e
    exact s b _ (fun z => n.1 xs (by rw [← z]; exact e)) e
  · intro b o u e
    exact s b _ (fun z => n.2 o u (by rw [← z]; exact e)) e
theorem noTup_ins {H : Hp} {a C dx : Addr} {fs : List (Str × V)} (h : H a = some (.ins C dx fs)) : NoTup H a := ⟨fun xs e => (by rw [h] at e; cases e), fun o u e => (by rw [h] at e; cases e)⟩
theorem noTup_lst {H : Hp} {a : Addr} {l : List V} (h : H a = some (.lst l)) : NoTup H a := ⟨fun xs e => (by rw [h] at e; cases e), fun o u e => (by rw [h] at e; cases e)⟩
theorem noTup_dK {H : Hp} {a : Addr} {l : List (Key × V)} (h : H a = some (.dK l)) : NoTup H a := ⟨fun xs e => (by rw [h] at e; cases e), fun o u e => (by rw [h] at e; cases e)⟩
theorem FlV.but {K : PySem.W.Frag} {H H' : Hp} {a g : Addr} {r : Rows} (h : FlV K H g r) (s : SameBut a H H') (n : NoTup H a) (hne : g ≠ a) : FlV K H' g r := by
  obtain ⟨dx, q, h1, h2⟩ := h
  exact ⟨dx, q, s _ _ hne h1, sqT_keep h2 (s.keepT n)⟩
theorem WhV.but {K : PySem.W.Frag} {H H' : Hp} {a : Addr} {v : V} {r : Rows} (h : WhV K H v r) (s : SameBut a H H') (n : NoTup H a) (hl : ∀ xs, H a ≠ some (.lst xs)) : WhV K H' v r := by
  obtain ⟨p, us, gs, h1, h2, h3, h4⟩ := h
  refine ⟨p, us, gs, h1, ?_, h3.keep (s.keepT n), h4⟩
  rcases h2 with ((h2 | ⟨o, h2⟩) | h2) | h2
  · exact .inl (.inl (.inl (s _ _ (fun z => hl us (by rw [← z]; exact h2)) h2)))
  · exact .inl (.inl (.inr ⟨o, s _ _ (fun z => n.2 o _ (by rw [← z]; exact h2)) h2⟩))
  · exact .inl (.inr h2)
  · exact .inr (sqT_keep h2 (s.keepT n))
theorem not_in_take {l : List Nat} (h : l.Nodup) : ∀ {i c : Nat}, l[i]? = some c → c ∉ l.take i := by
  intro i c e hm
  obtain ⟨j, hj⟩ := List.mem_iff_getElem?.mp hm
  have hlt : j < i := by
    have := (List.getElem?_eq_some_iff.mp hj).1
    rw [List.length_take] at this
    omega
  rw [List.getElem?_take_of_lt hlt] at hj
  obtain ⟨h1, e1⟩ := List.getElem?_eq_some_iff.mp hj
  obtain ⟨h2, e2⟩ := List.getElem?_eq_some_iff.mp e
  have := (List.getElem_inj h).mp (e1.trans e2.symm)
  omega
theorem putK_bk (bk : Nat → List Nat) (ls : List Nat) (c : Nat) (h : c ∉ ls) : putK (bkK ls bk) (Sum.inr (S [c])) (V.str (S (bk c))) = bkK (ls ++ [c]) bk := by
  have e : ((bkK ls bk).any fun kv => decide (kv.1 = Sum.inr (S [c]))) = false := by
    rw [List.any_eq_false]
    intro kv hkv
    obtain ⟨d, hd, rfl⟩ := List.mem_map.mp hkv
    simp only [decide_eq_true_eq]
    intro z
    have : d = c := (List.cons.inj (S_inj (Sum.inr.inj z))).1
    exact h (this ▸ hd)
  unfold putK
  rw [e, if_neg Bool.false_ne_true]
  simp [bkK]
theorem PLs.perm {K : PySem.W.Frag} {H : Hp} {us ys : List V} (p : ys.Perm us) : ∀ {gs : List Pl}, PLs K H us gs → ∃ gs', PLs K H ys gs' ∧ gs'.Perm gs := by
  induction p with
  | nil => intro gs h; exact ⟨gs, h, .refl _⟩
  | cons x _ ih =>
    intro gs h
    cases h with
    | cons r t =>
      obtain ⟨gs', h1, h2⟩ := ih t
      exact ⟨_ :: gs', .cons r h1, h2.cons _⟩
  | swap x y l =>
    intro gs h
    cases h with
    | cons r t => cases t with
      | cons r2 t => exact ⟨_, .cons r2 (.cons r t), .swap _ _ _⟩
  | trans _ _ ih1 ih2 =>
    intro gs h
    obtain ⟨g2, h1, h2⟩ := ih2 h
    obtain ⟨g3, h3, h4⟩ := ih1 h1
    exact ⟨g3, h3, h4.trans h2⟩
theorem CallR.or {X : Cx} {f : Value} {r1 r2 : List V → Hp → VK → Prop} (h1 : CallR X f r1) (h2 : CallR X f r2) : CallR X f (fun vs H Q => r1 vs H Q ∨ r2 vs H Q) := fun pins s σ H xs us Q I r h => h.elim (h1 pins s σ H xs us Q I r) (h2 pins s σ H xs us Q I r)
section
variable {P : Program} {w : World} {K : PySem.W.Frag} {mg : Str → Option Value} {base : Heap}
def spWorld (K : PySem.W.Frag) : Sp := fun vs H Q _ => ∃ a g vb t pd vw dx L p, vs = [.ref a, .ref g, vb, .str (S t), .ref pd, vw] ∧ H a = some (.ins (cW K) dx []) ∧ FlV K H g L.rows ∧ LandOk L ∧ PlV K H vb p ∧ p ∈ opn L.rows ∧ t ∈ turns8 ∧ BkV H pd L.rows L.book ∧ WhV K H vw L.rows ∧
  ∀ H', SameBut a H H' → WoV K H' a L (some (p, t)) → Q .non H'
abbrev wPs : List Str := ["self", "floor", "begin", "turn", "book", "wishes"]
theorem ok_world (T : Txt K mg) (h1 : C8.Cal P w K mg base 7 "first_wrong" (spFirstWrong K) []) (h2 : C8.Met P w K mg base 1 (cF K) "letters" (spLetters K) []) :
    ∃ fd, FnOk P w K mg base C8.CX0 8 (He.ma K (cW K) "__init__") fd wPs (spWorld K) ∧ FunD K "__init__" "World.__init__" (C8.fnArgs s_World_init) (C8.fnBody s_World_init) (C8.fnScope s_World_init) [] [("turn", .str "urdl"), ("book", .non), ("wishes", .ref (wishDfl K))] (He.ma K (cW K) "__init__") fd := by
  obtain ⟨fd, F⟩ := T.f_World_init
  obtain ⟨td, hdd⟩ := T.c_DEEDS
  have SC : C8.scC ["self", "floor", "begin", "turn", "book", "wishes", "wrong", "letter"] wPs (C8.fnScope s_World_init) = true := by decide +kernel
  have nd := (C8.fnScope_by SC).nd
  refine ⟨fd, F.ok (C8.fnScope_by SC) (fun vs H Q E h => by obtain ⟨_, _, _, _, _, _, _, _, _, rfl, _⟩ := h; rfl) (fun cdv A outer s H vs Q E hr h => ?_), F⟩
  obtain ⟨a, g, vb, t, pd, vw, dx, L, p, rfl, ha, hf, O, hp, ho, ht, hbk, hw, k⟩ := h
  have hu := hu_of hr
  suffices hh : ∃ t, PSs (cxOf C8.CX0 P w K mg base ["self", "floor", "begin", "turn", "book", "wishes", "wrong", "letter"] "World.__init__" (C8.fnScope s_World_init) _ cdv A outer s H E).nox (C8.fnBody s_World_init) t ∧ t { nx := fun _ H' => Q .non H', rt := Q } (start _ [.ref a, .ref g, vb, .str (S _), .ref pd, vw]) H by
    obtain ⟨t, q1, q2⟩ := hh
    exact ⟨t, q1.nox, q2⟩
  refine ⟨_, pss_cons (ps_set (i := 6) nd rfl (.inl rfl) (C8.pe_c h1 hr (by decide) rfl (pa_cons (pv 1) (pa_cons (pv 2) (pa_cons (pv 3) (pa_cons (pv 4) (pa_cons (pv 5) pa_nil)))))))
    (pss_cons (ps_if (pt_cmpR op_notN (pv 6) pe_non (nomark _)) pss_never pss_nil)
    (pss_cons (ps_fld (pv 0) (pv 1) rfl)
    (pss_cons (ps_fld (pv 0) (pe_dc (own := [("letter", 7)]) (g := gName 7) (tt := tYes) rfl nd (pi_str (C8.pe_mt0 h2 hr (by decide) (pv 1))) (blkOk_by (N := ["self", "floor", "begin", "turn", "book", "wishes", "wrong", "letter"]) (sc := C8.fnScope s_World_init) (by decide +kernel)) (fun _ _ _ _ _ => pg_name (i := 7) nd rfl (.inl rfl)) (fun _ _ _ _ _ => pts_nil)
      (fun _ _ _ _ _ => pv 7) (fun _ _ _ _ _ => pe_ifExp (pt_cmpR op_isN (pv 4) pe_non (nomark _)) (pe_glob (by rfl) hdd (v := .str "urdl") ⟨_, rfl⟩) (pe_dget hu (pv 4) (pv 7) (fun _ _ => rfl)))) rfl)
    (pss_cons (ps_fld (pv 0) (pe_callTy call_tuple_of (by rfl) T.b_tuple (by decide +kernel) (pa_cons (pe_callB (CallR.or (cr_sortT (d := 2) (B := 10) (by decide)) (cr_sortTt (d := 2) (B := 10) (by decide))) (by rfl) T.b_sorted (by decide +kernel) (pa_cons (pv 5) pa_nil)) pa_nil)) rfl)
    (pss_cons (ps_fld (pv 0) (pv 2) rfl)
    (pss_one (ps_fld (pv 0) (pe_tup (pa_cons (pv 2) (pa_cons (pv 3) pa_nil))) rfl))))))), ?_⟩
  have R := O.rows
  have hga : g ≠ a := fun z => by
    obtain ⟨_, _, e, _⟩ := hf
    rw [z, ha] at e
    exact nomatch (HO.ins.inj (Option.some.inj e)).2.2
  have hpa : pd ≠ a := fun z => by
    obtain ⟨_, _, _, e⟩ := hbk
    rw [z, ha] at e
    cases e
  have nt := noTup_ins ha
  have nl : ∀ xs, H a ≠ some (.lst xs) := fun xs e => by rw [ha] at e; cases e
  refine ⟨_, rfl, _, rfl, _, rfl, _, rfl, _, rfl, g, L.rows, vb, p, t, pd, L.book, vw, rfl, hf, R, hp, ho, ht, hbk, O.book, hw, fun H1 s1 => ?_⟩
  refine ⟨_, rfl, rfl, _, rfl, iteF ?_⟩
  refine ⟨_, rfl, _, rfl, a, cW K, dx, _, rfl, s1 _ _ ha, T.clW, T.n_ground, by decide, ?_⟩
  have b2 : SameBut a H (upd H1 a (.ins (cW K) dx (putF "ground" (.ref g) []))) := SameBut.upd (Same.but s1)
  generalize e2 : upd H1 a (.ins (cW K) dx (putF "ground" (.ref g) [])) = H2 at b2 ⊢
  have ha2 : H2 a = some (.ins (cW K) dx [("ground", .ref g)]) := by rw [← e2, upd_same]; rfl
  have hf2 : FlV K H2 g L.rows := hf.but b2 nt hga
  have hf3 := hf2
  obtain ⟨fdx, fq, hfa, hfq⟩ := hf3
  refine ⟨_, rfl, g, fdx, _, rfl, hfa, rfl, g, L.rows, rfl, hf2, R, fun H3 s3 => ?_⟩
  refine ⟨_, rfl, fun D hD => ?_⟩
  obtain ⟨ls, ln, lm, hpd⟩ := hbk
  have hpd3 : H3 pd = some (.dK (bkK ls L.book)) := s3 _ _ (b2 _ _ hpa hpd)
  have l4 := letters_len L.rows
  refine ⟨fun i m H' => m = (lettersOf L.rows).length - i ∧ i ≤ (lettersOf L.rows).length ∧ Same H3 H' ∧ H' D = some (.dK (bkK ((lettersOf L.rows).take i) L.book)), ⟨_, rfl, Nat.zero_le _, Same.new hD, upd_same⟩, ?_⟩
  rintro i m H4 ⟨rfl, hi, s4, e4⟩
  by_cases hlt : i < (lettersOf L.rows).length
  · refine .inr ⟨hlt, fun H' => i + 1 ≤ (lettersOf L.rows).length ∧ Same H3 H' ∧ H' D = some (.dK (bkK ((lettersOf L.rows).take (i + 1)) L.book)), fun H' h => ⟨(lettersOf L.rows).length - (i + 1), by omega, rfl, h.1, h.2⟩, ?_⟩
    rintro x H5 ⟨rfl, c, hc, rfl⟩
    have hc2 : (lettersOf L.rows)[i]? = some c := by simpa using hc
    refine ⟨rfl, ?_⟩
    refine ⟨_, rfl, _, rfl, rfl, _, rfl, iteF ?_⟩
    have hm := (lm c).mpr (List.mem_of_getElem? hc2)
    have hv : valV (bkK ls L.book) (Sum.inr (S [c])) = some (V.str (S (L.book c))) := by rw [valV_bk, if_pos hm]
    have dg := DGet.k (k := Sum.inr (S [c])) (s4 _ _ hpd3)
    rw [hv] at dg
    refine ⟨_, rfl, _, rfl, pd, _, rfl, dg, ?_⟩
    refine ⟨_, Sum.inr (S [c]), rfl, e4, ?_, hlt, same_upd s4 hD, ?_⟩
    · rw [bkK, List.length_map, List.length_take]
      exact small1000 (by omega)
    · rw [upd_same, putK_bk _ _ _ (not_in_take (letters_nodup _) hc2), List.take_succ, hc2]
      rfl
  have ei : i = (lettersOf L.rows).length := by omega
  subst ei
  refine .inl ⟨Nat.le_refl _, ?_⟩
  rw [List.take_length] at e4
  have ha4 := s4 _ _ (s3 _ _ ha2)
  refine ⟨_, rfl, a, cW K, dx, _, rfl, ha4, T.clW, T.n_pages, (by show 1 < 1000; decide), ?_⟩
  have b4 : SameBut a H H4 := (b2.trans (Same.but s3)).trans (Same.but s4)
  have hDa : D ≠ a := fun z => by rw [z] at hD; rw [s3 _ _ ha2] at hD; cases hD
  have b5 := b4.upd (o := .ins (cW K) dx (putF "pages" (.ref D) [("ground", .ref g)]))
  generalize e5 : upd H4 a (.ins (cW K) dx (putF "pages" (.ref D) [("ground", .ref g)])) = H5 at b5 ⊢
  have ha5 : H5 a = some (.ins (cW K) dx [("ground", .ref g), ("pages", .ref D)]) := by rw [← e5, upd_same]; rfl
  have hD5 : H5 D = some (.dK (bkK (lettersOf L.rows) L.book)) := by rw [← e5, upd_ne hDa]; exact e4
  obtain ⟨wp, us, gs, rfl, hus, hps, gn, go, g9⟩ := hw.but b5 nt nl
  have hlen := hps.len
  have hall : ∀ x ∈ us, ∃ ns, TupI K H5 x ns ∧ ns.length = 2 ∧ TS.Bd 10 ns := fun x hx => by
    obtain ⟨i, hi⟩ := List.mem_iff_getElem?.mp hx
    obtain ⟨y, hy, q, rfl, hq⟩ := PLs.at hps hi
    obtain ⟨⟨o1, o2⟩, o3, o4⟩ := onF_iff.mp (go y (List.mem_of_getElem? hy))
    have h6 := R.h6
    have w6 := R.w6
    unfold hgt at o2
    refine ⟨[y.1, y.2], ⟨q, rfl, hq⟩, rfl, fun m hm => ?_⟩
    simp only [List.mem_cons, List.not_mem_nil, or_false] at hm
    rcases hm with rfl | rfl <;> omega
  have fin : ∀ (ys : List V) (l : Addr), ys.Perm us → H5 l = none → ∀ q, upd H5 l (.lst ys) q = none → ∀ H6, SameBut a (upd (upd H5 l (.lst ys)) q (.tup ys)) H6 → WhV K H6 (.ref q) L.rows := fun ys l hy hl q hq H6 b6 => by
    have s5 : Same H5 (upd (upd H5 l (.lst ys)) q (.tup ys)) := Same.then_new (Same.new hl) hq
    have ha6 := s5 _ _ ha5
    obtain ⟨gs', g1, g2⟩ := hps.perm hy
    have kt := b6.keepT (noTup_ins ha6)
    exact ⟨q, ys, gs', rfl, .inr (sqT_keep (SqT.of upd_same) kt), (g1.keep (Same.keepT s5)).keep kt, (g2.nodup_iff).mpr gn, fun g hg => go g (g2.mem_iff.mp hg), by rw [g2.length_eq]; exact g9⟩
  have tail : ∀ (ys : List V) (l : Addr), ys.Perm us → H5 l = none → ∀ q, upd H5 l (.lst ys) q = none → ∃ x C dx' fs, V.ref a = .ref x ∧ upd (upd H5 l (.lst ys)) q (.tup ys) x = some (.ins C dx' fs) ∧ Cls K C ∧ NoAttr K C "goals" ∧ fs.length < 1000 ∧
      sFld K (tVar 0) (tVar 2) "opening" { nx := sFld K (tVar 0) (tTup (tCons (tVar 2) (tCons (tVar 3) tNil))) "first" { nx := fun _ H' => Q .non H', rt := Q }, rt := Q } [some (.ref a), some (.ref g), some vb, some (.str (S t)), some (.ref pd), some (.ref wp), some .non, none] (upd (upd (upd H5 l (.lst ys)) q (.tup ys)) x (.ins C dx' (putF "goals" (.ref q) fs))) := fun ys l hy hl q hq => by
    have s5 : Same H5 (upd (upd H5 l (.lst ys)) q (.tup ys)) := Same.then_new (Same.new hl) hq
    have ha6 := s5 _ _ ha5
    refine ⟨a, cW K, dx, _, rfl, ha6, T.clW, T.n_goals, (by show 2 < 1000; decide), ?_⟩
    have wh := fin ys l hy hl q hq
    generalize upd (upd H5 l (.lst ys)) q (.tup ys) = H6 at s5 ha6 wh ⊢
    have b6 : SameBut a H H6 := b5.trans (Same.but s5)
    have nt6 := noTup_ins ha6
    refine ⟨_, rfl, _, rfl, a, cW K, dx, _, rfl, upd_same, T.clW, T.n_opening, (by show 3 < 1000; decide), ?_⟩
    refine ⟨_, rfl, _, rfl, by show 2 ≤ sizeLine; decide, fun u hu' => ?_⟩
    have b7 : SameBut a H6 (upd (upd H6 a (.ins (cW K) dx (putF "goals" (.ref q) [("ground", .ref g), ("pages", .ref D)]))) a (.ins (cW K) dx (putF "opening" vb (putF "goals" (.ref q) [("ground", .ref g), ("pages", .ref D)])))) := ((SameBut.refl a H6).upd).upd
    have ha7 : (upd (upd H6 a (.ins (cW K) dx (putF "goals" (.ref q) [("ground", .ref g), ("pages", .ref D)]))) a (.ins (cW K) dx (putF "opening" vb (putF "goals" (.ref q) [("ground", .ref g), ("pages", .ref D)])))) a = some (.ins (cW K) dx [("ground", .ref g), ("pages", .ref D), ("goals", .ref q), ("opening", vb)]) := by rw [upd_same]; rfl
    generalize (upd (upd H6 a (.ins (cW K) dx (putF "goals" (.ref q) [("ground", .ref g), ("pages", .ref D)]))) a (.ins (cW K) dx (putF "opening" vb (putF "goals" (.ref q) [("ground", .ref g), ("pages", .ref D)])))) = H7 at b7 ha7 hu' ⊢
    have s8 : Same H7 (upd H7 u (.tup [vb, .str (S t)])) := Same.new hu'
    refine ⟨_, rfl, a, cW K, dx, _, rfl, s8 _ _ ha7, T.clW, T.n_first, (by show 4 < 1000; decide), ?_⟩
    have b8 : SameBut a H6 (upd (upd H7 u (.tup [vb, .str (S t)])) a (.ins (cW K) dx (putF "first" (.ref u) [("ground", .ref g), ("pages", .ref D), ("goals", .ref q), ("opening", vb)]))) := (b7.trans (Same.but s8)).upd
    have hua : u ≠ a := fun z => by rw [z, ha7] at hu'; cases hu'
    have b9 := b6.trans b8
    have pl9 := hp.keep (b9.keepT nt)
    refine k _ b9 ⟨dx, g, D, q, vb, .ref u, p, by rw [upd_same]; rfl, hf.but b9 nt hga, ?_, ?_, pl9, ho, u, vb, rfl, SqT.of (by rw [upd_ne hua, upd_same]), pl9⟩
    · exact ⟨lettersOf L.rows, letters_nodup _, fun _ => Iff.rfl, b8 _ _ hDa (s5 _ _ hD5)⟩
    · exact wh _ b8
  rcases hus with hus | hus
  · refine ⟨_, rfl, .inl ⟨wp, us, rfl, hus, by omega, hall, fun ys l hy _ hl => ?_⟩⟩
    refine ⟨l, ys, rfl, .inl ⟨SqL.of upd_same, fun q hq => ?_⟩⟩
    exact ⟨_, rfl, tail ys l hy hl q hq⟩
  · refine ⟨_, rfl, .inr ⟨wp, us, rfl, hus, by omega, hall, fun ys l hy hl => ?_⟩⟩
    refine ⟨l, ys, rfl, .inl ⟨SqL.of upd_same, fun q hq => ?_⟩⟩
    exact ⟨_, rfl, tail ys l hy hl q hq⟩
end
end K79
/-! part W10 -/
/-! The world: start, want_stand, begun, behind. -/
namespace K79
open PySem PySem.Spec PyProof.Rows L2
theorem let_in {r : Rows} (R : RowsOk r) {q : Pl} (h : isLet (sgn r q) = true) : sgn r q ∈ lettersOf r := by
  have hm : sgn r q ∈ ([97, 98, 99, 100] : List Nat) := of_decide_eq_true h
  have ho : onF r q = true := sgn_off fun e => by
    rw [e] at hm
    exact absurd hm (by decide)
  obtain ⟨l, _, h2, h3, _⟩ := R.row ho
  refine List.mem_filter.mpr ⟨hm, ?_⟩
  exact List.any_eq_true.mpr ⟨l, h2, decide_eq_true (List.mem_of_getElem? h3)⟩
section
variable {P : Program} {w : World} {K : PySem.W.Frag} {mg : Str → Option Value} {base : Heap}
/-- World(..) with the turn left out, and with all given -/
def gW1 {α : Type} (us mv ws : List α) : List α := us ++ mv ++ ws
theorem kb_begun {fd : FuncData} (F : FunD K "__init__" "World.__init__" (C8.fnArgs s_World_init) (C8.fnBody s_World_init) (C8.fnScope s_World_init) [] [("turn", .str "urdl"), ("book", .non), ("wishes", .ref (wishDfl K))] (He.ma K (cW K) "__init__") fd) :
    ∃ mv : List Value, KBn K fd wPs 3 ["book", "wishes"] (fun us ws => gW1 us mv ws) (fun vs zs => gW1 vs [.str "urdl"] zs) := by
  refine F.kbinds0 3 ["book", "wishes"] [("turn", .str "urdl")] gW1 (by simp) (fun q hq => by rw [List.mem_singleton.mp hq]; exact List.mem_cons_self) (fun r1 r2 r3 => (r1.append r2).append r3) ?_
  intro D doc pm an cdv ct us mv ws h1 h2 h3
  match us, mv, ws, h1, h2, h3 with
  | [_, _, _], [_], [_, _], _, _, _ => exact ⟨_, _, _, _, _, _, rfl, rfl, rfl⟩
theorem kb_made {fd : FuncData} (F : FunD K "__init__" "World.__init__" (C8.fnArgs s_World_init) (C8.fnBody s_World_init) (C8.fnScope s_World_init) [] [("turn", .str "urdl"), ("book", .non), ("wishes", .ref (wishDfl K))] (He.ma K (cW K) "__init__") fd) :
    ∃ mv : List Value, KBn K fd wPs 3 ["turn", "book", "wishes"] (fun us ws => gW1 us mv ws) (fun vs zs => gW1 vs [] zs) := by
  refine F.kbinds0 3 ["turn", "book", "wishes"] [] gW1 (by simp) (fun q hq => nomatch hq) (fun r1 r2 r3 => (r1.append r2).append r3) ?_
  intro D doc pm an cdv ct us mv ws h1 h2 h3
  match us, mv, ws, h1, h2, h3 with
  | [_, _, _], [], [_, _, _], _, _, _ => exact rfl
def spStart (K : PySem.W.Frag) : Sp := fun vs H Q _ => ∃ a L x, vs = [.ref a] ∧ WoV K H a L x ∧ ∀ v, PV K H v x → Q v H
theorem ok_start (T : Txt K mg) : C8.Met P w K mg base 1 (cW K) "start" (spStart K) [] := by
  refine met T.clW T.f_World_start (N := ["self"]) (ps := ["self"]) (by decide +kernel) (fun _ _ _ _ _ _ us hl => match us, hl with | [_], _ => rfl) (fun vs H Q E h => by obtain ⟨_, _, _, rfl, _⟩ := h; rfl) (fun f cdv A outer s H vs Q E hr h => ?_)
  obtain ⟨a, L, x, rfl, ⟨dx, g, pd, gt, vop, vf, op, h1, h2, h3, h4, h5, h6, h7⟩, k⟩ := h
  refine ⟨_, pss_one (ps_ret (pe_fld (pv 0) rfl)), ?_⟩
  exact ⟨_, rfl, a, _, dx, _, _, rfl, h1, T.clW, T.n_first, rfl, k _ h7⟩
def spWantStand (K : PySem.W.Frag) : Sp := fun vs H Q _ => ∃ a L x0 v x, vs = [.ref a, v] ∧ WoV K H a L x0 ∧ LandOk L ∧ PV K H v x ∧ PostOk L.rows x ∧ ∀ H', Same H H' → Q .non H'
theorem ok_want_stand (T : Txt K mg) (h1 : C8.Cal P w K mg base 7 "is_stand" (spIsStand K) []) : C8.Met P w K mg base 8 (cW K) "want_stand" (spWantStand K) [] := by
  refine met T.clW T.f_World_want_stand (N := ["self", "thing"]) (ps := ["self", "thing"]) (by decide +kernel) (fun _ _ _ _ _ _ us hl => match us, hl with | [_, _], _ => rfl) (fun vs H Q E h => by obtain ⟨_, _, _, _, _, rfl, _⟩ := h; rfl) (fun f cdv A outer s H vs Q E hr h => ?_)
  obtain ⟨a, L, x0, v, x, rfl, ⟨dx, g, pd, gt, vop, vf, op, w1, w2, w3, w4, w5, w6, w7⟩, O, hv, hx, k⟩ := h
  refine ⟨_, pss_one (ps_if (pt_not (pt_val (C8.pe_c h1 hr (by decide) rfl (pa_cons (pe_fld (pv 0) rfl) (pa_cons (pv 1) pa_nil))))) pss_never pss_nil), ?_⟩
  refine ⟨_, rfl, a, _, dx, _, _, rfl, w1, T.clW, T.n_ground, rfl, _, rfl, g, L.rows, v, x, rfl, w2, O.rows, hv, hx, fun H1 s1 => ?_⟩
  exact ⟨_, rfl, iteF (k _ s1)⟩
def spBegun (K : PySem.W.Frag) : Sp := fun vs H Q _ => ∃ a L x0 v x, vs = [.ref a, v] ∧ WoV K H a L x0 ∧ LandOk L ∧ PV K H v x ∧ PostOk L.rows x ∧ ∀ b H', Same H H' → WoV K H' b L x → Q (.ref b) H'
theorem ok_begun (T : Txt K mg) (h1 : C8.Met P w K mg base 8 (cW K) "want_stand" (spWantStand K) [])
    (h2 : ∃ fd, FnOk P w K mg base C8.CX0 8 (He.ma K (cW K) "__init__") fd wPs (spWorld K) ∧ FunD K "__init__" "World.__init__" (C8.fnArgs s_World_init) (C8.fnBody s_World_init) (C8.fnScope s_World_init) [] [("turn", .str "urdl"), ("book", .non), ("wishes", .ref (wishDfl K))] (He.ma K (cW K) "__init__") fd) :
    C8.Met P w K mg base 10 (cW K) "begun" (spBegun K) [] := by
  have SC : C8.scC ["self", "stand", "found"] ["self", "stand"] (C8.fnScope s_World_begun) = true := by decide +kernel
  have nd := (C8.fnScope_by SC).nd
  refine met T.clW T.f_World_begun SC (fun _ _ _ _ _ _ us hl => match us, hl with | [_, _], _ => rfl) (fun vs H Q E h => by obtain ⟨_, _, _, _, _, rfl, _⟩ := h; rfl) (fun f cdv A outer s H vs Q E hr h => ?_)
  obtain ⟨a, L, x0, v, x, rfl, hw, O, hv, hx, k⟩ := h
  obtain ⟨fd, FO, FD⟩ := h2
  obtain ⟨mv, kb⟩ := kb_begun FD
  refine ⟨_, pss_cons (ps_expr (C8.pe_mt h1 hr (by decide) (pv 0) (pa_cons (pv 1) pa_nil)))
    (pss_cons (ps_set (i := 2) nd rfl (.inl rfl) (pe_makeK (n := 2) (E := C8.E0) T.mkW FO (hr.mono (by decide)) (by rfl) T.gW kb C8.pass0 (pa_cons (pe_fld (pv 0) rfl) (pa_cons (pe_fld (pv 0) rfl) pa_nil)) (pk_cons (pe_fld (pv 0) rfl) (pk_cons (pe_fld (pv 0) rfl) pk_nil))))
    (pss_cons (ps_fld (pv 2) (pv 1) rfl)
    (pss_one (ps_ret (pv 2))))), ?_⟩
  have hw0 := hw
  obtain ⟨dx, g, pd, gt, vop, vf, op, w1, w2, w3, w4, w5, w6, w7⟩ := hw
  refine ⟨_, rfl, a, dx, _, rfl, w1, rfl, _, rfl, a, L, x0, v, x, rfl, hw0, O, hv, hx, fun H1 s1 => ?_⟩
  have e1 := s1 _ _ w1
  refine ⟨_, rfl, a, _, dx, _, _, rfl, e1, T.clW, T.n_ground, rfl, _, rfl, a, _, dx, _, _, rfl, e1, T.clW, T.n_opening, rfl, _, rfl, a, _, dx, _, _, rfl, e1, T.clW, T.n_pages, rfl, _, rfl, a, _, dx, _, _, rfl, e1, T.clW, T.n_goals, rfl, rfl, rfl, fun b dy nb ndy nby => ?_⟩
  have sb : Same H1 (upd (upd H1 dy (.own b)) b (.ins (cW K) dy [])) := fun q o e => by
    rw [upd_ne (ne_of_none e nb), upd_ne (ne_of_none e ndy)]
    exact e
  refine ⟨b, g, vop, deeds, pd, .ref gt, dy, L, op, by rw [← dE]; rfl, upd_same, (w2.same s1).same sb, O, pl_same (pl_same w5 s1) sb, w6, deeds_turn, (w3.same s1).same sb, (w4.same s1).same sb, fun H2 b2 hw2 => ?_⟩
  refine ⟨rfl, ?_⟩
  have s2 : Same H1 H2 := SameBut.made nb ndy b2
  obtain ⟨dx2, g2, pd2, gt2, vop2, vf2, op2, z1, z2, z3, z4, z5, z6, z7⟩ := hw2
  refine ⟨_, rfl, _, rfl, b, _, dx2, _, rfl, z1, T.clW, T.n_first, (by show 5 < 1000; decide), ?_⟩
  have b3 : SameBut b H2 (upd H2 b (.ins (cW K) dx2 (putF "first" v [("ground", .ref g2), ("pages", .ref pd2), ("goals", .ref gt2), ("opening", vop2), ("first", vf2)]))) := (SameBut.refl b H2).upd
  have s3 : Same H (upd H2 b (.ins (cW K) dx2 (putF "first" v [("ground", .ref g2), ("pages", .ref pd2), ("goals", .ref gt2), ("opening", vop2), ("first", vf2)]))) := same_upd (s1.trans s2) (s1.free nb)
  have nt := noTup_ins z1
  have kt := b3.keepT nt
  have hgb : g2 ≠ b := fun z => by
    obtain ⟨_, _, e, _⟩ := z2
    rw [z, z1] at e
    exact nomatch (HO.ins.inj (Option.some.inj e)).2.2
  have hpb : pd2 ≠ b := fun z => by
    obtain ⟨_, _, _, e⟩ := z3
    rw [z, z1] at e
    cases e
  obtain ⟨ls, l1, l2, l3⟩ := z3
  exact ⟨_, rfl, k b _ s3 ⟨dx2, g2, pd2, gt2, vop2, v, op2, by rw [upd_same]; rfl, z2.but b3 nt hgb, ⟨ls, l1, l2, b3 _ _ hpb l3⟩, z4.but b3 nt (fun xs e => by rw [z1] at e; cases e), z5.keep kt, z6, pv_same hv s3⟩⟩
def spBehind (K : PySem.W.Frag) : Sp := fun vs H Q _ => ∃ a L x0 v x c, vs = [.ref a, v, .str (S [c])] ∧ WoV K H a L x0 ∧ LandOk L ∧ PV K H v x ∧ PostOk L.rows x ∧ c ∈ deeds ∧ ∀ v' H', Same H H' → PV K H' v' (bhd L x c) → Q v' H'
theorem ok_behind (T : Txt K mg) (h1 : C8.Met P w K mg base 7 (cF K) "goes" (spGoes K) []) (h2 : C8.Cal P w K mg base 3 "way" spWay []) (h3 : C8.Met P w K mg base 5 (cF K) "seen" (spSeen K) []) (h4 : C8.Cal P w K mg base 5 "then" spThen []) :
    C8.Met P w K mg base 8 (cW K) "behind" (spBehind K) [] := by
  obtain ⟨tl, hl⟩ := T.c_LETTERS
  have SC : C8.scC ["self", "stand", "deed", "place", "turn", "there", "letter"] ["self", "stand", "deed"] (C8.fnScope s_World_behind) = true := by decide +kernel
  have nd := (C8.fnScope_by SC).nd
  refine met T.clW T.f_World_behind SC (fun _ _ _ _ _ _ us hl => match us, hl with | [_, _, _], _ => rfl) (fun vs H Q E h => by obtain ⟨_, _, _, _, _, _, rfl, _⟩ := h; rfl) (fun f cdv A outer s H vs Q E hr h => ?_)
  obtain ⟨a, L, x0, v, x, c, rfl, hw, O, hv, hx, hc, k⟩ := h
  have hu := hu_of hr
  refine ⟨_, pss_cons (ps_if (pt_cmpR op_isN (pv 1) pe_non (nomark _)) (pss_one (ps_ret pe_non)) pss_nil)
    (pss_cons (ps_asg (pv 1) (pg_tup rfl (pgs_cons (pg_name (i := 3) nd rfl (.inl rfl)) (pgs_cons (pg_name (i := 4) nd rfl (.inl rfl)) pgs_nil))))
    (pss_cons (ps_set (i := 5) nd rfl (.inl rfl) (C8.pe_mt h1 hr (by decide) (pe_fld (pv 0) rfl) (pa_cons (pv 3) (pa_cons (C8.pe_c h2 hr (by decide) rfl (pa_cons (pv 4) (pa_cons (pv 2) pa_nil))) pa_nil))))
    (pss_cons (ps_if (PW.pt (pw_or (pt_cmpR op_isN (pv 5) pe_non (nomark _)) (pw_or1 (pt_cmpR (op_eqD hr.units) (pv 5) (pv 3) (nomark _))))) (pss_one (ps_ret (pe_ifExp (pt_cmpR op_isN (pv 5) pe_non (nomark _)) pe_non (pv 1)))) pss_nil)
    (pss_cons (ps_set (i := 6) nd rfl (.inl rfl) (C8.pe_mt h3 hr (by decide) (pe_fld (pv 0) rfl) (pa_cons (pv 5) pa_nil)))
    (pss_one (ps_ret (pe_tup (pa_cons (pv 5) (pa_cons (pe_ifExp (pt_cmpR op_in_sign (pv 6) (pe_glob (by rfl) hl (v := .str "abcd") ⟨_, rfl⟩) (by rfl)) (C8.pe_c h4 hr (by decide) rfl (pa_cons (pv 4) (pa_cons (pe_dget hu (pe_fld (pv 0) rfl) (pv 6) (fun _ _ => rfl)) pa_nil))) (pv 4)) pa_nil))))))))), ?_⟩
  cases x with
  | none =>
    cases (show v = .non from hv)
    exact ⟨_, rfl, rfl, _, rfl, iteT (k _ _ (Same.refl _) rfl)⟩
  | some x =>
  obtain ⟨p, t⟩ := x
  have hv0 := hv
  obtain ⟨q, v', rfl, hq, hp⟩ := hv
  obtain ⟨hs, ht⟩ := hx
  obtain ⟨dx, g, pd, gt, vop, vf, op, w1, w2, w3, w4, w5, w6, w7⟩ := hw
  have hf' := w2
  obtain ⟨fdx, fq, hfa, hfq⟩ := hf'
  have R := O.rows
  refine ⟨_, rfl, rfl, _, rfl, iteF ?_⟩
  refine ⟨_, rfl, q, _, rfl, hq, rfl, _, _, rfl, _, _, rfl, rfl, ?_⟩
  refine ⟨_, rfl, a, _, dx, _, _, rfl, w1, T.clW, T.n_ground, rfl, g, fdx, _, rfl, hfa, rfl, ?_⟩
  refine ⟨_, rfl, _, rfl, _, rfl, t, c, rfl, ht, hc, ?_⟩
  refine ⟨g, L.rows, v', p, wy t c, rfl, w2, R, hp, hs, wy_mem ht c, fun v2 H1 s1 h2v => ?_⟩
  unfold bhd at k
  dsimp only at k
  cases eg : goes L.rows p (wy t c) with
  | none =>
    rw [eg] at k h2v
    cases (show v2 = .non from h2v)
    refine ⟨_, rfl, rfl, _, rfl, iteT ?_⟩
    exact ⟨_, rfl, rfl, _, rfl, iteT (k _ _ s1 rfl)⟩
  | some q2 =>
    rw [eg] at k h2v
    dsimp only at k
    have hp2 : PlV K H1 v2 q2 := h2v
    have hp1 := pl_same hp s1
    obtain ⟨z, rfl, hz⟩ := (show PlV K H1 v2 q2 from h2v)
    refine ⟨_, rfl, rfl, _, rfl, iteF ?_⟩
    refine ⟨_, rfl, _, rfl, _, _, hp2.dp, hp1.dp, pdPl_shaped _, pdPl_shaped _, _, rfl, ?_⟩
    rw [pdPl_eqv]
    by_cases e : q2 = p
    · rw [decide_eq_true e]
      rw [if_pos e] at k
      refine iteT ⟨_, rfl, rfl, _, rfl, iteF ?_⟩
      exact ⟨_, rfl, k _ _ s1 (pv_same hv0 s1)⟩
    · rw [decide_eq_false e]
      rw [if_neg e] at k
      refine iteF ?_
      refine ⟨_, rfl, a, _, dx, _, _, rfl, s1 _ _ w1, T.clW, T.n_ground, rfl, g, fdx, _, rfl, s1 _ _ hfa, rfl, ?_⟩
      refine ⟨_, rfl, g, L.rows, _, q2, rfl, w2.same s1, R, hp2, fun H2 s2 => ?_⟩
      have s02 := s1.trans s2
      refine ⟨_, rfl, _, rfl, _, _, rfl, rfl, _, rfl, ?_⟩
      have ed : decide (sgn L.rows q2 ∈ ("abcd" : Str).cps.toList) = isLet (sgn L.rows q2) := by rw [lE]; rfl
      rw [ed]
      by_cases el : isLet (sgn L.rows q2) = true
      · rw [el]
        rw [if_pos el] at k
        obtain ⟨ls, l1, l2, l3⟩ := w3
        have hm := (l2 _).mpr (let_in R el)
        have dg := DGet.k (k := Sum.inr (S [sgn L.rows q2])) (s02 _ _ l3)
        rw [valV_bk, if_pos hm] at dg
        refine iteT ⟨_, rfl, _, rfl, a, _, dx, _, _, rfl, s02 _ _ w1, T.clW, T.n_pages, rfl, _, rfl, pd, _, rfl, dg, t, _, rfl, ht, O.book _, fun H3 s3 => ?_⟩
        refine ⟨by show 2 ≤ sizeLine; decide, fun u hu2 => ?_⟩
        have s4 := Same.then_new (o := .tup [.ref z, .str (S (bec (L.book (sgn L.rows q2)) t))]) (s02.trans s3) hu2
        exact k _ _ s4 ⟨u, .ref z, rfl, SqT.of upd_same, pl_same (pl_same hp2 (s2.trans s3)) (Same.new hu2)⟩
      · rw [Bool.eq_false_iff.mpr el]
        rw [if_neg el] at k
        refine iteF ⟨_, rfl, by show 2 ≤ sizeLine; decide, fun u hu2 => ?_⟩
        have s4 := Same.then_new (o := .tup [.ref z, .str (S t)]) s02 hu2
        exact k _ _ s4 ⟨u, .ref z, rfl, SqT.of upd_same, pl_same (pl_same hp2 s2) (Same.new hu2)⟩
end
end K79
/-! part W11 -/
/-! The world: gone, walk, comings. -/
namespace K79
open PySem PySem.Spec PyProof.Rows L2
/-- one more coming -/
def cst (r : Rows) (b : Nat) (a n : Post) : List (Nat × Nat) := match a, n with
  | some (p, _), some (q, _) => if q ≠ p ∧ isLet (sgn r q) then [(b, sgn r q)] else []
  | _, _ => []
theorem comd_two (r : Rows) (b : Nat) (a n : Post) (rest : List Post) : comd r b (a :: n :: rest) = cst r b a n ++ comd r (b + 1) (n :: rest) := by
  cases a with
  | none => rfl
  | some a => cases n with
    | none => rfl
    | some n => rfl
theorem comd_snoc (r : Rows) : ∀ (l : List Post) (b : Nat) (a n : Post), comd r b (l ++ [a, n]) = comd r b (l ++ [a]) ++ cst r (b + l.length) a n
  | [], b, a, n => by
    show comd r b [a, n] = comd r b [a] ++ cst r b a n
    rw [comd_two]
    simp [comd]
  | [y], b, a, n => by
    show comd r b [y, a, n] = comd r b [y, a] ++ cst r (b + 1) a n
    rw [comd_two, comd_two, comd_two]
    simp [comd]
  | y :: z :: l, b, a, n => by
    have ih := comd_snoc r (z :: l) (b + 1) a n
    show comd r b (y :: z :: (l ++ [a, n])) = comd r b (y :: z :: (l ++ [a])) ++ _
    rw [comd_two, comd_two, List.append_assoc]
    have e1 : comd r (b + 1) (z :: (l ++ [a, n])) = comd r (b + 1) (z :: (l ++ [a])) ++ cst r (b + 1 + (z :: l).length) a n := ih
    rw [e1]
    have e2 : b + 1 + (z :: l).length = b + (y :: z :: l).length := by simp only [List.length_cons]; omega
    rw [e2]
theorem comd_take {r : Rows} {l : List Post} {i : Nat} {a n : Post} (ha : l[i]? = some a) (hn : l[i + 1]? = some n) : comd r 1 (l.take (i + 2)) = comd r 1 (l.take (i + 1)) ++ cst r (i + 1) a n := by
  have e1 : l.take (i + 1) = l.take i ++ [a] := by rw [List.take_succ, ha]; rfl
  have e2 : l.take (i + 2) = l.take i ++ [a, n] := by rw [List.take_succ, hn, e1]; simp
  have hlen : (l.take i).length = i := by
    rw [List.length_take]
    have := (List.getElem?_eq_some_iff.mp ha).1
    omega
  rw [e1, e2, comd_snoc, hlen, Nat.add_comm 1 i]
theorem comd_len (r : Rows) : ∀ (l : List Post) (b : Nat), (comd r b l).length ≤ l.length
  | [], _ => Nat.le_refl _
  | [_], _ => Nat.zero_le _
  | a :: n :: rest, b => by
    have ih := comd_len r (n :: rest) (b + 1)
    have h1 : (cst r b a n).length ≤ 1 := by
      unfold cst
      split
      · split <;> simp
      · simp
    rw [comd_two, List.length_append]
    simp only [List.length_cons] at ih ⊢
    omega
theorem gone_none (L : Land) : ∀ row : List Nat, gone L none row = List.replicate (row.length + 1) none
  | [] => rfl
  | c :: row => by
    show none :: gone L none row = _
    rw [gone_none L row]
    rfl
theorem gone_stay {L : Land} : ∀ {row : List Nat} {x : Post} {i : Nat}, (gone L x row)[i]? = some none → ∀ y, (gone L x row)[i + 1]? = some y → y = none
  | [], x, i, h, y, hy => by simp [gone] at hy
  | c :: row, x, 0, h, y, hy => by
    have e : x = none := by simpa [gone] using h
    subst e
    have e2 : (gone L (bhd L none c) row)[0]? = some y := by simpa [gone] using hy
    rw [show bhd L none c = none from rfl, gone_none] at e2
    simpa using e2.symm
  | c :: row, x, i + 1, h, y, hy => by
    have h2 : (gone L (bhd L x c) row)[i]? = some none := by simpa [gone] using h
    have hy2 : (gone L (bhd L x c) row)[i + 1]? = some y := by simpa [gone] using hy
    exact gone_stay h2 y hy2
theorem last_snoc (L : Land) (x : Post) (row : List Nat) (c : Nat) : last L x (row ++ [c]) = bhd L (last L x row) c := by simp [last]
theorem gone_end (L : Land) (x : Post) (row : List Nat) : ∃ l, gone L x row = l ++ [last L x row] := by
  have h := gone_last L row x
  cases e : gone L x row with
  | nil => rw [e] at h; cases h
  | cons y l =>
    rw [e] at h
    exact ⟨_, (List.getLast?_eq_some_iff.mp h).choose_spec⟩
theorem LV.end {K : PySem.W.Frag} {H : Hp} {us : List V} {l : List Post} {x : Post} (h : LV K H us (l ++ [x])) : ∃ vs v, us = vs ++ [v] ∧ PV K H v x := by
  have hl := h.len
  rw [List.length_append, List.length_singleton] at hl
  obtain ⟨v, h1, h2⟩ := LV.at' h (i := l.length) (x := x) (by simp)
  refine ⟨us.take l.length, v, ?_, h2⟩
  have e : us.take (l.length + 1) = us.take l.length ++ [v] := by rw [List.take_succ, h1]; rfl
  rw [← e, ← hl, List.take_length]
section
variable {P : Program} {w : World} {K : PySem.W.Frag} {mg : Str → Option Value} {base : Heap}
def spGone (K : PySem.W.Frag) : Sp := fun vs H Q _ => ∃ a L x0 v x row, vs = [.ref a, v, .str (S row)] ∧ WoV K H a L x0 ∧ LandOk L ∧ PV K H v x ∧ PostOk L.rows x ∧ (∀ c ∈ row, c ∈ deeds) ∧ row.length ≤ 900 ∧
  ∀ p us H', Same H H' → H' p = some (.lst us) → LV K H' us (gone L x row) → Q (.ref p) H'
theorem ok_gone (T : Txt K mg) (h1 : C8.Met P w K mg base 8 (cW K) "behind" (spBehind K) []) : C8.Met P w K mg base 9 (cW K) "gone" (spGone K) [] := by
  have SC : C8.scC ["self", "stand", "row", "found", "deed"] ["self", "stand", "row"] (C8.fnScope s_World_gone) = true := by decide +kernel
  have nd := (C8.fnScope_by SC).nd
  refine met T.clW T.f_World_gone SC (fun _ _ _ _ _ _ us hl => match us, hl with | [_, _, _], _ => rfl) (fun vs H Q E h => by obtain ⟨_, _, _, _, _, _, rfl, _⟩ := h; rfl) (fun f cdv A outer s H vs Q E hr h => ?_)
  obtain ⟨a, L, x0, v, x, row, rfl, hw, O, hv, hx, hrow, hz, k⟩ := h
  refine ⟨_, pss_cons (ps_set (i := 3) nd rfl (.inl rfl) (pe_lst (pa_cons (pv 1) pa_nil)))
    (pss_cons (ps_for PassesOwn.never rfl (pi_str (pv 2)) (pg_name (i := 4) nd rfl (.inl rfl))
      (pss_one (ps_expr (pe_bm PySem.F.plainAttrs_list PySem.F.slot_list_append PySem.F.type_list_append mt_append (pv 3) (pa_cons (C8.pe_mt h1 hr (by decide) (pv 0) (pa_cons (pe_ix ix_list (pv 3) (pe_un un_neg pe_int) (fun _ _ => rfl)) (pa_cons (pv 4) pa_nil))) pa_nil)))))
    (pss_one (ps_ret (pv 3)))), ?_⟩
  refine ⟨_, rfl, by show 1 ≤ sizeLine; decide, fun p hp => ?_⟩
  refine ⟨_, rfl, _, rfl, ?_⟩
  have s1 : Same H (upd H p (.lst [v])) := Same.new hp
  refine for_it walk_str (fun i σ H' => ∃ y us, σ = [some (.ref a), some v, some (.str (S row)), some (.ref p), y] ∧ Same H H' ∧ H' p = some (.lst us) ∧ LV K H' us (gone L x (row.take i))) ⟨_, _, rfl, s1, upd_same, LV.one (pv_same hv s1)⟩ (fun _ _ _ _ _ => trivial) ?_ ?_
  · intro i y σ H1 H2 hi pp yy
    obtain ⟨rfl, c, hc, rfl⟩ := yy
    obtain ⟨z, us, rfl, s2, e2, lv⟩ := pp
    have hc2 : row[i]? = some c := by simpa using hc
    obtain ⟨gl, eg⟩ := gone_end L x (row.take i)
    have lv2 := lv
    rw [eg] at lv2
    obtain ⟨vs, u, rfl, hu⟩ := lv2.end
    have hli : i < row.length := (List.getElem?_eq_some_iff.mp hc2).1
    have hlen := lv.len
    rw [gone_len, List.length_take] at hlen
    refine ⟨_, rfl, .inl ⟨rfl, _, SqL.of e2⟩, ?_⟩
    refine ⟨_, rfl, a, ?_⟩
    obtain ⟨dx, g, pd, gt, vop, vf, op, w1, wr⟩ := hw
    refine ⟨dx, _, rfl, s2 _ _ w1, rfl, ?_⟩
    refine ⟨_, rfl, _, rfl, p, _, _, u, rfl, rfl, SqL.of e2, atI_last vs u, ?_⟩
    refine ⟨_, rfl, a, L, x0, u, last L x (row.take i), c, rfl, WoV.same ⟨dx, g, pd, gt, vop, vf, op, w1, wr⟩ s2, O, hu, last_ok O _ hx, hrow c (List.mem_of_getElem? hc2), fun v' H3 s3 hv' => ?_⟩
    refine ⟨p, _, v', rfl, rfl, s3 _ _ e2, small1000 (by omega), ?_⟩
    refine ⟨_, _, rfl, same_upd (s2.trans s3) hp, upd_same, ?_⟩
    have e3 : row.take (i + 1) = row.take i ++ [c] := by rw [List.take_succ, hc2]; rfl
    rw [e3, gone_snoc]
    have kt : KeepT H3 (upd H3 p (.lst (vs ++ [u] ++ [v']))) := keepT_upd (s3 _ _ e2)
    exact ((lv.keep (Same.keepT s3)).keep kt).app (LV.one (hv'.keep kt))
  · intro σ H1 pp
    obtain ⟨z, us, rfl, s2, e2, lv⟩ := pp
    rw [show (S row).cps.size = row.length by simp, List.take_length] at lv
    exact ⟨_, rfl, k _ _ _ s2 e2 lv⟩
def spWalk (K : PySem.W.Frag) : Sp := fun vs H Q _ => ∃ a L x row, vs = [.ref a, .str (S row)] ∧ WoV K H a L x ∧ LandOk L ∧ PostOk L.rows x ∧ (∀ c ∈ row, c ∈ deeds) ∧ row.length ≤ 900 ∧
  ∀ p us H', Same H H' → H' p = some (.lst us) → LV K H' us (gone L x row) → Q (.ref p) H'
theorem ok_walk (T : Txt K mg) (h1 : C8.Cal P w K mg base 1 "want_row" spWantRow []) (h2 : C8.Met P w K mg base 9 (cW K) "gone" (spGone K) []) : C8.Met P w K mg base 10 (cW K) "walk" (spWalk K) [] := by
  refine met T.clW T.f_World_walk (N := ["self", "row"]) (ps := ["self", "row"]) (by decide +kernel) (fun _ _ _ _ _ _ us hl => match us, hl with | [_, _], _ => rfl) (fun vs H Q E h => by obtain ⟨_, _, _, _, rfl, _⟩ := h; rfl) (fun f cdv A outer s H vs Q E hr h => ?_)
  obtain ⟨a, L, x, row, rfl, hw, O, hx, hrow, hz, k⟩ := h
  refine ⟨_, pss_cons (ps_expr (C8.pe_c h1 hr (by decide) rfl (pa_cons (pv 1) pa_nil))) (pss_one (ps_ret (C8.pe_mt h2 hr (by decide) (pv 0) (pa_cons (pe_fld (pv 0) rfl) (pa_cons (pv 1) pa_nil))))), ?_⟩
  refine ⟨_, rfl, row, rfl, hrow, fun H1 s1 => ?_⟩
  have hw1 := hw.same s1
  have hw2 := hw1
  obtain ⟨dx, g, pd, gt, vop, vf, op, w1, w2, w3, w4, w5, w6, w7⟩ := hw1
  refine ⟨_, rfl, a, dx, _, rfl, w1, rfl, _, rfl, a, _, dx, _, _, rfl, w1, T.clW, T.n_first, rfl, _, rfl, a, L, x, vf, x, row, rfl, hw2, O, w7, hx, hrow, hz, fun p us H2 s2 e2 lv => ?_⟩
  exact k p us H2 (s1.trans s2) e2 lv
/-- beats with letters -/
def CmV (K : PySem.W.Frag) (H : Hp) (v : V) (c : Nat × Nat) : Prop := ∃ q, v = .ref q ∧ SqT K H q [.int (c.1 : Nat), .str (S [c.2])]
def CmsV (K : PySem.W.Frag) (H : Hp) : List V → List (Nat × Nat) → Prop := Paired (CmV K H)
theorem CmsV.keep {H H' : Hp} {vs : List V} {xs : List (Nat × Nat)} (h : CmsV K H vs xs) (k : KeepT H H') : CmsV K H' vs xs := Paired.mapP h fun _ _ z => by
  obtain ⟨q, e, s⟩ := z
  exact ⟨q, e, sqT_keep s k⟩
theorem CmsV.app {H : Hp} : ∀ {vs us : List V} {xs ys : List (Nat × Nat)}, CmsV K H vs xs → CmsV K H us ys → CmsV K H (vs ++ us) (xs ++ ys)
  | _, _, _, _, .nil, h => h
  | _, _, _, _, .cons r t, h => .cons r (CmsV.app t h)
def spComings (K : PySem.W.Frag) : Sp := fun vs H Q _ => ∃ a L x row, vs = [.ref a, .str (S row)] ∧ WoV K H a L x ∧ LandOk L ∧ PostOk L.rows x ∧ (∀ c ∈ row, c ∈ deeds) ∧ row.length ≤ 900 ∧
  ∀ p us H', Same H H' → H' p = some (.lst us) → CmsV K H' us (comd L.rows 1 (gone L x row)) → Q (.ref p) H'
theorem ok_comings (T : Txt K mg) (h1 : C8.Met P w K mg base 10 (cW K) "walk" (spWalk K) []) (h2 : C8.Met P w K mg base 5 (cF K) "seen" (spSeen K) []) : C8.Met P w K mg base 11 (cW K) "comings" (spComings K) [] := by
  obtain ⟨tl, hl⟩ := T.c_LETTERS
  have SC : C8.scC ["self", "row", "stands", "found", "beat", "ahead", "now"] ["self", "row"] (C8.fnScope s_World_comings) = true := by decide +kernel
  have nd := (C8.fnScope_by SC).nd
  refine met T.clW T.f_World_comings SC (fun _ _ _ _ _ _ us hl => match us, hl with | [_, _], _ => rfl) (fun vs H Q E h => by obtain ⟨_, _, _, _, rfl, _⟩ := h; rfl) (fun f cdv A outer s H vs Q E hr h => ?_)
  obtain ⟨a, L, x, row, rfl, hw, O, hx, hrow, hz, k⟩ := h
  have R := O.rows
  refine ⟨_, pss_cons (ps_set (i := 2) nd rfl (.inl rfl) (C8.pe_mt h1 hr (by decide) (pv 0) (pa_cons (pv 1) pa_nil)))
    (pss_cons (ps_set (i := 3) nd rfl (.inl rfl) (pe_lst pa_nil))
    (pss_cons (ps_for PassesOwn.never rfl (pi_range2 rfl T.b_range (pa_cons pe_int (pa_cons (pe_callB call_len (by rfl) T.b_len PySem.boot_len (pa_cons (pv 2) pa_nil)) pa_nil))) (pg_name (i := 4) nd rfl (.inl rfl))
      (pss_cons (ps_par (i := 5) (j := 6) (by rfl) nd rfl rfl (by decide) rfl rfl (pa_cons (pe_ix ix_list (pv 2) (pe_op op_sub (pv 4) pe_int) (fun _ _ => rfl)) (pa_cons (pe_ix ix_list (pv 2) (pv 4) (fun _ _ => rfl)) pa_nil)) (by rfl))
      (pss_one (ps_if (PW.pt (pw_and (pt_cmpR op_notN (pv 6) pe_non (nomark _)) (pw_and (pt_cmpR (op_neD hr.units) (pe_ix ix_tup (pv 6) pe_int (fun _ _ => rfl)) (pe_ix ix_tup (pv 5) pe_int (fun _ _ => rfl)) (nomark _))
          (pw_and1 (pt_cmpR op_in_sign (C8.pe_mt h2 hr (by decide) (pe_fld (pv 0) rfl) (pa_cons (pe_ix ix_tup (pv 6) pe_int (fun _ _ => rfl)) pa_nil)) (pe_glob (by rfl) hl (v := .str "abcd") ⟨_, rfl⟩) (by rfl))))))
        (pss_one (ps_expr (pe_bm PySem.F.plainAttrs_list PySem.F.slot_list_append PySem.F.type_list_append mt_append (pv 3) (pa_cons (pe_tup (pa_cons (pv 4) (pa_cons (C8.pe_mt h2 hr (by decide) (pe_fld (pv 0) rfl) (pa_cons (pe_ix ix_tup (pv 6) pe_int (fun _ _ => rfl)) pa_nil)) pa_nil))) pa_nil)))) pss_nil))))
    (pss_one (ps_ret (pv 3))))), ?_⟩
  have hw0 := hw
  obtain ⟨dx, g, pd, gt, vop, vf, op, w1, w2, w3, w4, w5, w6, w7⟩ := hw
  obtain ⟨fdx, fq, hfa, hfq⟩ := (show FlV K H g L.rows from w2)
  refine ⟨_, rfl, a, dx, _, rfl, w1, rfl, _, rfl, a, L, x, row, rfl, hw0, O, hx, hrow, hz, fun l us H1 s1 e1 lv => ?_⟩
  refine ⟨by show 0 ≤ sizeLine; decide, fun p hp => ?_⟩
  have hlen := lv.len
  rw [gone_len] at hlen
  have s2 : Same H1 (upd H1 p (.lst [])) := Same.new hp
  refine ⟨_, rfl, _, us.length, rfl, .inl ⟨us, SqL.of (s2 _ _ e1), rfl⟩, 1, _, rfl, ⟨by decide, by decide, by omega, by omega⟩, ?_⟩
  have en : (((us.length : Nat) : Int) - 1).toNat = row.length := by omega
  rw [en]
  refine for_it walk_range (fun i σ H' => ∃ y1 y2 y3 cs, σ = [some (.ref a), some (.str (S row)), some (.ref l), some (.ref p), y1, y2, y3] ∧ Same H1 H' ∧ H' p = some (.lst cs) ∧ CmsV K H' cs (comd L.rows 1 ((gone L x row).take (i + 1)))) ⟨_, _, _, [], rfl, s2, upd_same, ?_⟩ (fun _ _ _ _ _ => trivial) ?_ ?_
  · have e0 : comd L.rows 1 ((gone L x row).take (0 + 1)) = [] := by
      cases gone L x row with
      | nil => rfl
      | cons y l => rfl
    rw [e0]
    exact .nil
  · intro i y σ H2 H3 hi pp yy
    obtain ⟨rfl, rfl⟩ := yy
    obtain ⟨y1, y2, y3, cs, rfl, s3, e3, cv⟩ := pp
    have hcl : cs.length ≤ row.length + 1 := by
      have h1 := Paired.length cv
      have h2 := comd_len L.rows ((gone L x row).take (i + 1)) 1
      rw [List.length_take, gone_len] at h2
      omega
    have lt1 : i < us.length := by omega
    have lt2 : i + 1 < us.length := by omega
    have ea : us[i]? = some us[i] := List.getElem?_eq_getElem lt1
    have eb : us[i + 1]? = some us[i + 1] := List.getElem?_eq_getElem lt2
    obtain ⟨pa, ga, va⟩ := LV.at lv ea
    obtain ⟨pb, gb, vb⟩ := LV.at lv eb
    have s13 : Same H1 H3 := s3
    refine ⟨_, rfl, _, rfl, _, _, rfl, rfl, l, us, _, us[i], rfl, rfl, SqL.of (s3 _ _ e1), ?_, ?_⟩
    · rw [show (1 : Int) + (i : Nat) - 1 = ((i : Nat) : Int) by omega]
      exact atI_nat ea
    refine ⟨_, rfl, _, rfl, l, us, _, us[i + 1], rfl, rfl, SqL.of (s3 _ _ e1), ?_, ?_⟩
    · rw [show (1 : Int) + (i : Nat) = ((i + 1 : Nat) : Int) by omega]
      exact atI_nat eb
    refine ⟨_, _, rfl, ?_⟩
    generalize us[i] = va' at ea va
    generalize us[i + 1] = vb' at eb vb
    have ct := comd_take (r := L.rows) ga gb
    have va3 := pv_same va s3
    have vb3 := pv_same vb s3
    cases pb with
    | none =>
      cases (show vb' = .non from vb)
      refine ⟨_, rfl, rfl, _, rfl, iteF (iteF ?_)⟩
      refine ⟨_, _, _, cs, rfl, s3, e3, ?_⟩
      rw [ct, show cst L.rows (i + 1) pa none = [] by unfold cst; split <;> first | rfl | contradiction, List.append_nil]
      exact cv
    | some pb =>
      cases pa with
      | none => exact absurd (gone_stay ga _ gb) (by simp)
      | some pa =>
        obtain ⟨pp1, t1⟩ := pa
        obtain ⟨pp2, t2⟩ := pb
        obtain ⟨qa, v1, rfl, sa, pl1⟩ := va3
        obtain ⟨qb, v2, rfl, sb, pl2⟩ := vb3
        refine ⟨_, rfl, rfl, _, rfl, iteT ?_⟩
        refine ⟨_, rfl, qb, _, _, v2, rfl, rfl, sb, atI_nat (j := 0) rfl, _, rfl, qa, _, _, v1, rfl, rfl, sa, atI_nat (j := 0) rfl, ?_⟩
        refine ⟨_, _, pl2.dp, pl1.dp, pdPl_shaped _, pdPl_shaped _, _, rfl, ?_⟩
        rw [pdPl_eqv]
        have ce : cst L.rows (i + 1) (some (pp1, t1)) (some (pp2, t2)) = if pp2 ≠ pp1 ∧ isLet (sgn L.rows pp2) = true then [(i + 1, sgn L.rows pp2)] else [] := rfl
        by_cases e : pp2 = pp1
        · rw [decide_eq_true e]
          refine iteF (iteF ⟨_, _, _, cs, rfl, s3, e3, ?_⟩)
          rw [ct, ce, if_neg (fun z => z.1 e), List.append_nil]
          exact cv
        · rw [decide_eq_false e]
          refine iteT ?_
          have s03 := s1.trans s3
          refine ⟨_, rfl, a, _, dx, _, _, rfl, s03 _ _ w1, T.clW, T.n_ground, rfl, g, fdx, _, rfl, s03 _ _ hfa, rfl, _, rfl, qb, _, _, v2, rfl, rfl, sb, atI_nat (j := 0) rfl, ?_⟩
          refine ⟨g, L.rows, v2, pp2, rfl, w2.same s03, R, pl2, fun H4 s4 => ?_⟩
          refine ⟨_, _, rfl, rfl, _, rfl, ?_⟩
          have ed : decide (sgn L.rows pp2 ∈ ("abcd" : Str).cps.toList) = isLet (sgn L.rows pp2) := by rw [lE]; rfl
          rw [ed]
          by_cases el : isLet (sgn L.rows pp2) = true
          · rw [el]
            refine iteT ?_
            have s04 := s03.trans s4
            refine ⟨_, rfl, .inl ⟨rfl, _, SqL.of (s4 _ _ e3)⟩, ?_⟩
            refine ⟨_, rfl, _, rfl, a, _, dx, _, _, rfl, s04 _ _ w1, T.clW, T.n_ground, rfl, g, fdx, _, rfl, s04 _ _ hfa, rfl, _, rfl, qb, _, _, v2, rfl, rfl, sqT_keep sb (Same.keepT s4), atI_nat (j := 0) rfl, ?_⟩
            refine ⟨g, L.rows, v2, pp2, rfl, w2.same s04, R, pl_same pl2 s4, fun H5 s5 => ?_⟩
            refine ⟨by show 2 ≤ sizeLine; decide, fun u hu => ?_⟩
            have s6 : Same H5 (upd H5 u (.tup [.int (1 + (i : Nat)), .str (S [sgn L.rows pp2])])) := Same.new hu
            have s36 := (s4.trans s5).trans s6
            have e6 := s36 _ _ e3
            refine ⟨p, cs, _, rfl, rfl, e6, small1000 (by omega), ?_⟩
            have kt := keepT_upd (l' := cs ++ [.ref u]) e6
            refine ⟨_, _, _, _, rfl, same_upd (s3.trans s36) hp, upd_same, ?_⟩
            rw [ct, ce, if_pos ⟨e, el⟩]
            refine CmsV.app ((cv.keep (Same.keepT s36)).keep kt) (.cons ⟨u, rfl, sqT_keep (SqT.of ?_) kt⟩ .nil)
            rw [upd_same, show ((i + 1 : Nat) : Int) = 1 + (i : Nat) by omega]
          · rw [Bool.eq_false_iff.mpr el]
            refine iteF ⟨_, _, _, cs, rfl, s3.trans s4, s4 _ _ e3, ?_⟩
            rw [ct, ce, if_neg (fun z => el z.2), List.append_nil]
            exact cv.keep (Same.keepT s4)
  · intro σ H2 pp
    obtain ⟨y1, y2, y3, cs, rfl, s3, e3, cv⟩ := pp
    rw [List.take_of_length_le (by rw [gone_len]; exact Nat.le_refl _)] at cv
    exact ⟨_, rfl, k _ _ _ (s1.trans s3) e3 cv⟩
end
end K79
/-! part W12 -/
/-! The world: comes. -/
namespace K79
open PySem PySem.Spec PyProof.Rows L2
theorem noTup_kn {H : Hp} {w : World} {d : Addr} {ks : List (V × Post)} (h : H d = some (KnO w d ks)) : NoTup H d := by
  constructor
  · intro xs e
    rw [h] at e
    exact HO.noConfusion (Option.some.inj e)
  · intro o u e
    rw [h] at e
    exact HO.noConfusion (Option.some.inj e)
theorem keepT_at {H : Hp} {d : Addr} {o : HO} (n : NoTup H d) : KeepT H (upd H d o) := SameBut.keepT (SameBut.upd (SameBut.refl d H)) n
structure Srch (K : PySem.W.Frag) (w : World) (H : Hp) (p d : Addr) (r : Rows) (F : List Post) (H' : Hp) : Prop where
  same : Same H H'
  us : ∃ us, H' p = some (.lst us) ∧ LV K H' us F
  ks : ∃ ks, H' d = some (KnO w d ks) ∧ ks.map (·.2) = F ∧ ∀ z ∈ ks, PV K H' z.1 z.2
  nd : F.Nodup
  ok : ∀ x ∈ F, PostOk r x
theorem Srch.on {K : PySem.W.Frag} {w : World} {H H1 H2 : Hp} {p d : Addr} {r : Rows} {F : List Post} (h : Srch K w H p d r F H1) (s : Same H1 H2) : Srch K w H p d r F H2 := by
  obtain ⟨us, u1, u2⟩ := h.us
  obtain ⟨ks, k1, k2, k3⟩ := h.ks
  exact ⟨h.same.trans s, ⟨us, s _ _ u1, u2.keep (Same.keepT s)⟩, ⟨ks, s _ _ k1, k2, fun z hz => pv_same (k3 z hz) s⟩, h.nd, h.ok⟩
theorem bhd_mem_su {L : Land} {x : Post} {c : Nat} (h : c ∈ deeds) : bhd L x c ∈ su L x := List.mem_map.mpr ⟨c, h, rfl⟩
theorem insAll_snoc {α : Type} [DecidableEq α] (l xs : List α) (x : α) : insAll l (xs ++ [x]) = ins (insAll l xs) x := by
  unfold insAll
  rw [List.foldl_append]
  rfl
theorem ins_new {α : Type} [DecidableEq α] {l : List α} {x : α} (h : x ∉ l) : ins l x = l ++ [x] := by
  unfold ins
  rw [if_neg h]
theorem ins_old {α : Type} [DecidableEq α] {l : List α} {x : α} (h : x ∈ l) : ins l x = l := by
  unfold ins
  rw [if_pos h]
section
variable {P : Program} {w : World} {K : PySem.W.Frag} {mg : Str → Option Value} {base : Heap}
def spComes (K : PySem.W.Frag) : Sp := fun vs H Q _ => ∃ a L x, vs = [.ref a] ∧ WoV K H a L x ∧ LandOk L ∧ PostOk L.rows x ∧
  ∀ p us H' R, Same H H' → H' p = some (.lst us) → LV K H' us R → QB (su L) [x] 0 R → R.Nodup → (∀ y ∈ R, PostOk L.rows y) → Q (.ref p) H'
theorem ok_comes (T : Txt K mg) (h1 : C8.Met P w K mg base 8 (cW K) "behind" (spBehind K) []) : C8.Met P w K mg base 9 (cW K) "comes" (spComes K) [] := by
  obtain ⟨td, hdd⟩ := T.c_DEEDS
  have SC : C8.scC ["self", "found", "known", "at", "deed", "stand"] ["self"] (C8.fnScope s_World_comes) = true := by decide +kernel
  have nd := (C8.fnScope_by SC).nd
  refine met T.clW T.f_World_comes SC (fun _ _ _ _ _ _ us hl => match us, hl with | [_], _ => rfl) (fun vs H Q E h => by obtain ⟨_, _, _, rfl, _⟩ := h; rfl) (fun f cdv A outer s H vs Q E hr h => ?_)
  obtain ⟨a, L, x, rfl, hw, O, hx, k⟩ := h
  have hu9 : A.units + 3 + 9 < cLine := by
    have h := hr.un
    have e : (A.deeper (envOfC (Str.ofString "World.comes") (C8.fnScope s_World_comes) s.heap.objs.size f cdv)).units = A.units + 3 := rfl
    rw [e] at h
    omega
  refine ⟨_, pss_cons (ps_set (i := 1) nd rfl (.inl rfl) (pe_lst (pa_cons (pe_fld (pv 0) rfl) pa_nil)))
    (pss_cons (ps_set (i := 2) nd rfl (.inl rfl) (pe_kn1 hu9 (pe_fld (pv 0) rfl) (by rfl)))
    (pss_cons (ps_set (i := 3) nd rfl (.inl rfl) pe_int)
    (pss_cons (ps_while PassesOwn.never (pt_cmpR op_lt (pv 3) (pe_callB call_len (by rfl) T.b_len PySem.boot_len (pa_cons (pv 1) pa_nil)) (nomark _))
      (pss_cons (ps_for PassesOwn.never rfl (pi_str (pe_glob (by rfl) hdd (v := .str "urdl") ⟨_, rfl⟩)) (pg_name (i := 4) nd rfl (.inl rfl))
        (pss_cons (ps_set (i := 5) nd rfl (.inl rfl) (C8.pe_mt h1 hr (by decide) (pv 0) (pa_cons (pe_ix ix_list (pv 1) (pv 3) (fun _ _ => rfl)) (pa_cons (pv 4) pa_nil))))
        (pss_one (ps_if (pt_cmpR (op_knNot hu9) (pv 5) (pv 2) (by rfl))
          (pss_cons (ps_asg pe_bl (pg_sub (pv 2) (pv 5) (set_kn hu9)))
          (pss_one (ps_expr (pe_bm PySem.F.plainAttrs_list PySem.F.slot_list_append PySem.F.type_list_append mt_append (pv 1) (pa_cons (pv 5) pa_nil))))) pss_nil))))
      (pss_one (ps_aug (i := 3) nd rfl (.inl rfl) pe_int ip_add))))
    (pss_one (ps_ret (pv 1)))))), ?_⟩
  have hw0 := hw
  obtain ⟨dx, g, pd, gt, vop, vf, op, w1, w2, w3, w4, w5, w6, w7⟩ := hw
  refine ⟨_, rfl, a, _, dx, _, _, rfl, w1, T.clW, T.n_first, rfl, by show 1 ≤ sizeLine; decide, fun p hp => ?_⟩
  have s1 : Same H (upd H p (.lst [vf])) := Same.new hp
  refine fun d hd => ?_
  have s2 : Same (upd H p (.lst [vf])) (upd (upd H p (.lst [vf])) d (KnO w d [])) := Same.new hd
  refine ⟨_, rfl, a, _, dx, _, _, rfl, s2 _ _ (s1 _ _ w1), T.clW, T.n_first, rfl, upd_same, x, pv_same w7 (s1.trans s2), ?_⟩
  have hdH : H d = none := s1.free hd
  have hpd : p ≠ d := fun z => by rw [← z, upd_same] at hd; cases hd
  have st0 : Srch K w H p d L.rows [x] (upd (upd (upd H p (.lst [vf])) d (KnO w d [])) d (KnO w d [(vf, x)])) := by
    have s3 : Same H (upd (upd (upd H p (.lst [vf])) d (KnO w d [])) d (KnO w d [(vf, x)])) := same_upd (s1.trans s2) hdH
    refine ⟨s3, ⟨[vf], ?_, LV.one (pv_same w7 s3)⟩, ⟨[(vf, x)], upd_same, rfl, fun z hz => ?_⟩, by simp, fun y hy => ?_⟩
    · rw [upd_ne hpd, upd_ne hpd, upd_same]
    · rw [List.mem_singleton.mp hz]
      exact pv_same w7 s3
    · rw [List.mem_singleton.mp hy]
      exact hx
  refine ⟨fun m σ H' => ∃ (n : Nat) (F : List Post) (y4 y5 : Option V), m = 300 - n ∧ σ = [some (.ref a), some (.ref p), some (.ref d), some (.int (n : Nat)), y4, y5] ∧ Srch K w H p d L.rows F H' ∧ (∀ R, QB (su L) F n R → QB (su L) [x] 0 R),
    ⟨300, 0, [x], _, _, rfl, rfl, st0, fun R q => q⟩, ?_⟩
  rintro m σ H4 ⟨n, F, y4, y5, rfl, rfl, st, hq⟩
  obtain ⟨us, u1, u2⟩ := st.us
  have hF := few O.rows st.nd st.ok
  have hlen := u2.len
  refine ⟨_, rfl, _, rfl, _, us.length, rfl, .inl ⟨us, SqL.of u1, rfl⟩, ?_⟩
  refine ⟨_, _, rfl, rfl, _, rfl, ?_⟩
  by_cases hn : n < us.length
  · rw [decide_eq_true (show ((n : Nat) : Int) < (us.length : Nat) by omega)]
    have hnF : n < F.length := by omega
    have eF : F[n]? = some F[n] := List.getElem?_eq_getElem hnF
    generalize F[n] = pn at eF
    have okn := st.ok pn (List.mem_of_getElem? eF)
    refine iteT ⟨fun σ' H' => ∃ (F2 : List Post) (y4 y5 : Option V), σ' = [some (.ref a), some (.ref p), some (.ref d), some (.int ((n + 1 : Nat) : Int)), y4, y5] ∧ Srch K w H p d L.rows F2 H' ∧ (∀ R, QB (su L) F2 (n + 1) R → QB (su L) [x] 0 R),
      fun σ' H' ⟨F2, y4, y5, e1, e2, e3⟩ => ⟨300 - (n + 1), by omega, n + 1, F2, y4, y5, rfl, e1, e2, e3⟩, ?_⟩
    refine ⟨_, rfl, ?_⟩
    refine for_it walk_str (fun j σ H' => ∃ (y4 y5 : Option V), σ = [some (.ref a), some (.ref p), some (.ref d), some (.int (n : Nat)), y4, y5] ∧ Srch K w H p d L.rows (insAll F ((deeds.take j).map (bhd L pn))) H') ⟨_, _, rfl, st⟩ (fun _ _ _ _ _ => trivial) ?_ ?_
    · intro j y σ H5 H6 hj pp yy
      obtain ⟨rfl, c, hc, rfl⟩ := yy
      obtain ⟨z4, z5, rfl, st5⟩ := pp
      have hc2 : deeds[j]? = some c := by
        have e : ("urdl" : Str).cps = deeds.toArray := by rw [dE]
        rw [e] at hc
        simpa using hc
      have hcm : c ∈ deeds := List.mem_of_getElem? hc2
      obtain ⟨us5, v1, v2⟩ := st5.us
      obtain ⟨ext, he⟩ := insAll_pre ((deeds.take j).map (bhd L pn)) F
      have eF5 : (insAll F ((deeds.take j).map (bhd L pn)))[n]? = some pn := by
        rw [he, List.getElem?_append_left hnF]
        exact eF
      obtain ⟨vn, ev, hv⟩ := LV.at' v2 eF5
      refine ⟨_, rfl, a, dx, _, rfl, st5.same _ _ w1, rfl, ?_⟩
      refine ⟨_, rfl, _, rfl, p, us5, _, vn, rfl, rfl, SqL.of v1, atI_nat ev, ?_⟩
      refine ⟨_, rfl, a, L, x, vn, pn, c, rfl, hw0.same st5.same, O, hv, okn, hcm, fun v' H7 s7 hv' => ?_⟩
      have st7 := st5.on s7
      have hF7 := few O.rows st7.nd st7.ok
      obtain ⟨ks, k1, k2, k3⟩ := st7.ks
      have hb := bhd_ok O okn c
      have e4 : insAll F ((deeds.take (j + 1)).map (bhd L pn)) = ins (insAll F ((deeds.take j).map (bhd L pn))) (bhd L pn c) := by
        rw [List.take_succ, hc2, List.map_append]
        exact insAll_snoc _ _ _
      generalize insAll F ((deeds.take j).map (bhd L pn)) = F5 at st7 hF7 k2 e4 he eF5 v2 st5
      refine ⟨_, rfl, _, rfl, d, ks, bhd L pn c, rfl, k1, hv', k3, by rw [k2]; exact st7.nd, _, rfl, ?_⟩
      rw [k2]
      by_cases hm : bhd L pn c ∈ F5
      · rw [decide_eq_true hm]
        refine iteF ⟨_, _, rfl, ?_⟩
        rw [e4, ins_old hm]
        exact st7
      · rw [decide_eq_false hm]
        have lk : ks.length = F5.length := by rw [← k2, List.length_map]
        refine iteT ⟨_, rfl, _, rfl, d, ks, bhd L pn c, rfl, rfl, k1, hv', k3, by rw [k2]; exact st7.nd, by rw [k2]; exact hm, small1000 (by omega), ?_⟩
        obtain ⟨us7, x1, x2⟩ := st7.us
        have lu := x2.len
        have kt1 : KeepT H7 (upd H7 d (KnO w d (ks ++ [(v', bhd L pn c)]))) := keepT_at (noTup_kn k1)
        have x1' : upd H7 d (KnO w d (ks ++ [(v', bhd L pn c)])) p = some (.lst us7) := by rw [upd_ne hpd]; exact x1
        refine ⟨_, rfl, .inl ⟨rfl, _, SqL.of x1'⟩, _, rfl, p, us7, v', rfl, rfl, x1', small1000 (by omega), ?_⟩
        have kt2 := kt1.trans (keepT_upd (l' := us7 ++ [v']) x1')
        refine ⟨_, _, rfl, ?_⟩
        rw [e4, ins_new hm]
        refine ⟨same_upd (same_upd st7.same hdH) hp, ⟨_, upd_same, (x2.keep kt2).app (LV.one (hv'.keep kt2))⟩, ⟨ks ++ [(v', bhd L pn c)], ?_, ?_, fun z hz => ?_⟩, ?_, fun y hy => ?_⟩
        · rw [upd_ne (Ne.symm hpd), upd_same]
          rfl
        · rw [List.map_append, k2]
          rfl
        · rcases List.mem_append.mp hz with hz | hz
          · exact (k3 z hz).keep kt2
          · rw [List.mem_singleton.mp hz]
            exact hv'.keep kt2
        · have h := nodup_ins (x := bhd L pn c) st7.nd
          rw [ins_new hm] at h
          exact h
        · rcases List.mem_append.mp hy with hy | hy
          · exact st7.ok y hy
          · rw [List.mem_singleton.mp hy]
            exact hb
    · intro σ H5 pp
      obtain ⟨z4, z5, rfl, st5⟩ := pp
      refine ⟨_, rfl, _, _, rfl, rfl, ?_⟩
      have e : deeds.take ("urdl" : Str).cps.size = deeds := by decide +kernel
      rw [e] at st5
      exact ⟨_, _, _, rfl, st5, fun R q => hq R (.go eF q)⟩
  · rw [decide_eq_false (show ¬ ((n : Nat) : Int) < (us.length : Nat) by omega)]
    refine iteF ⟨_, rfl, ?_⟩
    exact k p us H4 F st.same u1 u2 (hq F (.stop (by omega))) st.nd st.ok
end
end K79
/-! part W13 -/
/-! The world: sayings, stand_at, round_of; hand_turned. -/
namespace K79
open PySem PySem.Spec PyProof.Rows L2
section
variable {P : Program} {w : World} {K : PySem.W.Frag} {mg : Str → Option Value} {base : Heap}
def spSayings (K : PySem.W.Frag) : Sp := fun vs H Q _ => ∃ a L x row, vs = [.ref a, .str (S row)] ∧ WoV K H a L x ∧ LandOk L ∧ PostOk L.rows x ∧ (∀ c ∈ row, c ∈ deeds) ∧ row.length ≤ 900 ∧
  ∀ q p us H' R n, Same H H' → SqT K H' q [.ref p, .int ((n : Nat) : Int)] → H' p = some (.lst us) → LV K H' us R → Say (fun y => last L y row) [x] R n → R.length ≤ 289 → (∀ y ∈ R, PostOk L.rows y) → Q (.ref q) H'
theorem ok_sayings (T : Txt K mg) (h1 : C8.Met P w K mg base 9 (cW K) "gone" (spGone K) []) : C8.Met P w K mg base 10 (cW K) "sayings" (spSayings K) [] := by
  have SC : C8.scC ["self", "row", "found", "stand"] ["self", "row"] (C8.fnScope s_World_sayings) = true := by decide +kernel
  have nd := (C8.fnScope_by SC).nd
  refine met T.clW T.f_World_sayings SC (fun _ _ _ _ _ _ us hl => match us, hl with | [_, _], _ => rfl) (fun vs H Q E h => by obtain ⟨_, _, _, _, rfl, _⟩ := h; rfl) (fun f cdv A outer s H vs Q E hr h => ?_)
  obtain ⟨a, L, x, row, rfl, hw, O, hx, hrow, hz, k⟩ := h
  refine ⟨_, pss_cons (ps_set (i := 2) nd rfl (.inl rfl) (pe_lst (pa_cons (pe_fld (pv 0) rfl) pa_nil)))
    (pss_one (ps_while PassesOwn.never (pt_val pe_bl)
      (pss_cons (ps_set (i := 3) nd rfl (.inl rfl) (pe_ix ix_list (C8.pe_mt h1 hr (by decide) (pv 0) (pa_cons (pe_ix ix_list (pv 2) (pe_un un_neg pe_int) (fun _ _ => rfl)) (pa_cons (pv 1) pa_nil))) (pe_un un_neg pe_int) (fun _ _ => rfl)))
      (pss_cons (ps_if (pt_cmpR (op_inD (hu1 hr)) (pv 3) (pv 2) (by rfl))
        (pss_one (ps_ret (pe_tup (pa_cons (pv 2) (pa_cons (pe_bm PySem.F.plainAttrs_list PySem.F.slot_list_index PySem.F.type_list_index (mt_indexD (hu1 hr)) (pv 2) (pa_cons (pv 3) pa_nil)) pa_nil))))) pss_nil)
      (pss_one (ps_expr (pe_bm PySem.F.plainAttrs_list PySem.F.slot_list_append PySem.F.type_list_append mt_append (pv 2) (pa_cons (pv 3) pa_nil)))))))), ?_⟩
  have hw0 := hw
  obtain ⟨dx, g, pd, gt, vop, vf, op, w1, w2, w3, w4, w5, w6, w7⟩ := hw
  refine ⟨_, rfl, a, _, dx, _, _, rfl, w1, T.clW, T.n_first, rfl, by show 1 ≤ sizeLine; decide, fun p hp => ?_⟩
  have s1 : Same H (upd H p (.lst [vf])) := Same.new hp
  refine ⟨fun m σ H' => ∃ (F : List Post) (y3 : Option V) (us : List V) (fl : Post), m = 300 - F.length ∧ σ = [some (.ref a), some (.str (S row)), some (.ref p), y3] ∧ Same H H' ∧ H' p = some (.lst us) ∧ LV K H' us F ∧ F.Nodup ∧ (∀ y ∈ F, PostOk L.rows y) ∧ F.getLast? = some fl ∧ (∀ R n, Say (fun y => last L y row) F R n → Say (fun y => last L y row) [x] R n),
    ⟨299, [x], _, [vf], x, rfl, rfl, s1, upd_same, LV.one (pv_same w7 s1), by simp, fun y hy => by rw [List.mem_singleton.mp hy]; exact hx, rfl, fun R n h => h⟩, ?_⟩
  rintro m σ H2 ⟨F, y3, us, fl, rfl, rfl, s2, e2, lv, nF, oF, gl, hq⟩
  have hF := few O.rows nF oF
  have hlen := lv.len
  obtain ⟨F0, eF⟩ := List.getLast?_eq_some_iff.mp gl
  have lv2 := lv
  rw [eF] at lv2
  obtain ⟨vs0, v0, eus, hv0⟩ := lv2.end
  have ofl : PostOk L.rows fl := oF fl (by rw [eF]; simp)
  refine ⟨_, rfl, iteT ⟨fun σ' H' => ∃ (F2 : List Post) (y3 : Option V) (us : List V) (fl : Post), F2.length = F.length + 1 ∧ σ' = [some (.ref a), some (.str (S row)), some (.ref p), y3] ∧ Same H H' ∧ H' p = some (.lst us) ∧ LV K H' us F2 ∧ F2.Nodup ∧ (∀ y ∈ F2, PostOk L.rows y) ∧ F2.getLast? = some fl ∧ (∀ R n, Say (fun y => last L y row) F2 R n → Say (fun y => last L y row) [x] R n),
    fun σ' H' ⟨F2, z3, us2, fl2, r1, r2⟩ => ⟨300 - F2.length, by omega, F2, z3, us2, fl2, rfl, r2⟩, ?_⟩⟩
  refine ⟨_, rfl, a, dx, _, rfl, s2 _ _ w1, rfl, ?_⟩
  refine ⟨_, rfl, _, rfl, p, us, _, v0, rfl, rfl, SqL.of e2, by rw [eus]; exact atI_last vs0 v0, ?_⟩
  refine ⟨_, rfl, a, L, x, v0, fl, row, rfl, hw0.same s2, O, hv0, ofl, hrow, hz, fun l us3 H3 s3 e3 lv3 => ?_⟩
  obtain ⟨gl3, eg⟩ := gone_end L fl row
  rw [eg] at lv3
  obtain ⟨vs3, v3, rfl, hv3⟩ := lv3.end
  have ofn : PostOk L.rows (last L fl row) := last_ok O row ofl
  refine ⟨_, rfl, l, _, _, v3, rfl, rfl, SqL.of e3, atI_last vs3 v3, ?_⟩
  have e2' := s3 _ _ e2
  have lv' : LV K H3 us F := lv.keep (Same.keepT s3)
  have tF : ∀ y ∈ F, TOk y := fun y hy => (oF y hy).tok
  have dpF : Dp K H3 (.ref p) (.list (F.map pdPost)) := .lst (SqL.of e2') lv'.dp
  refine ⟨_, rfl, _, rfl, pdPost (last L fl row), F.map pdPost, hv3.dp, dpF, pd_shaped ofn.tok, pds_shaped tF, _, rfl, ?_⟩
  rw [any_eqv]
  by_cases hm : last L fl row ∈ F
  · rw [decide_eq_true hm]
    refine iteT ?_
    have ixa := ixOf_at hm
    refine ⟨_, rfl, _, rfl, .inl ⟨rfl, _, SqL.of e2'⟩, _, rfl, p, v3, pdPost (last L fl row), F.map pdPost, ixOf F (last L fl row), pdPost (last L fl row), rfl, rfl, dpF, hv3.dp, pds_shaped tF, pd_shaped ofn.tok, by rw [List.getElem?_map, ixa]; rfl, by rw [pd_eqv]; exact decide_eq_true rfl, ?_, ?_⟩
    · intro m z hm2 hz2
      rw [List.getElem?_map] at hz2
      obtain ⟨y, hy, rfl⟩ := Option.map_eq_some_iff.mp hz2
      rw [pd_eqv]
      exact decide_eq_false (ixOf_first hm2 hy)
    refine ⟨by show 2 ≤ sizeLine; decide, fun q hq' => ?_⟩
    have s4 := Same.then_new (o := .tup [.ref p, .int (ixOf F (last L fl row) : Nat)]) (s2.trans s3) hq'
    have s5 : Same H3 (upd H3 q (.tup [.ref p, .int (ixOf F (last L fl row) : Nat)])) := Same.new hq'
    exact k q p us _ F _ s4 (SqT.of upd_same) (s5 _ _ e2') (lv'.keep (Same.keepT s5)) (hq F _ (.stop gl hm)) hF oF
  · rw [decide_eq_false hm]
    refine iteF ?_
    refine ⟨_, rfl, .inl ⟨rfl, _, SqL.of e2'⟩, _, rfl, p, us, v3, rfl, rfl, e2', small1000 (by omega), ?_⟩
    have kt := keepT_upd (l' := us ++ [v3]) e2'
    refine ⟨F ++ [last L fl row], _, _, last L fl row, by simp, rfl, same_upd (s2.trans s3) hp, upd_same, (lv'.keep kt).app (LV.one (hv3.keep kt)), ?_, fun y hy => ?_, by simp, fun R n h => hq R n (.go gl hm h)⟩
    · rw [List.nodup_append]
      refine ⟨nF, by simp, fun y hy z hz => ?_⟩
      rw [List.mem_singleton.mp hz]
      exact fun e => hm (e ▸ hy)
    · rcases List.mem_append.mp hy with hy | hy
      · exact oF y hy
      · rw [List.mem_singleton.mp hy]
        exact ofn
def spRoundOf (K : PySem.W.Frag) : Sp := fun vs H Q _ => ∃ a L x row, vs = [.ref a, .str (S row)] ∧ WoV K H a L x ∧ LandOk L ∧ PostOk L.rows x ∧ (∀ c ∈ row, c ∈ deeds) ∧ row ≠ [] ∧ row.length ≤ 900 ∧
  ∀ q H' R n, Same H H' → Say (fun y => last L y row) [x] R n → SqT K H' q [.int ((n : Nat) : Int), .int (((R.length : Nat) : Int) - ((n : Nat) : Int))] → Q (.ref q) H'
theorem ok_round_of (T : Txt K mg) (h1 : C8.Cal P w K mg base 2 "want_said" spWantSaid []) (h2 : C8.Met P w K mg base 10 (cW K) "sayings" (spSayings K) []) : C8.Met P w K mg base 11 (cW K) "round_of" (spRoundOf K) [] := by
  have SC : C8.scC ["self", "row", "stands", "since"] ["self", "row"] (C8.fnScope s_World_round_of) = true := by decide +kernel
  have nd := (C8.fnScope_by SC).nd
  refine met T.clW T.f_World_round_of SC (fun _ _ _ _ _ _ us hl => match us, hl with | [_, _], _ => rfl) (fun vs H Q E h => by obtain ⟨_, _, _, _, rfl, _⟩ := h; rfl) (fun f cdv A outer s H vs Q E hr h => ?_)
  obtain ⟨a, L, x, row, rfl, hw, O, hx, hrow, hne, hz, k⟩ := h
  refine ⟨_, pss_cons (ps_expr (C8.pe_c h1 hr (by decide) rfl (pa_cons (pv 1) pa_nil)))
    (pss_cons (ps_asg (C8.pe_mt h2 hr (by decide) (pv 0) (pa_cons (pv 1) pa_nil)) (pg_tup rfl (pgs_cons (pg_name (i := 2) nd rfl (.inl rfl)) (pgs_cons (pg_name (i := 3) nd rfl (.inl rfl)) pgs_nil))))
    (pss_one (ps_ret (pe_tup (pa_cons (pv 3) (pa_cons (pe_op op_sub (pe_callB call_len (by rfl) T.b_len PySem.boot_len (pa_cons (pv 2) pa_nil)) (pv 3)) pa_nil)))))), ?_⟩
  refine ⟨_, rfl, row, rfl, hrow, hne, fun H1 s1 => ?_⟩
  have hw1 := hw.same s1
  have hw2 := hw1
  obtain ⟨dx, g, pd, gt, vop, vf, op, w1, wr⟩ := hw1
  refine ⟨_, rfl, a, dx, _, rfl, w1, rfl, _, rfl, a, L, x, row, rfl, hw2, O, hx, hrow, hz, fun q p us H2 R n s2 hq hp lv sy hR oR => ?_⟩
  refine ⟨q, _, rfl, hq, rfl, _, _, rfl, _, _, rfl, rfl, ?_⟩
  refine ⟨_, rfl, _, rfl, _, R.length, rfl, .inl ⟨us, SqL.of hp, lv.len.symm⟩, ?_⟩
  refine ⟨_, rfl, _, _, rfl, rfl, by show 2 ≤ sizeLine; decide, fun u hu => ?_⟩
  exact k u _ R n (Same.then_new (s1.trans s2) hu) sy (SqT.of upd_same)
def spStandAt (K : PySem.W.Frag) : Sp := fun vs H Q _ => ∃ a L x row, ∃ beat : Nat, vs = [.ref a, .str (S row), .int (beat : Int)] ∧ WoV K H a L x ∧ LandOk L ∧ PostOk L.rows x ∧ (∀ c ∈ row, c ∈ deeds) ∧ row ≠ [] ∧ row.length ≤ 900 ∧ beat ≤ 1000000000000000000 ∧
  ∀ v H' R n, Same H H' → Say (fun y => last L y row) [x] R n → PV K H' v (atBeat L R n row beat) → Q v H'
theorem ok_stand_at (T : Txt K mg) (h1 : C8.Cal P w K mg base 2 "want_said" spWantSaid []) (h2 : C8.Cal P w K mg base 2 "is_from" spIsFrom []) (h3 : C8.Met P w K mg base 10 (cW K) "sayings" (spSayings K) []) (h4 : C8.Met P w K mg base 9 (cW K) "gone" (spGone K) []) :
    C8.Met P w K mg base 11 (cW K) "stand_at" (spStandAt K) [] := by
  obtain ⟨tb, hb⟩ := T.c_MOST_BEAT
  have SC : C8.scC ["self", "row", "beat", "stands", "since", "said"] ["self", "row", "beat"] (C8.fnScope s_World_stand_at) = true := by decide +kernel
  have nd := (C8.fnScope_by SC).nd
  refine met T.clW T.f_World_stand_at SC (fun _ _ _ _ _ _ us hl => match us, hl with | [_, _, _], _ => rfl) (fun vs H Q E h => by obtain ⟨_, _, _, _, _, rfl, _⟩ := h; rfl) (fun f cdv A outer s H vs Q E hr h => ?_)
  obtain ⟨a, L, x, row, beat, rfl, hw, O, hx, hrow, hne, hz, hbt, k⟩ := h
  refine ⟨_, pss_cons (ps_expr (C8.pe_c h1 hr (by decide) rfl (pa_cons (pv 1) pa_nil)))
    (pss_cons (ps_if (pt_not (pt_val (C8.pe_c h2 hr (by decide) rfl (pa_cons (pv 2) (pa_cons pe_int (pa_cons (pe_glob (by rfl) hb (v := .int 1000000000000000000) ⟨_, rfl⟩) pa_nil)))))) pss_never pss_nil)
    (pss_cons (ps_asg (C8.pe_mt h3 hr (by decide) (pv 0) (pa_cons (pv 1) pa_nil)) (pg_tup rfl (pgs_cons (pg_name (i := 3) nd rfl (.inl rfl)) (pgs_cons (pg_name (i := 4) nd rfl (.inl rfl)) pgs_nil))))
    (pss_cons (ps_set (i := 5) nd rfl (.inl rfl) (pe_op op_fdiv (pv 2) (pe_callB call_len (by rfl) T.b_len PySem.boot_len (pa_cons (pv 1) pa_nil))))
    (pss_cons (ps_if (pt_cmpR op_ge (pv 5) (pe_callB call_len (by rfl) T.b_len PySem.boot_len (pa_cons (pv 3) pa_nil)) (nomark _))
      (pss_one (ps_set (i := 5) nd rfl (.inl rfl) (pe_op op_add (pv 4) (pe_op op_mod (pe_op op_sub (pv 5) (pv 4)) (pe_op op_sub (pe_callB call_len (by rfl) T.b_len PySem.boot_len (pa_cons (pv 3) pa_nil)) (pv 4)))))) pss_nil)
    (pss_one (ps_ret (pe_ix ix_list (C8.pe_mt h4 hr (by decide) (pv 0) (pa_cons (pe_ix ix_list (pv 3) (pv 5) (fun _ _ => rfl)) (pa_cons (pe_slice C8.sl_txt (pv 1) po_none (po_some (pe_op op_mod (pv 2) (pe_callB call_len (by rfl) T.b_len PySem.boot_len (pa_cons (pv 1) pa_nil))))) pa_nil))) (pe_un un_neg pe_int) (fun _ _ => rfl)))))))), ?_⟩
  have hpos : 0 < row.length := List.length_pos_iff.mpr hne
  have hsz : (S row).length ≤ sizeLine := by show row.length ≤ sizeLine; exact small (by omega)
  refine ⟨_, rfl, row, rfl, hrow, hne, fun H1 s1 => ?_⟩
  refine ⟨_, rfl, _, 0, _, rfl, ?_⟩
  rw [decide_eq_true (show (0 : Int) ≤ (beat : Nat) by omega), decide_eq_true (show ((beat : Nat) : Int) ≤ 1000000000000000000 by omega)]
  refine ⟨_, rfl, iteF ?_⟩
  have hw1 := hw.same s1
  have hw2 := hw1
  obtain ⟨dx, g, pd, gt, vop, vf, op, w1, wr⟩ := hw1
  refine ⟨_, rfl, a, dx, _, rfl, w1, rfl, _, rfl, a, L, x, row, rfl, hw2, O, hx, hrow, hz, fun q p us H2 R n s2 hq hp lv sy hR oR => ?_⟩
  refine ⟨q, _, rfl, hq, rfl, _, _, rfl, _, _, rfl, rfl, ?_⟩
  have hn := sy.lt
  have hul := lv.len
  refine ⟨_, rfl, _, rfl, _, row.length, rfl, ⟨hsz, rfl⟩, _, _, rfl, rfl, ⟨by omega, by omega⟩, ?_⟩
  dsimp only
  rw [show ((beat : Nat) : Int) / ((row.length : Nat) : Int) = ((beat / row.length : Nat) : Int) from (Int.natCast_ediv _ _).symm]
  refine ⟨_, rfl, _, rfl, _, R.length, rfl, .inl ⟨us, SqL.of hp, hul.symm⟩, ?_⟩
  refine ⟨_, _, rfl, rfl, _, rfl, ?_⟩
  have s02 := s1.trans s2
  have w12 := s2 _ _ w1
  -- from the number of sayings on
  have fin : ∀ kk : Nat, kk < R.length → last L (R.getD kk none) (row.take (beat % row.length)) = atBeat L R n row beat →
      tRet (tOp (rIxL K) (tMeth (cW K) "gone" (spGone K) [] C8.E0 (tVar 0) (tCons (tOp (rIxL K) (tVar 3) (tVar 5)) (tCons (tSl C8.rSlX (tVar 1) tNoPart (tPart (tOp (rI (fun _ j => 0 < j) fun i j => .int (i % j)) (tVar 2) (tCB (fun xs H Q => ∃ x n, xs = [x] ∧ LenV K x H n ∧ Q (.int n) H) (tCons (tVar 1) tNil))))) tNil))) (tUn (rU fun i => .int (-i)) (tC (.int 1))))
        { nx := fun _ H' => Q .non H', rt := Q } [some (.ref a), some (.str (S row)), some (.int (beat : Nat)), some (.ref p), some (.int (n : Nat)), some (.int (kk : Nat))] H2 := fun kk hk2 he => by
    have ek : R[kk]? = some (R.getD kk none) := by rw [List.getD_eq_getElem?_getD, List.getElem?_eq_getElem hk2]; rfl
    obtain ⟨v, ev, hv⟩ := LV.at' lv ek
    have ok := oR _ (List.mem_of_getElem? ek)
    generalize R.getD kk none = xk at ek hv ok he
    refine ⟨_, rfl, a, dx, _, rfl, w12, rfl, _, rfl, _, rfl, p, us, _, v, rfl, rfl, SqL.of hp, atI_nat ev, ?_⟩
    refine ⟨_, rfl, _, rfl, _, rfl, _, row.length, rfl, ⟨hsz, rfl⟩, _, _, rfl, rfl, (by show (0 : Int) < (row.length : Nat); omega), _, rfl, ?_⟩
    refine ⟨S row, rfl, hsz, ?_⟩
    dsimp only
    rw [show ((beat : Nat) : Int) % ((row.length : Nat) : Int) = ((beat % row.length : Nat) : Int) from (Int.natCast_emod _ _).symm, SX.slice_to (by omega), Int.toNat_natCast]
    refine ⟨a, L, x, v, xk, row.take (beat % row.length), rfl, hw2.same s2, O, hv, ok, fun c hc => hrow c (List.mem_of_mem_take hc), by rw [List.length_take]; omega, fun l us3 H3 s3 e3 lv3 => ?_⟩
    obtain ⟨g3, eg⟩ := gone_end L xk (row.take (beat % row.length))
    rw [eg] at lv3
    obtain ⟨vs3, v3, rfl, hv3⟩ := lv3.end
    refine ⟨_, rfl, l, _, _, v3, rfl, rfl, SqL.of e3, atI_last vs3 v3, ?_⟩
    rw [he] at hv3
    exact k v3 H3 R n (s02.trans s3) sy hv3
  by_cases hge : R.length ≤ beat / row.length
  · rw [decide_eq_true (show ((beat / row.length : Nat) : Int) ≥ ((R.length : Nat) : Int) from Int.ofNat_le.mpr hge)]
    refine iteT ⟨_, rfl, _, rfl, _, rfl, _, _, rfl, rfl, _, rfl, _, R.length, rfl, .inl ⟨us, SqL.of hp, hul.symm⟩, _, rfl, _, _, rfl, rfl, ?_⟩
    refine ⟨_, _, rfl, rfl, (by show (0 : Int) < ((R.length : Nat) : Int) - ((n : Nat) : Int); omega), ?_⟩
    refine ⟨_, _, rfl, rfl, ?_⟩
    have e1 : ((beat / row.length : Nat) : Int) - ((n : Nat) : Int) = ((beat / row.length - n : Nat) : Int) := (Int.ofNat_sub (by omega)).symm
    have e2 : ((R.length : Nat) : Int) - ((n : Nat) : Int) = ((R.length - n : Nat) : Int) := (Int.ofNat_sub (by omega)).symm
    dsimp only
    rw [e1, e2, ← Int.natCast_emod, ← Int.natCast_add]
    refine fin _ ?_ ?_
    · have := Nat.mod_lt (beat / row.length - n) (show 0 < R.length - n by omega)
      omega
    · unfold atBeat
      dsimp only
      rw [if_pos (show beat / row.length ≥ R.length from hge)]
  · rw [decide_eq_false (show ¬ ((beat / row.length : Nat) : Int) ≥ ((R.length : Nat) : Int) from fun z => hge (Int.ofNat_le.mp z))]
    refine iteF (fin _ (by omega) ?_)
    unfold atBeat
    dsimp only
    rw [if_neg (show ¬ beat / row.length ≥ R.length from hge)]
def spHandTurned (K : PySem.W.Frag) : Sp := fun vs H Q _ => ∃ a L x h, vs = [.ref a, .str (S h)] ∧ WoV K H a L x ∧ LandOk L ∧ PostOk L.rows x ∧ h ∈ turns8 ∧ ∀ b H', Same H H' → WoV K H' b L (phi h x) → Q (.ref b) H'
theorem ok_hand_turned (T : Txt K mg) (h1 : C8.Cal P w K mg base 2 "want_turn" spWantTurn []) (h2 : C8.Met P w K mg base 1 (cW K) "start" (spStart K) []) (h3 : C8.Met P w K mg base 10 (cW K) "begun" (spBegun K) []) (h4 : C8.Cal P w K mg base 5 "then" spThen []) : C8.Cal P w K mg base 11 "hand_turned" (spHandTurned K) [] := by
  have SC : C8.scC ["world", "turn", "stand"] ["world", "turn"] (C8.fnScope s_hand_turned) = true := by decide +kernel
  have nd := (C8.fnScope_by SC).nd
  refine cal T.f_hand_turned SC (fun _ _ _ _ _ _ us hl => match us, hl with | [_, _], _ => rfl) (fun vs H Q E h => by obtain ⟨_, _, _, _, rfl, _⟩ := h; rfl) (fun f cdv A outer s H vs Q E hr h => ?_)
  obtain ⟨a, L, x, h, rfl, hw, O, hx, hh, k⟩ := h
  refine ⟨_, pss_cons (ps_expr (C8.pe_c h1 hr (by decide) rfl (pa_cons (pv 1) pa_nil)))
    (pss_cons (ps_set (i := 2) nd rfl (.inl rfl) (C8.pe_mt0 h2 hr (by decide) (pv 0)))
    (pss_cons (ps_if (pt_cmpR op_isN (pv 2) pe_non (nomark _)) (pss_one (ps_ret (C8.pe_mt h3 hr (by decide) (pv 0) (pa_cons pe_non pa_nil)))) pss_nil)
    (pss_one (ps_ret (C8.pe_mt h3 hr (by decide) (pv 0) (pa_cons (pe_tup (pa_cons (pe_ix ix_tup (pv 2) pe_int (fun _ _ => rfl)) (pa_cons (C8.pe_c h4 hr (by decide) rfl (pa_cons (pv 1) (pa_cons (pe_ix ix_tup (pv 2) pe_int (fun _ _ => rfl)) pa_nil))) pa_nil))) pa_nil)))))), ?_⟩
  have hw0 := hw
  obtain ⟨dx, g, pd, gt, vop, vf, op, w1, wr⟩ := hw
  refine ⟨_, rfl, h, rfl, hh, _, rfl, a, dx, _, rfl, w1, rfl, a, L, x, rfl, hw0, fun v hv => ?_⟩
  cases x with
  | none =>
    cases (show v = .non from hv)
    exact ⟨_, rfl, rfl, _, rfl, iteT ⟨_, rfl, a, dx, _, rfl, w1, rfl, a, L, none, _, none, rfl, hw0, O, rfl, trivial, fun b H' s hb => k b H' s hb⟩⟩
  | some x =>
    obtain ⟨p, t⟩ := x
    obtain ⟨q, v', rfl, hq, hp⟩ := hv
    refine ⟨_, rfl, rfl, _, rfl, iteF ?_⟩
    refine ⟨_, rfl, a, dx, _, rfl, w1, rfl, _, rfl, q, _, _, v', rfl, rfl, hq, atI_nat (j := 0) rfl, _, rfl, _, rfl, q, _, _, _, rfl, rfl, hq, atI_nat (j := 1) rfl, ?_⟩
    refine ⟨h, t, rfl, hh, hx.2, fun H1 s1 => ?_⟩
    refine ⟨by show 2 ≤ sizeLine; decide, fun u hu => ?_⟩
    have s2 := Same.then_new (o := .tup [v', .str (S (bec t h))]) s1 hu
    exact ⟨a, L, some (p, t), .ref u, some (p, bec t h), rfl, hw0.same s2, O, ⟨u, v', rfl, SqT.of upd_same, pl_same hp s2⟩, ⟨hx.1, bec_turn hx.2 hh⟩, fun b H' s hb => k b H' (s2.trans s) hb⟩
end
end K79
/-! part W14 -/
/-! The law's draws. -/
namespace K79
open PySem PySem.Spec PyProof.Rows L2
/-- a source: a list of three ints -/
def Src (H : Hp) (a : Addr) : Prop := ∃ x y z : Int, H a = some (.lst [.int x, .int y, .int z])
structure SrcB (a : Addr) (H H' : Hp) : Prop where
  but : SameBut a H H'
  src : Src H' a
theorem SrcB.refl {a : Addr} {H : Hp} (h : Src H a) : SrcB a H H := ⟨SameBut.refl a H, h⟩
theorem SrcB.trans {a : Addr} {H H1 H2 : Hp} (s : SrcB a H H1) (t : SrcB a H1 H2) : SrcB a H H2 := ⟨s.but.trans t.but, t.src⟩
theorem Src.same {a : Addr} {H H' : Hp} (h : Src H a) (s : Same H H') : Src H' a := by
  obtain ⟨x, y, z, e⟩ := h
  exact ⟨x, y, z, s _ _ e⟩
theorem SrcB.of {a : Addr} {H H' : Hp} (h : Src H a) (s : Same H H') : SrcB a H H' := ⟨Same.but s, h.same s⟩
theorem SrcB.seq {a : Addr} {H H1 H2 : Hp} (s : SrcB a H H1) (t : Same H1 H2) : SrcB a H H2 := s.trans (.of s.src t)
theorem Src.no {a : Addr} {H : Hp} (h : Src H a) : NoTup H a := by
  obtain ⟨x, y, z, e⟩ := h
  exact noTup_lst e
theorem SrcB.keepT {a : Addr} {H H' : Hp} (h : Src H a) (s : SrcB a H H') : KeepT H H' := s.but.keepT h.no
theorem Src.ne {a p : Addr} {H : Hp} (h : Src H a) (e : H p = none) : p ≠ a := fun z => by
  obtain ⟨x, y, w, e2⟩ := h
  rw [z, e2] at e
  cases e
theorem seq_but {K : PySem.W.Frag} {a p : Addr} {H H' : Hp} {xs : List V} (h : SqL K H p xs) (n : p ≠ a) (s : SameBut a H H') : SqL K H' p xs := by
  rcases h with (h | ⟨o, h⟩) | h
  · exact .inl (.inl (s _ _ n h))
  · exact .inl (.inr ⟨o, s _ _ n h⟩)
  · exact .inr h
theorem WoV.but {K : PySem.W.Frag} {H H' : Hp} {a b : Addr} {L : Land} {x : Post} (h : WoV K H b L x) (h0 : Src H a) (s : SrcB a H H') : WoV K H' b L x := by
  obtain ⟨dx, g, pd, gt, vop, vf, op, w1, w2, w3, w4, w5, w6, w7⟩ := h
  obtain ⟨sx, sy, sz, hs⟩ := h0
  have kt := s.but.keepT (noTup_lst hs)
  have n1 : b ≠ a := fun z => by rw [z, hs] at w1; cases w1
  have n2 : g ≠ a := fun z => by
    obtain ⟨_, _, e, _⟩ := w2
    rw [z, hs] at e
    cases e
  obtain ⟨ls, l1, l2, l3⟩ := w3
  have n3 : pd ≠ a := fun z => by rw [z, hs] at l3; cases l3
  refine ⟨dx, g, pd, gt, vop, vf, op, s.but _ _ n1 w1, w2.but s.but (noTup_lst hs) n2, ⟨ls, l1, l2, s.but _ _ n3 l3⟩, ?_, w5.keep kt, w6, w7.keep kt⟩
  obtain ⟨p, us, gs, e, hu, hp, hr⟩ := w4
  refine ⟨p, us, gs, e, ?_, hp.keep kt, hr⟩
  rcases hu with hu | hu
  · by_cases n4 : p = a
    · subst n4
      rcases hu with (hu | ⟨o, hu⟩) | hu
      · rw [hs] at hu
        have e2 : us = [.int sx, .int sy, .int sz] := (HO.lst.inj (Option.some.inj hu)).symm
        rw [e2] at hp
        cases hp with
        | cons r _ =>
          obtain ⟨q, e3, _⟩ := r
          cases e3
      · rw [hs] at hu
        cases hu
      · exact .inl (.inr hu)
    · exact .inl (seq_but hu n4 s.but)
  · exact .inr (sqT_keep hu kt)
section
variable {P : Program} {w : World} {K : PySem.W.Frag} {mg : Str → Option Value} {base : Heap}
def spMixed : Sp := fun vs H Q _ => ∃ c k : Int, vs = [.int c, .int k] ∧ ∀ r : Int, 0 ≤ r → Q (.int r) H
theorem mod_pos {i m : Int} (h : 0 < m) : 0 ≤ i % m ∧ i % m < m := ⟨Int.emod_nonneg _ (by omega), Int.emod_lt_of_pos _ h⟩
theorem ok_mixed (T : Txt K mg) : C8.Cal P w K mg base 1 "_law_mixed" spMixed [] := by
  have SC : C8.scC ["_law_cell", "_law_k", "_law_figure"] ["_law_cell", "_law_k"] (C8.fnScope s_law_mixed) = true := by decide +kernel
  have nd := (C8.fnScope_by SC).nd
  refine cal T.f_law_mixed SC (fun _ _ _ _ _ _ us hl => match us, hl with | [_, _], _ => rfl) (fun vs H Q E h => by obtain ⟨_, _, rfl, _⟩ := h; rfl) (fun f cdv A outer s H vs Q E hr h => ?_)
  obtain ⟨c, k, rfl, q⟩ := h
  refine ⟨_, pss_cons (ps_set (i := 2) nd rfl (.inl rfl) (pe_op op_mod (pe_op op_mul (pe_op op_add (pe_op op_mod (pv 0) pe_int) pe_int) (pe_op op_add (pe_op op_mul (pv 1) pe_int) pe_int)) pe_int))
    (pss_cons (ps_set (i := 2) nd rfl (.inl rfl) (pe_op op_mod (pe_op op_mul (pe_op op_add (pv 2) (pe_op op_mul (pe_op op_mod (pe_op op_fdivW (pv 0) pe_int) pe_int) (pe_op op_add (pv 1) pe_int))) pe_int) pe_int))
    (pss_cons (ps_set (i := 2) nd rfl (.inl rfl) (pe_op op_mod (pe_op op_mul (pv 2) (pe_op op_add (pe_op op_add (pe_op op_fdiv (pv 2) pe_int) pe_int) (pv 1))) pe_int))
    (pss_one (ps_ret (pe_op op_mod (pe_op op_mul (pv 2) (pe_op op_add (pe_op op_fdiv (pv 2) pe_int) pe_int)) pe_int))))), ?_⟩
  refine ⟨_, rfl, _, _, rfl, rfl, (by show (0 : Int) < 2147483646; decide), _, _, rfl, rfl, _, rfl, _, _, rfl, rfl, .inr ⟨by decide, by decide⟩, _, _, rfl, rfl, ?_⟩
  have b1 := mod_pos (i := c) (m := 2147483646) (by decide)
  refine ⟨_, _, rfl, rfl, .inl ⟨by omega, by omega⟩, _, _, rfl, rfl, (by show (0 : Int) < 2147483647; decide), ?_⟩
  refine ⟨_, rfl, _, rfl, _, _, rfl, rfl, wide_div (b := 32) (by decide) (by decide) (by decide) (by decide), _, _, rfl, rfl, (by show (0 : Int) < 1000003; decide), _, rfl, _, _, rfl, rfl, ?_⟩
  have b2 := mod_pos (i := c / 2147483646) (m := 1000003) (by decide)
  refine ⟨_, _, rfl, rfl, .inl ⟨by omega, by omega⟩, _, _, rfl, rfl, _, _, rfl, rfl, .inr ⟨by decide, by decide⟩, _, _, rfl, rfl, (by show (0 : Int) < 2147483629; decide), ?_⟩
  dsimp only
  generalize ((c % 2147483646 + 1) * (k * 7919 + 104729) % 2147483647 + c / 2147483646 % 1000003 * (k + 31)) * 48271 = g1
  have b3 := mod_pos (i := g1) (m := 2147483629) (by decide)
  generalize g1 % 2147483629 = g2 at b3
  refine ⟨_, rfl, _, rfl, _, _, rfl, rfl, ⟨by decide, by decide⟩, _, _, rfl, rfl, _, rfl, _, _, rfl, rfl, _, _, rfl, rfl, .inl ⟨by omega, by omega⟩, _, _, rfl, rfl, (by show (0 : Int) < 2147483587; decide), ?_⟩
  dsimp only
  generalize g2 * (g2 / 1013 + 69621 + k) = g3
  have b4 := mod_pos (i := g3) (m := 2147483587) (by decide)
  generalize g3 % 2147483587 = g4 at b4
  refine ⟨_, rfl, _, rfl, _, _, rfl, rfl, ⟨by decide, by decide⟩, _, _, rfl, rfl, _, _, rfl, rfl, .inl ⟨by omega, by omega⟩, _, _, rfl, rfl, (by show (0 : Int) < 2147483563; decide), ?_⟩
  exact q _ (mod_pos (by decide)).1
def spTake : Sp := fun vs H Q _ => ∃ (a : Addr) (n : Int), vs = [.ref a, .int n] ∧ Src H a ∧ 1 ≤ n ∧ n ≤ 1000000000000000000 ∧ ∀ r H', SrcB a H H' → 0 ≤ r → r < n → Q (.int r) H'
theorem ok_take (T : Txt K mg) (h1 : C8.Cal P w K mg base 1 "_law_mixed" spMixed []) : C8.Cal P w K mg base 2 "_law_take" spTake [] := by
  have SC : C8.scC ["_law_source_here", "_law_size", "_law_found"] ["_law_source_here", "_law_size"] (C8.fnScope s_law_take) = true := by decide +kernel
  have nd := (C8.fnScope_by SC).nd
  refine cal T.f_law_take SC (fun _ _ _ _ _ _ us hl => match us, hl with | [_, _], _ => rfl) (fun vs H Q E h => by obtain ⟨_, _, rfl, _⟩ := h; rfl) (fun f cdv A outer s H vs Q E hr h => ?_)
  obtain ⟨a, n, rfl, ⟨x, y, z, e⟩, n1, n2, k⟩ := h
  refine ⟨_, pss_cons (ps_if (pt_cmpR op_ge (pe_ix ix_list (pv 0) pe_int (fun _ _ => rfl)) (pe_op op_pow pe_int pe_int) (nomark _))
      (pss_cons (ps_set (i := 2) nd rfl (.inl rfl) (pe_op op_mod (pe_ix ix_list (pv 0) pe_int (fun _ _ => rfl)) (pv 1)))
      (pss_cons (ps_asg (pe_op op_fdivW (pe_ix ix_list (pv 0) pe_int (fun _ _ => rfl)) (pv 1)) (pg_sub (pv 0) pe_int set_list))
      (pss_one (ps_ret (pv 2))))) pss_nil)
    (pss_cons (ps_asg (pe_op op_add (pe_ix ix_list (pv 0) pe_int (fun _ _ => rfl)) pe_int) (pg_sub (pv 0) pe_int set_list))
    (pss_one (ps_ret (pe_op op_mod (C8.pe_c h1 hr (by decide) rfl (pa_cons (pe_ix ix_list (pv 0) pe_int (fun _ _ => rfl)) (pa_cons (pe_ix ix_list (pv 0) pe_int (fun _ _ => rfl)) pa_nil))) (pv 1))))), ?_⟩
  refine ⟨_, rfl, a, _, _, _, rfl, rfl, SqL.of e, atI_nat (j := 0) rfl, _, _, rfl, rfl, ⟨by decide, by decide, by decide⟩, _, _, rfl, rfl, _, rfl, ?_⟩
  have tail : tSeq (tAsg (tOp (rI0 fun i j => .int (i + j)) (tOp (rIxL K) (tVar 0) (tC (.int 2))) (tC (.int 1))) (gSub (tVar 0) (tC (.int 2)) rSetL))
      (tRet (tOp (rI (fun _ j => 0 < j) fun i j => .int (i % j)) (tCall spMixed [] C8.E0 (tCons (tOp (rIxL K) (tVar 0) (tC (.int 1))) (tCons (tOp (rIxL K) (tVar 0) (tC (.int 2))) tNil))) (tVar 1)))
      { nx := fun _ H' => Q .non H', rt := Q } [some (.ref a), some (.int n), none] H := by
    refine ⟨_, rfl, a, _, _, _, rfl, rfl, SqL.of e, atI_nat (j := 2) rfl, _, _, rfl, rfl, _, rfl, a, _, _, 2, rfl, rfl, e, rfl, ?_⟩
    have b1 : SameBut a H (upd H a (.lst ([V.int x, .int y, .int z].set 2 (.int (z + 1))))) := (SameBut.refl a H).upd
    have e1 : (upd H a (.lst ([V.int x, .int y, .int z].set 2 (.int (z + 1))))) a = some (.lst [.int x, .int y, .int (z + 1)]) := by rw [upd_same]; rfl
    refine ⟨_, rfl, a, _, _, _, rfl, rfl, SqL.of e1, atI_nat (j := 1) rfl, _, rfl, a, _, _, _, rfl, rfl, SqL.of e1, atI_nat (j := 2) rfl, _, _, rfl, fun r hr0 => ?_⟩
    refine ⟨_, rfl, _, _, rfl, rfl, (by show 0 < n; omega), ?_⟩
    have b := mod_pos (i := r) (m := n) (by omega)
    exact k _ _ ⟨b1, _, _, _, e1⟩ b.1 b.2
  by_cases hx : (10 : Int) ^ (18 : Int).toNat ≤ x
  · rw [decide_eq_true (show x ≥ (10 : Int) ^ (18 : Int).toNat from hx)]
    refine iteT ⟨_, rfl, a, _, _, _, rfl, rfl, SqL.of e, atI_nat (j := 0) rfl, _, rfl, _, _, rfl, rfl, (by show 0 < n; omega), ?_⟩
    refine ⟨_, rfl, a, _, _, _, rfl, rfl, SqL.of e, atI_nat (j := 0) rfl, _, rfl, _, _, rfl, rfl, wide_div (b := 64) (by omega) (by omega) (by decide) (by decide), _, rfl, a, _, _, 0, rfl, rfl, e, rfl, ?_⟩
    have b := mod_pos (i := x) (m := n) (by omega)
    exact ⟨_, rfl, k _ _ ⟨(SameBut.refl a H).upd, _, _, _, upd_same⟩ b.1 b.2⟩
  · rw [decide_eq_false (show ¬ x ≥ (10 : Int) ^ (18 : Int).toNat from hx)]
    exact iteF tail
/-- one of a list or of a text -/
def spOne (K : PySem.W.Frag) : Sp := fun vs H Q _ => ∃ (a : Addr) (v : V), vs = [.ref a, v] ∧ Src H a ∧
  ((∃ p xs, v = .ref p ∧ SqL K H p xs ∧ p ≠ a ∧ xs ≠ [] ∧ xs.length ≤ 1000 ∧ ∀ H' u, SrcB a H H' → u ∈ xs → Q u H') ∨ (∃ l : List Nat, v = .str (S l) ∧ l ≠ [] ∧ l.length ≤ 1000 ∧ ∀ H' c, SrcB a H H' → c ∈ l → Q (.str (S [c])) H'))
theorem ok_one (T : Txt K mg) (h1 : C8.Cal P w K mg base 2 "_law_take" spTake []) : C8.Cal P w K mg base 3 "_law_one" (spOne K) [] := by
  refine cal T.f_law_one (N := ["_law_source_here", "_law_some"]) (ps := ["_law_source_here", "_law_some"]) (by decide +kernel) (fun _ _ _ _ _ _ us hl => match us, hl with | [_, _], _ => rfl) (fun vs H Q E h => by obtain ⟨_, _, rfl, _⟩ := h; rfl) (fun f cdv A outer s H vs Q E hr h => ?_)
  obtain ⟨a, v, rfl, hs, hh⟩ := h
  refine ⟨_, pss_one (ps_ret (pe_ix ix_seq (pv 1) (C8.pe_c h1 hr (by decide) rfl (pa_cons (pv 0) (pa_cons (pe_callB call_len (by rfl) T.b_len PySem.boot_len (pa_cons (pv 1) pa_nil)) pa_nil))) (fun _ _ => rfl))), ?_⟩
  rcases hh with ⟨p, xs, rfl, hp, hne, hxs, hl, k⟩ | ⟨l, rfl, hl0, hl, k⟩
  · have hpos := List.length_pos_iff.mpr hxs
    refine ⟨_, rfl, _, rfl, _, rfl, _, xs.length, rfl, .inl ⟨_, hp, rfl⟩, a, _, rfl, hs, by omega, by omega, fun r H1 s1 r0 r1 => ?_⟩
    have hi : r.toNat < xs.length := by omega
    have e := List.getElem?_eq_getElem hi
    refine .inl ⟨p, xs, _, xs[r.toNat], rfl, rfl, seq_but hp hne s1.but, ?_, k _ _ s1 (List.getElem_mem hi)⟩
    have ea := atI_nat e
    rw [show ((r.toNat : Nat) : Int) = r by omega] at ea
    exact ea
  · have hpos := List.length_pos_iff.mpr hl0
    have hsz : (S l).length ≤ sizeLine := by show l.length ≤ sizeLine; exact small hl
    refine ⟨_, rfl, _, rfl, _, rfl, _, l.length, rfl, ⟨hsz, rfl⟩, a, _, rfl, hs, by omega, by omega, fun r H1 s1 r0 r1 => ?_⟩
    have hi : r.toNat < l.length := by omega
    have e := List.getElem?_eq_getElem hi
    refine .inr (.inr ⟨S l, _, l[r.toNat], rfl, rfl, hsz, ?_, k _ _ s1 (List.getElem_mem hi)⟩)
    have ea := atI_nat e
    rw [show ((r.toNat : Nat) : Int) = r by omega] at ea
    exact ea
def spSource : Sp := fun vs H Q _ => ∃ c : Int, vs = [.int c] ∧ ∀ a H', H a = none → Same H H' → Src H' a → Q (.ref a) H'
theorem ok_source (T : Txt K mg) : C8.Cal P w K mg base 1 "_law_source" spSource [] := by
  refine cal T.f_law_source (N := ["_law_cell"]) (ps := ["_law_cell"]) (by decide +kernel) (fun _ _ _ _ _ _ us hl => match us, hl with | [_], _ => rfl) (fun vs H Q E h => by obtain ⟨_, rfl, _⟩ := h; rfl) (fun f cdv A outer s H vs Q E hr h => ?_)
  obtain ⟨c, rfl, k⟩ := h
  refine ⟨_, pss_one (ps_ret (pe_lst (pa_cons (pv 0) (pa_cons (pv 0) (pa_cons pe_int pa_nil))))), ?_⟩
  exact ⟨_, rfl, _, rfl, by show 3 ≤ sizeLine; decide, fun a ha => k a _ ha (Same.new ha) ⟨_, _, _, upd_same⟩⟩
/-- a turn drawn -/
def spTurn : Sp := fun vs H Q _ => ∃ a : Addr, vs = [.ref a] ∧ Src H a ∧ ∀ H' t, SrcB a H H' → t ∈ turns8 → Q (.str (S t)) H'
theorem turnsV_of {u : V} (h : u ∈ turnsV) : ∃ t ∈ turns8, u = .str (S t) := by
  have h2 : ∀ u ∈ turnsV, u ∈ turns8.map fun t => V.str (S t) := by decide +kernel
  obtain ⟨t, ht, e⟩ := List.mem_map.mp (h2 u h)
  exact ⟨t, ht, e.symm⟩
theorem ok_turn (T : Txt K mg) (h1 : C8.Cal P w K mg base 3 "_law_one" (spOne K) []) : C8.Cal P w K mg base 4 "_law_turn" spTurn [] := by
  refine cal T.f_law_turn (N := ["_law_source_here"]) (ps := ["_law_source_here"]) (by decide +kernel) (fun _ _ _ _ _ _ us hl => match us, hl with | [_], _ => rfl) (fun vs H Q E h => by obtain ⟨_, rfl, _⟩ := h; rfl) (fun f cdv A outer s H vs Q E hr h => ?_)
  obtain ⟨a, rfl, hs, k⟩ := h
  refine ⟨_, pss_one (ps_ret (C8.pe_c h1 hr (by decide) rfl (pa_cons (pv 0) (pa_cons (pe_lst (pa_cons pe_str (pa_cons pe_str (pa_cons pe_str (pa_cons pe_str (pa_cons pe_str (pa_cons pe_str (pa_cons pe_str (pa_cons pe_str pa_nil))))))))) pa_nil)))), ?_⟩
  refine ⟨_, rfl, by show 8 ≤ sizeLine; decide, fun p hp => ?_⟩
  have s1 : Same H (upd H p (.lst turnsV)) := Same.new hp
  refine ⟨a, .ref p, rfl, hs.same s1, .inl ⟨p, turnsV, rfl, SqL.of upd_same, hs.ne hp, by decide, by decide, fun H' u s hu => ?_⟩⟩
  obtain ⟨t, ht, rfl⟩ := turnsV_of hu
  exact k H' t ((SrcB.of hs s1).trans s) ht
theorem ok_sense (T : Txt K mg) (h1 : C8.Cal P w K mg base 3 "_law_one" (spOne K) []) : C8.Cal P w K mg base 4 "_law_sense" spTurn [] := by
  have SC : C8.scC ["_law_source_here", "_law_some"] ["_law_source_here"] (C8.fnScope s_law_sense) = true := by decide +kernel
  have nd := (C8.fnScope_by SC).nd
  refine cal T.f_law_sense SC (fun _ _ _ _ _ _ us hl => match us, hl with | [_], _ => rfl) (fun vs H Q E h => by obtain ⟨_, rfl, _⟩ := h; rfl) (fun f cdv A outer s H vs Q E hr h => ?_)
  obtain ⟨a, rfl, hs, k⟩ := h
  refine ⟨_, pss_cons (ps_set (i := 1) nd rfl (.inl rfl) (pe_lst (pa_cons pe_str (pa_cons pe_str (pa_cons pe_str (pa_cons pe_str (pa_cons pe_str (pa_cons pe_str (pa_cons pe_str (pa_cons pe_str (pa_cons pe_str (pa_cons pe_str pa_nil))))))))))))
    (pss_one (ps_ret (C8.pe_c h1 hr (by decide) rfl (pa_cons (pv 0) (pa_cons (pv 1) pa_nil))))), ?_⟩
  refine ⟨by show 10 ≤ sizeLine; decide, fun p hp => ?_⟩
  have s1 : Same H (upd H p (.lst (turnsV ++ [.str "urdl", .str "urdl"]))) := Same.new hp
  refine ⟨_, rfl, _, rfl, a, .ref p, rfl, hs.same s1, .inl ⟨p, turnsV ++ [.str "urdl", .str "urdl"], rfl, SqL.of upd_same, hs.ne hp, by decide, by decide, fun H' u s hu => ?_⟩⟩
  have hu2 : u ∈ turnsV := by
    rcases List.mem_append.mp hu with hu | hu
    · exact hu
    · have : ∀ u ∈ [V.str "urdl", .str "urdl"], u ∈ turnsV := by decide +kernel
      exact this u hu
  obtain ⟨t, ht, rfl⟩ := turnsV_of hu2
  exact k H' t ((SrcB.of hs s1).trans s) ht
end
end K79
/-! part W15 -/
/-! The law's line, becomes, post_turned, sign. -/
namespace K79
open PySem PySem.Spec PyProof.Rows L2
theorem k_bmS {X : Cx} {K : PySem.W.Frag} {o e : Expr} {es : List Expr} {to : TE} {t : TA} {name : Str} {apos cpos : Pos} {T id : String} {r : L2.St → V → List V → Hp → VK → Prop} (hK : X.K = K) (pa : PlainAttrs T) (slot : Slot T name id) (hty : typeOf (.builtin id) = pure (.type "method_descriptor")) (hm : MtS X id r) (ho : PE X o to) (ha : PA X (e :: es) t) (hbase : attributeBase o name X.env (eval o X.env) = eval o X.env := by rfl) (hfew : ((backTo cpos (starEach (e :: es) X.env)).all (fun x => !x.1) && (backToKw cpos (keywordEach [] X.env)).all (fun x => x.1.isSome) && decide ((e :: es).length + ([] : List Keyword).length + (if ([] : List Keyword).isEmpty then 0 else 1) < 30)) = true := by rfl) (hline : (apos.endLine == cpos.line) = true := by rfl) (hs : starEach (e :: es) X.env = (false, eval e X.env) :: starEach es X.env := by rfl) (hplain : (backTo cpos (starEach es X.env)).any (·.1) = false := by rfl) : PE X (.Call (.Attribute o name apos) (e :: es) [] cpos) (tBMS K T r to t) := by
  subst hK
  exact pe_bmS pa slot hty hm ho ha hbase hfew hline hs hplain
/-- a comprehension that draws from a source -/
theorem lc_src {J : It} {n : Nat} {G : Hp → Prop} {Y : Nat → Hp → V → Hp → Prop} (w : Walk J n G Y) {g : TG} {tt : TT} {te : TE} {vs : List Nat} {σ : L2.St} {H1 : Hp} {D a : Addr} {Qd : Hp → Prop}
    (R : Nat → List V → Hp → Prop) (hD : H1 D = none) (hsrc : Src H1 a) (hG : ∀ H, SrcB a H1 H → G H) (hz : n ≤ sizeLine) (hK : ∀ i l H l0 l1, H D = some (.lst l0) → R i l H → R i l (upd H D (.lst l1))) (h0 : R 0 [] (upd H1 D (.lst [])))
    (hs : ∀ i l x H H', i < n → SrcB a H1 H → H D = some (.lst l) → l.length ≤ i → R i l H → Y i H x H' → ∀ (Kn : V → Hp → Prop) (El : Hp → Prop), (∀ y H4, SrcB a H H4 → R (i + 1) (l ++ [y]) H4 → Kn y H4) → (∀ H3, SrcB a H H3 → R (i + 1) l H3 → El H3) →
      g x (wipe σ vs) H' fun σ2 H2 => wipe σ2 vs = wipe σ vs ∧ tt σ2 H2 fun b H3 => if b = true then te σ2 H3 Kn else El H3)
    (hd : ∀ l H, SrcB a H1 H → H D = some (.lst l) → l.length ≤ n → R n l H → Qd H) :
    ∃ W : Nat → Nat → Hp → Prop, (∃ m, W 0 m (upd H1 D (.lst []))) ∧ ∀ i m H, W i m H →
      (J.stop i H ∧ Qd H) ∨ (J.go i H ∧ ∃ Nx : Hp → Prop, (∀ H', Nx H' → ∃ m', m' < m ∧ W (i + 1) m' H') ∧ ∀ x H', J.yld i H x H' → g x (wipe σ vs) H' fun σ2 H2 => wipe σ2 vs = wipe σ vs ∧ tt σ2 H2 fun b H3 =>
        if b = true then te σ2 H3 fun y H4 => ∃ acc, H4 D = some (.lst acc) ∧ acc.length < sizeLine ∧ Nx (upd H4 D (.lst (acc ++ [y]))) else Nx H3) := by
  have hne : D ≠ a := hsrc.ne hD
  have up : ∀ {H : Hp} {o : HO}, SrcB a H1 H → SrcB a H1 (upd H D o) := fun {H o} s => by
    obtain ⟨b, x, y, z, e⟩ := s
    refine ⟨fun q u nq eq => ?_, x, y, z, by rw [upd_ne (Ne.symm hne)]; exact e⟩
    rw [upd_ne (ne_of_none eq hD)]
    exact b q u nq eq
  refine lc_it w (fun i H => SrcB a H1 H ∧ ∃ l, H D = some (.lst l) ∧ l.length ≤ i ∧ R i l H) ?_ (fun _ H _ p => hG H p.1) ?_ ?_
  · exact ⟨up (.refl hsrc), [], upd_same, Nat.le_refl _, h0⟩
  · intro i x H H' hi p y
    obtain ⟨s, l, hl, hn, r⟩ := p
    refine hs i l x H H' hi s hl hn r y _ _ (fun y H4 s4 r4 => ?_) (fun H3 s3 r3 => ?_)
    · have e4 := s4.but _ _ hne hl
      exact ⟨l, e4, by omega, up (s.trans s4), l ++ [y], upd_same, by rw [List.length_append]; exact Nat.succ_le_succ hn, hK _ _ _ _ _ e4 r4⟩
    · exact ⟨s.trans s3, l, s3.but _ _ hne hl, by omega, r3⟩
  · intro H p
    obtain ⟨s, l, hl, hn, r⟩ := p
    exact hd l H s hl hn r
section
variable {P : Program} {w : World} {K : PySem.W.Frag} {mg : Str → Option Value} {base : Heap}
def spLine : Sp := fun vs H Q _ => ∃ (a : Addr) (m : Nat), vs = [.ref a, .int (m : Int)] ∧ Src H a ∧ m ≤ 800 ∧ ∀ H' l, SrcB a H H' → (∀ c ∈ l, c ∈ deeds) → l.length ≤ m → Q (.str (S l)) H'
theorem ok_line (T : Txt K mg) (h1 : C8.Cal P w K mg base 2 "_law_take" spTake []) (h2 : C8.Cal P w K mg base 3 "_law_one" (spOne K) []) : C8.Cal P w K mg base 4 "_law_line" spLine [] := by
  have SC : C8.scC ["_law_source_here", "_law_most", "_law_k"] ["_law_source_here", "_law_most"] (C8.fnScope s_law_line) = true := by decide +kernel
  have nd := (C8.fnScope_by SC).nd
  refine cal T.f_law_line SC (fun _ _ _ _ _ _ us hl => match us, hl with | [_, _], _ => rfl) (fun vs H Q E h => by obtain ⟨_, _, rfl, _⟩ := h; rfl) (fun f cdv A outer s H vs Q E hr h => ?_)
  obtain ⟨a, m, rfl, hs, hm, k⟩ := h
  refine ⟨_, pss_one (ps_ret (pe_join pe_str (pe_lc (own := [("_law_k", 2)]) (g := gName 2) (tt := tYes) rfl nd (pi_range1 rfl T.b_range (pa_cons (C8.pe_c h1 hr (by decide) rfl (pa_cons (pv 0) (pa_cons (pe_op op_add (pv 1) pe_int) pa_nil))) pa_nil)) (blkOk_by (N := ["_law_source_here", "_law_most", "_law_k"]) (sc := C8.fnScope s_law_line) (by decide +kernel)) (fun _ _ _ _ _ => pg_name (i := 2) nd rfl (.inl rfl)) (fun _ _ _ _ _ => pts_nil)
      (fun _ _ _ _ _ => C8.pe_c h2 hr (by decide) rfl (pa_cons (pv 0) (pa_cons pe_str pa_nil)))))), ?_⟩
  refine ⟨⟨_, rfl⟩, _, rfl, _, rfl, _, _, rfl, rfl, a, _, rfl, hs, by omega, by omega, fun r H1 s1 r0 r1 => ?_⟩
  refine ⟨r, rfl, by omega, by omega, fun D hD => ?_⟩
  refine lc_src (a := a) walk_range (fun i l _ => ∃ cs : List Nat, l = cs.map (fun c => V.str (S [c])) ∧ ∀ c ∈ cs, c ∈ deeds) hD s1.src (fun _ _ => trivial) (small (by omega)) (fun _ _ _ _ _ _ r => r) ⟨[], rfl, fun _ h => nomatch h⟩ ?_ ?_
  · intro i l x H2 H3 hi s2 hl _ rl y Kn El hk he
    obtain ⟨rfl, rfl⟩ := y
    obtain ⟨cs, rfl, hcs⟩ := rl
    refine ⟨rfl, ?_⟩
    refine ⟨_, rfl, a, .str "urdl", rfl, s2.src, .inr ⟨deeds, by rw [← dE], by decide, by decide, fun H4 c s4 hc => hk _ _ s4 ⟨cs ++ [c], by simp, fun d hd => ?_⟩⟩⟩
    rcases List.mem_append.mp hd with hd | hd
    · exact hcs d hd
    · rw [List.mem_singleton.mp hd]
      exact hc
  · intro l H2 s2 e2 hn rl
    obtain ⟨cs, rfl, hcs⟩ := rl
    rw [List.length_map] at hn
    refine ⟨_, _, cs.map fun c => S [c], rfl, rfl, .inl (SqL.of (by rw [e2, List.map_map]; rfl)), ?_, ?_⟩
    · have e := ones_len cs
      have e4 : ("" : Str).length = 0 := rfl
      rw [e, e4]
      omega
    · rw [join_ones]
      exact k _ cs (s1.trans s2) hcs (by omega)
def spBecomes : Sp := fun vs H Q _ => ∃ t l : List Nat, vs = [.str (S t), .str (S l)] ∧ t ∈ turns8 ∧ (∀ c ∈ l, c ∈ deeds) ∧ l.length ≤ 900 ∧ ∀ H', Same H H' → Q (.str (S (bec t l))) H'
theorem ok_becomes (T : Txt K mg) : C8.Cal P w K mg base 1 "_law_becomes" spBecomes [] := by
  have SC : C8.scC ["_law_sense_here", "_law_line_here", "_law_step"] ["_law_sense_here", "_law_line_here"] (C8.fnScope s_law_becomes) = true := by decide +kernel
  have nd := (C8.fnScope_by SC).nd
  refine cal T.f_law_becomes SC (fun _ _ _ _ _ _ us hl => match us, hl with | [_, _], _ => rfl) (fun vs H Q E h => by obtain ⟨_, _, rfl, _⟩ := h; rfl) (fun f cdv A outer s H vs Q E hr h => ?_)
  obtain ⟨t, l, rfl, ht, hl, hz, k⟩ := h
  refine ⟨_, pss_one (ps_ret (pe_join pe_str (pe_lc (own := [("_law_step", 2)]) (g := gName 2) (tt := tYes) rfl nd (pi_str (pv 1)) (blkOk_by (N := ["_law_sense_here", "_law_line_here", "_law_step"]) (sc := C8.fnScope s_law_becomes) (by decide +kernel)) (fun _ _ _ _ _ => pg_name (i := 2) nd rfl (.inl rfl)) (fun _ _ _ _ _ => pts_nil)
      (fun _ _ _ _ _ => pe_ix ix_str (pv 0) (k_bmS (K := K) rfl PySem.F.plainAttrs_str PySem.F.slot_str_index PySem.F.type_str_index (mt_indexX (W := fun _ _ _ _ => False) rfl takes0) pe_str (pa_cons (pv 2) pa_nil)) (fun _ _ => rfl))))), ?_⟩
  refine ⟨⟨_, rfl⟩, _, rfl, _, rfl, fun D hD => ?_⟩
  refine lc_vals walk_str ((bec t l).map fun c => V.str (S [c])) hD (fun _ _ => trivial) (by show l.length ≤ sizeLine; exact small (by omega)) (by simp [bec]) ?_ ?_
  · intro i x H2 H3 hi s2 y Kn El hk
    obtain ⟨rfl, c, hc, rfl⟩ := y
    have hc2 : l[i]? = some c := by simpa using hc
    have hm := hl c (List.mem_of_getElem? hc2)
    refine ⟨rfl, ?_⟩
    refine ⟨_, rfl, rfl, _, rfl, _, _, rfl, rfl, fun j hj => ?_, fun hn => ?_⟩
    · rw [index_deed hm] at hj
      cases hj
      refine ⟨_, (ix c : Int), wy t c, rfl, rfl, ?_, ?_, hk _ _ (Same.refl _) ?_⟩
      · show t.length ≤ sizeLine
        rw [turn_len ht]
        decide
      · exact atI_nat (by exact wy_at (turn_len ht) c)
      · simp [bec, hc2]
    · rw [index_deed hm] at hn
      cases hn
  · intro H2 s2 e2
    refine ⟨_, _, (bec t l).map fun c => S [c], rfl, rfl, .inl (SqL.of (by rw [e2, List.map_map]; rfl)), ?_, ?_⟩
    · have e := ones_len (bec t l)
      have e3 : (bec t l).length = l.length := bec_len t l
      have e4 : ("" : Str).length = 0 := rfl
      rw [e, e4]
      omega
    · rw [join_ones]
      exact k _ s2
theorem ok_both (T : Txt K mg) (h1 : C8.Cal P w K mg base 1 "_law_becomes" spBecomes []) : C8.Cal P w K mg base 2 "_law_both" spThen [] := by
  refine cal T.f_law_both (N := ["_law_one_here", "_law_other"]) (ps := ["_law_one_here", "_law_other"]) (by decide +kernel) (fun _ _ _ _ _ _ us hl => match us, hl with | [_, _], _ => rfl) (fun vs H Q E h => by obtain ⟨_, _, rfl, _⟩ := h; rfl) (fun f cdv A outer s H vs Q E hr h => ?_)
  obtain ⟨t, u, rfl, ht, hu, k⟩ := h
  refine ⟨_, pss_one (ps_ret (C8.pe_c h1 hr (by decide) rfl (pa_cons (pv 1) (pa_cons (pv 0) pa_nil)))), ?_⟩
  exact ⟨_, rfl, _, rfl, u, t, rfl, hu, turn_deeds ht, by rw [turn_len ht]; decide, fun H' s => k _ s⟩
def spPostTurned (K : PySem.W.Frag) : Sp := fun vs H Q _ => ∃ v x h, vs = [v, .str (S h)] ∧ PV K H v x ∧ TOk x ∧ h ∈ turns8 ∧ ∀ v' H', Same H H' → PV K H' v' (phi h x) → Q v' H'
theorem ok_post_turned (T : Txt K mg) (h1 : C8.Cal P w K mg base 2 "_law_both" spThen []) : C8.Cal P w K mg base 3 "_law_post_turned" (spPostTurned K) [] := by
  refine cal T.f_law_post_turned (N := ["_law_post", "_law_sense_here"]) (ps := ["_law_post", "_law_sense_here"]) (by decide +kernel) (fun _ _ _ _ _ _ us hl => match us, hl with | [_, _], _ => rfl) (fun vs H Q E h => by obtain ⟨_, _, _, rfl, _⟩ := h; rfl) (fun f cdv A outer s H vs Q E hr h => ?_)
  obtain ⟨v, x, h, rfl, hv, hx, hh, k⟩ := h
  refine ⟨_, pss_cons (ps_if (pt_cmpR op_isN (pv 0) pe_non (nomark _)) (pss_one (ps_ret pe_non)) pss_nil)
    (pss_one (ps_ret (pe_tup (pa_cons (pe_ix ix_tup (pv 0) pe_int (fun _ _ => rfl)) (pa_cons (C8.pe_c h1 hr (by decide) rfl (pa_cons (pv 1) (pa_cons (pe_ix ix_tup (pv 0) pe_int (fun _ _ => rfl)) pa_nil))) pa_nil))))), ?_⟩
  cases x with
  | none =>
    cases (show v = .non from hv)
    exact ⟨_, rfl, rfl, _, rfl, iteT (k _ _ (Same.refl _) rfl)⟩
  | some x =>
    obtain ⟨p, t⟩ := x
    obtain ⟨q, v', rfl, hq, hp⟩ := hv
    refine ⟨_, rfl, rfl, _, rfl, iteF ?_⟩
    refine ⟨_, rfl, q, _, _, v', rfl, rfl, hq, atI_nat (j := 0) rfl, _, rfl, _, rfl, q, _, _, _, rfl, rfl, hq, atI_nat (j := 1) rfl, ?_⟩
    refine ⟨h, t, rfl, hh, hx, fun H1 s1 => ?_⟩
    refine ⟨by show 2 ≤ sizeLine; decide, fun u hu => ?_⟩
    have s2 := Same.then_new (o := .tup [v', .str (S (bec t h))]) s1 hu
    exact k _ _ s2 ⟨u, v', rfl, SqT.of upd_same, pl_same hp s2⟩
/-- rows as the law has them: a list of texts -/
def RwV (H : Hp) (p : Addr) (r : Rows) : Prop := H p = some (.lst (rowsV r))
def spSign (K : PySem.W.Frag) : Sp := fun vs H Q _ => ∃ pr r v p, vs = [.ref pr, v] ∧ RwV H pr r ∧ RowsOk r ∧ PlV K H v p ∧ Q (.str (S [sgn r p])) H
theorem ok_sign (T : Txt K mg) : C8.Cal P w K mg base 1 "_law_sign" (spSign K) [] := by
  have SC : C8.scC ["_law_rows_here", "_law_spot", "_law_y", "_law_x"] ["_law_rows_here", "_law_spot"] (C8.fnScope s_law_sign) = true := by decide +kernel
  have nd := (C8.fnScope_by SC).nd
  refine cal T.f_law_sign SC (fun _ _ _ _ _ _ us hl => match us, hl with | [_, _], _ => rfl) (fun vs H Q E h => by obtain ⟨_, _, _, _, rfl, _⟩ := h; rfl) (fun f cdv A outer s H vs Q E hr h => ?_)
  obtain ⟨pr, r, v, p, rfl, hp, R, ⟨q, rfl, hq⟩, k⟩ := h
  refine ⟨_, pss_cons (ps_asg (pv 1) (pg_tup rfl (pgs_cons (pg_name (i := 2) nd rfl (.inl rfl)) (pgs_cons (pg_name (i := 3) nd rfl (.inl rfl)) pgs_nil))))
    (pss_cons (ps_if (PW.pt (pw_or (pt_not (pt_chain op_le op_lt pe_int (pv 2) (pe_callB call_len (by rfl) T.b_len PySem.boot_len (pa_cons (pv 0) pa_nil))))
        (pw_or1 (pt_not (pt_chain op_le op_lt pe_int (pv 3) (pe_callB call_len (by rfl) T.b_len PySem.boot_len (pa_cons (pe_ix ix_list (pv 0) pe_int (fun _ _ => rfl)) pa_nil))))))) (pss_one (ps_ret pe_str)) pss_nil)
    (pss_one (ps_ret (pe_ix ix_str (pe_ix ix_list (pv 0) (pv 2) (fun _ _ => rfl)) (pv 3) (fun _ _ => rfl))))), ?_⟩
  refine ⟨_, rfl, q, _, rfl, hq, rfl, _, _, rfl, _, _, rfl, rfl, ?_⟩
  have hl := SqL.of (K := K) hp
  have hlen : (rowsV r).length = r.length := by simp [rowsV]
  obtain ⟨l0, e0, hm0, hl0⟩ := R.row0
  have off : onF r p ≠ true → Q (.str (S [35])) H := fun e => by
    have e2 : sgn r p = 35 := by
      unfold sgn
      rw [if_neg e]
    rw [e2] at k
    exact k
  have w6 := R.w6
  refine ⟨_, rfl, _, _, rfl, rfl, _, rfl, ?_⟩
  have go : ∀ b : Bool, (b = false → onF r p ≠ true) → (b = true → onF r p = true) → (if (!b) = true then tRet (tC (.str "#")) { nx := tRet (tOp rIxS (tOp (rIxL K) (tVar 0) (tVar 2)) (tVar 3)) { nx := fun _ H' => Q .non H', rt := Q }, rt := Q } [some (.ref pr), some (.ref q), some (.int p.1), some (.int p.2)] H else
      tRet (tOp rIxS (tOp (rIxL K) (tVar 0) (tVar 2)) (tVar 3)) { nx := fun _ H' => Q .non H', rt := Q } [some (.ref pr), some (.ref q), some (.int p.1), some (.int p.2)] H) := fun b hf ht => by
    cases b with
    | false =>
      refine iteT ?_
      have h := off (hf rfl)
      rw [← wallE] at h
      exact h
    | true =>
      have e := ht rfl
      obtain ⟨l, hl2, hm, hc, hw⟩ := R.row e
      obtain ⟨⟨e1, e2⟩, e3, e4⟩ := onF_iff.mp e
      refine iteF ⟨_, rfl, _, rfl, pr, _, _, .str (S l), rfl, rfl, hl, ?_, _, rfl, S l, _, sgn r p, rfl, rfl, ?_, ?_, k⟩
      · have ea := atI_nat (xs := rowsV r) (j := p.1.toNat) (v := .str (S l)) (by rw [rowsV, List.getElem?_map, hl2]; rfl)
        rw [show ((p.1.toNat : Nat) : Int) = p.1 by omega] at ea
        exact ea
      · show l.length ≤ sizeLine
        exact small (by omega)
      · have ea := atI_nat (xs := (S l).cps.toList) (j := p.2.toNat) hc
        rw [show ((p.2.toNat : Nat) : Int) = p.2 by omega] at ea
        exact ea
  by_cases a1 : (0 : Int) ≤ p.1
  · rw [decide_eq_true a1]
    refine iteT ⟨_, rfl, _, r.length, rfl, .inl ⟨_, hl, hlen.symm⟩, _, _, rfl, rfl, _, rfl, ?_⟩
    by_cases a2 : p.1 < ((r.length : Nat) : Int)
    · rw [decide_eq_true a2]
      refine iteF ⟨_, rfl, _, _, rfl, rfl, _, rfl, ?_⟩
      by_cases a3 : (0 : Int) ≤ p.2
      · rw [decide_eq_true a3]
        refine iteT ⟨_, rfl, pr, _, _, .str (S l0), rfl, rfl, hl, atI_nat (j := 0) (by rw [rowsV, List.getElem?_map, e0]; rfl), _, l0.length, rfl, ⟨by show l0.length ≤ sizeLine; exact small (by omega), rfl⟩, _, _, rfl, rfl, _, rfl, ?_⟩
        rw [hl0]
        refine go _ (fun z => ?_) (fun z => ?_)
        · have z2 := of_decide_eq_false z
          exact fun e => z2 (onF_iff.mp e).2.2
        · exact onF_iff.mpr ⟨⟨a1, a2⟩, a3, of_decide_eq_true z⟩
      · rw [decide_eq_false a3]
        exact iteF ⟨_, rfl, go false (fun _ e => a3 (onF_iff.mp e).2.1) (fun z => nomatch z)⟩
    · rw [decide_eq_false a2]
      have h := off (fun e => a2 (onF_iff.mp e).1.2)
      rw [← wallE] at h
      exact iteT h
  · rw [decide_eq_false a1]
    have h := off (fun e => a1 (onF_iff.mp e).1.1)
    rw [← wallE] at h
    exact iteF ⟨_, rfl, iteT h⟩
end
end K79
/-! part W16 -/
/-! The law's goes, behind, gone. -/
namespace K79
open PySem PySem.Spec PyProof.Rows L2
abbrev ldK (a b c d : V) : List (Key × V) := [(Sum.inr "rows", a), (Sum.inr "start", b), (Sum.inr "book", c), (Sum.inr "wished", d)]
def LdV (K : PySem.W.Frag) (H : Hp) (d : Addr) (L : Land) (x : Post) : Prop := ∃ pr vs pb pw, H d = some (.dK (ldK (.ref pr) vs (.ref pb) (.ref pw))) ∧ RwV H pr L.rows ∧ PV K H vs x ∧ BkV H pb L.rows L.book ∧ WhV K H (.ref pw) L.rows
theorem LdV.same {K : PySem.W.Frag} {H H' : Hp} {d : Addr} {L : Land} {x : Post} (h : LdV K H d L x) (s : Same H H') : LdV K H' d L x := by
  obtain ⟨pr, vs, pb, pw, h1, h2, h3, h4, h5⟩ := h
  exact ⟨pr, vs, pb, pw, s _ _ h1, s _ _ h2, pv_same h3 s, h4.same s, h5.same s⟩
theorem ld_rows (a b c d : V) : valV (ldK a b c d) (Sum.inr "rows" : Key) = some a := rfl
theorem ld_start (a b c d : V) : valV (ldK a b c d) (Sum.inr "start" : Key) = some b := rfl
theorem ld_book (a b c d : V) : valV (ldK a b c d) (Sum.inr "book" : Key) = some c := rfl
theorem ld_wished (a b c d : V) : valV (ldK a b c d) (Sum.inr "wished" : Key) = some d := rfl
theorem dg_at {H : Hp} {d : Addr} {kvs : List (Key × V)} {x : Str} {v : V} (h : H d = some (.dK kvs)) (e : valV kvs (Sum.inr x) = some v) : DGet H d (.str x) (some v) := by
  have g := DGet.k (k := Sum.inr x) h
  rw [e] at g
  exact g
theorem steps_at {t0 t1 t2 t3 : V} {c : Nat} (h : c ∈ deeds) : valV (mergeK [] [((Sum.inr "u" : Key), t0), (Sum.inr "r", t1), (Sum.inr "d", t2), (Sum.inr "l", t3)]) (Sum.inr (S [c])) = some (if ix c = 0 then t0 else if ix c = 1 then t1 else if ix c = 2 then t2 else t3) := by
  simp only [deeds, List.mem_cons, List.not_mem_nil, or_false] at h
  rcases h with rfl | rfl | rfl | rfl <;> rfl
section
variable {P : Program} {w : World} {K : PySem.W.Frag} {mg : Str → Option Value} {base : Heap}
def spLawGoes (K : PySem.W.Frag) : Sp := fun vs H Q _ => ∃ pr r v p c, vs = [.ref pr, v, .str (S [c])] ∧ RwV H pr r ∧ RowsOk r ∧ PlV K H v p ∧ canS r p = true ∧ c ∈ deeds ∧ ∀ v' H', Same H H' → OplV K H' v' (goes r p c) → Q v' H'
theorem ok_law_goes (T : Txt K mg) (h1 : C8.Cal P w K mg base 1 "_law_sign" (spSign K) []) : C8.Cal P w K mg base 2 "_law_goes" (spLawGoes K) [] := by
  have SC : C8.scC ["_law_rows_here", "_law_spot", "_law_step", "_law_down", "_law_along", "_law_here", "_law_there", "_law_sign_here"] ["_law_rows_here", "_law_spot", "_law_step"] (C8.fnScope s_law_goes) = true := by decide +kernel
  have nd := (C8.fnScope_by SC).nd
  refine cal T.f_law_goes SC (fun _ _ _ _ _ _ us hl => match us, hl with | [_, _, _], _ => rfl) (fun vs H Q E h => by obtain ⟨_, _, _, _, _, rfl, _⟩ := h; rfl) (fun f cdv A outer s H vs Q E hr h => ?_)
  obtain ⟨pr, r, v, p, c, rfl, hw, R, hp, hs, hc, k⟩ := h
  have hu := hu_of hr
  refine ⟨_, pss_cons (ps_asg (pe_dget hu (pe_disp (pps_cons pe_str (pe_tup (pa_cons (pe_un un_neg pe_int) (pa_cons pe_int pa_nil))) (pps_cons pe_str (pe_tup (pa_cons pe_int (pa_cons pe_int pa_nil))) (pps_cons pe_str (pe_tup (pa_cons pe_int (pa_cons pe_int pa_nil))) (pps_cons pe_str (pe_tup (pa_cons pe_int (pa_cons (pe_un un_neg pe_int) pa_nil))) pps_nil)))) (by rfl) (by rfl) (by simp) (by decide)) (pv 2) (fun _ _ => rfl))
      (pg_tup rfl (pgs_cons (pg_name (i := 3) nd rfl (.inl rfl)) (pgs_cons (pg_name (i := 4) nd rfl (.inl rfl)) pgs_nil))))
    (pss_cons (ps_set (i := 5) nd rfl (.inl rfl) (pv 1))
    (pss_cons (ps_set (i := 6) nd rfl (.inl rfl) (pe_tup (pa_cons (pe_op op_add (pe_ix ix_tup (pv 1) pe_int (fun _ _ => rfl)) (pv 3)) (pa_cons (pe_op op_add (pe_ix ix_tup (pv 1) pe_int (fun _ _ => rfl)) (pv 4)) pa_nil))))
    (pss_cons (ps_while PassesOwn.never (pt_cmpR op_eq (C8.pe_c h1 hr (by decide) rfl (pa_cons (pv 0) (pa_cons (pv 6) pa_nil))) pe_str (nomark _))
      (pss_cons (ps_set (i := 5) nd rfl (.inl rfl) (pv 6))
      (pss_one (ps_set (i := 6) nd rfl (.inl rfl) (pe_tup (pa_cons (pe_op op_add (pe_ix ix_tup (pv 6) pe_int (fun _ _ => rfl)) (pv 3)) (pa_cons (pe_op op_add (pe_ix ix_tup (pv 6) pe_int (fun _ _ => rfl)) (pv 4)) pa_nil)))))))
    (pss_cons (ps_set (i := 7) nd rfl (.inl rfl) (C8.pe_c h1 hr (by decide) rfl (pa_cons (pv 0) (pa_cons (pv 6) pa_nil))))
    (pss_cons (ps_if (pt_cmpR op_eq (pv 7) pe_str (nomark _)) (pss_one (ps_ret (pv 5))) pss_nil)
    (pss_one (ps_ret (pe_ix ix_list (pe_lst (pa_cons (pv 6) (pa_cons pe_non pa_nil))) (pe_callTy call_int1 (by rfl) T.b_int (by decide +kernel) (pa_cons (pe_cmpR op_eq (pv 7) pe_str (nomark _)) pa_nil)) (fun _ _ => rfl))))))))), ?_⟩
  obtain ⟨q, rfl, hq⟩ := hp
  refine fun d hd => ?_
  have s0 : Same H (upd H d (.dK [])) := Same.new hd
  have e0 : (upd H d (.dK [])) d = some (.dK []) := upd_same
  generalize upd H d (.dK []) = H0 at s0 e0 ⊢
  refine ⟨_, rfl, by show 2 ≤ sizeLine; decide, fun t0 ht0 => ?_⟩
  have s1 := Same.new (o := .tup [.int (-1), .int 0]) ht0
  have e1 : (upd H0 t0 (.tup [.int (-1), .int 0])) t0 = some (.tup [.int (-1), .int 0]) := upd_same
  generalize upd H0 t0 (.tup [.int (-1), .int 0]) = H1 at s1 e1 ⊢
  refine ⟨by show 2 ≤ sizeLine; decide, fun t1 ht1 => ?_⟩
  have s2 := Same.new (o := .tup [.int 0, .int 1]) ht1
  have e2 : (upd H1 t1 (.tup [.int 0, .int 1])) t1 = some (.tup [.int 0, .int 1]) := upd_same
  generalize upd H1 t1 (.tup [.int 0, .int 1]) = H2 at s2 e2 ⊢
  refine ⟨by show 2 ≤ sizeLine; decide, fun t2 ht2 => ?_⟩
  have s3 := Same.new (o := .tup [.int 1, .int 0]) ht2
  have e3 : (upd H2 t2 (.tup [.int 1, .int 0])) t2 = some (.tup [.int 1, .int 0]) := upd_same
  generalize upd H2 t2 (.tup [.int 1, .int 0]) = H3 at s3 e3 ⊢
  refine ⟨_, rfl, by show 2 ≤ sizeLine; decide, fun t3 ht3 => ?_⟩
  have s4 := Same.new (o := .tup [.int 0, .int (-1)]) ht3
  have e4 : (upd H3 t3 (.tup [.int 0, .int (-1)])) t3 = some (.tup [.int 0, .int (-1)]) := upd_same
  generalize upd H3 t3 (.tup [.int 0, .int (-1)]) = H4 at s4 e4 ⊢
  have s14 := (s2.trans s3).trans s4
  have s04 := s1.trans s14
  have sH4 : Same H H4 := s0.trans s04
  refine ⟨s04 _ _ e0, [((Sum.inr "u" : Key), .ref t0), (Sum.inr "r", .ref t1), (Sum.inr "d", .ref t2), (Sum.inr "l", .ref t3)], rfl, by show 4 ≤ 15; decide, ?_⟩
  have kt := keepT_at (o := .dK (mergeK [] [((Sum.inr "u" : Key), .ref t0), (Sum.inr "r", .ref t1), (Sum.inr "d", .ref t2), (Sum.inr "l", .ref t3)])) (noTup_dK (s04 _ _ e0))
  have sH5 := same_upd (o := .dK (mergeK [] [((Sum.inr "u" : Key), .ref t0), (Sum.inr "r", .ref t1), (Sum.inr "d", .ref t2), (Sum.inr "l", .ref t3)])) sH4 hd
  have e5 : (upd H4 d (.dK (mergeK [] [((Sum.inr "u" : Key), .ref t0), (Sum.inr "r", .ref t1), (Sum.inr "d", .ref t2), (Sum.inr "l", .ref t3)]))) d = some (.dK (mergeK [] [((Sum.inr "u" : Key), .ref t0), (Sum.inr "r", .ref t1), (Sum.inr "d", .ref t2), (Sum.inr "l", .ref t3)])) := upd_same
  have f0 := sqT_keep (SqT.of (K := K) (s14 _ _ e1)) kt
  have f1 := sqT_keep (SqT.of (K := K) ((s3.trans s4) _ _ e2)) kt
  have f2 := sqT_keep (SqT.of (K := K) (s4 _ _ e3)) kt
  have f3 := sqT_keep (SqT.of (K := K) e4) kt
  generalize upd H4 d (.dK (mergeK [] [((Sum.inr "u" : Key), .ref t0), (Sum.inr "r", .ref t1), (Sum.inr "d", .ref t2), (Sum.inr "l", .ref t3)])) = H5 at sH5 e5 f0 f1 f2 f3 ⊢
  have hst : ∃ t, valV (mergeK [] [((Sum.inr "u" : Key), V.ref t0), (Sum.inr "r", .ref t1), (Sum.inr "d", .ref t2), (Sum.inr "l", .ref t3)]) (Sum.inr (S [c])) = some (.ref t) ∧ SqT K H5 t [.int (stp c).1, .int (stp c).2] := by
    rw [steps_at hc]
    have h2 : ix c = 0 ∨ ix c = 1 ∨ ix c = 2 ∨ ix c = 3 := by
      have := ix_lt c
      omega
    unfold stp
    rcases h2 with e | e | e | e <;> rw [e]
    · exact ⟨t0, rfl, f0⟩
    · exact ⟨t1, rfl, f1⟩
    · exact ⟨t2, rfl, f2⟩
    · exact ⟨t3, rfl, f3⟩
  obtain ⟨t, ht, hsq⟩ := hst
  refine ⟨_, rfl, d, _, rfl, dg_at e5 ht, ?_⟩
  refine ⟨t, _, rfl, hsq, rfl, _, _, rfl, _, _, rfl, rfl, ?_⟩
  have hq5 := sqT_keep hq (Same.keepT sH5)
  refine ⟨_, rfl, ?_⟩
  refine ⟨_, rfl, q, _, _, _, rfl, rfl, hq5, atI_nat (j := 0) rfl, _, rfl, _, _, rfl, rfl, _, rfl, q, _, _, _, rfl, rfl, hq5, atI_nat (j := 1) rfl, _, rfl, _, _, rfl, rfl, by show 2 ≤ sizeLine; decide, fun u hu6 => ?_⟩
  have s6 := Same.then_new (o := .tup [.int (p.1 + (stp c).1), .int (p.2 + (stp c).2)]) sH5 hu6
  refine ⟨fun m σ H' => Same H H' ∧ ∃ vh vt h t y7, σ = [some (.ref pr), some (.ref q), some (.str (S [c])), some (.int (stp c).1), some (.int (stp c).2), some vh, some vt, y7] ∧ PlV K H' vh h ∧ PlV K H' vt t ∧ slide r c m h t = slid r p c ∧ 6 - pot c t ≤ (m : Int),
    ⟨20, s6, .ref q, .ref u, p, nxt p c, _, rfl, ⟨q, rfl, sqT_keep hq (Same.keepT s6)⟩, ⟨u, rfl, SqT.of upd_same⟩, rfl, fuel_ok R hs c⟩, ?_⟩
  rintro m σ H7 ⟨s7, vh, vt, h, t, y7, rfl, hh, hvt, e, hm⟩
  refine ⟨_, rfl, _, rfl, pr, r, vt, t, rfl, s7 _ _ hw, R, hvt, ?_⟩
  refine ⟨rfl, _, rfl, ?_⟩
  rw [iceE, dec_S, one_eq]
  by_cases ei : sgn r t = 126
  · rw [decide_eq_true ei]
    obtain ⟨n, rfl, hn⟩ := ice_room R ei hm
    refine iteT ⟨fun σ' H' => Same H H' ∧ ∃ vh vt h t y7, σ' = [some (.ref pr), some (.ref q), some (.str (S [c])), some (.int (stp c).1), some (.int (stp c).2), some vh, some vt, y7] ∧ PlV K H' vh h ∧ PlV K H' vt t ∧ slide r c n h t = slid r p c ∧ 6 - pot c t ≤ (n : Int), fun σ' H' h => ⟨n, Nat.lt_succ_self _, h⟩, ?_⟩
    obtain ⟨z, rfl, hz⟩ := hvt
    refine ⟨_, rfl, ?_⟩
    refine ⟨_, rfl, z, _, _, _, rfl, rfl, hz, atI_nat (j := 0) rfl, _, rfl, _, _, rfl, rfl, _, rfl, z, _, _, _, rfl, rfl, hz, atI_nat (j := 1) rfl, _, rfl, _, _, rfl, rfl, by show 2 ≤ sizeLine; decide, fun u8 hu8 => ?_⟩
    have s8 := Same.new (o := .tup [.int (t.1 + (stp c).1), .int (t.2 + (stp c).2)]) hu8
    refine ⟨s7.trans s8, .ref z, .ref u8, t, nxt t c, _, rfl, ⟨z, rfl, sqT_keep hz (Same.keepT s8)⟩, ⟨u8, rfl, SqT.of upd_same⟩, ?_, hn⟩
    rw [← e, slide_ice ei]
  · rw [decide_eq_false ei]
    refine iteF ?_
    rw [slide_end ei] at e
    unfold goes at k
    rw [← e] at k
    refine ⟨_, rfl, _, rfl, pr, r, vt, t, rfl, s7 _ _ hw, R, hvt, ?_⟩
    refine ⟨_, rfl, rfl, _, rfl, ?_⟩
    rw [wallE, dec_S, one_eq]
    by_cases ew : sgn r t = 35
    · rw [decide_eq_true ew]
      rw [if_pos ew] at k
      exact iteT ⟨_, rfl, k _ _ s7 hh⟩
    · rw [decide_eq_false ew]
      rw [if_neg ew] at k
      refine iteF ⟨_, rfl, by show 2 ≤ sizeLine; decide, fun l hl => ?_⟩
      have s8 := Same.new (o := .lst [vt, .non]) hl
      refine ⟨_, rfl, rfl, .inr ⟨_, rfl, ?_⟩⟩
      rw [pitE, dec_S, one_eq]
      by_cases ep : sgn r t = 120
      · rw [decide_eq_true ep]
        rw [if_pos ep] at k
        exact ⟨l, _, _, .non, rfl, rfl, SqL.of upd_same, atI_nat (j := 1) rfl, k _ _ (s7.trans s8) rfl⟩
      · rw [decide_eq_false ep]
        rw [if_neg ep] at k
        exact ⟨l, _, _, vt, rfl, rfl, SqL.of upd_same, atI_nat (j := 0) rfl, k _ _ (s7.trans s8) (pl_same hvt s8)⟩
def spLawBehind (K : PySem.W.Frag) : Sp := fun vs H Q _ => ∃ d L x0 v x c, vs = [.ref d, v, .str (S [c])] ∧ LdV K H d L x0 ∧ LandOk L ∧ PV K H v x ∧ PostOk L.rows x ∧ c ∈ deeds ∧ ∀ v' H', Same H H' → PV K H' v' (bhd L x c) → Q v' H'
theorem ok_law_behind (T : Txt K mg) (h1 : C8.Cal P w K mg base 2 "_law_goes" (spLawGoes K) []) (h2 : C8.Cal P w K mg base 1 "_law_becomes" spBecomes []) (h3 : C8.Cal P w K mg base 1 "_law_sign" (spSign K) []) : C8.Cal P w K mg base 3 "_law_behind" (spLawBehind K) [] := by
  have SC : C8.scC ["_law_land_here", "_law_post", "_law_step", "_law_spot", "_law_sense_here", "_law_there", "_law_sign_here"] ["_law_land_here", "_law_post", "_law_step"] (C8.fnScope s_law_behind) = true := by decide +kernel
  have nd := (C8.fnScope_by SC).nd
  refine cal T.f_law_behind SC (fun _ _ _ _ _ _ us hl => match us, hl with | [_, _, _], _ => rfl) (fun vs H Q E h => by obtain ⟨_, _, _, _, _, _, rfl, _⟩ := h; rfl) (fun f cdv A outer s H vs Q E hr h => ?_)
  obtain ⟨d, L, x0, v, x, c, rfl, ⟨pr, vst, pb, pw, w1, w2, w3, w4, w5⟩, O, hv, hx, hc, k⟩ := h
  have hu := hu_of hr
  refine ⟨_, pss_cons (ps_if (pt_cmpR op_isN (pv 1) pe_non (nomark _)) (pss_one (ps_ret pe_non)) pss_nil)
    (pss_cons (ps_asg (pv 1) (pg_tup rfl (pgs_cons (pg_name (i := 3) nd rfl (.inl rfl)) (pgs_cons (pg_name (i := 4) nd rfl (.inl rfl)) pgs_nil))))
    (pss_cons (ps_set (i := 5) nd rfl (.inl rfl) (C8.pe_c h1 hr (by decide) rfl (pa_cons (pe_dget hu (pv 0) pe_str (fun _ _ => rfl)) (pa_cons (pv 3) (pa_cons (C8.pe_c h2 hr (by decide) rfl (pa_cons (pv 4) (pa_cons (pv 2) pa_nil))) pa_nil)))))
    (pss_cons (ps_if (PW.pt (pw_or (pt_cmpR op_isN (pv 5) pe_non (nomark _)) (pw_or1 (pt_cmpR (op_eqD hr.units) (pv 5) (pv 3) (nomark _)))))
      (pss_one (ps_ret (pe_ix ix_list (pe_lst (pa_cons (pv 1) (pa_cons pe_non pa_nil))) (pe_callTy call_int1 (by rfl) T.b_int (by decide +kernel) (pa_cons (pe_cmpR op_isN (pv 5) pe_non (nomark _)) pa_nil)) (fun _ _ => rfl)))) pss_nil)
    (pss_cons (ps_set (i := 6) nd rfl (.inl rfl) (C8.pe_c h3 hr (by decide) rfl (pa_cons (pe_dget hu (pv 0) pe_str (fun _ _ => rfl)) (pa_cons (pv 5) pa_nil))))
    (pss_cons (ps_if (pt_cmp (pc_din hu (pv 6) (pe_dget hu (pv 0) pe_str (fun _ _ => rfl))))
      (pss_one (ps_set (i := 4) nd rfl (.inl rfl) (C8.pe_c h2 hr (by decide) rfl (pa_cons (pe_dget hu (pe_dget hu (pv 0) pe_str (fun _ _ => rfl)) (pv 6) (fun _ _ => rfl)) (pa_cons (pv 4) pa_nil))))) pss_nil)
    (pss_one (ps_ret (pe_tup (pa_cons (pv 5) (pa_cons (pv 4) pa_nil)))))))))), ?_⟩
  cases x with
  | none =>
    cases (show v = .non from hv)
    exact ⟨_, rfl, rfl, _, rfl, iteT (k _ _ (Same.refl _) rfl)⟩
  | some x =>
  obtain ⟨p, t⟩ := x
  have hv0 := hv
  obtain ⟨q, v', rfl, hq, hp⟩ := hv
  obtain ⟨hs, ht⟩ := hx
  have R := O.rows
  refine ⟨_, rfl, rfl, _, rfl, iteF ?_⟩
  refine ⟨_, rfl, q, _, rfl, hq, rfl, _, _, rfl, _, _, rfl, rfl, ?_⟩
  refine ⟨_, rfl, d, _, rfl, dg_at w1 (ld_rows _ _ _ _), ?_⟩
  refine ⟨_, rfl, _, rfl, _, rfl, t, [c], rfl, ht, fun d hd => by rw [List.mem_singleton.mp hd]; exact hc, by show 1 ≤ 900; decide, fun H0 s0 => ?_⟩
  refine ⟨pr, L.rows, v', p, wy t c, rfl, s0 _ _ w2, R, pl_same hp s0, hs, wy_mem ht c, fun v2 H1 s01 h2v => ?_⟩
  have s1 := s0.trans s01
  unfold bhd at k
  dsimp only at k
  cases eg : goes L.rows p (wy t c) with
  | none =>
    rw [eg] at k h2v
    cases (show v2 = .non from h2v)
    refine ⟨_, rfl, rfl, _, rfl, iteT ?_⟩
    refine ⟨_, rfl, by show 2 ≤ sizeLine; decide, fun l hl => ?_⟩
    have s2 := Same.new (o := .lst [.ref q, .non]) hl
    exact ⟨_, rfl, rfl, .inr ⟨_, rfl, l, _, _, .non, rfl, rfl, SqL.of upd_same, atI_nat (j := 1) rfl, k _ _ (s1.trans s2) rfl⟩⟩
  | some q2 =>
    rw [eg] at k h2v
    dsimp only at k
    have hp2 : PlV K H1 v2 q2 := h2v
    have hp1 := pl_same hp s1
    obtain ⟨z, rfl, hz⟩ := (show PlV K H1 v2 q2 from h2v)
    refine ⟨_, rfl, rfl, _, rfl, iteF ?_⟩
    refine ⟨_, rfl, _, rfl, _, _, hp2.dp, hp1.dp, pdPl_shaped _, pdPl_shaped _, _, rfl, ?_⟩
    rw [pdPl_eqv]
    by_cases e : q2 = p
    · rw [decide_eq_true e]
      rw [if_pos e] at k
      refine iteT ⟨_, rfl, by show 2 ≤ sizeLine; decide, fun l hl => ?_⟩
      have s2 := Same.new (o := .lst [.ref q, .non]) hl
      exact ⟨_, rfl, rfl, .inr ⟨_, rfl, l, _, _, .ref q, rfl, rfl, SqL.of upd_same, atI_nat (j := 0) rfl, k _ _ (s1.trans s2) (pv_same hv0 (s1.trans s2))⟩⟩
    · rw [decide_eq_false e]
      rw [if_neg e] at k
      refine iteF ?_
      refine ⟨_, rfl, d, _, rfl, dg_at (s1 _ _ w1) (ld_rows _ _ _ _), _, rfl, pr, L.rows, _, q2, rfl, s1 _ _ w2, R, hp2, ?_⟩
      obtain ⟨ls, l1, l2, l3⟩ := w4
      have gk := DGet.k (k := Sum.inr (S [sgn L.rows q2])) (s1 _ _ l3)
      rw [valV_bk] at gk
      refine ⟨_, rfl, _, rfl, d, _, rfl, dg_at (s1 _ _ w1) (ld_book _ _ _ _), pb, _, rfl, gk, _, rfl, ?_⟩
      by_cases el : isLet (sgn L.rows q2) = true
      · rw [if_pos el] at k
        have hm := (l2 _).mpr (let_in R el)
        rw [if_pos hm] at gk ⊢
        refine iteT ⟨_, rfl, d, _, rfl, dg_at (s1 _ _ w1) (ld_book _ _ _ _), _, rfl, pb, _, rfl, gk, _, rfl, _, t, rfl, O.book _, turn_deeds ht, by rw [turn_len ht]; decide, fun H3 s3 => ?_⟩
        refine ⟨_, rfl, _, rfl, by show 2 ≤ sizeLine; decide, fun u hu2 => ?_⟩
        have s4 := Same.then_new (o := .tup [.ref z, .str (S (bec (L.book (sgn L.rows q2)) t))]) (s1.trans s3) hu2
        exact k _ _ s4 ⟨u, .ref z, rfl, SqT.of upd_same, pl_same (pl_same hp2 s3) (Same.new hu2)⟩
      · rw [if_neg el] at k
        have hm : sgn L.rows q2 ∉ ls := fun h => el (decide_eq_true (letter_mem ((l2 _).mp h)))
        rw [if_neg hm]
        refine iteF ⟨_, rfl, _, rfl, by show 2 ≤ sizeLine; decide, fun u hu2 => ?_⟩
        have s4 := Same.then_new (o := .tup [.ref z, .str (S t)]) s1 hu2
        exact k _ _ s4 ⟨u, .ref z, rfl, SqT.of upd_same, pl_same hp2 (Same.new hu2)⟩
def spLawGone (K : PySem.W.Frag) : Sp := fun vs H Q _ => ∃ d L x row, vs = [.ref d, .str (S row)] ∧ LdV K H d L x ∧ LandOk L ∧ PostOk L.rows x ∧ (∀ c ∈ row, c ∈ deeds) ∧ row.length ≤ 900 ∧
  ∀ p us H', Same H H' → H' p = some (.lst us) → LV K H' us (gone L x row) → Q (.ref p) H'
theorem ok_law_gone (T : Txt K mg) (h1 : C8.Cal P w K mg base 3 "_law_behind" (spLawBehind K) []) : C8.Cal P w K mg base 4 "_law_gone" (spLawGone K) [] := by
  have SC : C8.scC ["_law_land_here", "_law_line_here", "_law_found", "_law_step"] ["_law_land_here", "_law_line_here"] (C8.fnScope s_law_gone) = true := by decide +kernel
  have nd := (C8.fnScope_by SC).nd
  refine cal T.f_law_gone SC (fun _ _ _ _ _ _ us hl => match us, hl with | [_, _], _ => rfl) (fun vs H Q E h => by obtain ⟨_, _, _, _, rfl, _⟩ := h; rfl) (fun f cdv A outer s H vs Q E hr h => ?_)
  obtain ⟨d, L, x, row, rfl, hw, O, hx, hrow, hz, k⟩ := h
  have hu := hu_of hr
  refine ⟨_, pss_cons (ps_set (i := 2) nd rfl (.inl rfl) (pe_lst (pa_cons (pe_dget hu (pv 0) pe_str (fun _ _ => rfl)) pa_nil)))
    (pss_cons (ps_for PassesOwn.never rfl (pi_str (pv 1)) (pg_name (i := 3) nd rfl (.inl rfl))
      (pss_one (ps_expr (pe_bm PySem.F.plainAttrs_list PySem.F.slot_list_append PySem.F.type_list_append mt_append (pv 2) (pa_cons (C8.pe_c h1 hr (by decide) rfl (pa_cons (pv 0) (pa_cons (pe_ix ix_list (pv 2) (pe_un un_neg pe_int) (fun _ _ => rfl)) (pa_cons (pv 3) pa_nil)))) pa_nil)))))
    (pss_one (ps_ret (pv 2)))), ?_⟩
  have hw0 := hw
  obtain ⟨pr, v, pb, pw, w1, w2, w3, w4, w5⟩ := hw
  refine ⟨_, rfl, d, _, rfl, dg_at w1 (ld_start _ _ _ _), by show 1 ≤ sizeLine; decide, fun p hp => ?_⟩
  refine ⟨_, rfl, _, rfl, ?_⟩
  have s1 : Same H (upd H p (.lst [v])) := Same.new hp
  refine for_it walk_str (fun i σ H' => ∃ y us, σ = [some (.ref d), some (.str (S row)), some (.ref p), y] ∧ Same H H' ∧ H' p = some (.lst us) ∧ LV K H' us (gone L x (row.take i))) ⟨_, _, rfl, s1, upd_same, LV.one (pv_same w3 s1)⟩ (fun _ _ _ _ _ => trivial) ?_ ?_
  · intro i y σ H1 H2 hi pp yy
    obtain ⟨rfl, c, hc, rfl⟩ := yy
    obtain ⟨z, us, rfl, s2, e2, lv⟩ := pp
    have hc2 : row[i]? = some c := by simpa using hc
    obtain ⟨gl, eg⟩ := gone_end L x (row.take i)
    have lv2 := lv
    rw [eg] at lv2
    obtain ⟨vs, u, rfl, hu2⟩ := lv2.end
    have hli : i < row.length := (List.getElem?_eq_some_iff.mp hc2).1
    have hlen := lv.len
    rw [gone_len, List.length_take] at hlen
    refine ⟨_, rfl, .inl ⟨rfl, _, SqL.of e2⟩, ?_⟩
    refine ⟨_, rfl, _, rfl, _, rfl, p, _, _, u, rfl, rfl, SqL.of e2, atI_last vs u, ?_⟩
    refine ⟨_, rfl, d, L, x, u, last L x (row.take i), c, rfl, hw0.same s2, O, hu2, last_ok O _ hx, hrow c (List.mem_of_getElem? hc2), fun v' H3 s3 hv' => ?_⟩
    refine ⟨p, _, v', rfl, rfl, s3 _ _ e2, small1000 (by omega), ?_⟩
    refine ⟨_, _, rfl, same_upd (s2.trans s3) hp, upd_same, ?_⟩
    have e3 : row.take (i + 1) = row.take i ++ [c] := by rw [List.take_succ, hc2]; rfl
    rw [e3, gone_snoc]
    have kt : KeepT H3 (upd H3 p (.lst (vs ++ [u] ++ [v']))) := keepT_upd (s3 _ _ e2)
    exact ((lv.keep (Same.keepT s3)).keep kt).app (LV.one (hv'.keep kt))
  · intro σ H1 pp
    obtain ⟨z, us, rfl, s2, e2, lv⟩ := pp
    rw [show (S row).cps.size = row.length by simp, List.take_length] at lv
    exact ⟨_, rfl, k _ _ _ s2 e2 lv⟩
end
end K79
/-! part W17 -/
/-! The law's spots. -/
namespace K79
open PySem PySem.Spec PyProof.Rows L2
def spotsOf (r : Rows) (z : List Nat) : List Pl := (cells (hgt r) (wid r)).filter fun p => decide (sgn r p ∈ z)
theorem sgn_at {r : Rows} (R : RowsOk r) {i j : Nat} {l : List Nat} {c : Nat} (h : r[i]? = some l) (h2 : l[j]? = some c) : sgn r ((i : Int), (j : Int)) = c := by
  have hi := (List.getElem?_eq_some_iff.mp h).1
  have hj := (List.getElem?_eq_some_iff.mp h2).1
  have hw := R.len l (List.mem_of_getElem? h)
  have ho : onF r ((i : Int), (j : Int)) = true := onF_iff.mpr ⟨⟨by show (0 : Int) ≤ i; omega, by show (i : Int) < (r.length : Nat); omega⟩, by show (0 : Int) ≤ j; omega, by show (j : Int) < wid r; omega⟩
  obtain ⟨l', e1, _, e2, _⟩ := R.row ho
  simp only [Int.toNat_natCast] at e1 e2
  rw [h] at e1
  cases e1
  rw [h2] at e2
  exact (Option.some.inj e2).symm
section
variable {P : Program} {w : World} {K : PySem.W.Frag} {mg : Str → Option Value} {base : Heap}
def spSpots (K : PySem.W.Frag) : Sp := fun vs H Q _ => ∃ pr r z, vs = [.ref pr, .str (S z)] ∧ RwV H pr r ∧ RowsOk r ∧ ∀ p us H', Same H H' → H p = none → H' p = some (.lst us) → PLs K H' us (spotsOf r z) → Q (.ref p) H'
theorem ok_spots (T : Txt K mg) : C8.Cal P w K mg base 1 "_law_spots" (spSpots K) [] := by
  have SC : C8.scC ["_law_rows_here", "_law_signs", "_law_found", "_law_y", "_law_line_here", "_law_x", "_law_sign_here"] ["_law_rows_here", "_law_signs"] (C8.fnScope s_law_spots) = true := by decide +kernel
  have nd := (C8.fnScope_by SC).nd
  refine cal T.f_law_spots SC (fun _ _ _ _ _ _ us hl => match us, hl with | [_, _], _ => rfl) (fun vs H Q E h => by obtain ⟨_, _, _, rfl, _⟩ := h; rfl) (fun f cdv A outer s H vs Q E hr h => ?_)
  obtain ⟨pr, r, z, rfl, hw, R, k⟩ := h
  refine ⟨_, pss_cons (ps_set (i := 2) nd rfl (.inl rfl) (pe_lst pa_nil))
    (pss_cons (ps_for PassesOwn.never rfl (pi_enum (by rfl) T.b_enumerate (pa_cons (pv 0) pa_nil)) (pg_tup rfl (pgs_cons (pg_name (i := 3) nd rfl (.inr rfl)) (pgs_cons (pg_name (i := 4) nd rfl (.inl rfl)) pgs_nil)))
      (pss_one (ps_expr (pe_bm PySem.F.plainAttrs_list PySem.F.slot_list_extend PySem.F.type_list_extend mt_extend (pv 2) (pa_cons
        (pe_lc (own := [("_law_x", 5), ("_law_sign_here", 6)]) rfl nd (pi_enumS (by rfl) T.b_enumerate (pa_cons (pv 4) pa_nil)) (blkOk_by (N := ["_law_rows_here", "_law_signs", "_law_found", "_law_y", "_law_line_here", "_law_x", "_law_sign_here"]) (sc := C8.fnScope s_law_spots) (by decide +kernel))
          (fun _ _ _ _ _ => k_gtup (K := K) (n := 2) rfl rfl (pgs_cons (pg_name (i := 5) nd rfl (.inl rfl)) (pgs_cons (pg_name (i := 6) nd rfl (.inl rfl)) pgs_nil)))
          (fun _ _ _ _ _ => pts_one (pt_cmpR op_in_sign (pv 6) (pv 1) (by rfl)))
          (fun _ _ _ _ _ => pe_tup (pa_cons (pv 3) (pa_cons (pv 5) pa_nil)))) pa_nil)))))
    (pss_one (ps_ret (pv 2)))), ?_⟩
  refine ⟨by show 0 ≤ sizeLine; decide, fun p hp => ?_⟩
  have s1 : Same H (upd H p (.lst [])) := Same.new hp
  have h6 := R.h6
  have w6 := R.w6
  have hh : hgt r ≤ 5 := h6
  refine ⟨_, rfl, pr, rowsV r, rfl, SqL.of (s1 _ _ hw), ?_⟩
  refine for_it walk_enum (fun i σ H' => ∃ y3 y4 us, σ = [some (.ref pr), some (.str (S z)), some (.ref p), y3, y4, none, none] ∧ Same H H' ∧ H' p = some (.lst us) ∧ PLs K H' us ((cells i (wid r)).filter fun p => decide (sgn r p ∈ z)))
    ⟨_, _, [], rfl, s1, upd_same, .nil⟩ (fun _ _ _ _ h => by obtain ⟨_, _, _, _, s, _⟩ := h; exact SqL.of (s _ _ hw)) ?_ ?_
  · intro i y σ H1 H2 hi pp yy
    obtain ⟨t, x1, x2, rfl, nt, rfl, e1, e2⟩ := yy
    obtain rfl := Option.some.inj e1
    have e2 : (r.map fun l => V.str (S l))[i]? = some x2 := e2
    rw [List.getElem?_map] at e2
    obtain ⟨l, hl, rfl⟩ := Option.map_eq_some_iff.mp e2
    obtain ⟨y3, y4, us, rfl, s2, u1, u2⟩ := pp
    have hw2 := R.len l (List.mem_of_getElem? hl)
    have hi5 := (List.getElem?_eq_some_iff.mp hl).1
    have s3 : Same H1 (upd H1 t (.tup [.int (i : Nat), .str (S l)])) := Same.new nt
    have u1' := s3 _ _ u1
    have usm : us.length ≤ 25 := by
      have h1 := u2.len
      have h2 : ((cells i (wid r)).filter fun p => decide (sgn r p ∈ z)).length ≤ (cells i (wid r)).length := List.length_filter_le _ _
      rw [cells_len] at h2
      have h3 : i * wid r ≤ 5 * 5 := Nat.mul_le_mul (by omega) w6
      omega
    refine ⟨t, _, rfl, SqT.of upd_same, rfl, _, _, rfl, _, _, rfl, rfl, ?_⟩
    refine ⟨_, rfl, .inl ⟨rfl, _, SqL.of u1'⟩, ?_⟩
    refine ⟨_, rfl, _, rfl, fun D hD => ?_⟩
    refine lc_gen walk_enumS (fun j l2 H => PLs K H l2 (((List.range j).map fun (x : Nat) => ((i : Int), (x : Int))).filter fun p => decide (sgn r p ∈ z))) hD (fun _ _ => trivial) (by show l.length ≤ sizeLine; exact small (by omega)) (fun _ _ _ _ k r => r.keep k) .nil ?_ ?_
    · intro j l2 x H3 H4 hj s4 rl y Kn El hk he
      obtain ⟨t2, c, hc, rfl, nt2, rfl⟩ := y
      have hc2 : l[j]? = some c := by simpa using hc
      have sg := sgn_at R hl hc2
      have s5 : Same H3 (upd H3 t2 (.tup [.int (j : Nat), .str ⟨#[c]⟩])) := Same.new nt2
      refine ⟨t2, _, rfl, SqT.of upd_same, rfl, _, _, rfl, _, _, rfl, rfl, rfl, ?_⟩
      refine ⟨_, rfl, _, rfl, c, _, rfl, rfl, _, rfl, ?_⟩
      have e5 : ((List.range (j + 1)).map fun (x : Nat) => ((i : Int), (x : Int))).filter (fun p => decide (sgn r p ∈ z)) = ((List.range j).map fun (x : Nat) => ((i : Int), (x : Int))).filter (fun p => decide (sgn r p ∈ z)) ++ (if c ∈ z then [((i : Int), (j : Int))] else []) := by
        rw [List.range_succ, List.map_append, List.filter_append]
        congr 1
        by_cases hm : c ∈ z
        · simp [sg, hm]
        · simp [sg, hm]
      rw [in_dec]
      by_cases hm : c ∈ z
      · rw [decide_eq_true hm]
        rw [if_pos hm] at e5
        refine iteT ⟨_, rfl, _, rfl, by show 2 ≤ sizeLine; decide, fun u hu => ?_⟩
        have s6 := Same.new (o := .tup [.int (i : Nat), .int (j : Nat)]) hu
        refine hk _ _ (s5.trans s6) ?_
        rw [e5]
        exact (rl.keep (Same.keepT (s5.trans s6))).app (PLs.one ⟨u, rfl, SqT.of upd_same⟩)
      · rw [decide_eq_false hm]
        rw [if_neg hm, List.append_nil] at e5
        refine iteF (he _ s5 ?_)
        rw [e5]
        exact rl.keep (Same.keepT s5)
    · intro l2 H3 s4 e3 hn rl
      have hn2 : l2.length ≤ 25 := by
        have : (S l).cps.size = l.length := by simp
        omega
      have u3 := s4 _ _ u1'
      refine ⟨p, D, us, l2, rfl, rfl, u3, e3, small (by omega), ?_⟩
      have s14 : Same H1 H3 := s3.trans s4
      have kt := keepT_upd (l' := us ++ l2) u3
      refine ⟨_, _, _, rfl, same_upd (s2.trans s14) hp, upd_same, ?_⟩
      rw [cells_succ, List.filter_append]
      rw [show (S l).cps.size = wid r by simp [hw2]] at rl
      exact ((u2.keep (Same.keepT s14)).keep kt).app (rl.keep kt)
  · intro σ H1 pp
    obtain ⟨y3, y4, us, rfl, s2, u1, u2⟩ := pp
    rw [show (rowsV r).length = hgt r by simp [rowsV, hgt]] at u2
    exact ⟨_, rfl, k p us H1 s2 hp u1 u2⟩
end
end K79
/-! part W18 -/
/-! The law's rows. -/
namespace K79
open PySem PySem.Spec PyProof.Rows L2
theorem k_join {X : Cx} {K : PySem.W.Frag} {o e : Expr} {to te : TE} {apos pos : Pos} (hK : X.K = K) (ho : PE X o to) (he : PE X e te) (hs : starEach [e] X.env = [(false, eval e X.env)] := by rfl) (hbase : attributeBase o "join" X.env (eval o X.env) = eval o X.env := by rfl) (hline : (apos.endLine == pos.line) = true := by rfl) : PE X (.Call (.Attribute o "join" apos) [e] [] pos) (tM1 (fun x xs H Q => ∃ a p, ∃ ys : List Str, x = .str a ∧ xs = [.ref p] ∧ (SqL K H p (ys.map V.str) ∨ SqT K H p (ys.map V.str)) ∧ (ys.map (·.length)).sum + ys.length * a.length ≤ 16777216 ∧ Q (.str (Txt.join a ys)) H) to te) := by
  subst hK
  exact pe_join ho he hs hbase hline
def chV (l : List Nat) : List V := l.map fun c => V.str (S [c])
def signTexts : List (List Nat) := [[46, 46, 46, 46, 126, 35, 120, 97, 98], [46, 46, 126, 126, 35, 97, 98], [46, 46, 46, 46, 46, 46], [46, 46, 35, 46, 97, 35], [126, 126, 126, 46, 120, 35], [46, 97, 98, 46, 97, 98], [97, 98, 99, 100, 46, 126]]
theorem signTexts_e : ([.str "....~#xab", .str "..~~#ab", .str "......", .str "..#.a#", .str "~~~.x#", .str ".ab.ab", .str "abcd.~"] : List V) = signTexts.map fun l => V.str (S l) := by decide +kernel
theorem signTexts_ok {l : List Nat} (h : l ∈ signTexts) : l ≠ [] ∧ l.length ≤ 9 ∧ ∀ c ∈ l, c ∈ signs := by
  have h2 : ∀ l ∈ signTexts, l ≠ [] ∧ l.length ≤ 9 ∧ ∀ c ∈ l, c ∈ signs := by decide
  exact h2 l h
/-- lists of signs, b each -/
def Brd (H : Hp) (b : Nat) (p : Addr) (l : List Nat) : Prop := H p = some (.lst (chV l)) ∧ l.length = b ∧ ∀ c ∈ l, c ∈ signs
theorem SrcB.none {a p : Addr} {H H' : Hp} (s : SrcB a H H') (n : p ≠ a) (h : H' p = Option.none) : H p = Option.none := by
  cases e : H p with
  | none => rfl
  | some o =>
    rw [s.but _ _ n e] at h
    cases h
theorem rows_open {r : Rows} (R : RowsOk r) {l : List Nat} {c : Nat} (h : l ∈ r) (h2 : c ∈ l) (h3 : c ∈ ([46, 97, 98, 99, 100] : List Nat)) : opn r ≠ [] := by
  obtain ⟨i, hi⟩ := List.mem_iff_getElem?.mp h
  obtain ⟨j, hj⟩ := List.mem_iff_getElem?.mp h2
  have e := sgn_at R hi hj
  have hil := (List.getElem?_eq_some_iff.mp hi).1
  have hjl := (List.getElem?_eq_some_iff.mp hj).1
  have hw := R.len l h
  have ho : onF r ((i : Int), (j : Int)) = true := onF_iff.mpr ⟨⟨by show (0 : Int) ≤ i; omega, by show (i : Int) < (r.length : Nat); omega⟩, by show (0 : Int) ≤ j; omega, by show (j : Int) < wid r; omega⟩
  have hm : ((i : Int), (j : Int)) ∈ opn r := List.mem_filter.mpr ⟨cells_mem ho, by rw [e]; exact decide_eq_true h3⟩
  intro z
  rw [z] at hm
  cases hm
section
variable {P : Program} {w : World} {K : PySem.W.Frag} {mg : Str → Option Value} {base : Heap}
def spLawRows : Sp := fun vs H Q _ => ∃ a : Addr, vs = [.ref a, .int 5, .int 5] ∧ Src H a ∧ ∀ p r H', SrcB a H H' → p ≠ a → RwV H' p r → RowsOk r → opn r ≠ [] → Q (.ref p) H'
theorem ok_law_rows (T : Txt K mg) (h1 : C8.Cal P w K mg base 2 "_law_take" spTake []) (h2 : C8.Cal P w K mg base 3 "_law_one" (spOne K) []) : C8.Cal P w K mg base 4 "_law_rows" spLawRows [] := by
  have SC : C8.scC ["_law_source_here", "_law_high", "_law_wide", "_law_tall", "_law_broad", "_law_signs", "_law_cells", "_law_k", "_law_j", "_law_line_here"] ["_law_source_here", "_law_high", "_law_wide"] (C8.fnScope s_law_rows) = true := by decide +kernel
  have nd := (C8.fnScope_by SC).nd
  refine cal T.f_law_rows SC (fun _ _ _ _ _ _ us hl => match us, hl with | [_, _, _], _ => rfl) (fun vs H Q E h => by obtain ⟨_, rfl, _⟩ := h; rfl) (fun f cdv A outer s H vs Q E hr h => ?_)
  obtain ⟨a, rfl, hs, k⟩ := h
  refine ⟨_, pss_cons (ps_asg (pe_tup (pa_cons (pe_op op_add pe_int (C8.pe_c h1 hr (by decide) rfl (pa_cons (pv 0) (pa_cons (pv 1) pa_nil)))) (pa_cons (pe_op op_add pe_int (C8.pe_c h1 hr (by decide) rfl (pa_cons (pv 0) (pa_cons (pv 2) pa_nil)))) pa_nil)))
      (pg_tup rfl (pgs_cons (pg_name (i := 3) nd rfl (.inl rfl)) (pgs_cons (pg_name (i := 4) nd rfl (.inr rfl)) pgs_nil))))
    (pss_cons (ps_set (i := 5) nd rfl (.inr rfl) (C8.pe_c h2 hr (by decide) rfl (pa_cons (pv 0) (pa_cons (pe_lst (pa_cons pe_str (pa_cons pe_str (pa_cons pe_str (pa_cons pe_str (pa_cons pe_str (pa_cons pe_str (pa_cons pe_str pa_nil)))))))) pa_nil))))
    (pss_cons (ps_setLc (i := 6) (own := [("_law_j", 8)]) (g := gName 8) (tt := tYes) rfl nd rfl rfl (sw_true rfl rfl rfl (by decide +kernel)) (pi_range1 rfl T.b_range (pa_cons (pv 3) pa_nil)) (blkOk_by (N := ["_law_source_here", "_law_high", "_law_wide", "_law_tall", "_law_broad", "_law_signs", "_law_cells", "_law_k", "_law_j", "_law_line_here"]) (sc := C8.fnScope s_law_rows) (by decide +kernel)) (fun _ _ _ _ _ => pg_name (i := 8) nd rfl (.inl rfl)) (fun _ _ _ _ _ => pts_nil)
      (fun _ _ _ _ _ => pe_lc (own := [("_law_k", 7)]) (g := gName 7) (tt := tYes) rfl nd (pi_range1 (by rfl) T.b_range (pa_cons (pv 4) pa_nil)) (by refine blkOk_by (N := ["_law_source_here", "_law_high", "_law_wide", "_law_tall", "_law_broad", "_law_signs", "_law_cells", "_law_k", "_law_j", "_law_line_here"]) (sc := relS _ (C8.fnScope s_law_rows)) ?_; decide +kernel) (fun _ _ _ _ _ => pg_name (i := 7) nd rfl (.inl rfl)) (fun _ _ _ _ _ => pts_nil)
        (fun _ _ _ _ _ => C8.pe_c h2 hr (by decide) rfl (pa_cons (pv 0) (pa_cons (pv 5) pa_nil)))))
    (pss_cons (ps_asg (C8.pe_c h2 hr (by decide) rfl (pa_cons (pv 0) (pa_cons (pe_lst (pa_cons pe_str (pa_cons pe_str pa_nil))) pa_nil))) (pg_sub (pe_ix ix_list (pv 6) (C8.pe_c h1 hr (by decide) rfl (pa_cons (pv 0) (pa_cons (pv 3) pa_nil))) (fun _ _ => rfl)) (C8.pe_c h1 hr (by decide) rfl (pa_cons (pv 0) (pa_cons (pv 4) pa_nil))) set_list))
    (pss_one (ps_ret (pe_lc (own := [("_law_line_here", 9)]) (g := gName 9) (tt := tYes) rfl nd (pi_list (pv 6)) (blkOk_by (N := ["_law_source_here", "_law_high", "_law_wide", "_law_tall", "_law_broad", "_law_signs", "_law_cells", "_law_k", "_law_j", "_law_line_here"]) (sc := C8.fnScope s_law_rows) (by decide +kernel)) (fun _ _ _ _ _ => pg_name (i := 9) nd rfl (.inl rfl)) (fun _ _ _ _ _ => pts_nil)
      (fun _ _ _ _ _ => k_join (K := K) rfl pe_str (pv 9)))))))), ?_⟩
  refine ⟨_, rfl, _, rfl, a, 5, rfl, hs, by decide, by decide, fun r1 H1 s1 a1 a2 => ?_⟩
  refine ⟨_, _, rfl, rfl, _, rfl, _, rfl, a, 5, rfl, s1.src, by decide, by decide, fun r2 H2 s2 b1 b2 => ?_⟩
  refine ⟨_, _, rfl, rfl, by show 2 ≤ sizeLine; decide, fun t ht => ?_⟩
  have sA : SrcB a H (upd H2 t (.tup [.int (1 + r1), .int (1 + r2)])) := (s1.trans s2).seq (Same.new ht)
  refine ⟨t, _, rfl, SqT.of upd_same, rfl, _, _, rfl, _, _, rfl, rfl, ?_⟩
  dsimp only
  obtain ⟨tall, et⟩ : ∃ n : Nat, (1 + r1 : Int) = (n : Nat) := ⟨(1 + r1).toNat, by omega⟩
  obtain ⟨broad, eb⟩ : ∃ n : Nat, (1 + r2 : Int) = (n : Nat) := ⟨(1 + r2).toNat, by omega⟩
  rw [et, eb] at sA ⊢
  have t1 : 1 ≤ tall ∧ tall ≤ 5 := by omega
  have b5 : 1 ≤ broad ∧ broad ≤ 5 := by omega
  clear et eb a1 a2 b1 b2 s1 s2
  generalize upd H2 t (.tup [.int (tall : Nat), .int (broad : Nat)]) = H3 at sA ⊢
  clear ht
  refine ⟨_, rfl, by show 7 ≤ sizeLine; decide, fun p hp => ?_⟩
  have s4 := Same.new (o := .lst [.str "....~#xab", .str "..~~#ab", .str "......", .str "..#.a#", .str "~~~.x#", .str ".ab.ab", .str "abcd.~"]) hp
  refine ⟨a, .ref p, rfl, sA.src.same s4, .inl ⟨p, signTexts.map fun l => V.str (S l), rfl, SqL.of (by rw [upd_same, signTexts_e]), sA.src.ne hp, by decide, by decide, fun H5 u s5 hu => ?_⟩⟩
  obtain ⟨sg, hsg, rfl⟩ := List.mem_map.mp hu
  obtain ⟨g1, g2, g3⟩ := signTexts_ok hsg
  have sB : SrcB a H H5 := (sA.seq s4).trans s5
  refine ⟨_, rfl, _, rfl, by omega, by omega, fun D hD => ?_⟩
  have hDa : D ≠ a := sB.src.ne hD
  refine lc_src (a := a) walk_range (fun i l H => ∃ ps : List Addr, l = ps.map V.ref ∧ ps.length = i ∧ ∀ q ∈ ps, q ≠ D ∧ q ≠ a ∧ H5 q = none ∧ ∃ x, Brd H broad q x) hD sB.src (fun _ _ => trivial) (small (by omega)) ?_ ⟨[], rfl, rfl, fun _ h => nomatch h⟩ ?_ ?_
  · rintro i l H l0 l1 e ⟨ps, e1, e2, e3⟩
    refine ⟨ps, e1, e2, fun q hq => ?_⟩
    obtain ⟨n1, n2, n0, x, x1, x2⟩ := e3 q hq
    exact ⟨n1, n2, n0, x, by rw [upd_ne n1]; exact x1, x2⟩
  · intro i l x H6 H7 hi s6 hl _ rl y Kn El hk he
    obtain ⟨rfl, rfl⟩ := y
    refine ⟨rfl, ?_⟩
    refine ⟨_, rfl, _, rfl, by omega, by omega, fun D2 hD2 => ?_⟩
    have hD2a : D2 ≠ a := s6.src.ne hD2
    refine lc_src (a := a) walk_range (fun j l _ => ∃ cs : List Nat, l = chV cs ∧ cs.length = j ∧ ∀ c ∈ cs, c ∈ signs) hD2 s6.src (fun _ _ => trivial) (small (by omega)) (fun _ _ _ _ _ _ r => r) ⟨[], rfl, rfl, fun _ h => nomatch h⟩ ?_ ?_
    · intro j l2 x H8 H9 hj s8 hl2 _ rl2 y Kn2 El2 hk2 he2
      obtain ⟨rfl, rfl⟩ := y
      obtain ⟨cs, rfl, e2, e3⟩ := rl2
      refine ⟨rfl, ?_⟩
      refine ⟨_, rfl, _, rfl, a, .str (S sg), rfl, s8.src, .inr ⟨sg, rfl, g1, by omega, fun H10 c s10 hc => hk2 _ _ s10 ⟨cs ++ [c], by simp [chV], by rw [List.length_append, e2]; rfl, fun d hd => ?_⟩⟩⟩
      rcases List.mem_append.mp hd with hd | hd
      · exact e3 d hd
      · rw [List.mem_singleton.mp hd]
        exact g3 c hc
    · intro l2 H8 s8 e8 hn2 rl2
      obtain ⟨cs, rfl, e2, e3⟩ := rl2
      obtain ⟨ps, rfl, f2, f3⟩ := rl
      have hDD : D2 ≠ D := fun z => by rw [z, hl] at hD2; cases hD2
      refine hk _ _ s8 ⟨ps ++ [D2], by simp, by rw [List.length_append, f2]; rfl, fun q hq => ?_⟩
      rcases List.mem_append.mp hq with hq | hq
      · obtain ⟨n1, n2, n0, x, x1, x2⟩ := f3 q hq
        exact ⟨n1, n2, n0, x, s8.but _ _ n2 x1, x2⟩
      · rw [List.mem_singleton.mp hq]
        exact ⟨hDD, hD2a, s6.none hD2a hD2, cs, e8, by rw [e2]; omega, e3⟩
  · intro l H6 s6 e6 hn rl
    obtain ⟨ps, rfl, f2, f3⟩ := rl
    have sC : SrcB a H H6 := sB.trans s6
    refine ⟨_, rfl, by show 2 ≤ sizeLine; decide, fun p2 hp2 => ?_⟩
    have s7 := Same.new (o := .lst [.str ".", .str "a"]) hp2
    refine ⟨a, .ref p2, rfl, sC.src.same s7, .inl ⟨p2, [.str ".", .str "a"], rfl, SqL.of upd_same, sC.src.ne hp2, by decide, by decide, fun H8 u s8 hu => ?_⟩⟩
    obtain ⟨co, hco, rfl⟩ : ∃ c ∈ ([46, 97] : List Nat), u = V.str (S [c]) := by
      have h2 : ∀ u ∈ [V.str ".", .str "a"], u ∈ ([46, 97] : List Nat).map fun c => V.str (S [c]) := by decide +kernel
      obtain ⟨c, hc, e⟩ := List.mem_map.mp (h2 u hu)
      exact ⟨c, hc, e.symm⟩
    have sD : SrcB a H6 H8 := (SrcB.of s6.src s7).trans s8
    have e8 := sD.but _ _ hDa e6
    refine ⟨_, rfl, _, rfl, _, rfl, a, _, rfl, sD.src, by omega, by omega, fun i0 H9 s9 i1 i2 => ?_⟩
    have e9 := s9.but _ _ hDa e8
    have hil : i0.toNat < ps.length := by omega
    have ep := List.getElem?_eq_getElem hil
    generalize ps[i0.toNat] = q0 at ep
    have hq0 : q0 ∈ ps := List.mem_of_getElem? ep
    have sE : SrcB a H6 H9 := sD.trans s9
    obtain ⟨n1, n2, n0, x0, x1, x2, x3⟩ := f3 q0 hq0
    refine ⟨D, _, _, .ref q0, rfl, rfl, SqL.of e9, ?_, ?_⟩
    · have ea := atI_nat (xs := ps.map V.ref) (j := i0.toNat) (v := .ref q0) (by rw [List.getElem?_map, ep]; rfl)
      rw [show ((i0.toNat : Nat) : Int) = i0 by omega] at ea
      exact ea
    refine ⟨_, rfl, _, rfl, a, _, rfl, sE.src, by omega, by omega, fun j0 H10 s10 j1 j2 => ?_⟩
    have sF : SrcB a H6 H10 := sE.trans s10
    have y1 : H10 q0 = some (.lst (chV x0)) := sF.but _ _ n2 x1
    have hlen : (chV x0).length = broad := by rw [chV, List.length_map, x2]
    refine ⟨q0, _, j0, j0.toNat, rfl, rfl, y1, ?_, ?_⟩
    · unfold ixN
      rw [hlen]
      simp only [show 0 ≤ j0 from j1, if_true]
      rw [if_pos (by omega)]
    have eset : (chV x0).set j0.toNat (.str (S [co])) = chV (x0.set j0.toNat co) := by rw [chV, chV, List.map_set]
    rw [eset]
    have hset : ∀ c ∈ x0.set j0.toNat co, c ∈ signs := fun c hc => by
      rcases List.mem_or_eq_of_mem_set hc with hc | rfl
      · exact x3 c hc
      · have h3 : ∀ c ∈ ([46, 97] : List Nat), c ∈ signs := by decide
        exact h3 _ hco
    have hcin : co ∈ x0.set j0.toNat co := List.mem_set (by omega) co
    -- all lists of signs still, one of them with an open sign
    have all11 : ∀ q ∈ ps, ∃ x, Brd (upd H10 q0 (.lst (chV (x0.set j0.toNat co)))) broad q x := fun q hq => by
      by_cases z : q = q0
      · subst z
        exact ⟨_, upd_same, by rw [List.length_set, x2], hset⟩
      · obtain ⟨m1, m2, m0, y, y2, y3⟩ := f3 q hq
        exact ⟨y, by rw [upd_ne z]; exact sF.but _ _ m2 y2, y3⟩
    have e11 : (upd H10 q0 (.lst (chV (x0.set j0.toNat co)))) D = some (.lst (ps.map V.ref)) := by
      rw [upd_ne (Ne.symm n1)]
      exact s10.but _ _ hDa e9
    have q11 : (upd H10 q0 (.lst (chV (x0.set j0.toNat co)))) q0 = some (.lst (chV (x0.set j0.toNat co))) := upd_same
    have sG : SrcB a H (upd H10 q0 (.lst (chV (x0.set j0.toNat co)))) := by
      have sFF := sC.trans sF
      obtain ⟨u1, u2, u3, u4⟩ := sFF.src
      refine ⟨fun b o nb eb => ?_, u1, u2, u3, by rw [upd_ne (Ne.symm n2)]; exact u4⟩
      by_cases z : b = q0
      · subst z
        have h1 := sB.but _ _ nb eb
        rw [n0] at h1
        cases h1
      · rw [upd_ne z]
        exact sFF.but _ _ nb eb
    generalize upd H10 q0 (.lst (chV (x0.set j0.toNat co))) = H11 at all11 e11 q11 sG
    refine ⟨_, rfl, D, rfl, ⟨_, SqL.of e11⟩, fun D3 hD3 => ?_⟩
    refine lc_gen walk_list (fun i l _ => ∃ r : Rows, l = rowsV r ∧ r.length = i ∧ (∀ x ∈ r, x.length = broad ∧ ∀ c ∈ x, c ∈ signs) ∧ (i0.toNat < i → x0.set j0.toNat co ∈ r)) hD3 (fun _ s => SqL.of (s _ _ e11)) (by rw [List.length_map]; exact small (by omega)) (fun _ _ _ _ _ r => r) ⟨[], rfl, rfl, (fun _ h => nomatch h), fun h => absurd h (Nat.not_lt_zero _)⟩ ?_ ?_
    · intro i l x H12 H13 hi s12 rl y Kn El hk he
      obtain ⟨rfl, hx⟩ := y
      rw [List.getElem?_map] at hx
      obtain ⟨q, hq, rfl⟩ := Option.map_eq_some_iff.mp hx
      obtain ⟨y, z1, z2, z3⟩ := all11 q (List.mem_of_getElem? hq)
      obtain ⟨r, rfl, w2, w3, w4⟩ := rl
      refine ⟨rfl, ?_⟩
      refine ⟨⟨_, rfl⟩, _, rfl, _, q, y.map fun c => S [c], rfl, rfl, .inl (SqL.of (by rw [s12 _ _ z1, List.map_map]; rfl)), ?_, ?_⟩
      · have e := ones_len y
        have e4 : ("" : Str).length = 0 := rfl
        rw [e, e4]
        omega
      · rw [join_ones]
        refine hk _ _ (Same.refl _) ⟨r ++ [y], by simp [rowsV], by rw [List.length_append, w2]; rfl, fun x hx => ?_, fun hlt => ?_⟩
        · rcases List.mem_append.mp hx with hx | hx
          · exact w3 x hx
          · rw [List.mem_singleton.mp hx]
            exact ⟨z2, z3⟩
        · by_cases e : i0.toNat = i
          · subst e
            rw [ep] at hq
            cases hq
            rw [q11] at z1
            have e2 : x0.set j0.toNat co = y := by
              have e3 : chV (x0.set j0.toNat co) = chV y := HO.lst.inj (Option.some.inj z1)
              have inj : ∀ u v : List Nat, chV u = chV v → u = v := by
                intro u
                induction u with
                | nil => intro v e; cases v with
                  | nil => rfl
                  | cons _ _ => cases e
                | cons c u ih => intro v e; cases v with
                  | nil => cases e
                  | cons d v =>
                    obtain ⟨e1, e2⟩ := List.cons.inj e
                    rw [(List.cons.inj (S_inj (V.str.inj e1))).1, ih v e2]
              exact inj _ _ e3
            rw [e2]
            exact List.mem_append_right _ (List.mem_singleton.mpr rfl)
          · exact List.mem_append_left _ (w4 (by omega))
    · intro l H12 s12 e12 hn12 rl
      obtain ⟨r, rfl, w2, w3, w4⟩ := rl
      rw [List.length_map] at w2 w4
      have hmem := w4 hil
      have hr0 : r ≠ [] := fun z => by rw [z] at hmem; cases hmem
      have hwid : wid r = broad := by
        cases r with
        | nil => exact absurd rfl hr0
        | cons l0 r => exact (w3 l0 List.mem_cons_self).1
      have RO : RowsOk r := ⟨by omega, by omega, by omega, by omega, fun l hl => by rw [hwid]; exact (w3 l hl).1, fun l hl => (w3 l hl).2⟩
      have h3 : ∀ c ∈ ([46, 97] : List Nat), c ∈ ([46, 97, 98, 99, 100] : List Nat) := by decide
      exact k D3 r H12 (sG.seq s12) (sG.src.ne hD3) e12 RO (rows_open RO hmem hcin (h3 _ hco))
end
end K79
/-! part W19 -/
/-! The law's land. -/
namespace K79
open PySem PySem.Spec PyProof.Rows L2
theorem SrcB.upd {a d : Addr} {H H' : Hp} {o : HO} (s : SrcB a H H') (h : H d = Option.none) (n : d ≠ a) : SrcB a H (L2.upd H' d o) := by
  obtain ⟨b, x, y, z, e⟩ := s
  refine ⟨fun q u nq eq => ?_, x, y, z, by rw [upd_ne (Ne.symm n)]; exact e⟩
  rw [upd_ne (ne_of_none eq h)]
  exact b q u nq eq
theorem rw_ne {H : Hp} {a pr : Addr} {r : Rows} (h : RwV H pr r) (R : RowsOk r) (s : Src H a) : pr ≠ a := fun z => by
  obtain ⟨x, y, w, e⟩ := s
  have h : H pr = some (.lst (rowsV r)) := h
  rw [z, e] at h
  have e2 := HO.lst.inj (Option.some.inj h)
  have h1 := R.h1
  cases r with
  | nil => exact absurd h1 (by decide)
  | cons l r => cases e2
theorem strs_of : ∀ zs : List Str, (∀ x ∈ zs, ∃ c : Nat, x = S [c]) → ∃ cs : List Nat, zs = cs.map fun c => S [c]
  | [], _ => ⟨[], rfl⟩
  | x :: zs, h => by
    obtain ⟨c, rfl⟩ := h x List.mem_cons_self
    obtain ⟨cs, e⟩ := strs_of zs fun y hy => h y (List.mem_cons_of_mem _ hy)
    exact ⟨c :: cs, by rw [e]; rfl⟩
theorem one_mem {c : Nat} {cs : List Nat} : S [c] ∈ cs.map (fun c => S [c]) ↔ c ∈ cs := by
  rw [List.mem_map]
  constructor
  · rintro ⟨d, hd, e⟩
    rw [← (List.cons.inj (S_inj e)).1]
    exact hd
  · exact fun h => ⟨c, h, rfl⟩
theorem nodup_of_map {α β : Type} {f : α → β} : ∀ {l : List α}, (l.map f).Nodup → l.Nodup
  | [], _ => List.nodup_nil
  | x :: l, h => by
    rw [List.map_cons] at h
    obtain ⟨h1, h2⟩ := List.nodup_cons.mp h
    exact List.nodup_cons.mpr ⟨fun hm => h1 (List.mem_map.mpr ⟨x, hm, rfl⟩), nodup_of_map h2⟩
/-- the book that pairs of letters and turns tell -/
def bkOf (kvs : List (Nat × List Nat)) (c : Nat) : List Nat := match kvs.find? fun p => decide (p.1 = c) with
  | some p => p.2
  | none => deeds
theorem bkOf_ok {kvs : List (Nat × List Nat)} (h : ∀ p ∈ kvs, p.2 ∈ turns8) (c : Nat) : bkOf kvs c ∈ turns8 := by
  unfold bkOf
  split
  · rename_i p e
    exact h p (List.mem_of_find?_eq_some e)
  · exact deeds_turn
def kvB (kvs : List (Nat × List Nat)) : List (Key × V) := kvs.map fun p => (Sum.inr (S [p.1]), V.str (S p.2))
theorem kvB_bk : ∀ {kvs : List (Nat × List Nat)}, (kvs.map (·.1)).Nodup → kvB kvs = bkK (kvs.map (·.1)) (bkOf kvs)
  | [], _ => rfl
  | (c, t) :: kvs, h => by
    rw [List.map_cons] at h
    obtain ⟨h1, h2⟩ := List.nodup_cons.mp h
    have ih := kvB_bk h2
    have e1 : bkOf ((c, t) :: kvs) c = t := by simp [bkOf]
    have e2 : bkK (kvs.map (·.1)) (bkOf ((c, t) :: kvs)) = bkK (kvs.map (·.1)) (bkOf kvs) := by
      unfold bkK
      refine List.map_congr_left fun d hd => ?_
      have hne : ¬ c = d := fun z => h1 (z ▸ hd)
      have : bkOf ((c, t) :: kvs) d = bkOf kvs d := by simp [bkOf, List.find?_cons, hne]
      rw [this]
    show (Sum.inr (S [c]), V.str (S t)) :: kvB kvs = (Sum.inr (S [c]), V.str (S (bkOf ((c, t) :: kvs) c))) :: bkK (kvs.map (·.1)) (bkOf ((c, t) :: kvs))
    rw [e1, e2, ih]
theorem mergeK_bk (bk : Nat → List Nat) : ∀ (ls acc : List Nat), (acc ++ ls).Nodup → mergeK (bkK acc bk) (bkK ls bk) = bkK (acc ++ ls) bk
  | [], acc, _ => by simp [mergeK, bkK]
  | c :: ls, acc, h => by
    have hc : c ∉ acc := fun hm => (List.nodup_append.mp h).2.2 c hm c List.mem_cons_self rfl
    have e : mergeK (bkK acc bk) (bkK (c :: ls) bk) = mergeK (putK (bkK acc bk) (Sum.inr (S [c])) (V.str (S (bk c)))) (bkK ls bk) := rfl
    rw [e, putK_bk bk acc c hc, mergeK_bk bk ls (acc ++ [c]) (by simpa using h)]
    simp
theorem flat_len {r : Rows} (R : RowsOk r) : r.flatten.length ≤ 25 := by
  have h : ∀ (l : Rows) (b : Nat), (∀ x ∈ l, x.length = b) → l.flatten.length = l.length * b := by
    intro l b
    induction l with
    | nil => intro _; simp
    | cons x l ih =>
      intro h
      rw [List.flatten_cons, List.length_append, ih fun y hy => h y (List.mem_cons_of_mem _ hy), h x List.mem_cons_self, List.length_cons, Nat.succ_mul]
      omega
  rw [h r (wid r) R.len]
  exact Nat.mul_le_mul R.h6 R.w6
theorem join_rows (r : Rows) : Txt.join "" (r.map S) = S r.flatten := by
  have h := SX.join_S [] r
  rw [joinL_nil] at h
  exact h
theorem letters_flat (r : Rows) (c : Nat) : c ∈ r.flatten.filter (fun c => decide (c ∈ ([97, 98, 99, 100] : List Nat))) ↔ c ∈ lettersOf r := by
  unfold lettersOf
  rw [List.mem_filter, List.mem_filter, List.mem_flatten]
  simp only [List.any_eq_true, decide_eq_true_eq]
  exact ⟨fun ⟨⟨l, h1, h2⟩, h3⟩ => ⟨h3, l, h1, h2⟩, fun ⟨h3, l, h1, h2⟩ => ⟨⟨l, h1, h2⟩, h3⟩⟩
theorem allE : ("#.~xabcd" : Str) = S [35, 46, 126, 120, 97, 98, 99, 100] := by decide +kernel
theorem spots_mono {r : Rows} (h : opn r ≠ []) : spotsOf r [35, 46, 126, 120, 97, 98, 99, 100] ≠ [] := by
  obtain ⟨p, hp⟩ := List.exists_mem_of_ne_nil _ h
  obtain ⟨h1, h2⟩ := List.mem_filter.mp hp
  have h3 : ∀ c ∈ ([46, 97, 98, 99, 100] : List Nat), c ∈ ([35, 46, 126, 120, 97, 98, 99, 100] : List Nat) := by decide
  have hm : p ∈ spotsOf r [35, 46, 126, 120, 97, 98, 99, 100] := List.mem_filter.mpr ⟨h1, decide_eq_true (h3 _ (of_decide_eq_true h2))⟩
  intro z
  rw [z] at hm
  cases hm
theorem spots_len {r : Rows} (R : RowsOk r) (z : List Nat) : (spotsOf r z).length ≤ 25 := by
  have h := List.length_filter_le (fun p => decide (sgn r p ∈ z)) (cells (hgt r) (wid r))
  rw [cells_len] at h
  have h2 : hgt r * wid r ≤ 5 * 5 := Nat.mul_le_mul R.h6 R.w6
  unfold spotsOf
  omega
theorem PLs.mem {K : PySem.W.Frag} {H : Hp} {us : List V} {gs : List Pl} (h : PLs K H us gs) {u : V} (hu : u ∈ us) : ∃ g ∈ gs, PlV K H u g := by
  obtain ⟨i, hi⟩ := List.mem_iff_getElem?.mp hu
  obtain ⟨g, hg, hp⟩ := h.at hi
  exact ⟨g, List.mem_of_getElem? hg, hp⟩
/-- what comes out of a set of places, sorted -/
theorem pls_back {K : PySem.W.Frag} {H : Hp} {ks : List (Addr × List Int)} {gs : List Pl} (h3 : ks.map (·.2) = gs.map fun g => [g.1, g.2]) : ∀ {L' : List (Addr × List Int)}, (∀ p ∈ L', p ∈ ks) → (∀ p ∈ L', SqT K H p.1 (p.2.map V.int)) → (L'.map (·.2)).Nodup →
    ∃ gs', PLs K H (L'.map fun q => V.ref q.1) gs' ∧ gs'.Nodup ∧ (∀ g ∈ gs', g ∈ gs) ∧ L'.map (·.2) = gs'.map fun g => [g.1, g.2]
  | [], _, _, _ => ⟨[], .nil, List.nodup_nil, fun _ h => (nomatch h), rfl⟩
  | p :: L', hs, hq, hn => by
    rw [List.map_cons] at hn
    obtain ⟨n1, n2⟩ := List.nodup_cons.mp hn
    obtain ⟨gs', g1, g2, g4, g5⟩ := pls_back h3 (fun q hq' => hs q (List.mem_cons_of_mem _ hq')) (fun q hq' => hq q (List.mem_cons_of_mem _ hq')) n2
    have hp2 : p.2 ∈ gs.map fun g => [g.1, g.2] := by
      rw [← h3]
      exact List.mem_map.mpr ⟨p, hs p List.mem_cons_self, rfl⟩
    obtain ⟨g, hg, e⟩ := List.mem_map.mp hp2
    refine ⟨g :: gs', .cons ⟨p.1, rfl, ?_⟩ g1, List.nodup_cons.mpr ⟨fun hm => n1 ?_, g2⟩, fun x hx => ?_, ?_⟩
    · have h := hq p List.mem_cons_self
      rw [← e] at h
      exact h
    · rw [g5, ← e]
      exact List.mem_map.mpr ⟨g, hm, rfl⟩
    · rcases List.mem_cons.mp hx with rfl | hx
      · exact hg
      · exact g4 x hx
    · rw [List.map_cons, List.map_cons, g5, e]
section
variable {P : Program} {w : World} {K : PySem.W.Frag} {mg : Str → Option Value} {base : Heap}
theorem nox_w {CX : CXT} {N : List Str} {q : Str} {sc : Scope} {f : Addr} {cdv : Value} {A : Around} {outer : List Env} {s : Shared} {H : Hp} {E : XK} : (cxOf CX P w K mg base N q sc f cdv A outer s H E).nox.w = w := rfl
theorem nox_prog {CX : CXT} {N : List Str} {q : Str} {sc : Scope} {f : Addr} {cdv : Value} {A : Around} {outer : List Env} {s : Shared} {H : Hp} {E : XK} : (cxOf CX P w K mg base N q sc f cdv A outer s H E).nox.prog = P := rfl
def spLawLand (K : PySem.W.Frag) : Sp := fun vs H Q _ => ∃ a pr r, vs = [.ref a, .ref pr] ∧ Src H a ∧ RwV H pr r ∧ RowsOk r ∧ opn r ≠ [] ∧
  ∀ d L p t H', SrcB a H H' → LdV K H' d L (some (p, t)) → LandOk L → p ∈ opn L.rows → t ∈ turns8 → Q (.ref d) H'
theorem ok_law_land (T : Txt K mg) (h1 : C8.Cal P w K mg base 2 "_law_take" spTake []) (h2 : C8.Cal P w K mg base 3 "_law_one" (spOne K) []) (h3 : C8.Cal P w K mg base 1 "_law_spots" (spSpots K) []) (h4 : C8.Cal P w K mg base 4 "_law_sense" spTurn []) : C8.Cal P w K mg base 5 "_law_land" (spLawLand K) [] := by
  have SC : C8.scC ["_law_source_here", "_law_rows_here", "_law_letters", "_law_found", "_law_every", "_law_sign_here", "_law_letter", "_law_k"] ["_law_source_here", "_law_rows_here"] (C8.fnScope s_law_land) = true := by decide +kernel
  have nd := (C8.fnScope_by SC).nd
  refine cal T.f_law_land SC (fun _ _ _ _ _ _ us hl => match us, hl with | [_, _], _ => rfl) (fun vs H Q E h => by obtain ⟨_, _, _, rfl, _⟩ := h; rfl) (fun f cdv A outer s H vs Q E hr h => ?_)
  obtain ⟨a, pr, r, rfl, hs, hw, R, ho, k⟩ := h
  have hu := hu_of hr
  refine ⟨_, pss_cons (ps_set (i := 2) nd rfl (.inl rfl) (pe_callB (cr_sortX rfl) (by rfl) T.b_sorted (by decide +kernel) (pa_cons (pe_callTy (cr_setX rfl) (by rfl) T.b_set (by decide +kernel) (pa_cons
      (pe_lc (own := [("_law_sign_here", 5)]) (g := gName 5) rfl nd (pi_str (pe_join pe_str (pv 1))) (blkOk_by (N := ["_law_source_here", "_law_rows_here", "_law_letters", "_law_found", "_law_every", "_law_sign_here", "_law_letter", "_law_k"]) (sc := C8.fnScope s_law_land) (by decide +kernel)) (fun _ _ _ _ _ => pg_name (i := 5) nd rfl (.inl rfl))
        (fun _ _ _ _ _ => pts_one (pt_cmpR op_in_sign (pv 5) pe_str (by rfl))) (fun _ _ _ _ _ => pv 5)) pa_nil)) pa_nil)))
    (pss_cons (ps_set (i := 3) nd rfl (.inl rfl) (pe_disp (pps_cons pe_str (pv 1) (pps_cons pe_str (pe_tup (pa_cons (C8.pe_c h2 hr (by decide) rfl (pa_cons (pv 0) (pa_cons (C8.pe_c h3 hr (by decide) rfl (pa_cons (pv 1) (pa_cons pe_str pa_nil))) pa_nil))) (pa_cons (C8.pe_c h4 hr (by decide) rfl (pa_cons (pv 0) pa_nil)) pa_nil))) pps_nil)) (by rfl) (by rfl) (by simp) (by decide)))
    (pss_cons (ps_dput hu (pv 3) pe_str (pe_callTy (call_dictP rfl) (by rfl) T.b_dict (by decide +kernel) (pa_cons
      (pe_lc (own := [("_law_letter", 6)]) (g := gName 6) (tt := tYes) rfl nd (pi_list (pv 2)) (blkOk_by (N := ["_law_source_here", "_law_rows_here", "_law_letters", "_law_found", "_law_every", "_law_sign_here", "_law_letter", "_law_k"]) (sc := C8.fnScope s_law_land) (by decide +kernel)) (fun _ _ _ _ _ => pg_name (i := 6) nd rfl (.inl rfl)) (fun _ _ _ _ _ => pts_nil)
        (fun _ _ _ _ _ => pe_tup (pa_cons (pv 6) (pa_cons (C8.pe_c h4 hr (by decide) rfl (pa_cons (pv 0) pa_nil)) pa_nil)))) pa_nil)) rfl)
    (pss_cons (ps_set (i := 4) nd rfl (.inr rfl) (C8.pe_c h3 hr (by decide) rfl (pa_cons (pv 1) (pa_cons pe_str pa_nil))))
    (pss_cons (ps_dput hu (pv 3) pe_str (pe_callB (cr_sortedT rfl) (by rfl) T.b_sorted (by decide +kernel) (pa_cons (pe_callTy (cr_setT2 rfl hr.units) (by rfl) T.b_set (by decide +kernel) (pa_cons
      (pe_lc (own := [("_law_k", 7)]) (g := gName 7) (tt := tYes) rfl nd (pi_range1 rfl T.b_range (pa_cons (C8.pe_c h1 hr (by decide) rfl (pa_cons (pv 0) (pa_cons pe_int pa_nil))) pa_nil)) (blkOk_by (N := ["_law_source_here", "_law_rows_here", "_law_letters", "_law_found", "_law_every", "_law_sign_here", "_law_letter", "_law_k"]) (sc := C8.fnScope s_law_land) (by decide +kernel)) (fun _ _ _ _ _ => pg_name (i := 7) nd rfl (.inl rfl)) (fun _ _ _ _ _ => pts_nil)
        (fun _ _ _ _ _ => C8.pe_c h2 hr (by decide) rfl (pa_cons (pv 0) (pa_cons (pv 4) pa_nil)))) pa_nil)) pa_nil)) rfl)
    (pss_one (ps_ret (pv 3))))))), ?_⟩
  have hpa := rw_ne hw R hs
  have fl := flat_len R
  -- the letters
  refine ⟨⟨_, rfl⟩, _, rfl, _, pr, r.map S, rfl, rfl, .inl (SqL.of (by rw [hw, rowsV, List.map_map]; rfl)), ?_, ?_⟩
  · have e : ((r.map S).map (·.length)).sum = r.flatten.length := by
      rw [List.map_map, List.length_flatten]
      rfl
    have e4 : ("" : Str).length = 0 := rfl
    rw [e, e4]
    omega
  refine ⟨_, rfl, fun D hD => ?_⟩
  rw [join_rows]
  refine lc_gen walk_str (fun i l _ => l = ((r.flatten.take i).filter fun c => decide (c ∈ ([97, 98, 99, 100] : List Nat))).map fun c => V.str (S [c])) hD (fun _ _ => trivial) (by show r.flatten.length ≤ sizeLine; exact small (by omega)) (fun _ _ _ _ _ r => r) rfl ?_ ?_
  · intro i l x H2 H3 hi s2 rl y Kn El hk he
    obtain ⟨rfl, c, hc, rfl⟩ := y
    have hc2 : r.flatten[i]? = some c := by simpa using hc
    refine ⟨rfl, ?_⟩
    refine ⟨_, rfl, c, _, rfl, rfl, _, rfl, ?_⟩
    rw [lE, in_dec]
    by_cases e : c ∈ ([97, 98, 99, 100] : List Nat)
    · rw [decide_eq_true e]
      refine iteT ⟨_, rfl, hk _ _ (Same.refl _) ?_⟩
      rw [rl, take_succ_filter hc2, if_pos (decide_eq_true e), List.map_append]
      rfl
    · rw [decide_eq_false e]
      refine iteF (he _ (Same.refl _) ?_)
      rw [rl, take_succ_filter hc2, if_neg (by rw [decide_eq_false e]; decide), List.append_nil]
  intro l H2 s2 e2 hn rl
  rw [show (S r.flatten).cps.size = r.flatten.length by simp, List.take_length] at rl
  have fl2 : (r.flatten.filter fun c => decide (c ∈ ([97, 98, 99, 100] : List Nat))).length ≤ 25 := Nat.le_trans (List.length_filter_le _ _) fl
  have hmem := letters_flat r
  generalize r.flatten.filter (fun c => decide (c ∈ ([97, 98, 99, 100] : List Nat))) = base at rl fl2 hmem
  refine ⟨D, base.map fun c => S [c], rfl, SqL.of (by rw [e2, rl, List.map_map]; rfl), by rw [List.length_map]; omega, fun sx ys hsx hys hyl => ?_⟩
  rw [nox_w]
  have s3 := Same.then_new (o := SetXO w sx ys) s2 hsx
  refine ⟨sx, ys, rfl, upd_same, by rw [List.length_map] at hyl; omega, fun zs pl hz hzn hpl => ?_⟩
  have s4 := Same.then_new (o := .lst (zs.map V.str)) s3 hpl
  obtain ⟨cs, rfl⟩ := strs_of zs fun x hx => by
    obtain ⟨c, _, e⟩ := List.mem_map.mp ((hys x).mp (hz.mem_iff.mp hx))
    exact ⟨c, e.symm⟩
  have cn : cs.Nodup := nodup_of_map hzn
  have cm : ∀ c, c ∈ cs ↔ c ∈ lettersOf r := fun c => by rw [← one_mem, hz.mem_iff, hys, one_mem, hmem]
  have cl : cs.length ≤ 25 := by
    have h1 := hz.length_eq
    rw [List.length_map] at h1 hyl
    omega
  have el4 : (upd (upd H2 sx (SetXO w sx ys)) pl (.lst ((cs.map fun c => S [c]).map V.str))) pl = some (.lst ((cs.map fun c => S [c]).map V.str)) := upd_same
  have hplH : H pl = none := s3.free hpl
  generalize (upd (upd H2 sx (SetXO w sx ys)) pl (.lst ((cs.map fun c => S [c]).map V.str))) = H4 at s4 el4 ⊢
  have hpla : pl ≠ a := hs.ne hplH
  -- the dict, its rows and its start
  refine fun d hd => ?_
  have hdH : H d = none := s4.free hd
  have hda : d ≠ a := hs.ne hdH
  have s5 := Same.then_new (o := .dK []) s4 hd
  have sl5 : Same H4 (upd H4 d (.dK [])) := Same.new hd
  have ed5 : (upd H4 d (.dK [])) d = some (.dK []) := upd_same
  generalize upd H4 d (.dK []) = H5 at s5 sl5 ed5 ⊢
  refine ⟨_, rfl, _, rfl, _, rfl, pr, r, [46, 97, 98, 99, 100], by rw [openE]; rfl, s5 _ _ hw, R, fun sp us H6 s6 hsp esp psp => ?_⟩
  have hs6 := hs.same (s5.trans s6)
  have usl : us ≠ [] := fun z => by
    have h := psp.len
    rw [z] at h
    exact ho (List.length_eq_zero_iff.mp h.symm)
  have usn : us.length ≤ 25 := by rw [psp.len]; exact spots_len R _
  have hspa : sp ≠ a := (hs.same s5).ne hsp
  refine ⟨a, .ref sp, rfl, hs6, .inl ⟨sp, us, rfl, SqL.of esp, hspa, usl, by omega, fun H7 u s7 hu7 => ?_⟩⟩
  obtain ⟨p, hp, hup⟩ := psp.mem hu7
  refine ⟨_, rfl, a, rfl, s7.src, fun H8 t s8 ht => ?_⟩
  have b68 := s7.trans s8
  have hup8 := hup.keep (SrcB.keepT hs6 b68)
  refine ⟨by show 2 ≤ sizeLine; decide, fun st hst => ?_⟩
  have s9 := Same.new (o := .tup [u, .str (S t)]) hst
  have hup9 := pl_same hup8 s9
  have pv9 : PV K (upd H8 st (.tup [u, .str (S t)])) (.ref st) (some (p, t)) := ⟨st, u, rfl, SqT.of upd_same, hup9⟩
  have b59 : SrcB a H5 (upd H8 st (.tup [u, .str (S t)])) := ((SrcB.of (hs.same s5) s6).trans b68).seq s9
  generalize upd H8 st (.tup [u, .str (S t)]) = H9 at b59 pv9 ⊢
  have ed9 := b59.but _ _ hda ed5
  have el9 := b59.but _ _ hpla (sl5 _ _ el4)
  have b9 : SrcB a H H9 := (SrcB.of hs s5).trans b59
  refine ⟨ed9, [((Sum.inr "rows" : Key), .ref pr), (Sum.inr "start", .ref st)], rfl, by show 2 ≤ 15; decide, ?_⟩
  have kt10 : KeepT H9 (upd H9 d (.dK (mergeK [] [((Sum.inr "rows" : Key), .ref pr), (Sum.inr "start", .ref st)]))) := keepT_at (noTup_dK ed9)
  have b10 : SrcB a H (upd H9 d (.dK (mergeK [] [((Sum.inr "rows" : Key), .ref pr), (Sum.inr "start", .ref st)]))) := b9.upd hdH hda
  have ed10 : (upd H9 d (.dK (mergeK [] [((Sum.inr "rows" : Key), .ref pr), (Sum.inr "start", .ref st)]))) d = some (.dK [((Sum.inr "rows" : Key), .ref pr), (Sum.inr "start", .ref st)]) := by rw [upd_same]; rfl
  have hpld : pl ≠ d := fun z => by rw [z, hd] at el4; cases el4
  have el10 : (upd H9 d (.dK (mergeK [] [((Sum.inr "rows" : Key), .ref pr), (Sum.inr "start", .ref st)]))) pl = some (.lst ((cs.map fun c => S [c]).map V.str)) := by rw [upd_ne hpld]; exact el9
  have pv10 := pv9.keep kt10
  generalize upd H9 d (.dK (mergeK [] [((Sum.inr "rows" : Key), .ref pr), (Sum.inr "start", .ref st)])) = H10 at b10 ed10 el10 pv10 ⊢
  -- the book
  refine ⟨_, rfl, pl, rfl, ⟨_, SqL.of el10⟩, fun D2 hD2 => ?_⟩
  have src10 := b10.src
  refine lc_src (a := a) (walk_list (xs := (cs.map fun c => S [c]).map V.str)) (fun i l H => ∃ (ps : List Addr) (kvs : List (Nat × List Nat)), l = ps.map V.ref ∧ kvs.map (·.1) = cs.take i ∧ (∀ p ∈ kvs, p.2 ∈ turns8) ∧ Paired (fun p (kv : Key × V) => SqT K H p [kV kv.1, kv.2]) ps (kvB kvs))
    hD2 src10 (fun _ s => seq_but (SqL.of el10) hpla s.but) (by rw [List.length_map, List.length_map]; exact small (by omega)) ?_ ⟨[], [], rfl, rfl, (fun _ h => nomatch h), .nil⟩ ?_ ?_
  · rintro i l H' l0 l1 e ⟨ps, kvs, q1, q2, q3, q4⟩
    exact ⟨ps, kvs, q1, q2, q3, Paired.mapP q4 fun _ _ z => sqT_keep z (keepT_upd e)⟩
  · intro i l x H11 H12 hi s11 hl _ rl y Kn El hk he
    obtain ⟨rfl, hx⟩ := y
    rw [List.map_map, List.getElem?_map] at hx
    obtain ⟨c, hc, rfl⟩ := Option.map_eq_some_iff.mp hx
    obtain ⟨ps, kvs, rfl, q2, q3, q4⟩ := rl
    refine ⟨rfl, ?_⟩
    refine ⟨_, rfl, _, rfl, a, rfl, s11.src, fun H13 t2 s13 ht2 => ?_⟩
    refine ⟨by show 2 ≤ sizeLine; decide, fun v hv => ?_⟩
    have s14 := s13.seq (Same.new (o := .tup [.str (S [c]), .str (S t2)]) hv)
    refine hk _ _ s14 ⟨ps ++ [v], kvs ++ [(c, t2)], by simp, ?_, fun q hq => ?_, ?_⟩
    · rw [List.map_append, q2, List.take_succ, hc]
      rfl
    · rcases List.mem_append.mp hq with hq | hq
      · exact q3 q hq
      · rw [List.mem_singleton.mp hq]
        exact ht2
    · have kt := SrcB.keepT s11.src s14
      have e : kvB (kvs ++ [(c, t2)]) = kvB kvs ++ [(Sum.inr (S [c]), V.str (S t2))] := by simp [kvB]
      rw [e]
      have app : ∀ {ps : List Addr} {m : List (Key × V)}, Paired (fun p (kv : Key × V) => SqT K (upd H13 v (.tup [.str (S [c]), .str (S t2)])) p [kV kv.1, kv.2]) ps m → Paired (fun p (kv : Key × V) => SqT K (upd H13 v (.tup [.str (S [c]), .str (S t2)])) p [kV kv.1, kv.2]) (ps ++ [v]) (m ++ [(Sum.inr (S [c]), V.str (S t2))]) := by
        intro ps m h
        induction h with
        | nil => exact .cons (SqT.of upd_same) .nil
        | cons r _ ih => exact .cons r ih
      exact app (Paired.mapP q4 fun _ _ z => sqT_keep z kt)
  intro l H11 s11 e11 hn11 rl
  obtain ⟨ps, kvs, rfl, q2, q3, q4⟩ := rl
  rw [List.length_map, List.length_map, List.take_length] at q2
  refine ⟨D2, ps, kvB kvs, rfl, SqL.of e11, q4, fun pb hpb => ?_⟩
  have hkn : (kvs.map (·.1)).Nodup := by rw [q2]; exact cn
  have ebk : mergeK [] (kvB kvs) = bkK cs (bkOf kvs) := by
    rw [kvB_bk hkn, q2]
    exact mergeK_bk (bkOf kvs) cs [] (by simpa using cn)
  rw [ebk]
  have s12 : SrcB a H10 (upd H11 pb (.dK (bkK cs (bkOf kvs)))) := s11.seq (Same.new hpb)
  have epb : (upd H11 pb (.dK (bkK cs (bkOf kvs)))) pb = some (.dK (bkK cs (bkOf kvs))) := upd_same
  have ed12 := s12.but _ _ hda ed10
  have hpbd : pb ≠ d := fun z => by rw [z, s11.but _ _ hda ed10] at hpb; cases hpb
  have hpba : pb ≠ a := s11.src.ne hpb
  generalize upd H11 pb (.dK (bkK cs (bkOf kvs))) = H12 at s12 epb ed12 ⊢
  have pv12 := pv10.keep (SrcB.keepT src10 s12)
  refine ⟨_, rfl, d, _, rfl, DPut.k (k := Sum.inr "book") ed12 (by show 2 < sizeLine; decide), ?_⟩
  have b12 : SrcB a H H12 := b10.trans s12
  have b13 := b12.upd (o := .dK (putK [((Sum.inr "rows" : Key), V.ref pr), (Sum.inr "start", .ref st)] (Sum.inr "book") (.ref pb))) hdH hda
  have kt13 := keepT_at (o := .dK (putK [((Sum.inr "rows" : Key), V.ref pr), (Sum.inr "start", .ref st)] (Sum.inr "book") (.ref pb))) (noTup_dK ed12)
  have ed13 : (upd H12 d (.dK (putK [((Sum.inr "rows" : Key), V.ref pr), (Sum.inr "start", .ref st)] (Sum.inr "book") (.ref pb)))) d = some (.dK [((Sum.inr "rows" : Key), .ref pr), (Sum.inr "start", .ref st), (Sum.inr "book", .ref pb)]) := by rw [upd_same]; rfl
  have epb13 : (upd H12 d (.dK (putK [((Sum.inr "rows" : Key), V.ref pr), (Sum.inr "start", .ref st)] (Sum.inr "book") (.ref pb)))) pb = some (.dK (bkK cs (bkOf kvs))) := by rw [upd_ne hpbd]; exact epb
  have pv13 := pv12.keep kt13
  generalize upd H12 d (.dK (putK [((Sum.inr "rows" : Key), V.ref pr), (Sum.inr "start", .ref st)] (Sum.inr "book") (.ref pb))) = H13 at b13 ed13 epb13 pv13 ⊢
  -- all places
  refine ⟨_, rfl, pr, r, [35, 46, 126, 120, 97, 98, 99, 100], by rw [allE]; rfl, b13.but _ _ hpa hw, R, fun ev vs H14 s14 hev eev pev => ?_⟩
  have src14 := b13.src.same s14
  have heva : ev ≠ a := b13.src.ne hev
  have vsl : vs ≠ [] := fun z => by
    have h := pev.len
    rw [z] at h
    exact spots_mono ho (List.length_eq_zero_iff.mp h.symm)
  have vsn : vs.length ≤ 25 := by rw [pev.len]; exact spots_len R _
  -- the wishes
  refine ⟨_, rfl, a, 3, rfl, src14, by decide, by decide, fun n H15 s15 n0 n3 => ?_⟩
  refine ⟨n, rfl, by omega, by omega, fun D3 hD3 => ?_⟩
  refine lc_src (a := a) walk_range (fun i l H => ∃ gs, PLs K H l gs ∧ ∀ g ∈ gs, onF r g = true) hD3 s15.src (fun _ _ => trivial) (small (by omega)) ?_ ⟨[], .nil, fun _ h => nomatch h⟩ ?_ ?_
  · rintro i l H' l0 l1 e ⟨gs, q1, q2⟩
    exact ⟨gs, q1.keep (keepT_upd e), q2⟩
  · intro i l x H16 H17 hi s16 hl _ rl y Kn El hk he
    obtain ⟨rfl, rfl⟩ := y
    obtain ⟨gs, q1, q2⟩ := rl
    have b1416 := s15.trans s16
    refine ⟨rfl, ?_⟩
    refine ⟨_, rfl, _, rfl, a, .ref ev, rfl, s16.src, .inl ⟨ev, vs, rfl, seq_but (SqL.of eev) heva b1416.but, heva, vsl, by omega, fun H18 u2 s18 hu2 => ?_⟩⟩
    obtain ⟨g, hg, hgp⟩ := pev.mem hu2
    have kt := SrcB.keepT src14 (b1416.trans s18)
    refine hk _ _ s18 ⟨gs ++ [g], (q1.keep (SrcB.keepT s16.src s18)).app (PLs.one (hgp.keep kt)), fun x hx => ?_⟩
    rcases List.mem_append.mp hx with hx | hx
    · exact q2 x hx
    · rw [List.mem_singleton.mp hx]
      exact cells_on (List.mem_filter.mp hg).1
  intro l H16 s16 e16 hn16 rl
  obtain ⟨gs, q1, q2w⟩ := rl
  have hgl := q1.len
  obtain ⟨ks, ke, kq, k3⟩ := q1.ks
  have lk : ks.length = gs.length := by
    have := congrArg List.length k3
    simpa using this
  refine ⟨D3, ks, rfl, .inl (SqL.of (by rw [e16, ke])), kq, by omega, fun sx2 L hsx2 L1 L2 L3 => ?_⟩
  rw [nox_prog]
  have s17 : Same H16 (upd H16 sx2 (SetTO P w sx2 L)) := Same.new hsx2
  have LL : L.length ≤ gs.length := by
    have h := len_le_of_sub L3 (U := ks.map (·.2)) fun x hx => by
      obtain ⟨q, hq, rfl⟩ := List.mem_map.mp hx
      exact List.mem_map.mpr ⟨q, L1 q hq, rfl⟩
    rw [List.length_map, List.length_map] at h
    omega
  have shape : ∀ q ∈ L, ∃ g ∈ gs, q.2 = [g.1, g.2] := fun q hq => by
    have h : q.2 ∈ gs.map fun g => [g.1, g.2] := by
      rw [← k3]
      exact List.mem_map.mpr ⟨q, L1 q hq, rfl⟩
    obtain ⟨g, hg, e⟩ := List.mem_map.mp h
    exact ⟨g, hg, e.symm⟩
  refine ⟨sx2, L, 2, 10, rfl, upd_same, fun q hq => sqT_keep (kq q (L1 q hq)) (Same.keepT s17), by decide, fun q hq => ?_, fun L' pw hL' hn' hl' _ hpw => ?_⟩
  · obtain ⟨g, hg, e⟩ := shape q hq
    obtain ⟨⟨o1, o2⟩, o3, o4⟩ := onF_iff.mp (q2w g hg)
    have h6 := R.h6
    have w6 := R.w6
    unfold hgt at o2
    rw [e]
    refine ⟨rfl, fun m hm => ?_⟩
    simp only [List.mem_cons, List.not_mem_nil, or_false] at hm
    rcases hm with rfl | rfl <;> omega
  have s18 := Same.then_new (o := .lst (L'.map fun q => V.ref q.1)) s17 hpw
  have epw : (upd (upd H16 sx2 (SetTO P w sx2 L)) pw (.lst (L'.map fun q => V.ref q.1))) pw = some (.lst (L'.map fun q => V.ref q.1)) := upd_same
  have b18 : SrcB a H13 (upd (upd H16 sx2 (SetTO P w sx2 L)) pw (.lst (L'.map fun q => V.ref q.1))) := (((SrcB.of b13.src s14).trans s15).trans s16).seq s18
  obtain ⟨gs', g1, g2, g4, g5⟩ := pls_back (K := K) (H := upd (upd H16 sx2 (SetTO P w sx2 L)) pw (.lst (L'.map fun q => V.ref q.1))) k3 (fun q hq => L1 q (hL'.mem_iff.mp hq)) (fun q hq => sqT_keep (kq q (L1 q (hL'.mem_iff.mp hq))) (Same.keepT s18)) hn'
  have gl' : gs'.length ≤ 9 := by
    have h1 := g1.len
    rw [List.length_map, hL'.length_eq] at h1
    omega
  have ed18 := b18.but _ _ hda ed13
  have hpwd : pw ≠ d := fun z => by
    have h : (upd H16 sx2 (SetTO P w sx2 L)) pw = none := hpw
    rw [z] at h
    have h2 := s17 _ _ ((((SrcB.of b13.src s14).trans s15).trans s16).but _ _ hda ed13)
    rw [h2] at h
    cases h
  generalize upd (upd H16 sx2 (SetTO P w sx2 L)) pw (.lst (L'.map fun q => V.ref q.1)) = H18 at epw b18 g1 ed18 ⊢
  have pv18 := pv13.keep (SrcB.keepT b13.src b18)
  have epb18 := b18.but _ _ hpba epb13
  refine ⟨_, rfl, d, _, rfl, DPut.k (k := Sum.inr "wished") ed18 (by show 3 < sizeLine; decide), ?_⟩
  have b19 := (b13.trans b18).upd (o := .dK (putK [((Sum.inr "rows" : Key), V.ref pr), (Sum.inr "start", .ref st), (Sum.inr "book", .ref pb)] (Sum.inr "wished") (.ref pw))) hdH hda
  have kt19 := keepT_at (o := .dK (putK [((Sum.inr "rows" : Key), V.ref pr), (Sum.inr "start", .ref st), (Sum.inr "book", .ref pb)] (Sum.inr "wished") (.ref pw))) (noTup_dK ed18)
  refine ⟨_, rfl, k d ⟨r, bkOf kvs⟩ p t _ b19 ⟨pr, .ref st, pb, pw, by rw [upd_same]; rfl, ?_, pv18.keep kt19, ⟨cs, cn, cm, by rw [upd_ne hpbd]; exact epb18⟩, pw, _, gs', rfl, .inl (SqL.of (by rw [upd_ne hpwd]; exact epw)), g1.keep kt19, g2, fun g hg => q2w g (g4 g hg), gl'⟩ ⟨R, bkOf_ok q3⟩ hp ht⟩
  exact b19.but _ _ hpa hw
end
end K79
/-! part W20 -/
/-! The law's made, begun, any_start. -/
namespace K79
open PySem PySem.Spec PyProof.Rows L2
theorem WhV.src {K : PySem.W.Frag} {H H' : Hp} {a : Addr} {v : V} {r : Rows} (h : WhV K H v r) (h0 : Src H a) (s : SrcB a H H') : WhV K H' v r := by
  obtain ⟨sx, sy, sz, hs⟩ := h0
  have kt := s.but.keepT (noTup_lst hs)
  obtain ⟨p, us, gs, e, hu, hp, hr⟩ := h
  refine ⟨p, us, gs, e, ?_, hp.keep kt, hr⟩
  rcases hu with hu | hu
  · by_cases n4 : p = a
    · subst n4
      rcases hu with (hu | ⟨o, hu⟩) | hu
      · rw [hs] at hu
        have e2 : us = [.int sx, .int sy, .int sz] := (HO.lst.inj (Option.some.inj hu)).symm
        rw [e2] at hp
        cases hp with
        | cons r _ =>
          obtain ⟨q, e3, _⟩ := r
          cases e3
      · rw [hs] at hu
        cases hu
      · exact .inl (.inr hu)
    · exact .inl (seq_but hu n4 s.but)
  · exact .inr (sqT_keep hu kt)
theorem LdV.src {K : PySem.W.Frag} {H H' : Hp} {a d : Addr} {L : Land} {x : Post} (h : LdV K H d L x) (O : LandOk L) (h0 : Src H a) (s : SrcB a H H') : LdV K H' d L x := by
  obtain ⟨pr, vs, pb, pw, h1, h2, h3, ⟨ls, l1, l2, l3⟩, h5⟩ := h
  have n2 := rw_ne h2 O.rows h0
  have kt := SrcB.keepT h0 s
  have h5' := h5.src h0 s
  obtain ⟨sx, sy, sz, hs⟩ := h0
  have n1 : d ≠ a := fun z => by rw [z, hs] at h1; cases h1
  have n3 : pb ≠ a := fun z => by rw [z, hs] at l3; cases l3
  exact ⟨pr, vs, pb, pw, s.but _ _ n1 h1, s.but _ _ n2 h2, h3.keep kt, ⟨ls, l1, l2, s.but _ _ n3 l3⟩, h5'⟩
theorem canS_opn {r : Rows} {p : Pl} (h : canS r p = true) (n : sgn r p ≠ 126) : p ∈ opn r := by
  obtain ⟨h1, h2⟩ := Bool.and_eq_true_iff.mp h
  have h3 := of_decide_eq_true h2
  refine List.mem_filter.mpr ⟨cells_mem h1, decide_eq_true ?_⟩
  simp only [List.mem_cons, List.not_mem_nil, or_false] at h3 ⊢
  omega
theorem opn_can {r : Rows} {p : Pl} (h : p ∈ opn r) : canS r p = true := by
  obtain ⟨h1, h2⟩ := List.mem_filter.mp h
  unfold canS
  rw [cells_on h1, Bool.true_and]
  have h3 := of_decide_eq_true h2
  refine decide_eq_true ?_
  simp only [List.mem_cons, List.not_mem_nil, or_false] at h3 ⊢
  omega
theorem ice_can {r : Rows} {p : Pl} (h : p ∈ spotsOf r [126]) : canS r p = true := by
  obtain ⟨h1, h2⟩ := List.mem_filter.mp h
  have h3 := of_decide_eq_true h2
  exact canS_ice (List.mem_singleton.mp h3)
section
variable {P : Program} {w : World} {K : PySem.W.Frag} {mg : Str → Option Value} {base : Heap}
def spMade (K : PySem.W.Frag) : Sp := fun vs H Q _ => ∃ d L p t, vs = [.ref d] ∧ LdV K H d L (some (p, t)) ∧ LandOk L ∧ p ∈ opn L.rows ∧ t ∈ turns8 ∧ ∀ b H', Same H H' → WoV K H' b L (some (p, t)) → Q (.ref b) H'
theorem ok_made (T : Txt K mg) (h1 : C8.Mak P w K mg base 3 "Floor" (cF K) (spFloor K) [])
    (h2 : ∃ fd, FnOk P w K mg base C8.CX0 8 (He.ma K (cW K) "__init__") fd wPs (spWorld K) ∧ FunD K "__init__" "World.__init__" (C8.fnArgs s_World_init) (C8.fnBody s_World_init) (C8.fnScope s_World_init) [] [("turn", .str "urdl"), ("book", .non), ("wishes", .ref (wishDfl K))] (He.ma K (cW K) "__init__") fd) :
    C8.Cal P w K mg base 10 "_law_made" (spMade K) [] := by
  have SC : C8.scC ["_law_land_here", "_law_spot", "_law_sense_here", "_law_floor"] ["_law_land_here"] (C8.fnScope s_law_made) = true := by decide +kernel
  have nd := (C8.fnScope_by SC).nd
  refine cal T.f_law_made SC (fun _ _ _ _ _ _ us hl => match us, hl with | [_], _ => rfl) (fun vs H Q E h => by obtain ⟨_, _, _, _, rfl, _⟩ := h; rfl) (fun f cdv A outer s H vs Q E hr h => ?_)
  obtain ⟨d, L, p, t, rfl, ⟨pr, vst, pb, pw, w1, w2, w3, w4, w5⟩, O, ho, ht, k⟩ := h
  obtain ⟨fd, FO, FD⟩ := h2
  obtain ⟨mv, kb⟩ := kb_made FD
  have hu := hu_of hr
  refine ⟨_, pss_cons (ps_asg (pe_dget hu (pv 0) pe_str (fun _ _ => rfl)) (pg_tup rfl (pgs_cons (pg_name (i := 1) nd rfl (.inl rfl)) (pgs_cons (pg_name (i := 2) nd rfl (.inl rfl)) pgs_nil))))
    (pss_cons (ps_set (i := 3) nd rfl (.inl rfl) (C8.pe_mk h1 hr (by decide) rfl (pa_cons (pe_callTy call_list_of (by rfl) T.b_list (by decide +kernel) (pa_cons (pe_dget hu (pv 0) pe_str (fun _ _ => rfl)) pa_nil)) pa_nil)))
    (pss_one (ps_ret (pe_makeK (n := 2) (E := C8.E0) T.mkW FO (hr.mono (by decide)) (by rfl) T.gW kb C8.pass0 (pa_cons (pv 3) (pa_cons (pv 1) pa_nil))
      (pk_cons (pv 2) (pk_cons (pe_callTy call_dictD (by rfl) T.b_dict (by decide +kernel) (pa_cons (pe_dget hu (pv 0) pe_str (fun _ _ => rfl)) pa_nil)) (pk_cons (pe_callTy call_list_of (by rfl) T.b_list (by decide +kernel) (pa_cons (pe_dget hu (pv 0) pe_str (fun _ _ => rfl)) pa_nil)) pk_nil))))))), ?_⟩
  obtain ⟨q, v', rfl, hq, hp⟩ := w3
  refine ⟨_, rfl, d, _, rfl, dg_at w1 (ld_start _ _ _ _), q, _, rfl, hq, rfl, _, _, rfl, _, _, rfl, rfl, ?_⟩
  refine ⟨_, rfl, d, _, rfl, dg_at w1 (ld_rows _ _ _ _), pr, _, rfl, .inl (SqL.of w2), fun l hl => ?_⟩
  have s1 := Same.new (o := .lst (rowsV L.rows)) hl
  have e1 : (upd H l (.lst (rowsV L.rows))) l = some (.lst (rowsV L.rows)) := upd_same
  generalize upd H l (.lst (rowsV L.rows)) = H1 at s1 e1 ⊢
  refine fun g dg ng ndg hdg => ?_
  have sb : Same H1 (upd (upd H1 dg (.own g)) g (.ins (cF K) dg [])) := fun q o e => by
    rw [upd_ne (ne_of_none e ng), upd_ne (ne_of_none e ndg)]
    exact e
  refine ⟨g, l, L.rows, dg, rfl, upd_same, sb _ _ e1, O.rows, fun H2 b2 hf2 => ?_⟩
  have s2 : Same H1 H2 := SameBut.made ng ndg b2
  have s02 := s1.trans s2
  refine ⟨rfl, ?_⟩
  obtain ⟨ls, l1, l2, l3⟩ := w4
  refine ⟨_, rfl, _, rfl, _, rfl, _, rfl, d, _, rfl, dg_at (s02 _ _ w1) (ld_book _ _ _ _), pb, _, rfl, .inl (s02 _ _ l3), fun p3 hp3 => ?_⟩
  have s3 := Same.new (o := .dK (bkK ls L.book)) hp3
  have e3 : (upd H2 p3 (.dK (bkK ls L.book))) p3 = some (.dK (bkK ls L.book)) := upd_same
  generalize upd H2 p3 (.dK (bkK ls L.book)) = H3 at s3 e3 ⊢
  have s03 := s02.trans s3
  obtain ⟨wp, us, gs, ew, hus, hps, hrest⟩ := w5.same s03
  cases ew
  refine ⟨_, rfl, d, _, rfl, dg_at (s03 _ _ w1) (ld_wished _ _ _ _), pw, us, rfl, hus, fun p4 hp4 => ?_⟩
  have s4 := Same.new (o := .lst us) hp4
  have e4 : (upd H3 p4 (.lst us)) p4 = some (.lst us) := upd_same
  generalize upd H3 p4 (.lst us) = H4 at s4 e4 ⊢
  refine ⟨rfl, rfl, fun b db nb ndb hdb => ?_⟩
  have sc : Same H4 (upd (upd H4 db (.own b)) b (.ins (cW K) db [])) := fun q o e => by
    rw [upd_ne (ne_of_none e nb), upd_ne (ne_of_none e ndb)]
    exact e
  have s24 := s3.trans s4
  refine ⟨b, g, v', t, p3, .ref p4, db, L, p, rfl, upd_same, (hf2.same s24).same sc, O, pl_same hp ((s03.trans s4).trans sc), ho, ht, ⟨ls, l1, l2, sc _ _ (s4 _ _ e3)⟩, ⟨p4, us, gs, rfl, .inl (SqL.of (sc _ _ e4)), hps.keep (Same.keepT (s4.trans sc)), hrest⟩, fun H5 b5 hw5 => ?_⟩
  exact ⟨rfl, k b H5 ((s03.trans s4).trans (SameBut.made nb ndb b5)) hw5⟩
def spLawBegun (K : PySem.W.Frag) : Sp := fun vs H Q _ => ∃ d L x, vs = [.ref d] ∧ LdV K H d L x ∧ LandOk L ∧ PostOk L.rows x ∧ opn L.rows ≠ [] ∧ ∀ b H', Same H H' → WoV K H' b L x → Q (.ref b) H'
theorem ok_law_begun (T : Txt K mg) (h1 : C8.Cal P w K mg base 1 "_law_sign" (spSign K) []) (h2 : C8.Cal P w K mg base 10 "_law_made" (spMade K) []) (h3 : C8.Cal P w K mg base 1 "_law_spots" (spSpots K) []) (h4 : C8.Met P w K mg base 10 (cW K) "begun" (spBegun K) []) :
    C8.Cal P w K mg base 11 "_law_begun" (spLawBegun K) [] := by
  have SC : C8.scC ["_law_land_here", "_law_here"] ["_law_land_here"] (C8.fnScope s_law_begun) = true := by decide +kernel
  have nd := (C8.fnScope_by SC).nd
  refine cal T.f_law_begun SC (fun _ _ _ _ _ _ us hl => match us, hl with | [_], _ => rfl) (fun vs H Q E h => by obtain ⟨_, _, _, rfl, _⟩ := h; rfl) (fun f cdv A outer s H vs Q E hr h => ?_)
  obtain ⟨d, L, x, rfl, hd, O, hx, ho, k⟩ := h
  have hu := hu_of hr
  refine ⟨_, pss_cons (ps_if (PW.pt (pw_and (pt_cmpR op_notN (pe_dget hu (pv 0) pe_str (fun _ _ => rfl)) pe_non (nomark _)) (pw_and1 (pt_cmpR op_ne (C8.pe_c h1 hr (by decide) rfl (pa_cons (pe_dget hu (pv 0) pe_str (fun _ _ => rfl)) (pa_cons (pe_ix ix_tup (pe_dget hu (pv 0) pe_str (fun _ _ => rfl)) pe_int (fun _ _ => rfl)) pa_nil))) pe_str (nomark _)))))
      (pss_one (ps_ret (C8.pe_c h2 hr (by decide) rfl (pa_cons (pv 0) pa_nil)))) pss_nil)
    (pss_cons (ps_set (i := 1) nd rfl (.inl rfl) (pe_callTy call_dictD (by rfl) T.b_dict (by decide +kernel) (pa_cons (pv 0) pa_nil)))
    (pss_cons (ps_dput hu (pv 1) pe_str (pe_tup (pa_cons (pe_ix ix_list (C8.pe_c h3 hr (by decide) rfl (pa_cons (pe_dget hu (pv 0) pe_str (fun _ _ => rfl)) (pa_cons pe_str pa_nil))) pe_int (fun _ _ => rfl)) (pa_cons pe_str pa_nil))) rfl)
    (pss_one (ps_ret (C8.pe_mt h4 hr (by decide) (C8.pe_c h2 hr (by decide) rfl (pa_cons (pv 1) pa_nil)) (pa_cons (pe_dget hu (pv 0) pe_str (fun _ _ => rfl)) pa_nil)))))), ?_⟩
  have hd0 := hd
  obtain ⟨pr, vst, pb, pw, w1, w2, w3, w4, w5⟩ := hd
  have R := O.rows
  have dgs := dg_at w1 (ld_start (.ref pr) vst (.ref pb) (.ref pw))
  have dgr := dg_at w1 (ld_rows (.ref pr) vst (.ref pb) (.ref pw))
  -- the road by another start
  have other : tSeq (tAsg (tCB (fun xs H Q => ∃ a kvs, xs = [.ref a] ∧ Rd H a (.dK kvs) ∧ ∀ p, H p = none → Q (.ref p) (upd H p (.dK kvs))) (tCons (tVar 0) tNil)) (gName 1))
      (tSeq (sDPut (tVar 1) (tC (.str "start")) (tTup (tCons (tOp (rIxL K) (tCall (spSpots K) [] C8.E0 (tCons (tDGet (tVar 0) (tC (.str "rows"))) (tCons (tC (.str ".abcd")) tNil))) (tC (.int 0))) (tCons (tC (.str "drul")) tNil))))
        (tRet (tMeth (cW K) "begun" (spBegun K) [] C8.E0 (tCall (spMade K) [] C8.E0 (tCons (tVar 1) tNil)) (tCons (tDGet (tVar 0) (tC (.str "start"))) tNil))))
      { nx := fun _ H' => Q .non H', rt := Q } [some (.ref d), none] H := by
    refine ⟨_, rfl, d, _, rfl, .inl w1, fun d2 hd2 => ?_⟩
    have s1 := Same.new (o := .dK (ldK (.ref pr) vst (.ref pb) (.ref pw))) hd2
    have e1 : (upd H d2 (.dK (ldK (.ref pr) vst (.ref pb) (.ref pw)))) d2 = some (.dK (ldK (.ref pr) vst (.ref pb) (.ref pw))) := upd_same
    generalize upd H d2 (.dK (ldK (.ref pr) vst (.ref pb) (.ref pw))) = H1 at s1 e1 ⊢
    refine ⟨_, rfl, d, _, rfl, dg_at (s1 _ _ w1) (ld_rows _ _ _ _), pr, L.rows, [46, 97, 98, 99, 100], by rw [openE]; rfl, s1 _ _ w2, R, fun sp us H2 s2 hsp esp psp => ?_⟩
    obtain ⟨g0, gs, eg⟩ : ∃ g0 gs, opn L.rows = g0 :: gs := by
      cases e : opn L.rows with
      | nil => exact absurd e ho
      | cons g0 gs => exact ⟨g0, gs, rfl⟩
    have psp2 : PLs K H2 us (opn L.rows) := psp
    rw [eg] at psp2
    obtain ⟨u0, us', rfl, hu0⟩ : ∃ u0 us', us = u0 :: us' ∧ PlV K H2 u0 g0 := by
      cases psp2 with
      | cons r _ => exact ⟨_, _, rfl, r⟩
    refine ⟨sp, _, _, u0, rfl, rfl, SqL.of esp, atI_nat (j := 0) rfl, ?_⟩
    refine ⟨by show 2 ≤ sizeLine; decide, fun v hv => ?_⟩
    have s3 := Same.new (o := .tup [u0, .str "drul"]) hv
    have e3 : (upd H2 v (.tup [u0, .str "drul"])) v = some (.tup [u0, .str "drul"]) := upd_same
    generalize upd H2 v (.tup [u0, .str "drul"]) = H3 at s3 e3 ⊢
    have s13 := s2.trans s3
    have e13 := s13 _ _ e1
    refine ⟨_, rfl, d2, _, rfl, DPut.k (k := Sum.inr "start") e13 (by show 4 < sizeLine; decide), ?_⟩
    have kt := keepT_at (o := .dK (putK (ldK (.ref pr) vst (.ref pb) (.ref pw)) (Sum.inr "start") (.ref v))) (noTup_dK e13)
    have s4 : Same H (upd H3 d2 (.dK (putK (ldK (.ref pr) vst (.ref pb) (.ref pw)) (Sum.inr "start") (.ref v)))) := same_upd (s1.trans s13) hd2
    have e4 : (upd H3 d2 (.dK (putK (ldK (.ref pr) vst (.ref pb) (.ref pw)) (Sum.inr "start") (.ref v)))) d2 = some (.dK (ldK (.ref pr) (.ref v) (.ref pb) (.ref pw))) := by rw [upd_same]; rfl
    have v4 := sqT_keep (SqT.of (K := K) e3) kt
    have u4 := (pl_same hu0 s3).keep kt
    generalize upd H3 d2 (.dK (putK (ldK (.ref pr) vst (.ref pb) (.ref pw)) (Sum.inr "start") (.ref v))) = H4 at s4 e4 v4 u4 ⊢
    have ed : ("drul" : Str) = S [100, 114, 117, 108] := by decide +kernel
    rw [ed] at v4
    have hg0 : g0 ∈ opn L.rows := by rw [eg]; exact List.mem_cons_self
    refine ⟨_, rfl, d2, L, g0, [100, 114, 117, 108], rfl, ⟨pr, .ref v, pb, pw, e4, s4 _ _ w2, ⟨v, u0, rfl, v4, u4⟩, w4.same s4, w5.same s4⟩, O, hg0, by decide, fun b H5 s5 hb => ?_⟩
    have hb0 := hb
    obtain ⟨dx, g, pd, gt, vop, vf, op, z1, zr⟩ := hb
    have s05 := s4.trans s5
    refine ⟨b, dx, _, rfl, z1, rfl, ?_⟩
    refine ⟨_, rfl, d, _, rfl, dg_at (s05 _ _ w1) (ld_start _ _ _ _), b, L, some (g0, [100, 114, 117, 108]), vst, x, rfl, hb0, O, pv_same w3 s05, hx, fun b2 H6 s6 hb2 => ?_⟩
    exact k b2 H6 (s05.trans s6) hb2
  cases x with
  | none =>
    cases (show vst = .non from w3)
    exact ⟨_, rfl, d, _, rfl, dgs, rfl, _, rfl, iteF (iteF other)⟩
  | some x =>
    obtain ⟨p, t⟩ := x
    have w30 := w3
    obtain ⟨q, v', rfl, hq, hp⟩ := w3
    refine ⟨_, rfl, d, _, rfl, dgs, rfl, _, rfl, iteT ?_⟩
    refine ⟨_, rfl, d, _, rfl, dgr, _, rfl, d, _, rfl, dgs, q, _, _, v', rfl, rfl, hq, atI_nat (j := 0) rfl, ?_⟩
    refine ⟨pr, L.rows, v', p, rfl, w2, R, hp, ?_⟩
    refine ⟨rfl, _, rfl, ?_⟩
    rw [iceE, dec_S, one_eq]
    by_cases ei : sgn L.rows p = 126
    · rw [decide_eq_true ei]
      exact iteF other
    · rw [decide_eq_false ei]
      refine iteT ⟨_, rfl, d, L, p, t, rfl, hd0, O, canS_opn hx.1 ei, hx.2, fun b H' s hb => k b H' s hb⟩
def spAnyStart (K : PySem.W.Frag) : Sp := fun vs H Q _ => ∃ a d L p t, vs = [.ref a, .ref d] ∧ Src H a ∧ LdV K H d L (some (p, t)) ∧ LandOk L ∧ p ∈ opn L.rows ∧ t ∈ turns8 ∧ ∀ d2 x H', SrcB a H H' → LdV K H' d2 L x → PostOk L.rows x → Q (.ref d2) H'
theorem iceTextE : ("~" : Str) = S [126] := iceE
theorem list_empty_eqv (gs : List Pl) : PyData.eqv (.list (gs.map pdPl)) (.list []) = decide (gs = []) := by
  cases gs with
  | nil => simp [PyData.eqv, PyData.eqvAll]
  | cons g gs => simp [PyData.eqv, PyData.eqvAll]
theorem ok_any_start (T : Txt K mg) (h1 : C8.Cal P w K mg base 2 "_law_take" spTake []) (h2 : C8.Cal P w K mg base 3 "_law_one" (spOne K) []) (h3 : C8.Cal P w K mg base 1 "_law_spots" (spSpots K) []) : C8.Cal P w K mg base 4 "_law_any_start" (spAnyStart K) [] := by
  have SC : C8.scC ["_law_source_here", "_law_land_here", "_law_found", "_law_some"] ["_law_source_here", "_law_land_here"] (C8.fnScope s_law_any_start) = true := by decide +kernel
  have nd := (C8.fnScope_by SC).nd
  refine cal T.f_law_any_start SC (fun _ _ _ _ _ _ us hl => match us, hl with | [_, _], _ => rfl) (fun vs H Q E h => by obtain ⟨_, _, _, _, _, rfl, _⟩ := h; rfl) (fun f cdv A outer s H vs Q E hr h => ?_)
  obtain ⟨a, d, L, p, t, rfl, hs, hd, O, ho, ht, k⟩ := h
  have hu := hu_of hr
  refine ⟨_, pss_cons (ps_set (i := 2) nd rfl (.inl rfl) (pe_callTy call_dictD (by rfl) T.b_dict (by decide +kernel) (pa_cons (pv 1) pa_nil)))
    (pss_cons (ps_set (i := 3) nd rfl (.inl rfl) (C8.pe_c h3 hr (by decide) rfl (pa_cons (pe_dget hu (pv 1) pe_str (fun _ _ => rfl)) (pa_cons pe_str pa_nil))))
    (pss_cons (ps_if (PW.pt (pw_and (pt_cmpR (op_neD hr.units) (pv 3) (pe_lst pa_nil) (by rfl)) (pw_and1 (pt_cmpR op_eq (C8.pe_c h1 hr (by decide) rfl (pa_cons (pv 0) (pa_cons pe_int pa_nil))) pe_int (nomark _)))))
      (pss_one (ps_dput hu (pv 2) pe_str (pe_tup (pa_cons (C8.pe_c h2 hr (by decide) rfl (pa_cons (pv 0) (pa_cons (pv 3) pa_nil))) (pa_cons (pe_ix ix_tup (pe_dget hu (pv 1) pe_str (fun _ _ => rfl)) pe_int (fun _ _ => rfl)) pa_nil))) rfl)) pss_nil)
    (pss_cons (ps_if (pt_cmpR op_eq (C8.pe_c h1 hr (by decide) rfl (pa_cons (pv 0) (pa_cons pe_int pa_nil))) pe_int (nomark _)) (pss_one (ps_dput hu (pv 2) pe_str pe_non rfl)) pss_nil)
    (pss_one (ps_ret (pv 2)))))), ?_⟩
  have R := O.rows
  have hd0 := hd
  obtain ⟨pr, vst, pb, pw, w1, w2, w3, w4, w5⟩ := hd
  refine ⟨_, rfl, d, _, rfl, .inl w1, fun d2 hd2 => ?_⟩
  have s1 := Same.new (o := .dK (ldK (.ref pr) vst (.ref pb) (.ref pw))) hd2
  have e1 : (upd H d2 (.dK (ldK (.ref pr) vst (.ref pb) (.ref pw)))) d2 = some (.dK (ldK (.ref pr) vst (.ref pb) (.ref pw))) := upd_same
  generalize upd H d2 (.dK (ldK (.ref pr) vst (.ref pb) (.ref pw))) = H1 at s1 e1 ⊢
  have hd2a : d2 ≠ a := hs.ne hd2
  refine ⟨_, rfl, d, _, rfl, dg_at (s1 _ _ w1) (ld_rows _ _ _ _), pr, L.rows, [126], by rw [iceE]; rfl, s1 _ _ w2, R, fun sp us H2 s2 hsp esp psp => ?_⟩
  have s02 := s1.trans s2
  have hspa : sp ≠ a := (hs.same s1).ne hsp
  have e2 := s2 _ _ e1
  -- the last drawing
  have fin : ∀ (H' : Hp) (x : Post), SrcB a H H' → LdV K H' d2 L x → PostOk L.rows x → tSeq (tIfS (tTest (tOp rEq (tCall spTake [] C8.E0 (tCons (tVar 0) (tCons (tC (.int 12)) tNil))) (tC (.int 0)))) (sDPut (tVar 2) (tC (.str "start")) (tC .non)) tNext) (tRet (tVar 2))
      { nx := fun _ H' => Q .non H', rt := Q } [some (.ref a), some (.ref d), some (.ref d2), some (.ref sp)] H' := fun H' x b hl hx => by
    refine ⟨_, rfl, a, _, rfl, b.src, by decide, by decide, fun r H3 s3 r0 r1 => ?_⟩
    refine ⟨rfl, _, rfl, ?_⟩
    have hl3 := hl.src O b.src s3
    have b3 := b.trans s3
    refine ite2 (fun _ => ?_) (fun _ => ?_)
    · obtain ⟨pr', vst', pb', pw', z1, z2, z3, z4, z5⟩ := hl3
      refine ⟨_, rfl, d2, _, rfl, DPut.k (k := Sum.inr "start") z1 (by show 4 < sizeLine; decide), ?_⟩
      have b4 := b3.upd (o := .dK (putK (ldK (.ref pr') vst' (.ref pb') (.ref pw')) (Sum.inr "start") .non)) hd2 hd2a
      have kt := keepT_at (o := .dK (putK (ldK (.ref pr') vst' (.ref pb') (.ref pw')) (Sum.inr "start") .non)) (noTup_dK z1)
      have n1 : pr' ≠ d2 := fun z => by
        have z2 : H3 pr' = some (.lst (rowsV L.rows)) := z2
        rw [z, z1] at z2
        cases z2
      obtain ⟨ls, l1, l2, l3⟩ := z4
      -- the book lies elsewhere: its keys are single letters
      have n2 : pb' ≠ d2 := fun z => by
        rw [z, z1] at l3
        have e := HO.dK.inj (Option.some.inj l3)
        cases ls with
        | nil => cases e
        | cons c ls =>
          have e2 := (Prod.mk.inj (List.cons.inj e).1).1
          have e3 : ("rows" : Str) = S [c] := Sum.inr.inj e2
          have e4 : ("rows" : Str).cps.size = (S [c]).cps.size := by rw [e3]
          exact absurd e4 (by show ¬ ("rows" : Str).cps.size = 1; decide +kernel)
      obtain ⟨wp, us', gs', q1, q2, q3, q4⟩ := z5
      refine ⟨_, rfl, k d2 none _ b4 ⟨pr', .non, pb', pw', by rw [upd_same]; rfl, ?_, rfl, ⟨ls, l1, l2, by rw [upd_ne n2]; exact l3⟩, wp, us', gs', q1, ?_, q3.keep kt, q4⟩ trivial⟩
      · show (upd H3 d2 _) pr' = _
        rw [upd_ne n1]
        exact z2
      · rcases q2 with ((q2 | ⟨o, q2⟩) | q2) | q2
        · exact .inl (.inl (.inl (by rw [upd_ne (fun z => by rw [z, z1] at q2; cases q2)]; exact q2)))
        · exact .inl (.inl (.inr ⟨o, by rw [upd_ne (fun z => by rw [z, z1] at q2; cases q2)]; exact q2⟩))
        · exact .inl (.inr q2)
        · exact .inr (sqT_keep q2 kt)
    · exact ⟨_, rfl, k d2 x _ b3 hl3 hx⟩
  have ld2 : LdV K H2 d2 L (some (p, t)) := ⟨pr, vst, pb, pw, e2, s02 _ _ w2, pv_same w3 s02, w4.same s02, w5.same s02⟩
  have px : PostOk L.rows (some (p, t)) := ⟨opn_can ho, ht⟩
  refine ⟨_, rfl, by show 0 ≤ sizeLine; decide, fun z0 hz0 => ?_⟩
  have s3 := Same.new (o := .lst []) hz0
  have e3 : (upd H2 z0 (.lst [])) z0 = some (.lst []) := upd_same
  generalize upd H2 z0 (.lst []) = H3 at s3 e3 ⊢
  have s03 := s02.trans s3
  refine ⟨_, _, .lst (SqL.of (s3 _ _ esp)) (PLs.dp (psp.keep (Same.keepT s3))), .lst (SqL.of e3) .nil, pls_shaped _, by decide, _, rfl, ?_⟩
  rw [list_empty_eqv]
  have b3 : SrcB a H H3 := .of hs s03
  by_cases hn : spotsOf L.rows [126] = []
  · rw [decide_eq_true hn]
    exact iteF (iteF (fin H3 _ b3 (ld2.same s3) px))
  · rw [decide_eq_false hn]
    refine iteT ⟨_, rfl, a, _, rfl, b3.src, by decide, by decide, fun r H4 s4 r0 r1 => ?_⟩
    refine ⟨rfl, _, rfl, ?_⟩
    have b4 := b3.trans s4
    have ld4 := (ld2.same s3).src O b3.src s4
    refine ite2 (fun _ => ?_) (fun _ => fin H4 _ b4 ld4 px)
    have usl : us ≠ [] := fun z => by
      have h := psp.len
      rw [z] at h
      exact hn (List.length_eq_zero_iff.mp h.symm)
    have usn : us.length ≤ 25 := by rw [psp.len]; exact spots_len R _
    have esp4 : SqL K H4 sp us := seq_but (SqL.of (s3 _ _ esp)) hspa s4.but
    refine ⟨_, rfl, _, rfl, a, .ref sp, rfl, b4.src, .inl ⟨sp, us, rfl, esp4, hspa, usl, by omega, fun H5 u s5 hu5 => ?_⟩⟩
    obtain ⟨g, hg, hgp⟩ := psp.mem hu5
    have b5 := b4.trans s5
    have kt25 : KeepT H2 H5 := (Same.keepT s3).trans (SrcB.keepT b3.src (s4.trans s5))
    have ld0 : LdV K H5 d L (some (p, t)) := hd0.src O hs b5
    obtain ⟨pr', vst', pb', pw', y1, y2, y3, y4, y5⟩ := ld0
    obtain ⟨q, v', rfl, hq, hp⟩ := y3
    refine ⟨_, rfl, d, _, rfl, dg_at y1 (ld_start _ _ _ _), q, _, _, _, rfl, rfl, hq, atI_nat (j := 1) rfl, ?_⟩
    refine ⟨by show 2 ≤ sizeLine; decide, fun v hv => ?_⟩
    have s6 := Same.new (o := .tup [u, .str (S t)]) hv
    have e6 : (upd H5 v (.tup [u, .str (S t)])) v = some (.tup [u, .str (S t)]) := upd_same
    have ld5 := (ld4.src O b4.src s5).same s6
    have hgp6 := (hgp.keep kt25).keep (Same.keepT s6)
    have b6 := b5.seq s6
    generalize upd H5 v (.tup [u, .str (S t)]) = H6 at s6 e6 ld5 hgp6 b6 ⊢
    obtain ⟨pr2, vst2, pb2, pw2, z1, z2, z3, z4, z5⟩ := ld5
    refine ⟨_, rfl, d2, _, rfl, DPut.k (k := Sum.inr "start") z1 (by show 4 < sizeLine; decide), ?_⟩
    have b7 := b6.upd (o := .dK (putK (ldK (.ref pr2) vst2 (.ref pb2) (.ref pw2)) (Sum.inr "start") (.ref v))) hd2 hd2a
    have kt := keepT_at (o := .dK (putK (ldK (.ref pr2) vst2 (.ref pb2) (.ref pw2)) (Sum.inr "start") (.ref v))) (noTup_dK z1)
    have n1 : pr2 ≠ d2 := fun z => by
      have z2 : H6 pr2 = some (.lst (rowsV L.rows)) := z2
      rw [z, z1] at z2
      cases z2
    obtain ⟨ls, l1, l2, l3⟩ := z4
    have n2 : pb2 ≠ d2 := fun z => by
      rw [z, z1] at l3
      have e := HO.dK.inj (Option.some.inj l3)
      cases ls with
      | nil => cases e
      | cons c ls =>
        have e2 := (Prod.mk.inj (List.cons.inj e).1).1
        have e3 : ("rows" : Str) = S [c] := Sum.inr.inj e2
        have e4 : ("rows" : Str).cps.size = (S [c]).cps.size := by rw [e3]
        exact absurd e4 (by show ¬ ("rows" : Str).cps.size = 1; decide +kernel)
    obtain ⟨wp, us', gs', q1, q2, q3, q4⟩ := z5
    refine fin _ (some (g, t)) b7 ⟨pr2, .ref v, pb2, pw2, by rw [upd_same]; rfl, ?_, ⟨v, u, rfl, sqT_keep (SqT.of e6) kt, hgp6.keep kt⟩, ⟨ls, l1, l2, by rw [upd_ne n2]; exact l3⟩, wp, us', gs', q1, ?_, q3.keep kt, q4⟩ ⟨ice_can hg, ht⟩
    · show (upd H6 d2 _) pr2 = _
      rw [upd_ne n1]
      exact z2
    · rcases q2 with ((q2 | ⟨o, q2⟩) | q2) | q2
      · exact .inl (.inl (.inl (by rw [upd_ne (fun z => by rw [z, z1] at q2; cases q2)]; exact q2)))
      · exact .inl (.inl (.inr ⟨o, by rw [upd_ne (fun z => by rw [z, z1] at q2; cases q2)]; exact q2⟩))
      · exact .inl (.inr q2)
      · exact .inr (sqT_keep q2 kt)
end
end K79
/-! part W21 -/
/-! The law's right and again_right. -/
namespace K79
open PySem PySem.Spec PyProof.Rows L2
def pdCm (c : Nat × Nat) : PyData := .tuple [.int (c.1 : Nat), .str (S [c.2])]
theorem let_strOk {c : Nat} (h : isLet c = true) : PyData.strOk (S [c]) = true := by
  have h2 : ∀ c ∈ ([97, 98, 99, 100] : List Nat), PyData.strOk (S [c]) = true := by decide +kernel
  exact h2 c (of_decide_eq_true h)
theorem comd_let (r : Rows) : ∀ (l : List Post) (b : Nat), ∀ c ∈ comd r b l, isLet c.2 = true
  | [], _, c, h => nomatch h
  | [_], _, c, h => nomatch h
  | a :: n :: rest, b, c, h => by
    rw [comd_two] at h
    rcases List.mem_append.mp h with h | h
    · unfold cst at h
      split at h
      · split at h
        · rename_i e
          rw [List.mem_singleton.mp h]
          exact e.2
        · cases h
      · cases h
    · exact comd_let r (n :: rest) (b + 1) c h
theorem cms_lay : ∀ l : List (Nat × Nat), (∀ c ∈ l, isLet c.2 = true) → PyData.canLayAll0 (l.map pdCm) = true
  | [], _ => by simp [PyData.canLayAll0]
  | c :: l, h => by
    have e := let_strOk (h c List.mem_cons_self)
    simp [PyData.canLayAll0, pdCm, PyData.canLay0, e, cms_lay l fun d hd => h d (List.mem_cons_of_mem _ hd)]
theorem cms_depth : ∀ l : List (Nat × Nat), PyData.depthAll (l.map pdCm) ≤ 1
  | [] => by simp [PyData.depthAll]
  | c :: l => by
    have h1 := cms_depth l
    have h2 : (pdCm c).depth ≤ 1 := by simp [pdCm, PyData.depth, PyData.depthAll]
    simp only [List.map_cons, PyData.depthAll]
    omega
theorem cms_shaped {l : List (Nat × Nat)} (h : ∀ c ∈ l, isLet c.2 = true) : SeqAt.shaped (.list (l.map pdCm)) = true := by
  have h1 := cms_depth l
  show (PyData.canLay0 (.list (l.map pdCm)) && decide (PyData.depth (.list (l.map pdCm)) ≤ 64)) = true
  rw [show PyData.canLay0 (.list (l.map pdCm)) = PyData.canLayAll0 (l.map pdCm) by simp only [PyData.canLay0], cms_lay l h, Bool.true_and]
  refine decide_eq_true ?_
  simp only [PyData.depth]
  omega
theorem cms_refl (l : List (Nat × Nat)) : PyData.eqv (.list (l.map pdCm)) (.list (l.map pdCm)) = true := by
  have h : ∀ l : List (Nat × Nat), PyData.eqvAll (l.map pdCm) (l.map pdCm) = true := by
    intro l
    induction l with
    | nil => simp [PyData.eqvAll]
    | cons c l ih => simp [PyData.eqvAll, pdCm, PyData.eqv] ; exact ih
  simp only [PyData.eqv]
  exact h l
theorem CmsV.dp {K : PySem.W.Frag} {H : Hp} : ∀ {vs : List V} {xs : List (Nat × Nat)}, CmsV K H vs xs → DpAll K H vs (xs.map pdCm)
  | _, _, .nil => .nil
  | _, _, .cons h t => .cons (by
    obtain ⟨q, rfl, s⟩ := h
    exact .tup s (.cons (.int _) (.cons (.str _) .nil))) (CmsV.dp t)
theorem Say.all {α : Type} [DecidableEq α] {F : α → α} {Pr : α → Prop} {l r : List α} {n : Nat} (s : Say F l r n) (hF : ∀ x, Pr x → Pr (F x)) (hl : ∀ x ∈ l, Pr x) : ∀ x ∈ r, Pr x := by
  induction s with
  | stop _ _ => exact hl
  | go h1 _ _ ih =>
    refine ih fun y hy => ?_
    rcases List.mem_append.mp hy with hy | hy
    · exact hl y hy
    · rw [List.mem_singleton.mp hy]
      exact hF _ (hl _ (List.mem_of_getLast? h1))
theorem say_phi {L : Land} (O : LandOk L) {h l : List Nat} (hh : h ∈ turns8) {x : Post} (hx : PostOk L.rows x) {R R' : List Post} {n n' : Nat} (s : Say (fun y => last L y (bec h l)) [x] R n) (s' : Say (fun y => last L y l) [phi h x] R' n') : R' = R.map (phi h) ∧ n' = n := by
  have h2 := Say.map (G := fun y => last L y l) (φ := phi h) (Pr := PostOk L.rows) (phi_inj hh) (fun y hy => last_phi O hh l hy) (fun y hy => last_ok O _ hy) s (fun y hy => by rw [List.mem_singleton.mp hy]; exact hx)
  exact s'.fn h2
theorem beat_phi {L : Land} (O : LandOk L) {h l : List Nat} (hh : h ∈ turns8) {R : List Post} (hR : ∀ y ∈ R, PostOk L.rows y) (n b : Nat) : atBeat L (R.map (phi h)) n l b = phi h (atBeat L R n (bec h l) b) := by
  have hg : ∀ k, (R.map (phi h)).getD k none = phi h (R.getD k none) := fun k => by
    rw [List.getD_eq_getElem?_getD, List.getD_eq_getElem?_getD, List.getElem?_map]
    cases R[k]? with
    | none => rfl
    | some y => rfl
  have hok : ∀ k, PostOk L.rows (R.getD k none) := fun k => by
    rw [List.getD_eq_getElem?_getD]
    cases e : R[k]? with
    | none => trivial
    | some y => exact hR y (List.mem_of_getElem? e)
  unfold atBeat
  dsimp only
  rw [List.length_map, bec_len, hg, last_phi O hh _ (hok _), bec_take]
section
variable {P : Program} {w : World} {K : PySem.W.Frag} {mg : Str → Option Value} {base : Heap}
def spRight (K : PySem.W.Frag) : Sp := fun vs H Q _ => ∃ a b d L x h l, vs = [.ref a, .ref b, .ref d, .str (S h), .str (S l)] ∧ WoV K H a L x ∧ WoV K H b L (phi h x) ∧ LdV K H d L x ∧ LandOk L ∧ PostOk L.rows x ∧ h ∈ turns8 ∧ (∀ c ∈ l, c ∈ deeds) ∧ l.length ≤ 800 ∧ ∀ H', Same H H' → Q (.bl true) H'
theorem ok_right (T : Txt K mg) (h1 : C8.Cal P w K mg base 1 "_law_becomes" spBecomes []) (h2 : C8.Cal P w K mg base 4 "_law_gone" (spLawGone K) []) (h3 : C8.Cal P w K mg base 3 "_law_post_turned" (spPostTurned K) []) (h4 : C8.Met P w K mg base 10 (cW K) "walk" (spWalk K) []) (h5 : C8.Met P w K mg base 11 (cW K) "comings" (spComings K) []) :
    C8.Cal P w K mg base 12 "_law_right" (spRight K) [] := by
  have SC : C8.scC ["_law_it", "_law_far", "_law_land_here", "_law_sense_here", "_law_line_here", "_law_other", "_law_gone_here", "_law_due", "_law_post"] ["_law_it", "_law_far", "_law_land_here", "_law_sense_here", "_law_line_here"] (C8.fnScope s_law_right) = true := by decide +kernel
  have nd := (C8.fnScope_by SC).nd
  refine cal T.f_law_right SC (fun _ _ _ _ _ _ us hl => match us, hl with | [_, _, _, _, _], _ => rfl) (fun vs H Q E h => by obtain ⟨_, _, _, _, _, _, _, rfl, _⟩ := h; rfl) (fun f cdv A outer s H vs Q E hr h => ?_)
  obtain ⟨a, b, d, L, x, h, l, rfl, wa, wb, ld, O, hx, hh, hl, hz, k⟩ := h
  refine ⟨_, pss_cons (ps_set (i := 5) nd rfl (.inl rfl) (C8.pe_c h1 hr (by decide) rfl (pa_cons (pv 3) (pa_cons (pv 4) pa_nil))))
    (pss_cons (ps_set (i := 6) nd rfl (.inl rfl) (C8.pe_c h2 hr (by decide) rfl (pa_cons (pv 2) (pa_cons (pv 5) pa_nil))))
    (pss_cons (ps_setLc (i := 7) (own := [("_law_post", 8)]) (g := gName 8) (tt := tYes) rfl nd rfl rfl (sw_true rfl rfl rfl (by decide +kernel)) (pi_list (pv 6)) (blkOk_by (N := ["_law_it", "_law_far", "_law_land_here", "_law_sense_here", "_law_line_here", "_law_other", "_law_gone_here", "_law_due", "_law_post"]) (sc := C8.fnScope s_law_right) (by decide +kernel)) (fun _ _ _ _ _ => pg_name (i := 8) nd rfl (.inl rfl)) (fun _ _ _ _ _ => pts_nil)
      (fun _ _ _ _ _ => C8.pe_c h3 hr (by decide) rfl (pa_cons (pv 8) (pa_cons (pv 3) pa_nil))))
    (pss_cons (ps_if (PW.pt (pw_or (pt_cmpR (op_neD hr.units) (C8.pe_mt h4 hr (by decide) (pv 0) (pa_cons (pv 5) pa_nil)) (pv 6) (nomark _)) (pw_or1 (pt_cmpR (op_neD hr.units) (C8.pe_mt h4 hr (by decide) (pv 1) (pa_cons (pv 4) pa_nil)) (pv 7) (nomark _))))) pss_never pss_nil)
    (pss_one (ps_ret (pe_cmpR (op_eqD hr.units) (C8.pe_mt h5 hr (by decide) (pv 1) (pa_cons (pv 4) pa_nil)) (C8.pe_mt h5 hr (by decide) (pv 0) (pa_cons (pv 5) pa_nil)) (by rfl))))))), ?_⟩
  have hob := bec_deeds hh l
  have hlb : (bec h l).length = l.length := bec_len h l
  have gp := gone_phi O hh l x hx
  have okg := gone_ok O (bec h l) x hx
  have ok2 := phi_ok hh hx
  have cp := comd_phi L.rows h (gone L x (bec h l)) 1
  rw [← gp] at cp
  have gl := gone_len L (bec h l) x
  generalize eo : bec h l = o at hob hlb gp okg cp gl
  refine ⟨_, rfl, _, rfl, h, l, rfl, hh, hl, by omega, fun H1 s1 => ?_⟩
  rw [eo]
  refine ⟨_, rfl, _, rfl, d, L, x, o, rfl, ld.same s1, O, hx, hob, by omega, fun pg us H2 s2 e2 lv => ?_⟩
  have s02 := s1.trans s2
  have ul := lv.len
  refine ⟨_, rfl, pg, rfl, ⟨us, SqL.of e2⟩, fun D hD => ?_⟩
  refine lc_gen walk_list (fun i l H => LV K H l (((gone L x o).take i).map (phi h))) hD (fun _ s => SqL.of (s _ _ e2)) (small (by omega)) (fun _ _ _ _ k r => r.keep k) .nil ?_ ?_
  · intro i l2 y H3 H4 hi s3 rl yy Kn El hk he
    obtain ⟨rfl, hy⟩ := yy
    obtain ⟨z, hz1, hz2⟩ := LV.at lv hy
    refine ⟨rfl, ?_⟩
    refine ⟨_, rfl, _, rfl, y, z, h, rfl, pv_same hz2 s3, (okg z (List.mem_of_getElem? hz1)).tok, hh, fun v' H5 s5 hv' => hk _ _ s5 ?_⟩
    rw [List.take_succ, hz1, List.map_append]
    exact (rl.keep (Same.keepT s5)).app (LV.one hv')
  · intro l2 H3 s3 e3 hn rl
    rw [ul, List.take_length] at rl
    have s03 := s02.trans s3
    have e23 := s3 _ _ e2
    have lv3 := lv.keep (Same.keepT s3)
    have wa3 := wa.same s03
    have wb3 := wb.same s03
    have wa4 := wa3
    obtain ⟨dxa, ga, pda, gta, vopa, vfa, opa, wa1, _⟩ := wa3
    refine ⟨_, rfl, a, dxa, _, rfl, wa1, rfl, _, rfl, a, L, x, o, rfl, wa4, O, hx, hob, by omega, fun p1 us1 H4 s4 e4 lv4 => ?_⟩
    refine ⟨_, rfl, _, _, .lst (SqL.of e4) lv4.dp, .lst (SqL.of (s4 _ _ e23)) (lv3.keep (Same.keepT s4)).dp, pds_shaped (fun y hy => (okg y hy).tok), pds_shaped (fun y hy => (okg y hy).tok), _, rfl, ?_⟩
    rw [pdl_eqv, decide_eq_true rfl]
    refine iteF ?_
    have wb4 := wb3.same s4
    have wb5 := wb4
    obtain ⟨dxb, gb, pdb, gtb, vopb, vfb, opb, wb1, _⟩ := wb4
    refine ⟨_, rfl, b, dxb, _, rfl, wb1, rfl, _, rfl, b, L, phi h x, l, rfl, wb5, O, ok2, hl, by omega, fun p2 us2 H5 s5 e5 lv5 => ?_⟩
    have s35 := s4.trans s5
    rw [gp] at lv5
    have okm : ∀ y ∈ (gone L x o).map (phi h), TOk y := fun y hy => by
      obtain ⟨z, hz, rfl⟩ := List.mem_map.mp hy
      exact (phi_ok hh (okg z hz)).tok
    refine ⟨_, rfl, _, _, .lst (SqL.of e5) lv5.dp, .lst (SqL.of (s35 _ _ e3)) (rl.keep (Same.keepT s35)).dp, pds_shaped okm, pds_shaped okm, _, rfl, ?_⟩
    rw [pdl_eqv, decide_eq_true rfl]
    refine iteF ?_
    refine ⟨_, rfl, b, dxb, _, rfl, s5 _ _ wb1, rfl, _, rfl, b, L, phi h x, l, rfl, wb5.same s5, O, ok2, hl, by omega, fun p3 us3 H6 s6 e6 cv6 => ?_⟩
    have s36 := s35.trans s6
    refine ⟨_, rfl, a, dxa, _, rfl, s36 _ _ wa1, rfl, _, rfl, a, L, x, o, rfl, wa4.same s36, O, hx, hob, by omega, fun p4 us4 H7 s7 e7 cv7 => ?_⟩
    rw [cp] at cv6
    have okc := comd_let L.rows (gone L x o) 1
    refine ⟨_, _, .lst (SqL.of (s7 _ _ e6)) (CmsV.dp (cv6.keep (Same.keepT s7))), .lst (SqL.of e7) (CmsV.dp cv7), cms_shaped okc, cms_shaped okc, ?_⟩
    rw [cms_refl]
    exact k _ ((s03.trans s36).trans s7)
def spAgain (K : PySem.W.Frag) : Sp := fun vs H Q _ => ∃ a b L x h l, ∃ m : Nat, vs = [.ref a, .ref b, .str (S h), .str (S l), .int (m : Int)] ∧ WoV K H a L x ∧ WoV K H b L (phi h x) ∧ LandOk L ∧ PostOk L.rows x ∧ h ∈ turns8 ∧ (∀ c ∈ l, c ∈ deeds) ∧ l ≠ [] ∧ l.length ≤ 800 ∧ m ≤ 1000000000000000000 ∧ ∀ H', Same H H' → Q (.bl true) H'
theorem ok_again (T : Txt K mg) (h1 : C8.Cal P w K mg base 1 "_law_becomes" spBecomes []) (h2 : C8.Met P w K mg base 11 (cW K) "round_of" (spRoundOf K) []) (h3 : C8.Met P w K mg base 11 (cW K) "stand_at" (spStandAt K) []) (h4 : C8.Cal P w K mg base 3 "_law_post_turned" (spPostTurned K) []) :
    C8.Cal P w K mg base 12 "_law_again_right" (spAgain K) [] := by
  have SC : C8.scC ["_law_it", "_law_far", "_law_sense_here", "_law_line_here", "_law_much", "_law_other", "_law_beat_so"] ["_law_it", "_law_far", "_law_sense_here", "_law_line_here", "_law_much"] (C8.fnScope s_law_again_right) = true := by decide +kernel
  have nd := (C8.fnScope_by SC).nd
  refine cal T.f_law_again_right SC (fun _ _ _ _ _ _ us hl => match us, hl with | [_, _, _, _, _], _ => rfl) (fun vs H Q E h => by obtain ⟨_, _, _, _, _, _, _, rfl, _⟩ := h; rfl) (fun f cdv A outer s H vs Q E hr h => ?_)
  obtain ⟨a, b, L, x, h, l, m, rfl, wa, wb, O, hx, hh, hl, hne, hz, hm, k⟩ := h
  refine ⟨_, pss_cons (ps_set (i := 5) nd rfl (.inl rfl) (C8.pe_c h1 hr (by decide) rfl (pa_cons (pv 2) (pa_cons (pv 3) pa_nil))))
    (pss_cons (ps_if (pt_cmpR (op_neD hr.units) (C8.pe_mt h2 hr (by decide) (pv 1) (pa_cons (pv 3) pa_nil)) (C8.pe_mt h2 hr (by decide) (pv 0) (pa_cons (pv 5) pa_nil)) (by rfl)) pss_never pss_nil)
    (pss_cons (ps_for PassesOwn.never rfl (pi_tup (pe_tup (pa_cons (pv 4) (pa_cons (pe_op op_pow pe_int pe_int) (pa_cons (pe_op op_add (pe_op op_mul pe_int (pe_callB call_len (by rfl) T.b_len PySem.boot_len (pa_cons (pv 3) pa_nil))) pe_int) pa_nil))))) (pg_name (i := 6) nd rfl (.inl rfl))
      (pss_one (ps_if (pt_cmpR (op_neD hr.units) (C8.pe_mt h3 hr (by decide) (pv 1) (pa_cons (pv 3) (pa_cons (pv 6) pa_nil))) (C8.pe_c h4 hr (by decide) rfl (pa_cons (C8.pe_mt h3 hr (by decide) (pv 0) (pa_cons (pv 5) (pa_cons (pv 6) pa_nil))) (pa_cons (pv 2) pa_nil))) (by rfl)) pss_never pss_nil)))
    (pss_one (ps_ret pe_bl)))), ?_⟩
  have hob := bec_deeds hh l
  have hlb : (bec h l).length = l.length := bec_len h l
  have hob0 : bec h l ≠ [] := fun z => by
    rw [z] at hlb
    exact hne (List.length_eq_zero_iff.mp hlb.symm)
  have ok2 := phi_ok hh hx
  refine ⟨_, rfl, _, rfl, h, l, rfl, hh, hl, by omega, fun H1 s1 => ?_⟩
  have wb1 := wb.same s1
  have wb2 := wb1
  obtain ⟨dxb, gb, pdb, gtb, vopb, vfb, opb, eb, _⟩ := wb1
  refine ⟨_, rfl, b, dxb, _, rfl, eb, rfl, _, rfl, b, L, phi h x, l, rfl, wb2, O, ok2, hl, hne, by omega, fun q1 H2 R1 n1 s2 sy1 hq1 => ?_⟩
  have s02 := s1.trans s2
  have wa1 := wa.same s02
  have wa2 := wa1
  obtain ⟨dxa, ga, pda, gta, vopa, vfa, opa, ea, _⟩ := wa1
  refine ⟨_, rfl, a, dxa, _, rfl, ea, rfl, _, rfl, a, L, x, bec h l, rfl, wa2, O, hx, hob, hob0, by omega, fun q2 H3 R n s3 sy hq2 => ?_⟩
  obtain ⟨rfl, rfl⟩ := say_phi O hh hx sy sy1
  rw [List.length_map] at hq1
  have pl1 : PlV K H3 (.ref q1) (((n1 : Nat) : Int), ((R.length : Nat) : Int) - ((n1 : Nat) : Int)) := ⟨q1, rfl, sqT_keep hq1 (Same.keepT s3)⟩
  have pl2 : PlV K H3 (.ref q2) (((n1 : Nat) : Int), ((R.length : Nat) : Int) - ((n1 : Nat) : Int)) := ⟨q2, rfl, hq2⟩
  refine ⟨_, _, pl1.dp, pl2.dp, pdPl_shaped _, pdPl_shaped _, _, rfl, ?_⟩
  rw [pdPl_eqv, decide_eq_true rfl]
  refine iteF ?_
  have s03 := s02.trans s3
  refine ⟨_, rfl, _, _, rfl, rfl, ⟨by decide, by decide, by decide⟩, _, rfl, _, l.length, rfl, ⟨by show l.length ≤ sizeLine; exact small (by omega), rfl⟩, _, _, rfl, rfl, .inl ⟨by decide, by decide⟩, _, _, rfl, rfl, by show 3 ≤ sizeLine; decide, fun tp htp => ?_⟩
  have s4 := Same.new (o := .tup [.int (m : Nat), .int ((10 : Int) ^ (18 : Int).toNat), .int (5 * ((l.length : Nat) : Int) + 1)]) htp
  have e4 : (upd H3 tp (.tup [.int (m : Nat), .int ((10 : Int) ^ (18 : Int).toNat), .int (5 * ((l.length : Nat) : Int) + 1)])) tp = some (.tup [.int (m : Nat), .int ((10 : Int) ^ (18 : Int).toNat), .int (5 * ((l.length : Nat) : Int) + 1)]) := upd_same
  have all : ∀ y ∈ [V.int (m : Nat), .int ((10 : Int) ^ (18 : Int).toNat), .int (5 * ((l.length : Nat) : Int) + 1)], ∃ bt : Nat, y = .int (bt : Int) ∧ bt ≤ 1000000000000000000 := fun y hy => by
    simp only [List.mem_cons, List.not_mem_nil, or_false] at hy
    rcases hy with rfl | rfl | rfl
    · exact ⟨m, rfl, hm⟩
    · exact ⟨1000000000000000000, by decide, by decide⟩
    · exact ⟨5 * l.length + 1, by rw [show ((5 * l.length + 1 : Nat) : Int) = 5 * ((l.length : Nat) : Int) + 1 by omega], by omega⟩
  refine ⟨tp, rfl, ⟨_, SqT.of e4⟩, ?_⟩
  generalize upd H3 tp (.tup [.int (m : Nat), .int ((10 : Int) ^ (18 : Int).toNat), .int (5 * ((l.length : Nat) : Int) + 1)]) = H4 at s4 e4 ⊢
  generalize [V.int (m : Nat), .int ((10 : Int) ^ (18 : Int).toNat), .int (5 * ((l.length : Nat) : Int) + 1)] = its at e4 all ⊢
  have s04 := s03.trans s4
  have okR : ∀ y ∈ R, PostOk L.rows y := sy.all (Pr := PostOk L.rows) (fun y hy => last_ok O _ hy) (fun y hy => by rw [List.mem_singleton.mp hy]; exact hx)
  refine for_it (walk_tup (K := K) (a := tp) (xs := its)) (fun i σ H' => ∃ y6, σ = [some (.ref a), some (.ref b), some (.str (S h)), some (.str (S l)), some (.int (m : Nat)), some (.str (S (bec h l))), y6] ∧ Same H4 H') ⟨_, rfl, Same.refl _⟩ (fun _ _ _ _ h => by obtain ⟨_, _, s⟩ := h; exact SqT.of (s _ _ e4)) ?_ ?_
  · intro i y σ H5 H6 hi pp yy
    obtain ⟨rfl, hy⟩ := yy
    obtain ⟨y6, rfl, s5⟩ := pp
    obtain ⟨bt, rfl, hbt⟩ := all y (List.mem_of_getElem? hy)
    have s05 := s04.trans s5
    refine ⟨_, rfl, b, dxb, _, rfl, (((s2.trans s3).trans s4).trans s5) _ _ eb, rfl, _, rfl, _, rfl, b, L, phi h x, l, bt, rfl, wb.same s05, O, ok2, hl, hne, by omega, hbt, fun v1 H7 R2 n2 s7 sy2 hv1 => ?_⟩
    have s07 := s05.trans s7
    refine ⟨_, rfl, a, dxa, _, rfl, ((s3.trans s4).trans (s5.trans s7)) _ _ ea, rfl, _, rfl, _, rfl, a, L, x, bec h l, bt, rfl, wa.same s07, O, hx, hob, hob0, by omega, hbt, fun v2 H8 R3 n3 s8 sy3 hv2 => ?_⟩
    obtain ⟨rfl, rfl⟩ := say_phi O hh hx sy3 sy2
    obtain ⟨rfl, rfl⟩ := sy3.fn sy
    rw [beat_phi O hh okR] at hv1
    have okb : PostOk L.rows (atBeat L R3 n2 (bec h l) bt) := by
      unfold atBeat
      dsimp only
      refine last_ok O _ ?_
      rw [List.getD_eq_getElem?_getD]
      cases e : R3[if bt / (bec h l).length ≥ R3.length then n2 + (bt / (bec h l).length - n2) % (R3.length - n2) else bt / (bec h l).length]? with
      | none => trivial
      | some y => exact okR y (List.mem_of_getElem? e)
    refine ⟨_, rfl, v2, _, h, rfl, hv2, okb.tok, hh, fun v3 H9 s9 hv3 => ?_⟩
    have s79 := s8.trans s9
    refine ⟨_, _, (pv_same hv1 s79).dp, hv3.dp, pd_shaped (phi_ok hh okb).tok, pd_shaped (phi_ok hh okb).tok, _, rfl, ?_⟩
    rw [pd_eqv, decide_eq_true rfl]
    exact iteF ⟨_, rfl, (s5.trans s7).trans s79⟩
  · intro σ H5 pp
    obtain ⟨y6, rfl, s5⟩ := pp
    exact k _ (s04.trans s5)
end
end K79
/-! part W22 -/
/-! The law's layers. -/
namespace K79
open PySem PySem.Spec PyProof.Rows L2
/-- layers as they lie -/
def LyV (K : PySem.W.Frag) (H : Hp) : List Addr → List (List Post) → Prop := Paired (fun q l => ∃ us, H q = some (.lst us) ∧ LV K H us l)
theorem LyV.app {K : PySem.W.Frag} {H : Hp} : ∀ {fs gs : List Addr} {ls ms : List (List Post)}, LyV K H fs ls → LyV K H gs ms → LyV K H (fs ++ gs) (ls ++ ms)
  | _, _, _, _, .nil, h => h
  | _, _, _, _, .cons r t, h => .cons r (LyV.app t h)
theorem LyV.len {K : PySem.W.Frag} {H : Hp} {fs : List Addr} {ls : List (List Post)} (h : LyV K H fs ls) : fs.length = ls.length := Paired.length h
theorem LyV.end {K : PySem.W.Frag} {H : Hp} {l : List Post} : ∀ {fs : List Addr} {ls : List (List Post)}, LyV K H fs (ls ++ [l]) → ∃ gs q us, fs = gs ++ [q] ∧ H q = some (.lst us) ∧ LV K H us l
  | _, [], .cons r .nil => by
    obtain ⟨us, h1, h2⟩ := r
    exact ⟨[], _, us, rfl, h1, h2⟩
  | _, _ :: ls, .cons _ t => by
    obtain ⟨gs, q, us, e, h1, h2⟩ := LyV.end t
    exact ⟨_ :: gs, q, us, by rw [e]; rfl, h1, h2⟩
theorem LyV.at {K : PySem.W.Frag} {H : Hp} : ∀ {fs : List Addr} {ls : List (List Post)} {i : Nat} {q : Addr}, LyV K H fs ls → fs[i]? = some q → ∃ l us, ls[i]? = some l ∧ H q = some (.lst us) ∧ LV K H us l
  | _, _, i, _, .nil, e => by simp at e
  | _, _, 0, _, .cons r _, e => by
    simp only [List.getElem?_cons_zero, Option.some.injEq] at e
    subst e
    obtain ⟨us, h1, h2⟩ := r
    exact ⟨_, us, rfl, h1, h2⟩
  | _, _, i + 1, _, .cons _ t, e => by
    simp only [List.getElem?_cons_succ] at e
    obtain ⟨l, us, h1, h2⟩ := LyV.at t e
    exact ⟨l, us, by simpa using h1, h2⟩
structure Lys (K : PySem.W.Frag) (H : Hp) (r : Rows) (pf pk : Addr) (fs : List Addr) (ls : List (List Post)) (kn : List Post) (H' : Hp) : Prop where
  same : Same H H'
  nf : H pf = none
  nk : H pk = none
  ne : pf ≠ pk
  f : H' pf = some (.lst (fs.map V.ref))
  fne : ∀ q ∈ fs, q ≠ pf ∧ q ≠ pk
  ls : LyV K H' fs ls
  k : ∃ uk, H' pk = some (.lst uk) ∧ LV K H' uk kn
  nd : kn.Nodup
  ok : ∀ x ∈ kn, PostOk r x
theorem LyV.keep {K : PySem.W.Frag} {H H' : Hp} {fs : List Addr} {ls : List (List Post)} (h : LyV K H fs ls) (k : KeepT H H') (hq : ∀ q ∈ fs, ∀ o, H q = some o → H' q = some o) : LyV K H' fs ls := by
  induction h with
  | nil => exact .nil
  | cons r _ ih =>
    obtain ⟨us, h1, h2⟩ := r
    exact .cons ⟨us, hq _ List.mem_cons_self _ h1, h2.keep k⟩ (ih fun q m => hq q (List.mem_cons_of_mem _ m))
theorem Lys.on {K : PySem.W.Frag} {H H1 H2 : Hp} {r : Rows} {pf pk : Addr} {fs : List Addr} {ls : List (List Post)} {kn : List Post} (h : Lys K H r pf pk fs ls kn H1) (s : Same H1 H2) : Lys K H r pf pk fs ls kn H2 := by
  obtain ⟨uk, k1, k2⟩ := h.k
  exact ⟨h.same.trans s, h.nf, h.nk, h.ne, s _ _ h.f, h.fne, h.ls.keep (Same.keepT s) (fun q _ o e => s q o e), ⟨uk, s _ _ k1, k2.keep (Same.keepT s)⟩, h.nd, h.ok⟩
/-- the layer in the making -/
structure Mor (K : PySem.W.Frag) (H : Hp) (pf pk pm : Addr) (fs : List Addr) (m : List Post) (H' : Hp) : Prop where
  nm : H pm = none
  nef : pm ≠ pf
  nek : pm ≠ pk
  nes : pm ∉ fs
  m : ∃ um, H' pm = some (.lst um) ∧ LV K H' um m
theorem Mor.on {K : PySem.W.Frag} {H H1 H2 : Hp} {pf pk pm : Addr} {fs : List Addr} {m : List Post} (h : Mor K H pf pk pm fs m H1) (s : Same H1 H2) : Mor K H pf pk pm fs m H2 := by
  obtain ⟨um, m1, m2⟩ := h.m
  exact ⟨h.nm, h.nef, h.nek, h.nes, um, s _ _ m1, m2.keep (Same.keepT s)⟩
theorem expd_take {L : Land} {kn l : List Post} {j : Nat} {p : Post} (h : l[j]? = some p) : expd (su L) kn (l.take (j + 1)) = insAll (expd (su L) kn (l.take j)) (su L p) := by
  rw [List.take_succ, h]
  exact expd_snoc _ _ _ _
theorem drop_app {α : Type} {kn l : List α} {y : α} (h : ∃ e, l = kn ++ e) : (l ++ [y]).drop kn.length = l.drop kn.length ++ [y] := by
  obtain ⟨e, rfl⟩ := h
  rw [List.append_assoc, List.drop_left, List.drop_left]
section
variable {P : Program} {w : World} {K : PySem.W.Frag} {mg : Str → Option Value} {base : Heap}
def spLayers (K : PySem.W.Frag) : Sp := fun vs H Q _ => ∃ d L x, vs = [.ref d] ∧ LdV K H d L x ∧ LandOk L ∧ PostOk L.rows x ∧
  ∀ p fs ls H', Same H H' → H' p = some (.lst (fs.map V.ref)) → LyV K H' fs ls → Lay (su L) [x] [x] ls → fs.length ≤ 300 → (∀ l ∈ ls, ∀ y ∈ l, PostOk L.rows y) → (∀ l ∈ ls, l.length ≤ 300) → Q (.ref p) H'
theorem ok_layers (T : Txt K mg) (h1 : C8.Cal P w K mg base 3 "_law_behind" (spLawBehind K) []) : C8.Cal P w K mg base 4 "_law_layers" (spLayers K) [] := by
  have SC : C8.scC ["_law_land_here", "_law_found", "_law_known", "_law_more", "_law_post", "_law_step", "_law_there"] ["_law_land_here"] (C8.fnScope s_law_layers) = true := by decide +kernel
  have nd := (C8.fnScope_by SC).nd
  refine cal T.f_law_layers SC (fun _ _ _ _ _ _ us hl => match us, hl with | [_], _ => rfl) (fun vs H Q E h => by obtain ⟨_, _, _, rfl, _⟩ := h; rfl) (fun f cdv A outer s H vs Q E hr h => ?_)
  obtain ⟨d, L, x, rfl, hd, O, hx, k⟩ := h
  have hu := hu_of hr
  refine ⟨_, pss_cons (ps_set (i := 1) nd rfl (.inl rfl) (pe_lst (pa_cons (pe_lst (pa_cons (pe_dget hu (pv 0) pe_str (fun _ _ => rfl)) pa_nil)) pa_nil)))
    (pss_cons (ps_set (i := 2) nd rfl (.inl rfl) (pe_lst (pa_cons (pe_dget hu (pv 0) pe_str (fun _ _ => rfl)) pa_nil)))
    (pss_cons (ps_while PassesOwn.never (pt_cmpR (op_neD hr.units) (pe_ix ix_list (pv 1) (pe_un un_neg pe_int) (fun _ _ => rfl)) (pe_lst pa_nil) (by rfl))
      (pss_cons (ps_set (i := 3) nd rfl (.inl rfl) (pe_lst pa_nil))
      (pss_cons (ps_for PassesOwn.never rfl (pi_list (pe_ix ix_list (pv 1) (pe_un un_neg pe_int) (fun _ _ => rfl))) (pg_name (i := 4) nd rfl (.inl rfl))
        (pss_one (ps_for PassesOwn.never rfl (pi_str pe_str) (pg_name (i := 5) nd rfl (.inl rfl))
          (pss_cons (ps_set (i := 6) nd rfl (.inl rfl) (C8.pe_c h1 hr (by decide) rfl (pa_cons (pv 0) (pa_cons (pv 4) (pa_cons (pv 5) pa_nil)))))
          (pss_one (ps_if (pt_cmpR (op_notInD (hu1 hr)) (pv 6) (pv 2) (by rfl))
            (pss_cons (ps_expr (pe_bm PySem.F.plainAttrs_list PySem.F.slot_list_append PySem.F.type_list_append mt_append (pv 2) (pa_cons (pv 6) pa_nil)))
            (pss_one (ps_expr (pe_bm PySem.F.plainAttrs_list PySem.F.slot_list_append PySem.F.type_list_append mt_append (pv 3) (pa_cons (pv 6) pa_nil))))) pss_nil))))))
      (pss_one (ps_expr (pe_bm PySem.F.plainAttrs_list PySem.F.slot_list_append PySem.F.type_list_append mt_append (pv 1) (pa_cons (pv 3) pa_nil)))))))
    (pss_one (ps_ret (pv 1))))), ?_⟩
  have hd0 := hd
  obtain ⟨pr, vst, pb, pw, w1, w2, w3, w4, w5⟩ := hd
  refine ⟨_, rfl, d, _, rfl, dg_at w1 (ld_start _ _ _ _), by show 1 ≤ sizeLine; decide, fun p0 hp0 => ?_⟩
  have s1 := Same.new (o := .lst [vst]) hp0
  have e1 : (upd H p0 (.lst [vst])) p0 = some (.lst [vst]) := upd_same
  generalize upd H p0 (.lst [vst]) = H1 at s1 e1 ⊢
  refine ⟨by show 1 ≤ sizeLine; decide, fun pf hpf => ?_⟩
  have s2 := Same.new (o := .lst [.ref p0]) hpf
  have e2 : (upd H1 pf (.lst [.ref p0])) pf = some (.lst [.ref p0]) := upd_same
  have npf : H pf = none := s1.free hpf
  have n0f : p0 ≠ pf := fun z => by rw [z, hpf] at e1; cases e1
  generalize upd H1 pf (.lst [.ref p0]) = H2 at s2 e2 ⊢
  have s02 := s1.trans s2
  refine ⟨_, rfl, d, _, rfl, dg_at (s02 _ _ w1) (ld_start _ _ _ _), by show 1 ≤ sizeLine; decide, fun pk hpk => ?_⟩
  have s3 := Same.new (o := .lst [vst]) hpk
  have e3 : (upd H2 pk (.lst [vst])) pk = some (.lst [vst]) := upd_same
  have npk : H pk = none := s02.free hpk
  have nfk : pf ≠ pk := fun z => by rw [← z, e2] at hpk; cases hpk
  have n0k : p0 ≠ pk := fun z => by rw [← z, s2 _ _ e1] at hpk; cases hpk
  generalize upd H2 pk (.lst [vst]) = H3 at s3 e3 ⊢
  have s03 := s02.trans s3
  have pv3 := pv_same w3 s03
  have st0 : Lys K H L.rows pf pk [p0] [[x]] [x] H3 := ⟨s03, npf, npk, nfk, s3 _ _ e2, (fun q hq => by rw [List.mem_singleton.mp hq]; exact ⟨n0f, n0k⟩), .cons ⟨[vst], (s2.trans s3) _ _ e1, LV.one pv3⟩ .nil, ⟨[vst], e3, LV.one pv3⟩, by simp, fun y hy => by rw [List.mem_singleton.mp hy]; exact hx⟩
  refine ⟨fun m σ H' => ∃ (fs : List Addr) (ls0 : List (List Post)) (l kn : List Post) (y3 y4 y5 y6 : Option V), m = 2 * (300 - kn.length) + (if l = [] then 0 else 1) ∧ σ = [some (.ref d), some (.ref pf), some (.ref pk), y3, y4, y5, y6] ∧ Lys K H L.rows pf pk fs (ls0 ++ [l]) kn H' ∧
      (∀ ls, Lay (su L) kn l ls → Lay (su L) [x] [x] (ls0 ++ ls)) ∧ (∃ k0, kn = k0 ++ l) ∧ (∀ l' ∈ ls0 ++ [l], ∀ y ∈ l', y ∈ kn) ∧ ((ls0 ++ [l]).length ≤ kn.length + (if l = [] then 1 else 0)) ∧ (∀ l' ∈ ls0 ++ [l], l'.length ≤ 300),
    ⟨_, [p0], [], [x], [x], _, _, _, _, rfl, rfl, st0, (fun ls h => h), ⟨[], rfl⟩, (fun l' h y hy => by rw [List.mem_singleton.mp h] at hy; exact hy), by simp, fun l' h => by rw [List.mem_singleton.mp h]; show 1 ≤ 300; decide⟩, ?_⟩
  rintro m σ H4 ⟨fs, ls0, l, kn, y3, y4, y5, y6, rfl, rfl, st, cont, suf, sub, few1, few2⟩
  obtain ⟨gs, pl, us, rfl, el, lvl⟩ := st.ls.end
  have hk := few O.rows st.nd st.ok
  refine ⟨_, rfl, _, rfl, pf, _, _, .ref pl, rfl, rfl, SqL.of st.f, by rw [List.map_append]; exact atI_last _ _, ?_⟩
  refine ⟨by show 0 ≤ sizeLine; decide, fun z hz => ?_⟩
  have s5 := Same.new (o := .lst []) hz
  have e5 : (upd H4 z (.lst [])) z = some (.lst []) := upd_same
  have st5 := st.on s5
  have el5 := s5 _ _ el
  have lvl5 := lvl.keep (Same.keepT s5)
  generalize upd H4 z (.lst []) = H5 at s5 e5 st5 el5 lvl5 ⊢
  have okl : ∀ y ∈ l, PostOk L.rows y := fun y hy => st.ok y (sub l (List.mem_append_right _ (List.mem_singleton.mpr rfl)) y hy)
  refine ⟨.list (l.map pdPost), .list (([] : List Post).map pdPost), .lst (SqL.of el5) lvl5.dp, .lst (SqL.of e5) .nil, pds_shaped (fun y hy => (okl y hy).tok), by decide, _, rfl, ?_⟩
  rw [pdl_eqv]
  by_cases hl : l = []
  · subst hl
    rw [decide_eq_true rfl]
    refine iteF ⟨_, rfl, k pf _ _ H5 st5.same st5.f st5.ls (cont _ .stop) ?_ (fun l' hl' y hy => st.ok y (sub l' hl' y hy)) few2⟩
    have h1 := st5.ls.len
    rw [if_pos rfl] at few1
    omega
  · rw [decide_eq_false hl]
    rw [if_neg hl] at few1 ⊢
    refine iteT ⟨fun σ' H' => ∃ (fs : List Addr) (ls0 : List (List Post)) (l2 kn2 : List Post) (y3 y4 y5 y6 : Option V), 2 * (300 - kn2.length) + (if l2 = [] then 0 else 1) < 2 * (300 - kn.length) + 1 ∧ σ' = [some (.ref d), some (.ref pf), some (.ref pk), y3, y4, y5, y6] ∧ Lys K H L.rows pf pk fs (ls0 ++ [l2]) kn2 H' ∧
      (∀ ls, Lay (su L) kn2 l2 ls → Lay (su L) [x] [x] (ls0 ++ ls)) ∧ (∃ k0, kn2 = k0 ++ l2) ∧ (∀ l' ∈ ls0 ++ [l2], ∀ y ∈ l', y ∈ kn2) ∧ ((ls0 ++ [l2]).length ≤ kn2.length + (if l2 = [] then 1 else 0)) ∧ (∀ l' ∈ ls0 ++ [l2], l'.length ≤ 300),
      fun σ' H' ⟨fs, ls0, l2, kn2, a3, a4, a5, a6, hlt, rest⟩ => ⟨_, hlt, fs, ls0, l2, kn2, a3, a4, a5, a6, rfl, rest⟩, ?_⟩
    refine ⟨by show 0 ≤ sizeLine; decide, fun pm hpm => ?_⟩
    have s6 := Same.new (o := .lst []) hpm
    have e6 : (upd H5 pm (.lst [])) pm = some (.lst []) := upd_same
    have st6 := st5.on s6
    have el6 := s6 _ _ el5
    have lvl6 := lvl5.keep (Same.keepT s6)
    have mo6 : Mor K H pf pk pm (gs ++ [pl]) [] (upd H5 pm (.lst [])) := by
      refine ⟨st5.same.free hpm, fun z => ?_, fun z => ?_, fun hm => ?_, [], e6, .nil⟩
      · rw [z, st5.f] at hpm; cases hpm
      · obtain ⟨uk, k1, _⟩ := st5.k
        rw [z, k1] at hpm; cases hpm
      · obtain ⟨i, hi⟩ := List.mem_iff_getElem?.mp hm
        obtain ⟨_, _, _, q, _⟩ := st5.ls.at hi
        rw [q] at hpm; cases hpm
    generalize upd H5 pm (.lst []) = H6 at s6 e6 st6 el6 lvl6 mo6 ⊢
    refine ⟨_, rfl, _, rfl, pf, _, _, .ref pl, rfl, rfl, SqL.of st6.f, by rw [List.map_append]; exact atI_last _ _, pl, rfl, ⟨us, SqL.of el6⟩, ?_⟩
    have plfs : pl ∈ gs ++ [pl] := List.mem_append_right _ (List.mem_singleton.mpr rfl)
    have ul := lvl.len
    refine for_it (walk_list (K := K) (a := pl) (xs := us)) (fun j σ H' => ∃ (y4 y5 y6 : Option V), σ = [some (.ref d), some (.ref pf), some (.ref pk), some (.ref pm), y4, y5, y6] ∧ Lys K H L.rows pf pk (gs ++ [pl]) (ls0 ++ [l]) (expd (su L) kn (l.take j)) H' ∧ H' pl = some (.lst us) ∧
        Mor K H pf pk pm (gs ++ [pl]) ((expd (su L) kn (l.take j)).drop kn.length) H') ⟨_, _, _, rfl, st6, el6, by rw [show (expd (su L) kn (l.take 0)).drop kn.length = [] by simp [expd]]; exact mo6⟩ (fun _ _ _ _ h => by obtain ⟨_, _, _, _, _, h, _⟩ := h; exact SqL.of h) ?_ ?_
    · intro j y σ H7 H8 hj pp yy
      obtain ⟨rfl, hy⟩ := yy
      obtain ⟨z4, z5, z6, rfl, st7, el7, mo7⟩ := pp
      obtain ⟨p, hp, hpv⟩ := LV.at lvl hy
      have okp := okl p (List.mem_of_getElem? hp)
      have pv7 : PV K H8 y p := by
        obtain ⟨l', us', q1, q2, q3⟩ := st7.ls.at (i := gs.length) (q := pl) (by simp)
        rw [el7] at q2
        cases q2
        have q4 : (ls0 ++ [l])[gs.length]? = some l := by
          have h1 := st7.ls.len
          simp only [List.length_append, List.length_singleton] at h1
          rw [show gs.length = ls0.length by omega]
          simp
        rw [q4] at q1
        cases q1
        obtain ⟨p2, r1, r2⟩ := LV.at q3 hy
        rw [hp] at r1
        cases r1
        exact r2
      refine ⟨_, rfl, ?_⟩
      refine for_it walk_str (fun i σ H' => ∃ (y5 y6 : Option V), σ = [some (.ref d), some (.ref pf), some (.ref pk), some (.ref pm), some y, y5, y6] ∧ Lys K H L.rows pf pk (gs ++ [pl]) (ls0 ++ [l]) (insAll (expd (su L) kn (l.take j)) ((deeds.take i).map (bhd L p))) H' ∧ H' pl = some (.lst us) ∧ PV K H' y p ∧
          Mor K H pf pk pm (gs ++ [pl]) ((insAll (expd (su L) kn (l.take j)) ((deeds.take i).map (bhd L p))).drop kn.length) H') ⟨_, _, rfl, st7, el7, pv7, mo7⟩ (fun _ _ _ _ _ => trivial) ?_ ?_
      · intro i y2 σ H9 H10 hi pp2 yy2
        obtain ⟨rfl, c, hc, rfl⟩ := yy2
        obtain ⟨b5, b6, rfl, st9, el9, pv9, mo9⟩ := pp2
        have hc2 : deeds[i]? = some c := by
          have e : ("urdl" : Str).cps = deeds.toArray := by rw [dE]
          rw [e] at hc
          simpa using hc
        have hcm : c ∈ deeds := List.mem_of_getElem? hc2
        refine ⟨_, rfl, _, rfl, _, rfl, d, L, x, y, p, c, rfl, hd0.same st9.same, O, pv9, okp, hcm, fun v' H11 s11 hv' => ?_⟩
        have st11 := st9.on s11
        have mo11 := mo9.on s11
        have el11 := s11 _ _ el9
        have pv11 := pv_same pv9 s11
        have hb := bhd_ok O okp c
        have e4 : insAll (expd (su L) kn (l.take j)) ((deeds.take (i + 1)).map (bhd L p)) = ins (insAll (expd (su L) kn (l.take j)) ((deeds.take i).map (bhd L p))) (bhd L p c) := by
          rw [List.take_succ, hc2, List.map_append]
          exact insAll_snoc _ _ _
        have pre : ∃ e, insAll (expd (su L) kn (l.take j)) ((deeds.take i).map (bhd L p)) = kn ++ e := by
          obtain ⟨x1, h1⟩ := expd_pre (su L) (l.take j) kn
          obtain ⟨x2, h2⟩ := insAll_pre ((deeds.take i).map (bhd L p)) (expd (su L) kn (l.take j))
          exact ⟨x1 ++ x2, by rw [h2, h1, List.append_assoc]⟩
        generalize insAll (expd (su L) kn (l.take j)) ((deeds.take i).map (bhd L p)) = k5 at st11 mo11 e4 pre st9 mo9
        obtain ⟨uk, k1, k2⟩ := st11.k
        obtain ⟨um, m1, m2⟩ := mo11.m
        have hk5 := few O.rows st11.nd st11.ok
        refine ⟨_, rfl, _, rfl, pdPost (bhd L p c), k5.map pdPost, hv'.dp, .lst (SqL.of k1) k2.dp, pd_shaped hb.tok, pds_shaped (fun q hq => (st11.ok q hq).tok), _, rfl, ?_⟩
        rw [any_eqv]
        by_cases hm : bhd L p c ∈ k5
        · rw [decide_eq_true hm]
          refine iteF ⟨_, _, rfl, ?_, el11, pv11, ?_⟩
          · rw [e4, ins_old hm]
            exact st11
          · rw [e4, ins_old hm]
            exact mo11
        · rw [decide_eq_false hm]
          have lk := k2.len
          have lm := m2.len
          have ldr : (k5.drop kn.length).length ≤ k5.length := by rw [List.length_drop]; omega
          refine iteT ⟨_, rfl, .inl ⟨rfl, _, SqL.of k1⟩, _, rfl, pk, uk, v', rfl, rfl, k1, small1000 (by omega), ?_⟩
          have kt1 := keepT_upd (l' := uk ++ [v']) k1
          have m1' : upd H11 pk (.lst (uk ++ [v'])) pm = some (.lst um) := by rw [upd_ne mo11.nek]; exact m1
          refine ⟨_, rfl, .inl ⟨rfl, _, SqL.of m1'⟩, _, rfl, pm, um, v', rfl, rfl, m1', small1000 (by omega), ?_⟩
          have kt2 := kt1.trans (keepT_upd (l' := um ++ [v']) m1')
          have hv2 := hv'.keep kt2
          have hpk2 : upd (upd H11 pk (.lst (uk ++ [v']))) pm (.lst (um ++ [v'])) pk = some (.lst (uk ++ [v'])) := by rw [upd_ne (Ne.symm mo11.nek), upd_same]
          have hfs : ∀ q ∈ gs ++ [pl], ∀ o, H11 q = some o → upd (upd H11 pk (.lst (uk ++ [v']))) pm (.lst (um ++ [v'])) q = some o := fun q hq o e => by
            have nq : q ≠ pm := fun z => mo11.nes (by rw [← z]; exact hq)
            rw [upd_ne nq, upd_ne (st11.fne q hq).2]
            exact e
          refine ⟨_, _, rfl, ⟨?_, st11.nf, st11.nk, st11.ne, ?_, st11.fne, st11.ls.keep kt2 hfs, ?_, ?_, ?_⟩, hfs pl plfs _ el11, pv11.keep kt2, ⟨mo11.nm, mo11.nef, mo11.nek, mo11.nes, ?_⟩⟩
          · exact same_upd (same_upd st11.same st11.nk) mo11.nm
          · rw [upd_ne (Ne.symm mo11.nef), upd_ne st11.ne]
            exact st11.f
          · rw [e4, ins_new hm]
            exact ⟨_, hpk2, (k2.keep kt2).app (LV.one hv2)⟩
          · rw [e4]
            exact nodup_ins st11.nd
          · intro q hq
            rw [e4] at hq
            rcases mem_ins.mp hq with hq | rfl
            · exact st11.ok q hq
            · exact hb
          · rw [e4, ins_new hm, drop_app pre]
            exact ⟨_, upd_same, (m2.keep kt2).app (LV.one hv2)⟩
      · intro σ H9 pp2
        obtain ⟨b5, b6, rfl, st9, el9, pv9, mo9⟩ := pp2
        have e : deeds.take ("urdl" : Str).cps.size = deeds := by decide +kernel
        rw [e] at st9 mo9
        have e2 := expd_take (L := L) (kn := kn) hp
        rw [← show insAll (expd (su L) kn (l.take j)) (deeds.map (bhd L p)) = expd (su L) kn (l.take (j + 1)) from e2.symm]
        exact ⟨_, _, _, rfl, st9, el9, mo9⟩
    · intro σ H7 pp
      obtain ⟨z4, z5, z6, rfl, st7, el7, mo7⟩ := pp
      rw [ul, List.take_length] at st7 mo7
      have hk2 := few O.rows st7.nd st7.ok
      have hfl := st7.ls.len
      refine ⟨_, rfl, .inl ⟨rfl, _, SqL.of st7.f⟩, _, rfl, pf, _, .ref pm, rfl, rfl, st7.f, by rw [List.length_map, hfl]; exact small1000 (by omega), ?_⟩
      obtain ⟨um, m1, m2⟩ := mo7.m
      obtain ⟨uk, k1, k2⟩ := st7.k
      have kt := keepT_upd (l' := (gs ++ [pl]).map V.ref ++ [.ref pm]) st7.f
      have hd1 := drop_expd (su L) kn l
      have pre2 := expd_pre (su L) l kn
      have memd : ∀ y ∈ (expd (su L) kn l).drop kn.length, y ∈ expd (su L) kn l := fun y hy => List.mem_of_mem_drop hy
      have hlen2 : (expd (su L) kn l).length = kn.length + ((expd (su L) kn l).drop kn.length).length := by
        have := congrArg List.length hd1
        rw [List.length_append] at this
        exact this
      refine ⟨(gs ++ [pl]) ++ [pm], ls0 ++ [l], (expd (su L) kn l).drop kn.length, expd (su L) kn l, _, _, _, _, ?_, rfl, ⟨same_upd st7.same st7.nf, st7.nf, st7.nk, st7.ne, ?_, ?_, ?_, ?_, st7.nd, st7.ok⟩, ?_, ⟨kn, hd1⟩, ?_, ?_, ?_⟩
      · by_cases hz : (expd (su L) kn l).drop kn.length = []
        · rw [if_pos hz]
          omega
        · rw [if_neg hz]
          have := List.length_pos_iff.mpr hz
          omega
      · rw [upd_same, List.map_append (l₁ := gs ++ [pl])]
        rfl
      · intro q hq
        rcases List.mem_append.mp hq with hq | hq
        · exact st7.fne q hq
        · rw [List.mem_singleton.mp hq]
          exact ⟨mo7.nef, mo7.nek⟩
      · refine (st7.ls.keep kt (fun q hq o e => by rw [upd_ne (st7.fne q hq).1]; exact e)).app (.cons ⟨um, by rw [upd_ne mo7.nef]; exact m1, m2.keep kt⟩ .nil)
      · exact ⟨uk, by rw [upd_ne (Ne.symm st7.ne)]; exact k1, k2.keep kt⟩
      · intro ls hly
        have h := cont (l :: ls) (.go hl hly)
        rw [List.append_assoc]
        exact h
      · intro l' hl' y hy
        rcases List.mem_append.mp hl' with hl' | hl'
        · obtain ⟨e, he⟩ := pre2
          rw [he]
          exact List.mem_append_left _ (sub l' hl' y hy)
        · rw [List.mem_singleton.mp hl'] at hy
          exact memd y hy
      · rw [List.length_append, List.length_singleton]
        by_cases hz : (expd (su L) kn l).drop kn.length = []
        · rw [if_pos hz]
          omega
        · rw [if_neg hz]
          have := List.length_pos_iff.mpr hz
          omega
      · intro l' hl'
        rcases List.mem_append.mp hl' with hl' | hl'
        · exact few2 l' hl'
        · rw [List.mem_singleton.mp hl', List.length_drop]
          omega
end
end K79
/-! part W23 -/
/-! The law's comes_right; the law. -/
namespace K79
open PySem PySem.Spec PyProof.Rows L2
theorem cut_at (xs : List V) {a n : Nat} (h : a + n ≤ xs.length) : cutV xs (some (a : Int)) (some ((a : Int) + (n : Int))) = (xs.drop a).take n := by
  unfold cutV
  rw [show ((a : Int) + (n : Int)) = ((a + n : Nat) : Int) by omega, HT.sIx_nat, HT.sIx_nat, Nat.min_eq_left h, Nat.min_eq_left (show a ≤ xs.length by omega), Nat.add_sub_cancel_left]
theorem S_app (a b : List Nat) : S a ++ S b = S (a ++ b) := by
  show (⟨a.toArray ++ b.toArray⟩ : Str) = ⟨(a ++ b).toArray⟩
  simp
theorem drop_at {α : Type} {l : List α} {i : Nat} {x : α} (h : l[i]? = some x) : l.drop i = x :: l.drop (i + 1) := by
  obtain ⟨h1, h2⟩ := List.getElem?_eq_some_iff.mp h
  rw [List.drop_eq_getElem_cons h1, h2]
theorem chk_phi {L : Land} (O : LandOk L) {h : List Nat} (hh : h ∈ turns8) {x : Post} (hx : PostOk L.rows x) {R : List Post} {ls : List (List Post)} (ly : Lay (su L) [x] [x] ls) (q : QB (su L) [phi h x] 0 R) : Chk (phi h) R 0 ls :=
  chk_of (su2 := su L) (φ := phi h) (Pr := PostOk L.rows) (phi_inj hh) (fun y hy => su_ok O y hy) (fun y hy z => su_phi O hh y hy z) ly (A := []) (M := [phi h x]) (fun y hy => by rw [List.mem_singleton.mp hy]; exact hx) (by simp) ⟨[], rfl⟩ (by simp) (fun y => by simp) (fun y => by simp) q
theorem chk_id {L : Land} (O : LandOk L) {x : Post} (hx : PostOk L.rows x) {R : List Post} {ls : List (List Post)} (ly : Lay (su L) [x] [x] ls) (q : QB (su L) [x] 0 R) : Chk (fun y => y) R 0 ls :=
  chk_of (su2 := su L) (φ := fun y => y) (Pr := PostOk L.rows) (fun _ _ _ _ e => e) (fun y hy => su_ok O y hy) (fun y hy z => by simp) ly (A := []) (M := [x]) (fun y hy => by rw [List.mem_singleton.mp hy]; exact hx) (by simp) ⟨[], rfl⟩ (by simp) (fun y => by simp) (fun y => by simp) q
section
variable {P : Program} {w : World} {K : PySem.W.Frag} {mg : Str → Option Value} {base : Heap}
def spComesRight (K : PySem.W.Frag) : Sp := fun vs H Q _ => ∃ a b d L x h, vs = [.ref a, .ref b, .ref d, .str (S h)] ∧ WoV K H a L x ∧ WoV K H b L (phi h x) ∧ LdV K H d L x ∧ LandOk L ∧ PostOk L.rows x ∧ h ∈ turns8 ∧ ∀ H', Same H H' → Q (.bl true) H'
theorem ok_comes_right (T : Txt K mg) (h1 : C8.Met P w K mg base 9 (cW K) "comes" (spComes K) []) (h2 : C8.Cal P w K mg base 4 "_law_layers" (spLayers K) []) (h3 : C8.Cal P w K mg base 3 "_law_post_turned" (spPostTurned K) []) : C8.Cal P w K mg base 12 "_law_comes_right" (spComesRight K) [] := by
  have SC : C8.scC ["_law_it", "_law_far", "_law_land_here", "_law_sense_here", "_law_told", "_law_at_so", "_law_lot", "_law_due", "_law_some", "_law_post"] ["_law_it", "_law_far", "_law_land_here", "_law_sense_here"] (C8.fnScope s_law_comes_right) = true := by decide +kernel
  have nd := (C8.fnScope_by SC).nd
  refine cal T.f_law_comes_right SC (fun _ _ _ _ _ _ us hl => match us, hl with | [_, _, _, _], _ => rfl) (fun vs H Q E h => by obtain ⟨_, _, _, _, _, _, rfl, _⟩ := h; rfl) (fun f cdv A outer s H vs Q E hr h => ?_)
  obtain ⟨a, b, d, L, x, h, rfl, wa, wb, ld, O, hx, hh, k⟩ := h
  refine ⟨_, pss_cons (ps_set (i := 4) nd rfl (.inl rfl) (C8.pe_mt0 h1 hr (by decide) (pv 1)))
    (pss_cons (ps_set (i := 5) nd rfl (.inl rfl) pe_int)
    (pss_cons (ps_for PassesOwn.never rfl (pi_list (C8.pe_c h2 hr (by decide) rfl (pa_cons (pv 2) pa_nil))) (pg_name (i := 6) nd rfl (.inl rfl))
      (pss_cons (ps_setLc (i := 7) (own := [("_law_post", 9)]) (g := gName 9) (tt := tYes) rfl nd rfl rfl (sw_true rfl rfl rfl (by decide +kernel)) (pi_list (pv 6)) (blkOk_by (N := ["_law_it", "_law_far", "_law_land_here", "_law_sense_here", "_law_told", "_law_at_so", "_law_lot", "_law_due", "_law_some", "_law_post"]) (sc := C8.fnScope s_law_comes_right) (by decide +kernel)) (fun _ _ _ _ _ => pg_name (i := 9) nd rfl (.inl rfl)) (fun _ _ _ _ _ => pts_nil)
        (fun _ _ _ _ _ => C8.pe_c h3 hr (by decide) rfl (pa_cons (pv 9) (pa_cons (pv 3) pa_nil))))
      (pss_cons (ps_set (i := 8) nd rfl (.inr rfl) (pe_slice sl_list (pv 4) (po_some (pv 5)) (po_some (pe_op op_add (pv 5) (pe_callB call_len (by rfl) T.b_len PySem.boot_len (pa_cons (pv 6) pa_nil))))))
      (pss_cons (ps_if (PW.pt (pw_or (pt_cmpR (op_neD hr.units) (pe_lc (own := [("_law_post", 9)]) (g := gName 9) rfl nd (pi_list (pv 7)) (blkOk_by (N := ["_law_it", "_law_far", "_law_land_here", "_law_sense_here", "_law_told", "_law_at_so", "_law_lot", "_law_due", "_law_some", "_law_post"]) (sc := C8.fnScope s_law_comes_right) (by decide +kernel)) (fun _ _ _ _ _ => pg_name (i := 9) nd rfl (.inl rfl))
            (fun _ _ _ _ _ => pts_one (pt_cmpR (k_notInD (K := K) rfl (hu1 hr)) (pv 9) (pv 8) (by rfl))) (fun _ _ _ _ _ => pv 9)) (pe_lst pa_nil) (by rfl))
          (pw_or1 (pt_cmpR op_ne (pe_callB call_len (by rfl) T.b_len PySem.boot_len (pa_cons (pv 8) pa_nil)) (pe_callB call_len (by rfl) T.b_len PySem.boot_len (pa_cons (pv 6) pa_nil)) (nomark _))))) pss_never pss_nil)
      (pss_one (ps_set (i := 5) nd rfl (.inl rfl) (pe_op op_add (pv 5) (pe_callB call_len (by rfl) T.b_len PySem.boot_len (pa_cons (pv 6) pa_nil)))))))))
    (pss_one (ps_ret (pe_and (pe_cmpR op_eq (pv 5) (pe_callB call_len (by rfl) T.b_len PySem.boot_len (pa_cons (pv 4) pa_nil)) (nomark _)) (pe_one (pe_cmpR op_eq (pe_callB call_len (by rfl) T.b_len PySem.boot_len (pa_cons (C8.pe_mt0 h1 hr (by decide) (pv 0)) pa_nil)) (pe_callB call_len (by rfl) T.b_len PySem.boot_len (pa_cons (pv 4) pa_nil)) (nomark _)))))))), ?_⟩
  have ok2 := phi_ok hh hx
  have wb0 := wb
  have wa0 := wa
  obtain ⟨dxb, gb, pdb, gtb, vopb, vfb, opb, eb, _⟩ := wb
  obtain ⟨dxa, ga, pda, gta, vopa, vfa, opa, ea, _⟩ := wa
  refine ⟨_, rfl, b, dxb, _, rfl, eb, rfl, b, L, phi h x, rfl, wb0, O, ok2, fun tp ust H1 R s1 et lvR qR nR oR => ?_⟩
  refine ⟨_, rfl, d, L, x, rfl, ld.same s1, O, hx, fun pf fs ls H2 s2 ef lyv ly f300 okls lls => ?_⟩
  have ck := chk_phi O hh hx ly qR
  have s02 := s1.trans s2
  have et2 := s2 _ _ et
  have lvR2 := lvR.keep (Same.keepT s2)
  have ul := lvR.len
  refine ⟨pf, rfl, ⟨_, SqL.of ef⟩, ?_⟩
  refine for_it (walk_list (K := K) (a := pf) (xs := fs.map V.ref)) (fun i σ H' => ∃ (at_ : Nat) (y6 y7 y8 : Option V), σ = [some (.ref a), some (.ref b), some (.ref d), some (.str (S h)), some (.ref tp), some (.int (at_ : Int)), y6, y7, y8, none] ∧ Same H2 H' ∧ Chk (phi h) R at_ (ls.drop i))
    ⟨0, _, _, _, rfl, Same.refl _, ck⟩ (fun _ _ _ _ h => by obtain ⟨_, _, _, _, _, s, _⟩ := h; exact SqL.of (s _ _ ef)) ?_ ?_
  · intro i y σ H3 H4 hi pp yy
    obtain ⟨rfl, hy⟩ := yy
    obtain ⟨at_, y6, y7, y8, rfl, s3, ck3⟩ := pp
    rw [List.getElem?_map] at hy
    obtain ⟨q, hq, rfl⟩ := Option.map_eq_some_iff.mp hy
    obtain ⟨lot, ul2, hlot, eq2, lvl⟩ := lyv.at hq
    have eq3 := s3 _ _ eq2
    have lvl3 := lvl.keep (Same.keepT s3)
    have oklot := okls lot (List.mem_of_getElem? hlot)
    have llot := lls lot (List.mem_of_getElem? hlot)
    have hul := lvl.len
    rw [drop_at hlot] at ck3
    have cl := ck3.len
    cases ck3 with
    | go c1 c2 c3 =>
    have hat : at_ + lot.length ≤ R.length := by
      simp only [List.map_cons, List.sum_cons] at cl
      omega
    refine ⟨_, rfl, q, rfl, ⟨ul2, SqL.of eq3⟩, fun D hD => ?_⟩
    refine lc_gen walk_list (fun i l H => LV K H l ((lot.take i).map (phi h))) hD (fun _ s => SqL.of (s _ _ eq3)) (small (by omega)) (fun _ _ _ _ k r => r.keep k) .nil ?_ ?_
    · intro j l2 y H5 H6 hj s5 rl yy Kn El hk he
      obtain ⟨rfl, hy2⟩ := yy
      obtain ⟨z, hz1, hz2⟩ := LV.at lvl3 hy2
      refine ⟨rfl, ?_⟩
      refine ⟨_, rfl, _, rfl, y, z, h, rfl, pv_same hz2 s5, (oklot z (List.mem_of_getElem? hz1)).tok, hh, fun v' H7 s7 hv' => hk _ _ s7 ?_⟩
      rw [List.take_succ, hz1, List.map_append]
      exact (rl.keep (Same.keepT s7)).app (LV.one hv')
    intro l2 H5 s5 e5 hn rl
    rw [hul, List.take_length] at rl
    have s25 := s3.trans s5
    have et5 := s25 _ _ et2
    have eq5 := s5 _ _ eq3
    refine ⟨_, rfl, _, rfl, _, rfl, _, rfl, _, rfl, _, lot.length, rfl, .inl ⟨ul2, SqL.of eq5, hul.symm⟩, _, _, rfl, rfl, _, rfl, tp, ust, rfl, SqL.of et5, fun p3 hp3 => ?_⟩
    rw [cut_at ust (by omega)]
    have s6 := Same.new (o := .lst ((ust.drop at_).take lot.length)) hp3
    have e6 : (upd H5 p3 (.lst ((ust.drop at_).take lot.length))) p3 = some (.lst ((ust.drop at_).take lot.length)) := upd_same
    generalize upd H5 p3 (.lst ((ust.drop at_).take lot.length)) = H6 at s6 e6 ⊢
    have s26 := s25.trans s6
    have lvs : LV K H6 ((ust.drop at_).take lot.length) ((R.drop at_).take lot.length) := LV.take _ (LV.drop _ (lvR2.keep (Same.keepT s26)))
    have okS : ∀ y ∈ (R.drop at_).take lot.length, TOk y := fun y hy => (oR y (List.mem_of_mem_drop (List.mem_of_mem_take hy))).tok
    have e56 := s6 _ _ e5
    have rl6 := rl.keep (Same.keepT s6)
    have hl2 : l2.length = lot.length := by rw [rl.len, List.length_map]
    -- none of the due that is not there
    refine ⟨_, rfl, D, rfl, ⟨l2, SqL.of e56⟩, fun D2 hD2 => ?_⟩
    refine lc_gen walk_list (fun i l _ => l = []) hD2 (fun _ s => SqL.of (s _ _ e56)) (small (by omega)) (fun _ _ _ _ _ r => r) rfl ?_ ?_
    · intro j l3 y H7 H8 hj s7 rl7 yy Kn El hk he
      obtain ⟨rfl, hy2⟩ := yy
      obtain ⟨z, hz1, hz2⟩ := LV.at rl6 hy2
      rw [List.getElem?_map] at hz1
      obtain ⟨z0, hz0, rfl⟩ := Option.map_eq_some_iff.mp hz1
      have hm0 := List.mem_of_getElem? hz0
      refine ⟨rfl, ?_⟩
      refine ⟨_, rfl, _, rfl, _, ((R.drop at_).take lot.length).map pdPost, (pv_same hz2 s7).dp, .lst (SqL.of (s7 _ _ e6)) (lvs.keep (Same.keepT s7)).dp, pd_shaped (phi_ok hh (oklot z0 hm0)).tok, pds_shaped okS, _, rfl, ?_⟩
      rw [any_eqv, decide_eq_true (c1 z0 hm0)]
      exact iteF (he _ (Same.refl _) rl7)
    intro l3 H7 s7 e7 hn7 rl7
    subst rl7
    refine ⟨by show 0 ≤ sizeLine; decide, fun z hz => ?_⟩
    have s8 := Same.new (o := .lst []) hz
    have e8 : (upd H7 z (.lst [])) z = some (.lst []) := upd_same
    refine ⟨.list [], .list [], .lst (SqL.of (s8 _ _ e7)) .nil, .lst (SqL.of e8) .nil, by decide, by decide, _, rfl, ?_⟩
    rw [show PyData.eqv (.list []) (.list []) = true by simp [PyData.eqv, PyData.eqvAll]]
    refine iteF ?_
    have s68 := s7.trans s8
    have e68 := s68 _ _ e6
    have eq68 := (s6.trans s68) _ _ eq5
    generalize upd H7 z (.lst []) = H8 at s8 e8 s68 e68 eq68 ⊢
    have hcl : ((ust.drop at_).take lot.length).length = lot.length := by
      rw [lvs.len]
      exact c2
    refine ⟨_, rfl, _, lot.length, rfl, .inl ⟨_, SqL.of e68, hcl.symm⟩, _, rfl, _, lot.length, rfl, .inl ⟨ul2, SqL.of eq68, hul.symm⟩, rfl, _, rfl, ?_⟩
    rw [decide_eq_true rfl]
    refine iteF ?_
    refine ⟨_, rfl, _, rfl, _, lot.length, rfl, .inl ⟨ul2, SqL.of eq68, hul.symm⟩, _, _, rfl, rfl, ?_⟩
    exact ⟨at_ + lot.length, _, _, _, rfl, s26.trans s68, c3⟩
  · intro σ H3 pp
    obtain ⟨at_, y6, y7, y8, rfl, s3, ck3⟩ := pp
    rw [List.length_map, lyv.len, List.drop_length] at ck3
    have hat := ck3.len
    simp only [List.map_nil, List.sum_nil, Nat.add_zero] at hat
    have s03 := s02.trans s3
    have et3 := s3 _ _ et2
    refine ⟨_, rfl, _, rfl, _, ust.length, rfl, .inl ⟨ust, SqL.of et3, rfl⟩, rfl, _, rfl, ?_⟩
    rw [ul, hat, decide_eq_true rfl]
    refine iteT ?_
    refine ⟨_, rfl, a, dxa, _, rfl, s03 _ _ ea, rfl, a, L, x, rfl, wa0.same s03, O, hx, fun tp2 us2 H4 R0 s4 et4 lv4 q4 n4 o4 => ?_⟩
    have ck0 := chk_id O hx ly q4
    have l1 := ck.len
    have l2 := ck0.len
    have eqR : R0.length = R.length := by omega
    have ul4 := lv4.len
    refine ⟨_, us2.length, rfl, .inl ⟨us2, SqL.of et4, rfl⟩, _, rfl, _, ust.length, rfl, .inl ⟨ust, SqL.of (s4 _ _ et3), rfl⟩, rfl, ?_⟩
    rw [ul4, ul, eqR, decide_eq_true rfl]
    exact k _ (s03.trans s4)
def spLaw (K : PySem.W.Frag) : Sp := fun vs H Q _ => ∃ (p : Addr) (ns : List Int), vs = [.ref p] ∧ SqL K H p (ns.map V.int) ∧ ∀ H', Q (.bl true) H'
theorem calF {x : Str} {st : Stmt} {f : Addr} {fd : FuncData} {N ps : List Str} {k : Nat} {sp : Sp} (F : FunD K x x (C8.fnArgs st) (C8.fnBody st) (C8.fnScope st) [] [] f fd) (S : C8.scC N ps (C8.fnScope st) = true) (len : ∀ vs H Q E, sp vs H Q E → vs.length = ps.length)
    (hbody : ∀ (f : Addr) (cdv : Value) (A : Around) (outer : List Env) (s : Shared) (H : Hp) (vs : List V) (Q : VK) (E : XK), Room k (A.deeper (envOfC x (C8.fnScope st) s.heap.objs.size f cdv)) → sp vs H Q E →
      ∃ t, PSs (cxOf C8.CX0 P w K mg base N x (C8.fnScope st) f cdv A outer s H E).nox (C8.fnBody st) t ∧ t { nx := fun _ H' => Q .non H', rt := Q } (start N vs) H) : FnOk P w K mg base C8.CX0 (k + 1) f fd ps sp :=
  F.ok (C8.fnScope_by S) len fun cdv A outer s H vs Q E hr h => by
    obtain ⟨t, h1, h2⟩ := hbody f cdv A outer s H vs Q E hr h
    exact ⟨t, h1.nox, h2⟩
theorem ok_law {fl : Addr} {fdl : FuncData} (F : FunD K "law" "law" (C8.fnArgs s_law) (C8.fnBody s_law) (C8.fnScope s_law) [] [] fl fdl) (T : Txt K mg) (h1 : C8.Cal P w K mg base 1 "_law_source" spSource []) (h2 : C8.Cal P w K mg base 4 "_law_rows" spLawRows []) (h3 : C8.Cal P w K mg base 5 "_law_land" (spLawLand K) []) (h4 : C8.Cal P w K mg base 4 "_law_any_start" (spAnyStart K) []) (h5 : C8.Cal P w K mg base 11 "_law_begun" (spLawBegun K) [])
    (h6 : C8.Cal P w K mg base 4 "_law_turn" spTurn []) (h7 : C8.Cal P w K mg base 11 "hand_turned" (spHandTurned K) []) (h8 : C8.Cal P w K mg base 4 "_law_line" spLine []) (h9 : C8.Cal P w K mg base 12 "_law_right" (spRight K) []) (h10 : C8.Cal P w K mg base 3 "_law_one" (spOne K) [])
    (h11 : C8.Cal P w K mg base 12 "_law_again_right" (spAgain K) []) (h12 : C8.Cal P w K mg base 2 "_law_take" spTake []) (h13 : C8.Cal P w K mg base 12 "_law_comes_right" (spComesRight K) []) : FnOk P w K mg base C8.CX0 13 fl fdl ["_law_script"] (spLaw K) := by
  have SC : C8.scC ["_law_script", "_law_cell", "_law_source_here", "_law_land_here", "_law_it", "_law_k", "_law_sense_here", "_law_far", "_law_line_here"] ["_law_script"] (C8.fnScope s_law) = true := by decide +kernel
  have nd := (C8.fnScope_by SC).nd
  refine calF F SC (fun vs H Q E h => by obtain ⟨_, _, rfl, _⟩ := h; rfl) (fun f cdv A outer s H vs Q E hr h => ?_)
  obtain ⟨p, ns, rfl, hp, k⟩ := h
  refine ⟨_, pss_cons (ps_for PassesOwn.never rfl (pi_list (pe_op op_cat (pe_slice sl_list (pv 0) po_none (po_some pe_int)) (pe_lst (pa_cons pe_int pa_nil)))) (pg_name (i := 1) nd rfl (.inl rfl))
      (pss_cons (ps_set (i := 2) nd rfl (.inl rfl) (C8.pe_c h1 hr (by decide) rfl (pa_cons (pv 1) pa_nil)))
      (pss_cons (ps_set (i := 3) nd rfl (.inl rfl) (C8.pe_c h4 hr (by decide) rfl (pa_cons (pv 2) (pa_cons (C8.pe_c h3 hr (by decide) rfl (pa_cons (pv 2) (pa_cons (C8.pe_c h2 hr (by decide) rfl (pa_cons (pv 2) (pa_cons pe_int (pa_cons pe_int pa_nil)))) pa_nil))) pa_nil))))
      (pss_cons (ps_set (i := 4) nd rfl (.inl rfl) (C8.pe_c h5 hr (by decide) rfl (pa_cons (pv 3) pa_nil)))
      (pss_one (ps_for PassesOwn.never rfl (pi_range1 rfl T.b_range (pa_cons pe_int pa_nil)) (pg_name (i := 5) nd rfl (.inl rfl))
        (pss_cons (ps_set (i := 6) nd rfl (.inl rfl) (C8.pe_c h6 hr (by decide) rfl (pa_cons (pv 2) pa_nil)))
        (pss_cons (ps_set (i := 7) nd rfl (.inl rfl) (C8.pe_c h7 hr (by decide) rfl (pa_cons (pv 4) (pa_cons (pv 6) pa_nil))))
        (pss_cons (ps_set (i := 8) nd rfl (.inl rfl) (C8.pe_c h8 hr (by decide) rfl (pa_cons (pv 2) (pa_cons pe_int pa_nil))))
        (pss_cons (ps_if (pt_not (pt_val (C8.pe_c h9 hr (by decide) rfl (pa_cons (pv 4) (pa_cons (pv 7) (pa_cons (pv 3) (pa_cons (pv 6) (pa_cons (pv 8) pa_nil)))))))) pss_never pss_nil)
        (pss_cons (ps_set (i := 8) nd rfl (.inl rfl) (pe_op op_add_str (pe_slice C8.sl_txt (pv 8) po_none (po_some pe_int)) (C8.pe_c h10 hr (by decide) rfl (pa_cons (pv 2) (pa_cons pe_str pa_nil)))))
        (pss_cons (ps_if (pt_not (pt_val (C8.pe_c h11 hr (by decide) rfl (pa_cons (pv 4) (pa_cons (pv 7) (pa_cons (pv 6) (pa_cons (pv 8) (pa_cons (C8.pe_c h12 hr (by decide) rfl (pa_cons (pv 2) (pa_cons (pe_op op_pow pe_int pe_int) pa_nil))) pa_nil)))))))) pss_never pss_nil)
        (pss_one (ps_if (pt_not (pt_val (C8.pe_c h13 hr (by decide) rfl (pa_cons (pv 4) (pa_cons (pv 7) (pa_cons (pv 3) (pa_cons (pv 6) pa_nil))))))) pss_never pss_nil))))))))))))))
    (pss_one (ps_ret pe_bl)), ?_⟩
  -- the cells
  refine ⟨_, rfl, _, rfl, p, _, rfl, hp, fun p1 hp1 => ?_⟩
  have n1 : p1 ≠ p1 ∨ True := .inr trivial
  generalize ecs : cutV (ns.map V.int) none (some 4) = cs
  have ics : ∀ v ∈ cs, ∃ i : Int, v = .int i := fun v hv => by
    rw [← ecs] at hv
    unfold cutV at hv
    obtain ⟨i, _, e⟩ := List.mem_map.mp (List.mem_of_mem_drop (List.mem_of_mem_take hv))
    exact ⟨i, e.symm⟩
  have lcs : cs.length ≤ 4 := by
    rw [← ecs]
    unfold cutV
    rw [List.length_take]
    have : HT.sIx (ns.map V.int).length (ns.map V.int).length (some 4) ≤ 4 := by
      have h := HT.sIx_nat (ns.map V.int).length (ns.map V.int).length 4
      rw [show ((4 : Nat) : Int) = 4 from rfl] at h
      rw [h]
      exact Nat.min_le_left _ _
    omega
  have e1 : (upd H p1 (.lst cs)) p1 = some (.lst cs) := upd_same
  generalize upd H p1 (.lst cs) = H1 at e1 ⊢
  refine ⟨by show 1 ≤ sizeLine; decide, fun p2 hp2 => ?_⟩
  have s2 := Same.new (o := .lst [.int 0]) hp2
  have e2 : (upd H1 p2 (.lst [.int 0])) p2 = some (.lst [.int 0]) := upd_same
  generalize upd H1 p2 (.lst [.int 0]) = H2 at s2 e2 ⊢
  refine ⟨p1, p2, cs, [.int 0], rfl, rfl, s2 _ _ e1, e2, by show cs.length + 1 ≤ sizeLine; exact small (by omega), fun p3 hp3 => ?_⟩
  have ic2 : ∀ v ∈ cs ++ [V.int 0], ∃ i : Int, v = .int i := fun v hv => by
    rcases List.mem_append.mp hv with hv | hv
    · exact ics v hv
    · exact ⟨0, List.mem_singleton.mp hv⟩
  have e3 : (upd H2 p3 (.lst (cs ++ [.int 0]))) p3 = some (.lst (cs ++ [.int 0])) := upd_same
  generalize upd H2 p3 (.lst (cs ++ [.int 0])) = H3 at e3 ⊢
  generalize cs ++ [V.int 0] = its at e3 ic2 ⊢
  refine ⟨p3, rfl, ⟨its, SqL.of e3⟩, ?_⟩
  refine for_it (walk_list (K := K) (a := p3) (xs := its)) (fun i σ H' => ∃ y1 y2 y3 y4 y5 y6 y7 y8, σ = [some (.ref p), y1, y2, y3, y4, y5, y6, y7, y8] ∧ H' p3 = some (.lst its)) ⟨_, _, _, _, _, _, _, _, rfl, e3⟩ (fun _ _ _ _ h => by obtain ⟨_, _, _, _, _, _, _, _, _, e⟩ := h; exact SqL.of e) ?_ ?_
  · intro i y σ H4 H5 hi pp yy
    obtain ⟨rfl, hy⟩ := yy
    obtain ⟨y1, y2, y3, y4, y5, y6, y7, y8, rfl, e4⟩ := pp
    obtain ⟨c, rfl⟩ := ic2 y (List.mem_of_getElem? hy)
    refine ⟨_, rfl, c, rfl, fun a H6 na s6 src6 => ?_⟩
    have e6 := s6 _ _ e4
    have n3a : p3 ≠ a := fun z => by rw [z, na] at e4; cases e4
    -- the land
    refine ⟨_, rfl, _, rfl, _, rfl, a, rfl, src6, fun pr r H7 b7 npr hw R ho => ?_⟩
    refine ⟨a, pr, r, rfl, b7.src, hw, R, ho, fun d L q t H8 b8 ld8 O hq ht => ?_⟩
    refine ⟨a, d, L, q, t, rfl, b8.src, ld8, O, hq, ht, fun d2 x H9 b9 ld9 hx => ?_⟩
    have ho2 : opn L.rows ≠ [] := fun z => by rw [z] at hq; cases hq
    refine ⟨_, rfl, d2, L, x, rfl, ld9, O, hx, ho2, fun it H10 s10 w10 => ?_⟩
    have b610 := ((b7.trans b8).trans b9).seq s10
    have ld10 := ld9.same s10
    refine ⟨2, rfl, by decide, by decide, ?_⟩
    refine for_it walk_range (fun j σ H' => ∃ y5 y6 y7 y8, σ = [some (.ref p), some (.int c), some (.ref a), some (.ref d2), some (.ref it), y5, y6, y7, y8] ∧ SrcB a H10 H') ⟨_, _, _, _, rfl, .refl b610.src⟩ (fun _ _ _ _ _ => trivial) ?_ ?_
    · intro j y σ H11 H12 hj pp2 yy2
      obtain ⟨rfl, rfl⟩ := yy2
      obtain ⟨z5, z6, z7, z8, rfl, b11⟩ := pp2
      refine ⟨_, rfl, a, rfl, b11.src, fun H13 h b13 hh => ?_⟩
      have c13 := b11.trans b13
      have w13 := w10.but b610.src c13
      have ld13 := ld10.src O b610.src c13
      refine ⟨_, rfl, _, rfl, it, L, x, h, rfl, w13, O, hx, hh, fun far H14 s14 wf14 => ?_⟩
      have c14 := c13.seq s14
      refine ⟨_, rfl, a, 40, rfl, c14.src, by decide, fun H15 l b15 hl hl40 => ?_⟩
      have w15 := (w13.same s14).but c14.src b15
      have wf15 := wf14.but c14.src b15
      have ld15 := (ld13.same s14).src O c14.src b15
      have c15 := c14.trans b15
      refine ⟨_, rfl, _, rfl, _, rfl, _, rfl, _, rfl, it, far, d2, L, x, h, l, rfl, w15, wf15, ld15, O, hx, hh, hl, by omega, fun H16 s16 => ?_⟩
      refine ⟨_, rfl, iteF ?_⟩
      have c16 := c15.seq s16
      refine ⟨_, rfl, 9, rfl, S l, rfl, by show l.length ≤ sizeLine; exact small (by omega), ?_⟩
      rw [SX.slice_to (by decide)]
      refine ⟨_, rfl, a, .str "urdl", rfl, c16.src, .inr ⟨deeds, by rw [← dE], by decide, by decide, fun H17 cc b17 hcc => ?_⟩⟩
      have c17 := c16.trans b17
      have ltake : (l.take (9 : Int).toNat).length ≤ 9 := by
        rw [List.length_take]
        exact Nat.min_le_left _ _
      refine ⟨_, _, rfl, rfl, by show (l.take (9 : Int).toNat).length + 1 ≤ sizeLine; exact small (by omega), ?_⟩
      rw [S_app]
      have hl2 : ∀ e ∈ l.take (9 : Int).toNat ++ [cc], e ∈ deeds := fun e he => by
        rcases List.mem_append.mp he with he | he
        · exact hl e (List.mem_of_mem_take he)
        · rw [List.mem_singleton.mp he]
          exact hcc
      have hn2 : l.take (9 : Int).toNat ++ [cc] ≠ [] := by simp
      have hz2 : (l.take (9 : Int).toNat ++ [cc]).length ≤ 800 := by
        rw [List.length_append, List.length_singleton]
        omega
      generalize l.take (9 : Int).toNat ++ [cc] = l2 at hl2 hn2 hz2 ⊢
      have w17 := (w15.same s16).but c16.src b17
      have wf17 := (wf15.same s16).but c16.src b17
      have ld17 := (ld15.same s16).src O c16.src b17
      refine ⟨_, rfl, _, rfl, _, rfl, _, rfl, _, rfl, _, _, rfl, rfl, ⟨by decide, by decide, by decide⟩, a, _, rfl, c17.src, by decide, by decide, fun m H18 b18 m0 m1 => ?_⟩
      have c18 := c17.trans b18
      have w18 := w17.but c17.src b18
      have wf18 := wf17.but c17.src b18
      have ld18 := ld17.src O c17.src b18
      have m2 : m < 1000000000000000000 := by
        have h : (10 : Int) ^ (18 : Int).toNat = 1000000000000000000 := by decide
        rw [h] at m1
        exact m1
      obtain ⟨mn, rfl⟩ : ∃ n : Nat, m = (n : Int) := ⟨m.toNat, by omega⟩
      refine ⟨it, far, L, x, h, l2, mn, rfl, w18, wf18, O, hx, hh, hl2, hn2, hz2, by omega, fun H19 s19 => ?_⟩
      refine ⟨_, rfl, iteF ?_⟩
      have c19 := c18.seq s19
      refine ⟨_, rfl, _, rfl, _, rfl, _, rfl, it, far, d2, L, x, h, rfl, w18.same s19, wf18.same s19, ld18.same s19, O, hx, hh, fun H20 s20 => ?_⟩
      exact ⟨_, rfl, iteF ⟨_, _, _, _, rfl, c19.seq s20⟩⟩
    · intro σ H11 pp2
      obtain ⟨z5, z6, z7, z8, rfl, b11⟩ := pp2
      exact ⟨_, _, _, _, _, _, _, _, rfl, (b610.trans b11).but _ _ n3a e6⟩
  · intro σ H4 pp
    obtain ⟨y1, y2, y3, y4, y5, y6, y7, y8, rfl, e4⟩ := pp
    exact k H4
end
end K79
/-! part HeadT -/
/-! The top's run, and the facts read off it. -/
namespace K79
open PySem PySem.Spec PySem.W PySem.Calls PyProof.Rows L2
abbrev RR : PySem.W.OpenRow := PySem.W.OpenLaw.row PySem.Challenge.rw_onehand_k79_whole_hands_turned
def lo0 : List PySem.Str := ["_wall", "__name__", "HandError", "NoTurn", "NoRow", "NoFloor", "NoPlace", "NoWorld", "NoStand", "NoBeat", "is_whole", "is_from", "is_place", "DEEDS", "TURNS", "is_turn", "want_turn", "want_row", "want_deed", "way"]
def lo1 : List PySem.Str := ["row_turned", "then", "place_turned", "WALL", "ICE", "PIT", "LETTERS", "OPEN", "SIGNS", "MOST", "STEPS", "is_text", "want_rows", "next_to", "Floor", "MOST_BEAT", "is_stand", "is_book", "are_wishes", "first_wrong"]
def lo2 : List PySem.Str := ["want_said", "World", "hand_turned", "_law_mixed", "_law_source", "_law_take", "_law_one", "_law_rows", "_law_sense", "_law_spots", "_law_land", "_law_made", "_law_sign", "_law_goes", "_law_becomes", "_law_behind", "_law_gone", "_law_line", "_law_begun", "_law_any_start"]
def lo3 : List PySem.Str := ["_law_both", "_law_undone", "_law_spun", "_law_rows_spun", "_law_turn", "_law_post_turned", "_law_right", "_law_again_right", "_law_layers", "_law_comes_right"]
def loose : List PySem.Str := lo0 ++ lo1 ++ lo2 ++ lo3
abbrev hk : PySem.W.Hook := He.hookX 4 fa fn [] [] exB
def ob (s : PySem.W.SharedT) : He.AlX := He.obsX 4 fa fn [] [] exB (HandSHeadRun.getT s)
theorem ob_eq (s : PySem.W.SharedT) : ob s = hk.obs s.abs := He.obsX_eq (HandSHeadRun.getT_eq s)
theorem run (w : World) : HandSHeadRun.RunEq RR (PySem.W.view RR.prog [76]) hk ob 8000 loose w := by
  intro os
  kernel_rfl
end K79
/-! part W24 -/
/-! The end. -/
namespace K79
open PySem PySem.Spec PyProof.Rows L2
theorem ok_all {P : Program} {w : World} {K : PySem.W.Frag} {mg : Str → Option Value} (base : Heap) {fl : Addr} {fdl : FuncData} (F : FunD K "law" "law" (C8.fnArgs s_law) (C8.fnBody s_law) (C8.fnScope s_law) [] [] fl fdl) (T : Txt K mg) : FnOk P w K mg base C8.CX0 13 fl fdl ["_law_script"] (spLaw K) := by
  have whole := ok_is_whole (P := P) (w := w) (base := base) T
  have from_ := ok_is_from T whole
  have place := ok_is_place T from_
  have isTurn := ok_is_turn (P := P) (w := w) (base := base) T
  have wantTurn := ok_want_turn T isTurn
  have wantDeed := ok_want_deed (P := P) (w := w) (base := base) T
  have way_ := ok_way T wantTurn wantDeed
  have wantRow := ok_want_row (P := P) (w := w) (base := base) T
  have rowTurned := ok_row_turned T wantTurn wantRow way_
  have then_ := ok_then T wantTurn rowTurned
  have size := ok_size (P := P) (w := w) (base := base) T
  have has := ok_has T size place
  have seen := ok_seen T has
  have canStand := ok_can_stand T has seen
  have nextTo := ok_next_to (P := P) (w := w) (base := base) T
  have goes_ := ok_goes T canStand wantDeed nextTo seen
  have letters := ok_letters (P := P) (w := w) (base := base) T
  have places := ok_places T size
  have openPlaces := ok_open_places T places seen
  have isText := ok_is_text (P := P) (w := w) (base := base) T
  have wantRows := ok_want_rows T isText
  have floor := ok_floor T wantRows
  have isStand := ok_is_stand T canStand isTurn
  have isBook := ok_is_book T letters isTurn
  have areWishes := ok_are_wishes T has
  have firstWrong := ok_first_wrong T has openPlaces isTurn isBook areWishes
  have wantSaid := ok_want_said T wantRow
  have world := ok_world T firstWrong letters
  have start := ok_start (P := P) (w := w) (base := base) T
  have wantStand := ok_want_stand T isStand
  have begun := ok_begun T wantStand world
  have behind := ok_behind T goes_ way_ seen then_
  have gone_ := ok_gone T behind
  have walk := ok_walk T wantRow gone_
  have comings := ok_comings T walk seen
  have comes := ok_comes T behind
  have sayings := ok_sayings T gone_
  have standAt := ok_stand_at T wantSaid from_ sayings gone_
  have roundOf := ok_round_of T wantSaid sayings
  have hand := ok_hand_turned T wantTurn start begun then_
  have mixed := ok_mixed (P := P) (w := w) (base := base) T
  have take := ok_take T mixed
  have one := ok_one T take
  have source := ok_source (P := P) (w := w) (base := base) T
  have turn := ok_turn T one
  have sense := ok_sense T one
  have line := ok_line T take one
  have becomes := ok_becomes (P := P) (w := w) (base := base) T
  have both := ok_both T becomes
  have postTurned := ok_post_turned T both
  have sign := ok_sign (P := P) (w := w) (base := base) T
  have lawGoes := ok_law_goes T sign
  have lawBehind := ok_law_behind T lawGoes becomes sign
  have lawGone := ok_law_gone T lawBehind
  have spots := ok_spots (P := P) (w := w) (base := base) T
  have rows := ok_law_rows T take one
  have land := ok_law_land T take one spots sense
  have made := ok_made T floor world
  have lawBegun := ok_law_begun T sign made spots begun
  have anyStart := ok_any_start T take one spots
  have right := ok_right T becomes lawGone postTurned walk comings
  have again := ok_again T becomes roundOf standAt postTurned
  have layers := ok_layers T lawBehind
  have comesRight := ok_comes_right T comes layers postTurned
  exact ok_law F T source rows land anyStart lawBegun turn hand line right one again take comesRight
theorem facts {P : Program} {w : World} {K : PySem.W.Frag} {h : Heap} {mg : Str → Option Value} {f : Addr} (X : K.In h) (G : h.Ns mainGlobals mg) (hfa : mg ("law" : Str) = some (.ref f)) (c : He.SaysD fa fn K) (e : exB K = true) :
    ∃ fd : FuncData, (∀ (s : Shared) (v : Value), BindsTo s fd ⟨[v], []⟩ [("_law_script", v)]) ∧ ∀ base : Heap, FnOk P w K mg base C8.CX0 13 f fd ["_law_script"] (spLaw K) := by
  have T := txt_of X G c e
  obtain ⟨f2, fd, F, hm⟩ := T.f_law
  have e2 := hfa.symm.trans hm
  cases e2
  have b := FunD.bindsA (ps := ["_law_script"]) F fun _ _ _ _ _ _ us hl => match us, hl with | [_], _ => rfl
  exact ⟨fd, fun s v => b s [v] rfl, fun base => ok_all base F T⟩
end K79
open PySem PySem.W PySem.Calls PyProof.Rows
theorem PySem.Challenge.cw_onehand_k79_whole_hands_turned_holds : PySem.Challenge.rw_onehand_k79_whole_hands_turned.Holds := by
  w_on; o_law
  refine HandSHeadRun.head_any (r := K79.RR) (q := view K79.RR.prog [76]) (H := K79.hk) (ob := K79.ob) (M := 8000) (loose := K79.loose) (d := HandSHeadRun.topDef K79.RR.prog 76) (kwd := []) K79.ob_eq
    (by kernel_rfl) (fun s => by kernel_rfl) K79.run (by kernel_rfl) (by kernel_rfl) (by kernel_rfl) (by rfl) (by first | assumption | decide +kernel) (by decide +kernel) ⟨rfl, rfl, rfl, rfl, rfl, by decide +kernel⟩ ?hw ?hc
  case hw => w_witness2
  case hc =>
    refine L2.walk_ofE (l := PySem.Challenge.rw_onehand_k79_whole_hands_turned) (n := 63) (k := 13) (x := "_law_script") (CX := C8.CX0) rfl (by decide) (by kernel_rfl) ⟨rfl, by decide, by decide⟩ ?F (fun _ _ _ _ z => z)
    intro w mg fa h Y G hmg0
    obtain ⟨K, KX, c⟩ := Y
    have hmg : mg ("law" : PySem.Str) = some (.ref fa) := by
      have e : (HandSHeadRun.topDef K79.RR.prog 76).name = ("law" : PySem.Str) := by kernel_rfl
      rw [← e]
      exact hmg0
    obtain ⟨fd, hb, hF⟩ := K79.facts (P := K79.RR.prog) (w := w) KX G hmg c.t.d c.more
    exact ⟨K, fd, K79.spLaw K, KX, hb, fun H a ns hl _ hS => ⟨a, ns, rfl, hS, fun _ => rfl⟩, fun base _ _ => hF base⟩
