import PyProof.Rows.All
import Wide.All
import OpenK.AllK
import Wide.FinOn
import PySem.Challenge.RW_sa0561_01
set_option Elab.async false
set_option maxRecDepth 100000

namespace Mine
open PySem PySem.W PyProof.Rows
set_option maxHeartbeats 8000000
open_top hd for PySem.Challenge.rw_sa0561_01

end Mine

namespace Mine
open PySem PySem.W PySem.Spec PySem.Calls PyProof.Rows
section
variable {prog : Program} {w : World} {A : Around} {E : Value → Shared → Prop} {s : Shared}

theorem bb_look : typeLookup (.type "bytes") "__bytes__" = pure (some (.builtin "bytes.__bytes__")) := by rw [typeLookup_type, builtinLookup_eq_fast]; kernel_rfl
theorem bb_new {b : Array UInt8} {t : Tok} {Q : Value → Shared → Prop} (hQ : Q (.bytes b t) s) :
    codeAny (model prog w) A (.call (.builtin "bytes.__new__") ⟨[.type "bytes", .bytes b t], []⟩) (wants Q E) s := by
  refine codeAny_of_tree ?_
  show wpAny _ A.in1 (do checkBuiltinCall "bytes.__new__" ⟨[.type "bytes", .bytes b t], []⟩; again (.builtin "bytes.__new__" ⟨[.type "bytes", .bytes b t], []⟩)) _ _ s
  refine wpAny_bind (wpAny_of_eq (F.bm_newCall _) (wpAny_pure ⟨plainId_quiet F.bm_plain _, codeAny_builtin F.bm_entry ?_⟩))
  rw [Around.under_plainId F.bm_plain _]
  have hT : s.TypeIs (.bytes b t) "bytes" := PySem.W.typeIs_bytes _ _ _
  unfold Builtin.«bytes.__new__»
  refine wpAny_bind (wpAny_of_eq (a := true) rfl ?_)
  refine bm_if_false rfl ?_
  refine wpAny_bind (wpAny_of_eq F.bm_sub ?_)
  refine bm_if_false rfl ?_
  refine wpAny_bind (wpAny_of_eq (F.bm_bind _) ?_)
  refine wpAny_bind (wpAny_of_eq (a := ()) rfl ?_)
  refine wpAny_bind (wpAny_of_eq (a := ()) rfl ?_)
  refine bm_if_false rfl ?_
  refine wpAny_bind (wpAny_specialOf hT bb_look ?_)
  refine wpAny_bind (wpAny_rule ?_)
  refine wpAny_bind (wpAny_typeOf hT ?_)
  refine bm_if_true rfl ?_
  first
    | exact wpAny_of_eq (a := Fin.done (.ret (.bytes b t))) rfl hQ
    | exact wpAny_of_eq (a := Fin.done (.ret (.bytes b t))) rfl ⟨_, rfl, hQ⟩
    | (with_unfolding_all exact wpAny_pure ⟨_, rfl, hQ⟩)

theorem call_bytes_bytes {b : Array UInt8} {t : Tok} {Q : Value → Shared → Prop} (hQ : Q (.bytes b t) s) : wpAny (model prog w) A (call (.type "bytes") [.bytes b t]) Q E s := by
  refine callType_codes (Q₁ := fun obj s₁ => s₁.TypeIs obj "bytes" ∧ Q obj s₁) F.bm_called (F.bm_typeCall _) F.entry_object_init
    (bb_new ⟨PySem.W.typeIs_bytes _ _ _, hQ⟩) fun obj s₁ h₁ => ?_
  exact ⟨h₁.1, F.args_object_init_2 obj _, object_init_meets F.bm_called.init.lookup F.bm_called.made (by decide) prog w A.in1 _ s₁ ⟨h₁.1, rfl, h₁.2⟩⟩
end

/-- what a turn of a loop over a list must end with -/
def EndT (h₀ : Heap) (L : Addr) (I : Addr) (oI : Obj) (lo : Addr × Obj) (J : (Str → Option Value) → List (Addr × Obj) → Prop) (s : Shared) (s₂ : Shared) : Prop :=
  ∃ h' tk m' nx', s₂ = { s with heap := h', toks := tk } ∧ Fr h₀ L h' m' ∧ News h₀ L h' ((I, oI) :: nx') ∧ lo ∈ nx' ∧ (∀ p ∈ nx', p.1 ≠ I) ∧ J m' nx'
def PostT (h₀ : Heap) (L : Addr) (I : Addr) (oI : Obj) (lo : Addr × Obj) (J : (Str → Option Value) → List (Addr × Obj) → Prop) (s : Shared) (Q : Flow → Shared → Prop) (f : Flow) (s₂ : Shared) : Prop :=
  match f with
  | .ret v => Q (.ret v) s₂
  | .brk => Q .next s₂
  | _ => EndT h₀ L I oI lo J s s₂

section
variable {prog : Program} {w : World} {A : Around} {E : Value → Shared → Prop} {s : Shared} {env : Env} {h₀ : Heap} {target : PySem.Expr} {body : List Stmt} {Q : Flow → Shared → Prop}
theorem turns_iter {l : Addr} {vs : List Value} {nn : Nat} {m₀ : Str → Option Value} {news : List (Addr × Obj)} (J : Addr → Nat → (Str → Option Value) → List (Addr × Obj) → Prop)
    (hh : A.handled = none) (hl : (l, listOf vs.toArray nn) ∈ news) (F : Fr h₀ env.locals s.heap m₀) (N : News h₀ env.locals s.heap news) (hj : ∀ I, (∀ p ∈ news, p.1 < I) → J I 0 m₀ news)
    (turn : ∀ I i v m₁ nx h tk oI, vs[i]? = some v → J I i m₁ nx → (l, listOf vs.toArray nn) ∈ nx → (∀ p ∈ nx, p.1 ≠ I) → Fr h₀ env.locals h m₁ → News h₀ env.locals h ((I, oI) :: nx) →
      wpAny (model prog w) A (assign target env v) (fun _ s₃ => wpAny (model prog w) A (execs body env) (PostT h₀ env.locals I oI (l, listOf vs.toArray nn) (J I (i + 1)) { s with heap := h, toks := tk } Q) E s₃) E { s with heap := h, toks := tk })
    (done : ∀ I m₁ nx h tk, J I vs.length m₁ nx → Fr h₀ env.locals h m₁ → News h₀ env.locals h nx → Q .next { s with heap := h, toks := tk }) :
    wpAny (model prog w) A (pyIter (.ref l)) (fun it s₂ => TurnsAt prog w A h₀ env target body Q E it s₂) E s := by
  have hol : s.heap.get? l = some (listOf vs.toArray nn) := (N _ hl).1
  have hls : s.heap.IsList l vs.toArray := ⟨_, hol, rfl, nn, rfl⟩
  have hne : l ≠ s.heap.objs.size := Nat.ne_of_lt (Heap.lt_size hol)
  refine wpAny_pyIter_list hls ?_
  have W := KTurns.ofWalks (target := target) (Walks.list (prog := prog) (w := w) hh s.heap.objs.size l hne vs.toArray) fun i v s Q E st q => letGo_listiter st.1 q
  have hlen : vs.toArray.size = vs.length := by simp
  rw [hlen] at W
  refine ⟨_, _, _, vs.length, _, _, _, m₀, news, (fun i m nx => (l, listOf vs.toArray nn) ∈ nx ∧ J s.heap.objs.size i m nx), rfl, W, ?_, ?_, ?_, ⟨⟨_, Heap.get?_push_size _ rfl, rfl, rfl⟩, hls.at fun o e => Heap.get?_push_of_some _ e⟩, F.push _, (fun p hp => ⟨Heap.get?_push_of_some _ (N p hp).1, (N p hp).2⟩), ⟨hl, hj _ fun p hp => Heap.lt_size (N p hp).1⟩, ?_, ?_⟩
  · intro hm
    rcases List.mem_cons.mp hm with e | hm
    · exact absurd F.ns.lt (e ▸ Nat.lt_irrefl _)
    · exact (N _ hl).2.1 ((List.mem_singleton.mp hm).symm)
  · intro b hb
    rw [List.mem_singleton.mp hb]
    exact next_is_new F
  · intro p hp hI
    exact absurd (Heap.lt_size (N p hp).1) ((List.mem_singleton.mp hI) ▸ Nat.lt_irrefl _)
  · rintro i v m₁ news₁ hh' tk' own hin hP ⟨hl₁, hJ⟩ hoff hown hget hfp hst F₁ N₁
    have hP' : vs[i]? = some v := by simpa using hP
    have hI0 : h₀.get? s.heap.objs.size = none := next_is_new F
    obtain ⟨⟨oI, hoI, _⟩, _⟩ := id hst
    have hIown : (s.heap.objs.size, oI) ∈ own := hfp _ (List.mem_cons.mpr (.inl rfl)) hI0 _ hoI
    have hoff' : ∀ p ∈ news₁, p.1 ≠ s.heap.objs.size := fun p hp e => hoff p hp (List.mem_singleton.mpr e)
    have N₂ : News h₀ env.locals hh' ((s.heap.objs.size, oI) :: news₁) := fun p hp => by
      rcases List.mem_cons.mp hp with rfl | hp
      · exact N₁ _ (List.mem_append.mpr (.inl hIown))
      · exact N₁ p (List.mem_append.mpr (.inr hp))
    have hlo : hh'.get? l = some (listOf vs.toArray nn) := (N₁ _ (List.mem_append.mpr (.inr hl₁))).1
    refine wpAny_mono (turn s.heap.objs.size i v m₁ news₁ hh' tk' oI hP' hJ hl₁ hoff' F₁ N₂) (fun _ s₂ p => wpAny_mono p (fun f s₃ p => ?_) fun _ _ e => e) fun _ _ e => e
    have fin : EndT h₀ env.locals s.heap.objs.size oI (l, listOf vs.toArray nn) (J s.heap.objs.size (i + 1)) { s with heap := hh', toks := tk' } s₃ →
        LoopStepU h₀ env.locals [s.heap.objs.size] own (fun m nx => (l, listOf vs.toArray nn) ∈ nx ∧ J s.heap.objs.size (i + 1) m nx) { s with heap := hh', toks := tk' } .next s₃ := by
      rintro ⟨h', tk, m', nx, e, F', N', hm1, ho, hm2⟩
      refine ⟨rfl, h', tk, m', nx, e, F', fun p hp => ?_, fun p hp hq => ho p hp (List.mem_singleton.mp hq), hm1, hm2⟩
      rcases List.mem_append.mp hp with h | h
      · by_cases hI : p.1 = s.heap.objs.size
        · have h2 : hh'.get? p.1 = some p.2 := hget p h
          have h4 : p = (s.heap.objs.size, oI) := by
            rw [hI] at h2
            have h5 := h2.symm.trans hoI
            exact Prod.ext hI (Option.some.inj h5)
          rw [h4]
          exact N' _ (.head _)
        · have h1 : p.1 = l := by
            rcases List.mem_cons.mp (hown p h) with h2 | h2
            · exact absurd h2 hI
            · exact List.mem_singleton.mp h2
          have h2 : hh'.get? p.1 = some p.2 := hget p h
          rw [h1, hlo] at h2
          have h3 : p = (l, listOf vs.toArray nn) := Prod.ext h1 (Option.some.inj h2).symm
          rw [h3]
          exact N' _ (.tail _ hm1)
      · exact N' p (.tail _ h)
    cases f with
    | ret v => exact .ret p
    | brk => exact .brk p
    | next => exact .next (fin p)
    | cont => exact .cont (fin p)
  · rintro h' tk m' news' F' N' _ ⟨_, hJ⟩
    exact done _ m' news' h' tk hJ F' N'
end

section
variable {prog : Program} {w : World} {A : Around} {E : Value → Shared → Prop} {s : Shared} {h₀ : Heap} {L D a b : Addr} {m : Str → Option Value} {news : List (Addr × Obj)} {Q : Value → Shared → Prop} {vs ws : List Value} {n k : Nat}

theorem isList_of (N : News h₀ L s.heap news) (hm : (a, listOf vs.toArray n) ∈ news) : s.heap.IsList a vs.toArray := ⟨_, (N _ hm).1, rfl, n, rfl⟩
theorem append_my {x : Value} (rest : List (Addr × Obj)) (F : Fr h₀ L s.heap m) (N : News h₀ L s.heap news) (hm : (D, listOf vs.toArray n) ∈ news) (hs : ∀ p ∈ rest, p ∈ news) (hr : ∀ p ∈ rest, p.1 ≠ D) (hz : vs.length ≤ 16777216)
    (h : ∀ h', Fr h₀ L h' m → News h₀ L h' ((D, listOf (vs ++ [x]).toArray (n + 1)) :: rest) → Q .none { s with heap := h' }) : wpAny (model prog w) A (call (.builtin "list.append") [.ref D, x]) Q E s := by
  refine append_K (news := (D, listOf vs.toArray n) :: rest) (news' := (D, listOf (vs ++ [x]).toArray (n + 1)) :: rest) (its := vs.toArray) (n := n) F (fun p hp => ?_) ?_ h (by rw [List.size_toArray, sizeLine_eq]; exact hz)
  · rcases List.mem_cons.mp hp with rfl | hp
    · exact N _ hm
    · exact N _ (hs _ hp)
  · have e : listOf (vs ++ [x]).toArray (n + 1) = listOf (vs.toArray.push x) (n + 1) := by rw [List.push_toArray]
    rw [e]
    exact Upd.head hr
theorem listcopy_my (F : Fr h₀ L s.heap m) (N : News h₀ L s.heap news) (hm : (a, listOf vs.toArray n) ∈ news) (hz : vs.length ≤ 16777216)
    (h : ∀ D c h', Fr h₀ L h' m → News h₀ L h' ((D, listOf vs.toArray c) :: news) → (∀ q ∈ news, q.1 < D) → Q (.ref D) { s with heap := h' }) : wpAny (model prog w) A (call (.type "list") [.ref a]) Q E s :=
  list_copyK F N (isList_of N hm) h (by rw [List.size_toArray, sizeLine_eq]; exact hz)
theorem listadd_my (F : Fr h₀ L s.heap m) (N : News h₀ L s.heap news) (ha : (a, listOf vs.toArray n) ∈ news) (hb : (b, listOf ws.toArray k) ∈ news) (hz : vs.length + ws.length ≤ 16777216)
    (h : ∀ D c h', Fr h₀ L h' m → News h₀ L h' ((D, listOf (vs ++ ws).toArray c) :: news) → (∀ q ∈ news, q.1 < D) → Q (.ref D) { s with heap := h' }) : wpAny (model prog w) A (binaryOp .Add (.ref a) (.ref b)) Q E s :=
  add_lists F N (isList_of N ha) (isList_of N hb) (fun h' F' N' => h _ 0 h' F' N' fun q hq => Heap.lt_size (N q hq).1) (by rw [sizeLine_eq]; exact hz)
end

end Mine

namespace Mine
open PySem PySem.W PySem.Spec PySem.Calls PyProof.Rows

def InsOk (key : Nat → Int) (k l : Nat) : Prop := l ≤ k ∧ (∀ i, i < l → key i < key k) ∧ (∀ i, l ≤ i → i < k → key k < key i)

section
variable {cmp : Nat → Nat → (Bool → Shared → Prop) → Shared → Prop} {I : Shared → Prop} {key : Nat → Int} {k : Nat}

theorem place_wp (hcmp : ∀ i j C s, i ≤ k → j ≤ k → i ≠ j → I s → (∀ s', I s' → C (decide (key i < key j)) s') → cmp i j C s)
    (p : Array Nat) (hp : ∀ i, i ≤ k → p.getD i 0 = i) (asc : ∀ i j, i < j → j < k → key i < key j) (hne : ∀ i, i < k → key i ≠ key k) {G : Nat → Shared → Prop} (hG : ∀ l s, InsOk key k l → I s → G l s) :
    ∀ (f l r : Nat) (s : Shared), l ≤ r → r ≤ k → r - l ≤ f → (∀ i, i < l → key i < key k) → (∀ i, r ≤ i → i < k → key k < key i) → I s → (kas_place p k f l r).kasWp cmp G s := by
  intro f
  induction f with
  | zero =>
    intro l r s hlr hrk hf h1 h2 hI
    have e : l = r := by omega
    subst e
    exact hG l s ⟨hrk, h1, h2⟩ hI
  | succ f ih =>
    intro l r s hlr hrk hf h1 h2 hI
    unfold kas_place
    by_cases hge : l ≥ r
    · rw [if_pos hge]
      have e : l = r := by omega
      subst e
      exact hG l s ⟨hrk, h1, h2⟩ hI
    · rw [if_neg hge]
      have hm : (l + r) / 2 < k := by omega
      show cmp (p.getD k 0) (p.getD ((l + r) / 2) 0) _ s
      rw [hp k (Nat.le_refl _), hp _ (Nat.le_of_lt hm)]
      refine hcmp _ _ _ _ (Nat.le_refl _) (Nat.le_of_lt hm) (by omega) hI fun s' hI' => ?_
      by_cases hc : key k < key ((l + r) / 2)
      · rw [decide_eq_true hc]
        dsimp only
        rw [if_pos rfl]
        refine ih l ((l + r) / 2) s' (by omega) (by omega) (by omega) h1 (fun i hi hik => ?_) hI'
        by_cases e : i = (l + r) / 2
        · rw [e]; exact hc
        · exact Int.lt_trans hc (asc _ _ (by omega) hik)
      · rw [decide_eq_false hc]
        dsimp only
        rw [if_neg (by simp)]
        have hc' : key ((l + r) / 2) < key k := by
          have := hne _ hm
          omega
        refine ih ((l + r) / 2 + 1) r s' (by omega) (by omega) (by omega) (fun i hi => ?_) h2 hI'
        by_cases e : i = (l + r) / 2
        · rw [e]; exact hc'
        · exact Int.lt_trans (asc _ _ (by omega) hm) hc'

theorem asc_wp (hcmp : ∀ i j C s, i ≤ k → j ≤ k → i ≠ j → I s → (∀ s', I s' → C (decide (key i < key j)) s') → cmp i j C s) (hk : 1 ≤ k)
    (p : Array Nat) (hp : ∀ i, i ≤ k → p.getD i 0 = i) (asc : ∀ i j, i < j → j < k → key i < key j) {G : Nat → Shared → Prop}
    (hG : ∀ s, key k < key (k - 1) → I s → G k s) (hG' : ∀ s, ¬ key k < key (k - 1) → I s → G (k + 1) s) :
    ∀ (f m : Nat) (s : Shared), 1 ≤ m → m ≤ k → m + f = k + 1 → I s → (kas_asc p f m).kasWp cmp G s := by
  intro f
  induction f with
  | zero =>
    intro m s _ h1 h2 _
    omega
  | succ f ih =>
    intro m s h0 h1 h2 hI
    unfold kas_asc
    show cmp (p.getD m 0) (p.getD (m - 1) 0) _ s
    rw [hp m h1, hp (m - 1) (by omega)]
    refine hcmp _ _ _ _ h1 (by omega) (by omega) hI fun s' hI' => ?_
    by_cases e : m = k
    · subst e
      by_cases hc : key m < key (m - 1)
      · rw [decide_eq_true hc]
        dsimp only
        rw [if_pos rfl]
        exact hG s' hc hI'
      · rw [decide_eq_false hc]
        dsimp only
        rw [if_neg (by simp)]
        have : f = 0 := by omega
        subst this
        exact hG' s' hc hI'
    · have hc : ¬ key m < key (m - 1) := by
        have := asc (m - 1) m (by omega) (by omega)
        omega
      rw [decide_eq_false hc]
      dsimp only
      rw [if_neg (by simp)]
      exact ih (m + 1) s' (by omega) (by omega) (by omega) hI'

theorem range_getD (n : Nat) : ∀ i, i < n → (List.toArray (List.range n)).getD i 0 = i := by
  intro i hi
  simp [Array.getD, hi]

def insIdx (k l : Nat) : List Nat := List.range l ++ k :: (List.range k).drop l

theorem bubble_list (k l : Nat) (h : l ≤ k) : (bubble (List.toArray (List.range (k + 1))) k (k - l)).toList = insIdx k l := by
  apply List.ext_getElem?
  intro i
  rw [Array.getElem?_toList, getElem?_bubble (by simp) (k - l) (by omega) i]
  have e : k - (k - l) = l := by omega
  rw [e]
  unfold insIdx
  by_cases h1 : i = l
  · subst h1
    rw [if_pos rfl, List.getElem?_append_right (by simp)]
    simp
  · rw [if_neg h1]
    by_cases h2 : l < i ∧ i ≤ k
    · rw [if_pos h2, List.getElem?_append_right (by simp; omega)]
      obtain ⟨j, rfl⟩ : ∃ j, i = l + 1 + j := ⟨i - (l + 1), by omega⟩
      have e2 : l + 1 + j - (List.range l).length = j + 1 := by simp; omega
      rw [e2, List.getElem?_cons_succ, List.getElem?_drop]
      have e3 : l + 1 + j - 1 = l + j := by omega
      rw [e3]
      have h4 : l + j < k := by omega
      have h5 : l + j < k + 1 := by omega
      simp [h4, h5]
    · rw [if_neg h2]
      by_cases h3 : i < l
      · rw [List.getElem?_append_left (by simpa using h3)]
        have : i < k + 1 := by omega
        simp [h3, this]
      · have h4 : k < i := by omega
        rw [List.getElem?_append_right (by simp; omega)]
        obtain ⟨j, rfl⟩ : ∃ j, i = l + 1 + j := ⟨i - (l + 1), by omega⟩
        have e2 : l + 1 + j - (List.range l).length = j + 1 := by simp; omega
        rw [e2, List.getElem?_cons_succ, List.getElem?_drop]
        have h5 : ¬ l + 1 + j < k + 1 := by omega
        have h6 : ¬ l + j < k := by omega
        simp [h5, h6]

theorem insIdx_end (k : Nat) : insIdx k k = List.range (k + 1) := by
  unfold insIdx
  rw [List.range_succ]
  simp

theorem sort_wp (hcmp : ∀ i j C s, i ≤ k → j ≤ k → i ≠ j → I s → (∀ s', I s' → C (decide (key i < key j)) s') → cmp i j C s) (hk : 1 ≤ k)
    (asc : ∀ i j, i < j → j < k → key i < key j) (hne : ∀ i, i < k → key i ≠ key k) {G : Array Nat → Shared → Prop} (hG : ∀ p l s, InsOk key k l → p.toList = insIdx k l → I s → G p s) (s : Shared) (hI : I s) :
    (kas_sort (k + 1)).kasWp cmp G s := by
  unfold kas_sort kas_count
  rw [KasT.kasWp_bind, KasT.kasWp_bind]
  have hr := range_getD (k + 1)
  refine asc_wp hcmp hk _ (fun i hi => hr i (by omega)) asc (fun s hc hI => ?_) (fun s hc hI => ?_) (k + 1 - 1) 1 s (Nat.le_refl _) hk (by omega) hI
  · -- the last one is out of place
    have hkn : ¬ ((k == k + 1) = true) := by simp
    rw [if_neg hkn]
    by_cases h1 : k > 1
    · rw [if_pos h1]
      show cmp _ _ _ s
      rw [hr 0 (by omega), hr (k - 1) (by omega)]
      refine hcmp _ _ _ _ (by omega) (by omega) (by omega) hI fun s' hI' => ?_
      have h2 : key 0 < key (k - 1) := asc 0 (k - 1) (by omega) (by omega)
      rw [decide_eq_true h2]
      dsimp only
      rw [if_pos rfl]
      show KasT.kasWp cmp (if k < k + 1 then kas_bin (k + 1 - max k 1) (List.toArray (List.range (k + 1))) (max k 1) else KasT.ret _) G s'
      rw [if_pos (by omega), show max k 1 = k by omega, show k + 1 - k = 0 + 1 by omega]
      show KasT.kasWp cmp ((kas_place _ k k 0 k).bind fun l => kas_bin 0 _ (k + 1)) G s'
      rw [KasT.kasWp_bind]
      refine place_wp hcmp _ (fun i hi => hr i (by omega)) asc hne (fun l s'' ho hI'' => ?_) k 0 k s' (Nat.zero_le _) (Nat.le_refl _) (by omega) (fun i hi => absurd hi (Nat.not_lt_zero _)) (fun i h1 h2 => by omega) hI'
      exact hG _ l s'' ho (bubble_list k l ho.1) hI''
    · have ek : k = 1 := by omega
      subst ek
      rw [if_neg (by omega)]
      refine hG _ 0 s ⟨Nat.zero_le _, fun i hi => absurd hi (Nat.not_lt_zero _), fun i _ hi => ?_⟩ ?_ hI
      · have e : i = 0 := by omega
        subst e
        exact hc
      · decide +kernel
  · have hkn : ((k + 1 == k + 1) = true) := by simp
    rw [if_pos hkn]
    show KasT.kasWp cmp (if k + 1 < k + 1 then _ else KasT.ret (List.toArray (List.range (k + 1)))) G s
    rw [if_neg (Nat.lt_irrefl _)]
    refine hG _ k s ⟨Nat.le_refl _, fun i hi => ?_, fun i h1 h2 => by omega⟩ ?_ hI
    · have h3 : key (k - 1) < key k := by
        have := hne (k - 1) (by omega)
        omega
      by_cases e : i = k - 1
      · rw [e]; exact h3
      · exact Int.lt_trans (asc i (k - 1) (by omega) (by omega)) h3
    · rw [insIdx_end]
end

end Mine

namespace Mine
abbrev Pc := Int × List Int
def at1 (p : Pc) (i : Int) : Option Int := if p.1 ≤ i then p.2[(i - p.1).toNat]? else none
def octs : List Pc → Int → Option Int
  | [], _ => none
  | p :: r, i => (at1 p i).or (octs r i)
structure Good (ps : List Pc) : Prop where
  canon : ps.Pairwise (fun (x y : Pc) => x.1 + x.2.length < y.1)
  ne : ∀ p ∈ ps, p.2 ≠ []
  lo : ∀ p ∈ ps, 0 ≤ p.1
  hi : ∀ p ∈ ps, p.1 + p.2.length ≤ 16

theorem at1_none {p : Pc} {i : Int} (h : ¬ (p.1 ≤ i ∧ i < p.1 + p.2.length)) : at1 p i = none := by
  unfold at1
  by_cases h1 : p.1 ≤ i
  · rw [if_pos h1]
    have : ¬ i < p.1 + p.2.length := fun h2 => h ⟨h1, h2⟩
    exact List.getElem?_eq_none (by omega)
  · rw [if_neg h1]
theorem at1_some {p : Pc} {i : Int} (h1 : p.1 ≤ i) (h2 : i < p.1 + p.2.length) : ∃ x, at1 p i = some x := by
  unfold at1
  rw [if_pos h1]
  exact ⟨_, List.getElem?_eq_getElem (by omega)⟩
theorem at1_in {p : Pc} {i x : Int} (h : at1 p i = some x) : p.1 ≤ i ∧ i < p.1 + p.2.length := by
  by_cases hc : p.1 ≤ i ∧ i < p.1 + p.2.length
  · exact hc
  · rw [at1_none hc] at h; cases h
theorem octs_append (a b : List Pc) (i : Int) : octs (a ++ b) i = (octs a i).or (octs b i) := by
  induction a with
  | nil => rfl
  | cons p r ih => show (at1 p i).or (octs (r ++ b) i) = _; rw [ih, ← Option.or_assoc]; rfl
theorem octs_one (p : Pc) (i : Int) : octs [p] i = at1 p i := by show (at1 p i).or none = _; simp
theorem octs_none {l : List Pc} {i : Int} (h : ∀ q ∈ l, at1 q i = none) : octs l i = none := by
  induction l with
  | nil => rfl
  | cons p r ih =>
    show (at1 p i).or (octs r i) = none
    rw [h p (.head _), ih fun q hq => h q (.tail _ hq)]; rfl
theorem octs_some {l : List Pc} {i x : Int} (h : octs l i = some x) : ∃ q ∈ l, at1 q i = some x := by
  induction l with
  | nil => cases h
  | cons p r ih =>
    cases e : at1 p i with
    | some y =>
      have h' : (at1 p i).or (octs r i) = some x := h
      rw [e] at h'
      exact ⟨p, .head _, by rw [e]; exact h'⟩
    | none =>
      have h' : (at1 p i).or (octs r i) = some x := h
      rw [e] at h'
      obtain ⟨q, hq, hx⟩ := ih (by simpa using h')
      exact ⟨q, .tail _ hq, hx⟩
theorem octs_none_iff {l : List Pc} {i : Int} : octs l i = none ↔ ∀ q ∈ l, at1 q i = none := by
  refine ⟨fun h => ?_, octs_none⟩
  induction l with
  | nil => intro q hq; cases hq
  | cons p r ih =>
    have h' : (at1 p i).or (octs r i) = none := h
    cases e : at1 p i with
    | some y => rw [e] at h'; simp at h'
    | none =>
      rw [e] at h'
      intro q hq
      rcases List.mem_cons.mp hq with rfl | hq
      · exact e
      · exact ih (by simpa using h') q hq

structure InvA (pre : List Pc) (o : Int) (dl : List Int) (fnd : List Pc) (b : Int) (jl : List Int) : Prop where
  sub : fnd.Sublist pre
  b0 : 0 ≤ b
  b1 : b + jl.length ≤ 16
  ne : jl ≠ []
  far : ∀ q ∈ fnd, q.1 + q.2.length < b ∨ b + jl.length < q.1
  oct : ∀ i, (octs fnd i).or (at1 (b, jl) i) = (octs pre i).or (at1 (o, dl) i)

theorem InvA.start {o : Int} {dl : List Int} (h0 : 0 ≤ o) (h1 : o + dl.length ≤ 16) (hne : dl ≠ []) : InvA [] o dl [] o dl :=
  ⟨.slnil, h0, h1, hne, fun _ h => (nomatch h), fun _ => rfl⟩

/-- p lies behind pre -/
theorem before_none {pre post : List Pc} {p : Pc} (g : Good (pre ++ p :: post)) {i x : Int} (h : at1 p i = some x) : ∀ q ∈ pre, at1 q i = none := by
  intro q hq
  have h1 := (List.pairwise_append.mp g.canon).2.2 q hq p (.head _)
  have h2 := at1_in h
  exact at1_none (by omega)

theorem oct_step {pre post : List Pc} {p : Pc} (g : Good (pre ++ p :: post)) {fnd : List Pc} {o b : Int} {dl jl : List Int} (v : InvA pre o dl fnd b jl) (i : Int) :
    (octs fnd i).or ((at1 p i).or (at1 (b, jl) i)) = (octs (pre ++ [p]) i).or (at1 (o, dl) i) := by
  rw [octs_append, octs_one]
  cases e : at1 p i with
  | none => simp only [Option.none_or, Option.or_none]; exact v.oct i
  | some x =>
    have h := before_none g e
    rw [octs_none h, octs_none fun q hq => h q (v.sub.subset hq)]
    rfl

theorem InvA.keep {pre post : List Pc} {p : Pc} (g : Good (pre ++ p :: post)) {fnd : List Pc} {o b : Int} {dl jl : List Int} (v : InvA pre o dl fnd b jl) (h : p.1 + p.2.length < b ∨ b + jl.length < p.1) :
    InvA (pre ++ [p]) o dl (fnd ++ [p]) b jl := by
  refine ⟨v.sub.append (List.Sublist.refl _), v.b0, v.b1, v.ne, fun q hq => ?_, fun i => ?_⟩
  · rcases List.mem_append.mp hq with hq | hq
    · exact v.far q hq
    · rw [List.mem_singleton.mp hq]; exact h
  · rw [octs_append, octs_one, Option.or_assoc]
    exact oct_step g v i

def mergedL (b : Int) (jl : List Int) (p : Pc) : List Int := jl.take (max 0 (p.1 - b)).toNat ++ p.2 ++ jl.drop (p.1 + p.2.length - b).toNat

theorem merged_len {b : Int} {jl : List Int} {p : Pc} (h1 : b ≤ p.1 + p.2.length) (h2 : p.1 ≤ b + jl.length) : min b p.1 + (mergedL b jl p).length = max (b + jl.length) (p.1 + p.2.length) := by
  unfold mergedL
  simp only [List.length_append, List.length_take, List.length_drop]
  omega
theorem merged_at {b : Int} {jl : List Int} {p : Pc} (h1 : b ≤ p.1 + p.2.length) (h2 : p.1 ≤ b + jl.length) (i : Int) : at1 (min b p.1, mergedL b jl p) i = (at1 p i).or (at1 (b, jl) i) := by
  obtain ⟨s, oc⟩ := p
  dsimp only at h1 h2 ⊢
  by_cases hlo : min b s ≤ i
  · by_cases hp : s ≤ i ∧ i < s + oc.length
    · obtain ⟨x, hx⟩ := at1_some (p := (s, oc)) hp.1 hp.2
      rw [hx]
      unfold at1 at hx ⊢
      rw [if_pos hp.1] at hx
      rw [if_pos hlo]
      dsimp only at hx ⊢
      unfold mergedL
      dsimp only
      rw [List.append_assoc, List.getElem?_append_right (by simp; omega), List.getElem?_append_left (by simp; omega)]
      have e : (i - min b s).toNat - (List.take (max 0 (s - b)).toNat jl).length = (i - s).toNat := by simp; omega
      rw [e, hx]; rfl
    · rw [at1_none (p := (s, oc)) hp, Option.none_or]
      by_cases hlt : i < s
      · have hb : b ≤ i := by omega
        unfold at1
        rw [if_pos hlo, if_pos hb]
        unfold mergedL
        dsimp only
        rw [List.append_assoc, List.getElem?_append_left (by simp; omega), List.getElem?_take]
        rw [if_pos (by omega)]
        congr 1
        omega
      · have hge : s + oc.length ≤ i := by omega
        have hb : b ≤ i := by omega
        unfold at1
        rw [if_pos hlo, if_pos hb]
        unfold mergedL
        dsimp only
        rw [List.append_assoc, List.getElem?_append_right (by simp; omega), List.getElem?_append_right (by simp; omega), List.getElem?_drop]
        congr 1
        simp
        omega
  · have e1 : at1 (min b s, mergedL b jl (s, oc)) i = none := at1_none (fun h => hlo h.1)
    have e2 : at1 (s, oc) i = none := at1_none (fun h => by have := h.1; dsimp only at this; omega)
    have e3 : at1 (b, jl) i = none := at1_none (fun h => by have := h.1; dsimp only at this; omega)
    rw [e1, e2, e3]; rfl

theorem InvA.merge {pre post : List Pc} {p : Pc} (g : Good (pre ++ p :: post)) {fnd : List Pc} {o b : Int} {dl jl : List Int} (v : InvA pre o dl fnd b jl) (h1 : b ≤ p.1 + p.2.length) (h2 : p.1 ≤ b + jl.length) :
    InvA (pre ++ [p]) o dl fnd (min b p.1) (mergedL b jl p) := by
  have hp : p ∈ pre ++ p :: post := List.mem_append.mpr (.inr (.head _))
  have hlen := merged_len h1 h2
  have := g.lo p hp
  have := g.hi p hp
  have hb0 := v.b0
  have hb1 := v.b1
  refine ⟨v.sub.trans (List.sublist_append_left _ _), by omega, by omega, ?_, fun q hq => ?_, fun i => ?_⟩
  · intro e
    have := g.ne p hp
    unfold mergedL at e
    simp only [List.append_eq_nil_iff] at e
    exact this e.1.2
  · have hq' := v.sub.subset hq
    have h3 := (List.pairwise_append.mp g.canon).2.2 q hq' p (.head _)
    rcases v.far q hq with h | h
    · left; omega
    · omega
  · rw [merged_at h1 h2]
    exact oct_step g v i

theorem Good.sub {a b : List Pc} (g : Good b) (h : a.Sublist b) : Good a :=
  ⟨g.canon.sublist h, fun p hp => g.ne p (h.subset hp), fun p hp => g.lo p (h.subset hp), fun p hp => g.hi p (h.subset hp)⟩
theorem Good.starts {ps : List Pc} (g : Good ps) : ps.Pairwise (fun x y => x.1 < y.1) := g.canon.imp (fun h => by omega)

theorem InvA.done {ps : List Pc} (g : Good ps) {fnd : List Pc} {o b : Int} {dl jl : List Int} (v : InvA ps o dl fnd b jl) (k : Nat) (h1 : ∀ q ∈ fnd.take k, q.1 < b) (h2 : ∀ q ∈ fnd.drop k, b < q.1) :
    Good (fnd.take k ++ (b, jl) :: fnd.drop k) ∧ ∀ i, octs (fnd.take k ++ (b, jl) :: fnd.drop k) i = (octs ps i).or (at1 (o, dl) i) := by
  have gf := g.sub v.sub
  have ht := gf.sub (List.take_sublist k fnd)
  have hd := gf.sub (List.drop_sublist k fnd)
  have hc := gf.canon
  rw [← List.take_append_drop k fnd] at hc
  have hc3 := (List.pairwise_append.mp hc).2.2
  have hb1 := v.b1
  have hb0 := v.b0
  have mem : ∀ q, q ∈ fnd.take k ++ (b, jl) :: fnd.drop k → q ∈ fnd ∨ q = (b, jl) := by
    intro q hq
    rcases List.mem_append.mp hq with hq | hq
    · exact .inl ((List.take_sublist k fnd).subset hq)
    · rcases List.mem_cons.mp hq with rfl | hq
      · exact .inr rfl
      · exact .inl ((List.drop_sublist k fnd).subset hq)
  refine ⟨⟨?_, ?_, ?_, ?_⟩, ?_⟩
  · refine List.pairwise_append.mpr ⟨ht.canon, List.pairwise_cons.mpr ⟨fun q hq => ?_, hd.canon⟩, fun x hx y hy => ?_⟩
    · have h3 := h2 q hq
      dsimp only
      rcases v.far q ((List.drop_sublist k fnd).subset hq) with h | h
      · omega
      · exact h
    · rcases List.mem_cons.mp hy with rfl | hy
      · have h3 := h1 x hx
        dsimp only
        rcases v.far x ((List.take_sublist k fnd).subset hx) with h | h
        · exact h
        · omega
      · exact hc3 x hx y hy
  · intro q hq
    rcases mem q hq with h | rfl
    · exact gf.ne q h
    · exact v.ne
  · intro q hq
    rcases mem q hq with h | rfl
    · exact gf.lo q h
    · exact hb0
  · intro q hq
    rcases mem q hq with h | rfl
    · exact gf.hi q h
    · exact hb1
  · intro i
    rw [← v.oct i]
    show octs (fnd.take k ++ (b, jl) :: fnd.drop k) i = _
    have e : octs fnd i = (octs (fnd.take k) i).or (octs (fnd.drop k) i) := by rw [← octs_append, List.take_append_drop]
    rw [octs_append, e, Option.or_assoc]
    show (octs (fnd.take k) i).or ((at1 (b, jl) i).or (octs (fnd.drop k) i)) = _
    cases ea : at1 (b, jl) i with
    | none => simp
    | some x =>
      have hin := at1_in ea
      dsimp only at hin
      have hn : octs (fnd.drop k) i = none := octs_none fun q hq => at1_none (by
        rcases v.far q ((List.drop_sublist k fnd).subset hq) with h | h <;> omega)
      rw [hn]; simp

end Mine

namespace Mine
open PySem PySem.W PySem.Spec PySem.Calls PyProof.Rows
def ky (l : List Pc) (i : Nat) : Int := l[i]?.elim 0 (·.1)
theorem ky_of {l : List Pc} {i : Nat} {p : Pc} (h : l[i]? = some p) : ky l i = p.1 := by unfold ky; rw [h]; rfl
abbrev tupO (vs : List Value) (n : Nat) : Obj := { cls := .type "tuple", data := .seq vs.toArray n }
inductive PcIn (news : List (Addr × Obj)) : Value → Pc → Prop
  | mk {a : Addr} {i : Int} {t : Tok} {b : Array UInt8} {u : Tok} {n : Nat} {l : List Int} : (a, tupO [.int i t, .bytes b u] n) ∈ news → KBw.bInts b = l → PcIn news (.ref a) (i, l)
inductive PcAll (news : List (Addr × Obj)) : List Value → List Pc → Prop
  | nil : PcAll news [] []
  | cons {v vs p ps} : PcIn news v p → PcAll news vs ps → PcAll news (v :: vs) (p :: ps)
theorem PcIn.mono {news news' : List (Addr × Obj)} {v : Value} {p : Pc} (h : PcIn news v p) (hs : ∀ q ∈ news, q ∈ news') : PcIn news' v p := by
  cases h with
  | mk hm hb => exact .mk (hs _ hm) hb
theorem PcAll.mono {news news' : List (Addr × Obj)} {vs : List Value} {ps : List Pc} (h : PcAll news vs ps) (hs : ∀ q ∈ news, q ∈ news') : PcAll news' vs ps := by
  induction h with
  | nil => exact .nil
  | cons h1 _ ih => exact .cons (h1.mono hs) ih
theorem PcAll.length {news : List (Addr × Obj)} {vs : List Value} {ps : List Pc} (h : PcAll news vs ps) : vs.length = ps.length := by
  induction h with
  | nil => rfl
  | cons _ _ ih => simp [ih]
theorem PcAll.append {news : List (Addr × Obj)} {vs ws : List Value} {ps qs : List Pc} (h : PcAll news vs ps) (k : PcAll news ws qs) : PcAll news (vs ++ ws) (ps ++ qs) := by
  induction h with
  | nil => exact k
  | cons h1 _ ih => exact .cons h1 ih
theorem PcAll.snoc {news : List (Addr × Obj)} {vs : List Value} {ps : List Pc} {v : Value} {p : Pc} (h : PcAll news vs ps) (k : PcIn news v p) : PcAll news (vs ++ [v]) (ps ++ [p]) := h.append (.cons k .nil)
theorem PcAll.get {news : List (Addr × Obj)} {vs : List Value} {ps : List Pc} (h : PcAll news vs ps) : ∀ {i : Nat} {v : Value}, vs[i]? = some v → ∃ p, ps[i]? = some p ∧ PcIn news v p := by
  induction h with
  | nil => intro i v e; simp at e
  | cons h1 _ ih =>
    intro i v e
    cases i with
    | zero => simp at e; subst e; exact ⟨_, by simp, h1⟩
    | succ i => simp at e; obtain ⟨p, hp, hi⟩ := ih e; exact ⟨p, by simpa using hp, hi⟩
theorem PcAll.get' {news : List (Addr × Obj)} {vs : List Value} {ps : List Pc} (h : PcAll news vs ps) : ∀ {i : Nat}, i < ps.length → ∃ v p, vs[i]? = some v ∧ ps[i]? = some p ∧ PcIn news v p := by
  intro i hi
  have hl := h.length
  have hi' : i < vs.length := by omega
  obtain ⟨p, hp, hq⟩ := h.get (List.getElem?_eq_getElem hi')
  exact ⟨_, p, List.getElem?_eq_getElem hi', hp, hq⟩
theorem PcAll.take {news : List (Addr × Obj)} {vs : List Value} {ps : List Pc} (h : PcAll news vs ps) : ∀ l, PcAll news (vs.take l) (ps.take l) := by
  induction h with
  | nil => intro l; simp; exact .nil
  | cons h1 _ ih =>
    intro l
    cases l with
    | zero => exact .nil
    | succ l => exact .cons h1 (ih l)
theorem PcAll.drop {news : List (Addr × Obj)} {vs : List Value} {ps : List Pc} (h : PcAll news vs ps) : ∀ l, PcAll news (vs.drop l) (ps.drop l) := by
  induction h with
  | nil => intro l; simp; exact .nil
  | cons h1 h2 ih =>
    intro l
    cases l with
    | zero => exact .cons h1 h2
    | succ l => exact ih l

section
variable {prog : Program} {w : World} {A : Around} {E : Value → Shared → Prop} {s : Shared} {h₀ : Heap} {L a : Addr} {m : Str → Option Value} {news : List (Addr × Obj)} {vs : List Value}
theorem one_list_sort {v : Value} {n : Nat} {P : PySem.Fin → Shared → Prop} (F : Fr h₀ L s.heap m) (N : News h₀ L s.heap news) (ho : s.heap.get? a = some (seqObj "list" [v].toArray n)) (haL : a ≠ L) (ha0 : h₀.get? a = none) (hna : ∀ p ∈ news, p.1 ≠ a)
    (h : ∀ c h', Fr h₀ L h' m → News h₀ L h' ((a, seqObj "list" [v].toArray c) :: news) → P (.done (.ret .none)) { s with heap := h' }) :
    wpAny (model prog w) A (Builtin.«list.sort» ⟨[.ref a], []⟩) P E s := by
  have s1 := Heap.SameBut.update s.heap a (Obj.mapSeq fun _ => (#[] : Array Value))
  obtain ⟨e1, ho1⟩ : ∃ e1, (s.heap.update a (Obj.mapSeq fun _ => (#[] : Array Value))).get? a = some (seqObj "list" #[] e1) := ⟨_, get?_update_seq ho fun _ => #[]⟩
  have keep : ∀ b o, (s.heap.update a (Obj.mapSeq fun _ => (#[] : Array Value))).get? b = some o → (((s.heap.update a (Obj.mapSeq fun _ => (#[] : Array Value))).push (seqObj "tuple" [v].toArray 0)).push (seqObj "list" #[] 0)).get? b = some o :=
    fun b o e => Heap.get?_push_of_some _ (Heap.get?_push_of_some _ e)
  have F3 := ((kas_fr F s1 haL ha0).push (seqObj "tuple" [v].toArray 0)).push (seqObj "list" #[] 0)
  have N3 := (kas_news N s1 hna).grown keep
  have o3 := keep _ _ ho1
  rw [list_sort_plain]
  refine wpAny_bind (listItems_at ho rfl ?_)
  refine wpAny_bind (listUpdate_at ho rfl ?_ (by rw [List.size_toArray, sizeLine_eq]; simp) (Nat.zero_le _))
  refine wpAny_bind (seqEpoch_at ho1 rfl ?_)
  refine wpAny_bind (wpAny_newTuple ?_ (by rw [sizeLine_eq]; simp))
  refine wpAny_bind (wpAny_newList ?_ (Nat.zero_le _))
  refine wpAny_holding ?_
  show wpAny (model prog w) A _ P E { s with heap := ((s.heap.update a (Obj.mapSeq fun _ => (#[] : Array Value))).push (seqObj "tuple" [v].toArray 0)).push (seqObj "list" #[] 0) }
  dsimp only
  have hn2 : [v].toArray.size < 2 := by simp
  rw [if_pos hn2, if_pos hn2]
  refine wpAny_bind (wpAny_pure ?_)
  refine wpAny_bind (wpAny_pure ?_)
  have hout : (arrOf (SortSt.mk' general' ([v].toArray.zip [v].toArray) #[] 7 none)).map (·.2) = [v].toArray := by
    show ([v].toArray.zip [v].toArray).map (·.2) = [v].toArray
    simp
  dsimp only
  rw [hout]
  have s2 := Heap.SameBut.update (((s.heap.update a (Obj.mapSeq fun _ => (#[] : Array Value))).push (seqObj "tuple" [v].toArray 0)).push (seqObj "list" #[] 0)) a (Obj.mapSeq fun _ => [v].toArray)
  obtain ⟨c2, hc2⟩ : ∃ c2, ((((s.heap.update a (Obj.mapSeq fun _ => (#[] : Array Value))).push (seqObj "tuple" [v].toArray 0)).push (seqObj "list" #[] 0)).update a (Obj.mapSeq fun _ => [v].toArray)).get? a = some (seqObj "list" [v].toArray c2) :=
    ⟨_, get?_update_seq o3 fun _ => [v].toArray⟩
  refine wpAny_bind (seqEpoch_at o3 rfl ?_)
  refine wpAny_bind (listUpdate_at o3 rfl ?_ (Nat.zero_le _) (by rw [sizeLine_eq]; simp))
  simp only [bne_self_eq_false, Bool.false_eq_true, if_false]
  refine wpAny_pure (h c2 _ (kas_fr F3 s2 haL ha0) fun p hp => ?_)
  rcases List.mem_cons.mp hp with rfl | hp
  · exact ⟨hc2, haL, ha0⟩
  · exact kas_news N3 s2 hna p hp

theorem one_sorted {v : Value} {l : Addr} {Q : Value → Shared → Prop} (F : Fr h₀ L s.heap m) (N : News h₀ L s.heap news) (hl : s.heap.IsList l [v].toArray)
    (h : ∀ D c h', Fr h₀ L h' m → News h₀ L h' ((D, listOf [v].toArray c) :: news) → (∀ q ∈ news, q.1 < D) → Q (.ref D) { s with heap := h' }) :
    wpAny (model prog w) A (call (.builtin "sorted") [.ref l]) Q E s := by
  refine Calls.call_function_entry kind_sorted plain_sorted entry_sorted (args_sorted1 _) ?_
  unfold Builtin.«sorted»
  refine wpAny_bind (m := checkCount "sorted" 1 1 _) (wpAny_pure ?_)
  refine wpAny_bind (collect_list hl ?_ (by rw [sizeLine_eq]; simp))
  refine wpAny_bind (wpAny_newList ?_ (by rw [sizeLine_eq]; simp))
  have hsz : ((s.heap.push (seqObj "list" #[] 0)).update s.heap.objs.size (Obj.mapSeq (· ++ [v].toArray))).objs.size = s.heap.objs.size + 1 := by
    rw [Heap.size_update, size_push']
  have hoL : (((s.heap.push (seqObj "list" #[] 0)).update s.heap.objs.size (Obj.mapSeq (· ++ [v].toArray))).push (seqObj "list" [v].toArray 0)).get? (s.heap.objs.size + 1) = some (seqObj "list" [v].toArray 0) := by
    rw [← hsz]; exact Heap.get?_push_size _ rfl
  have keep : ∀ b o, s.heap.get? b = some o → (((s.heap.push (seqObj "list" #[] 0)).update s.heap.objs.size (Obj.mapSeq (· ++ [v].toArray))).push (seqObj "list" [v].toArray 0)).get? b = some o := fun b o q => by
    have hlt : b < s.heap.objs.size := Heap.lt_size q
    rw [Heap.get?_push_ne _ _ _ (by rw [hsz]; exact Nat.ne_of_lt (Nat.lt_succ_of_lt hlt)), Heap.get?_update_ne _ _ _ _ (Nat.ne_of_lt hlt), Heap.get?_push_ne _ _ _ (Nat.ne_of_lt hlt)]
    exact q
  have hL : L < s.heap.objs.size := F.ns.lt
  show wpAny _ _ _ _ _ { s with heap := ((s.heap.push (seqObj "list" #[] 0)).update s.heap.objs.size (Obj.mapSeq (· ++ [v].toArray))).push (seqObj "list" [v].toArray 0) }
  rw [hsz]
  refine wpAny_bind (wpAny_holding (wpAny_call_entry slot_list_sort ⟨_, hoL, rfl⟩ entry_list_sort ?body (args_list_sort _)))
  case body =>
    refine one_list_sort (s := { s with heap := ((s.heap.push (seqObj "list" #[] 0)).update s.heap.objs.size (Obj.mapSeq (· ++ [v].toArray))).push (seqObj "list" [v].toArray 0) })
      (F.kept keep) (N.grown keep) hoL (Nat.ne_of_gt (Nat.lt_succ_of_lt hL)) (Heap.get?_none_of_le (Nat.le_trans F.above (Nat.le_succ_of_le (Nat.le_of_lt hL))))
      (fun p hp => Nat.ne_of_lt (Nat.lt_succ_of_lt (Heap.lt_size (N p hp).1))) fun c h' F' N' => ?_
    exact ⟨_, rfl, wpAny_pure ⟨_, rfl, h _ c h' F' N' fun q hq => Nat.lt_succ_of_lt (Heap.lt_size (N q hq).1)⟩⟩

theorem firsts_of (N : News h₀ L s.heap news) {vs : List Value} {ps : List Pc} (hD : PcAll news vs ps) : ∃ fs, KatTups s.heap vs fs ∧ fs.length = vs.length ∧ ∀ v ∈ fs, ∃ i t, v = .int i t := by
  induction hD with
  | nil => exact ⟨[], KatTups.nil, rfl, fun _ h => nomatch h⟩
  | cons h1 _ ih =>
    obtain ⟨fs, k, hl, hf⟩ := ih
    cases h1 with
    | @mk a i t b u n l hm hb =>
      refine ⟨.int i t :: fs, KatTups.cons (N _ hm).1 rfl rfl rfl k, by simp [hl], fun v hv => ?_⟩
      rcases List.mem_cons.mp hv with rfl | hv
      · exact ⟨i, t, rfl⟩
      · exact hf v hv

theorem newsSub {h : Heap} {l l' : List (Addr × Obj)} (N : News h₀ L h l) (hs : ∀ p ∈ l', p ∈ l) : News h₀ L h l' := fun p hp => N p (hs p hp)

/-- sorted() of a list of pieces that ascend strictly, with one more behind them -/
theorem sorted_my {l : Addr} {n : Nat} {v : Value} {p : Pc} {ps : List Pc} {Q : Value → Shared → Prop} (F : Fr h₀ L s.heap m) (N : News h₀ L s.heap news) (hm : (l, listOf (vs ++ [v]).toArray n) ∈ news)
    (hD : PcAll news vs ps) (hv : PcIn news v p) (asc : ps.Pairwise (fun x y => x.1 < y.1)) (hne : ∀ q ∈ ps, q.1 ≠ p.1) (hz : ps.length < 63)
    (h : ∀ D c h' tk i, Fr h₀ L h' m → News h₀ L h' ((D, listOf (vs.take i ++ v :: vs.drop i).toArray c) :: news) → (∀ q ∈ news, q.1 < D) → i ≤ ps.length → (∀ q ∈ ps.take i, q.1 < p.1) → (∀ q ∈ ps.drop i, p.1 < q.1) → Q (.ref D) { s with heap := h', toks := tk }) :
    wpAny (model prog w) A (call (.builtin "sorted") [.ref l]) Q E s := by
  have hlen := hD.length
  have hl := isList_of N hm
  by_cases h0 : ps.length = 0
  · have e1 : vs = [] := List.eq_nil_of_length_eq_zero (by omega)
    have e2 : ps = [] := List.eq_nil_of_length_eq_zero h0
    subst e1 e2
    exact one_sorted F N hl fun D c h' F' N' lt => h D c h' s.toks 0 F' N' lt (Nat.le_refl _) (fun q hq => by simp at hq) (fun q hq => by simp at hq)
  · have hAll := hD.snoc hv
    have hl1 : (vs ++ [v]).length = ps.length + 1 := by simp [hlen]
    refine kat_sorted F N hl (by omega) (by omega) fun D e1 h' F' N' lt => ?_
    have N2 : News h₀ L ({ s with heap := h' } : Shared).heap news := newsSub N' fun p hp => .tail _ hp
    obtain ⟨fs, hk, hfl, hfi⟩ := firsts_of N2 hAll
    refine kat_kind (T := .type "int") hk (by omega) (fun v hv => ?_) (by decide) ?_
    · obtain ⟨i, t, rfl⟩ := hfi v hv
      exact Looks.of_pure rfl
    · have keyAt : ∀ i, i ≤ ps.length → ∃ a t b u n l, (vs ++ [v])[i]? = some (.ref a) ∧ (a, tupO [.int (ky (ps ++ [p]) i) t, .bytes b u] n) ∈ news ∧ KBw.bInts b = l := by
        intro i hi
        obtain ⟨x, q, hx, hq, hin⟩ := hAll.get' (i := i) (by simp; omega)
        cases hin with
        | @mk a i' t b u n l hm hb =>
          refine ⟨a, t, b, u, n, l, hx, ?_, hb⟩
          have e : ky (ps ++ [p]) i = i' := ky_of hq
          rw [e]
          exact hm
      rw [hl1]
      have ascI : ∀ i j, i < j → j < ps.length → ky (ps ++ [p]) i < ky (ps ++ [p]) j := by
        intro i j hij hj
        have hi : i < ps.length := by omega
        have e1 : ky (ps ++ [p]) i = ps[i].1 := ky_of (by rw [List.getElem?_append_left hi, List.getElem?_eq_getElem hi])
        have e2 : ky (ps ++ [p]) j = ps[j].1 := ky_of (by rw [List.getElem?_append_left hj, List.getElem?_eq_getElem hj])
        rw [e1, e2]
        exact List.pairwise_iff_getElem.mp asc i j hi hj hij
      have keyk : ky (ps ++ [p]) ps.length = p.1 := ky_of (by simp)
      have keyi : ∀ i (hi : i < ps.length), ky (ps ++ [p]) i = ps[i].1 := fun i hi => ky_of (by rw [List.getElem?_append_left hi, List.getElem?_eq_getElem hi])
      refine sort_wp (I := fun s' => ∃ tk, s' = { s with heap := h', toks := tk }) (key := ky (ps ++ [p])) (k := ps.length) ?_ (by omega) ascI (fun i hi => ?_) ?_ _ ⟨s.toks, rfl⟩
      · rintro i j C s' hi hj hij ⟨tk, rfl⟩ hC
        unfold kas_ask
        obtain ⟨a₁, t₁, b₁, u₁, n₁, l₁, hx₁, hm₁, hb₁⟩ := keyAt i hi
        obtain ⟨a₂, t₂, b₂, u₂, n₂, l₂, hx₂, hm₂, hb₂⟩ := keyAt j hj
        have e1 : (vs ++ [v]).getD i Value.none = .ref a₁ := by rw [List.getD, hx₁]; rfl
        have e2 : (vs ++ [v]).getD j Value.none = .ref a₂ := by rw [List.getD, hx₂]; rfl
        rw [e1, e2]
        have hk : ky (ps ++ [p]) i ≠ ky (ps ++ [p]) j := by
          rcases Nat.lt_or_gt_of_ne hij with hlt | hlt
          · by_cases hj' : j = ps.length
            · subst hj'
              rw [keyk, keyi i hlt]
              exact hne _ (List.getElem_mem hlt)
            · have := ascI i j hlt (by omega)
              omega
          · by_cases hi' : i = ps.length
            · subst hi'
              rw [keyk, keyi j hlt]
              exact (hne _ (List.getElem_mem hlt)).symm
            · have := ascI j i hlt (by omega)
              omega
        refine kat_lt (N2 _ hm₁).1 rfl (N2 _ hm₂).1 rfl ?_
        refine kat_cons (wpAny_eqBool_int ?_)
        have hbe : (ky (ps ++ [p]) i == ky (ps ++ [p]) j) = false := by simpa using hk
        rw [hbe]
        refine kat_no ?_
        show wpAny (model prog w) A.in1.in1 (oneLt' true _ _) _ _ _
        exact oneLt_int (hC _ ⟨tk, rfl⟩)
      · rw [keyk, keyi i hi]
        exact hne _ (List.getElem_mem hi)
      · rintro q i s' ⟨ho1, ho2, ho3⟩ hq ⟨tk, rfl⟩
        have hout : (q.toList.map fun i => (vs ++ [v]).getD i Value.none) = vs.take i ++ v :: vs.drop i := by
          rw [hq]
          unfold insIdx
          rw [List.map_append, List.map_cons, ← hlen, List.map_drop]
          have er : ∀ j, j ≤ vs.length → (List.range j).map (fun i => (vs ++ [v]).getD i Value.none) = vs.take j := by
            intro j hj
            apply List.ext_getElem?
            intro i
            by_cases hij : i < j
            · have h5 : i < vs.length := by omega
              simp [hij, List.getD, List.getElem?_append_left h5, h5]
            · simp [hij]; omega
          rw [er i (by omega), er vs.length (Nat.le_refl _), List.take_length]
          simp [List.getD]
        rw [hout]
        refine KasFin.intro (s := { s with heap := h', toks := tk }) F' N' (UpdF.head fun q hq => Nat.ne_of_lt (lt q hq)) fun h2 c F2 N2' => ?_
        refine h D c h2 tk i F2 N2' lt ho1 (fun q hq => ?_) (fun q hq => ?_)
        · obtain ⟨j, hj, rfl⟩ := List.getElem_of_mem hq
          simp at hj
          have := ho2 j (by omega)
          rw [keyk, keyi j (by omega)] at this
          simpa using this
        · obtain ⟨j, hj, rfl⟩ := List.getElem_of_mem hq
          simp at hj
          have := ho3 (i + j) (by omega) (by omega)
          rw [keyk, keyi (i + j) (by omega)] at this
          simpa using this
end

end Mine

namespace Mine
open PySem PySem.W PySem.Spec PySem.Calls PyProof.Rows

def Does (w : World) (f : Addr) (dD dU : Nat) (vs : List Value) (news : List (Addr × Obj)) (Post : Value → List (Addr × Obj) → Prop) : Prop :=
  ∀ (mean : ExcName → Option Value) (mg mb : Str → Option Value) (dp un : Nat) (gd : Option (List Code)) (cn : Str) (cs : Scope) (a : Addr) (ccd : Value) (cl : List (Str × Addr)) (outer : List Env) (A₀ : Around) (base h₀ : Heap) (L : Addr) (m : Str → Option Value) (s : Shared) (Q E : Value → Shared → Prop),
    Below A₀ base outer h₀ → Fr h₀ L s.heap m → (hd.heap_39 w.params).In h₀ → News h₀ L s.heap news → Top hd.view_39 (looseW hd.view_39 []) mean mg mb h₀ → cs.kind = .function → dp + dD < recursionLimit → un + dU < cLine →
    (∀ r news' h' tk', Fr h₀ L h' m → News h₀ L h' news' → Post r news' → Q r { s with heap := h', toks := tk' }) →
    wpAny (model PySem.Challenge.rw_sa0561_01.row.prog w) (ktrTop dp un gd cn cs L a ccd cl outer) (call (.ref f) vs) Q E s

def ovr : List (Str × Value) → (Str → Option Value) → Str → Option Value
  | [], u, y => u y
  | p :: r, u, y => if y = p.1 then some p.2 else ovr r u y
theorem ovr_self : ∀ {l : List (Str × Value)} {u : Str → Option Value}, (∀ p ∈ l, u p.1 = some p.2) → ovr l u = u
  | [], _, _ => rfl
  | p :: r, u, h => by
    have ih := ovr_self (l := r) (u := u) fun q hq => h q (.tail _ hq)
    funext y
    show (if y = p.1 then some p.2 else ovr r u y) = u y
    rw [ih]
    by_cases e : y = p.1
    · rw [if_pos e, e, h p (.head _)]
    · rw [if_neg e]
theorem frOvr {h₀ h : Heap} {L : Addr} {m : Str → Option Value} (l : List (Str × Value)) (F : Fr h₀ L h m) (hl : ∀ p ∈ l, m p.1 = some p.2) : Fr h₀ L h (ovr l m) := by
  rw [ovr_self hl]; exact F
/-- the ledger grew by what lies above -/
def Grew (news news' : List (Addr × Obj)) : Prop := ∃ tl, news' = tl ++ news ∧ ∀ p ∈ tl, ∀ q ∈ news, q.1 < p.1
theorem Grew.sub {news news' : List (Addr × Obj)} (g : Grew news news') : ∀ p ∈ news, p ∈ news' := by
  obtain ⟨tl, rfl, _⟩ := g
  exact fun p hp => List.mem_append.mpr (.inr hp)

end Mine

namespace Mine
open PySem PySem.W PySem.Spec PySem.Calls PyProof.Rows
local macro_rules | `(tactic| walk_at "call type:list") => `(tactic| ((with_reducible show wpAny _ _ (call (Value.type "list") [Value.ref _]) _ _ _); refine listcopy_my (by assumption) (by assumption) (by assumption) (by omega) ?_; intro lcD lcC lcH F' N' l1))
local macro_rules | `(tactic| walk_at "call type:bytes") => `(tactic| ((with_reducible show wpAny _ _ (call (Value.type "bytes") [Value.bytes _ _]) _ _ _); refine call_bytes_bytes ?_))
local macro_rules | `(tactic| walk_at "PostT") => `(tactic| (dsimp only [PostT]))
local macro_rules | `(tactic| walk_at "exec For Tuple Name cons nil") => `(tactic| (k_here; (rename Fr _ _ _ _ => lF'); (with_unfolding_all refine' For_turns lF' ?_); k_whole))

def JA (news : List (Addr × Obj)) (la : Addr) (ps : List Pc) (o : Int) (dl : List Int) (_I : Addr) (i : Nat) (m : Str → Option Value) (nx : List (Addr × Obj)) : Prop :=
  ∃ fa fvs e tl fnd b tb jb tj jl, nx = (fa, listOf fvs.toArray e) :: (tl ++ news) ∧ (∀ p ∈ tl, fa < p.1) ∧ (∀ q ∈ news, q.1 < fa) ∧ PcAll tl fvs fnd ∧ KBw.bInts jb = jl ∧
    (∀ p ∈ [(Str.ofString "pieces", Value.ref la), (Str.ofString "found", Value.ref fa), (Str.ofString "begin", Value.int b tb), (Str.ofString "joined", Value.bytes jb tj)], m p.1 = some p.2) ∧
    InvA (ps.take i) o dl fnd b jl

theorem merged_eq (b : Int) (jl : List Int) (s' : Int) (ol : List Int) (h0 : 0 ≤ s') (h : b ≤ s' + ol.length) :
    List.take (clipAt jl.length (if s' - b > 0 then s' - b else 0)) jl ++ ol ++ List.take (jl.length - clipAt jl.length (s' + ol.length - b)) (List.drop (clipAt jl.length (s' + ol.length - b)) jl) = mergedL b jl (s', ol) := by
  unfold mergedL
  dsimp only
  have e1 : clipAt jl.length (if s' - b > 0 then s' - b else 0) = min (max 0 (s' - b)).toNat jl.length := by
    unfold clipAt
    repeat' split
    all_goals omega
  have e2 : clipAt jl.length (s' + ol.length - b) = min (s' + ol.length - b).toNat jl.length := by
    unfold clipAt
    repeat' split
    all_goals omega
  rw [e1, e2]
  congr 1
  · congr 1
    rw [List.take_eq_take_iff]
    omega
  · rw [List.take_of_length_le (by simp)]
    by_cases hc : (s' + ol.length - b).toNat ≤ jl.length
    · rw [Nat.min_eq_left hc]
    · rw [Nat.min_eq_right (by omega), List.drop_length, List.drop_eq_nil_of_le (by omega)]

set_option maxHeartbeats 8000000 in
theorem add_piece_new (w : World) (news : List (Addr × Obj)) (la : Addr) (vs : List Value) (n : Nat) (ps : List Pc) (o : Int) (d : Array UInt8) (t t' : Tok) (dl : List Int)
   (hm : (la, W.listOf vs.toArray n) ∈ news) (hD : PcAll news vs ps) (hd : KBw.bInts d = dl) (g : Good ps) (ho : 0 ≤ o) (hod : o + dl.length ≤ 16) (hz : ps.length ≤ 16) :
   Does w 21 2 40 [.ref la, .int o t, .bytes d t'] news (fun r news' => ∃ tl, news' = tl ++ news ∧ (∀ p ∈ tl, ∀ q ∈ news, q.1 < p.1) ∧ ∃ D vs' c ps', r = .ref D ∧ (D, W.listOf vs'.toArray c) ∈ tl ∧ (PcAll tl vs' ps' ∨ (vs' = vs ∧ ps' = ps)) ∧ Good ps' ∧ ∀ i, octs ps' i = (octs ps i).or (at1 (o, dl) i)) := by
  have hvl := hD.length
  unfold Does
  k_fill
  intro mean mg mb dp un gd cn cs a ccd cl outer A₀ base h₀ L m s Q E B F X N T hk hdp hun hret
  refine wpAny_call ?_
  k_dflt ktr_enter
  k_steps
  · -- nothing to add
    rename (∀ q ∈ news, q.1 < _) => l1
    refine hret _ _ _ _ (by assumption) (by assumption) ⟨[(_, _)], rfl, fun p hp q hq => ?_, _, vs, _, ps, rfl, .head _, .inr ⟨rfl, rfl⟩, g, fun i => ?_⟩
    · rw [List.mem_singleton.mp hp]
      exact l1 q hq
    · have e : dl = [] := List.eq_nil_of_length_eq_zero (by omega)
      have : at1 (o, dl) i = none := at1_none (by subst e; simp)
      rw [this]; simp
  · rename Fr _ _ _ _ => F1
    rename News _ _ _ _ => N1
    rename (∀ p ∈ news, p.1 < _) => l1
    refine turns_iter (JA news la ps o dl) rfl (nn := n) (vs := vs) ?_ F1 (newsSub N1 fun p hp => .tail _ hp) ?_ ?_ ?_
    · exact .tail _ hm
    · intro I hI
      exact ⟨_, [], 0, [], [], o, t, d, t', dl, rfl, fun _ h => (nomatch h), l1, .nil, hd, by
        intro p hp
        simp only [List.mem_cons, List.not_mem_nil, or_false] at hp
        rcases hp with rfl | rfl | rfl | rfl <;> rfl, InvA.start ho hod (by intro e; subst e; simp_all)⟩
    · clear N1 F1
      rintro I i v m₁ nx h tk oI hvi ⟨fa, fvs, e, tl, fnd, b, tb, jb, tj, jl, rfl, htl, hfa, hP, hjb, hm₁, hI⟩ hl₁ hoff F₁ N₁
      have F₂ := frOvr _ F₁ hm₁
      clear F₁
      simp only [ovr] at F₂
      obtain ⟨p, hp, hpi⟩ := hD.get hvi
      cases hpi with
      | @mk ta s' ts ob to tn ol htm hol =>
      have hj1 := hI.b1
      have hj0 := hI.b0
      have hpm : (s', ol) ∈ ps := List.mem_of_getElem? hp
      have hlo := g.lo _ hpm
      have hhi := g.hi _ hpm
      dsimp only at hlo hhi
      refine' unpackN_ (items := #[.int s' ts, .bytes ob to]) ?F ?N ?T ?k1 ?k2 ?k3 ?_
      case F => k_asm
      case N => k_asm
      case T => exact (⟨_, (N₁ _ (.tail _ (.tail _ (List.mem_append.mpr (.inr htm))))).1, rfl, tn, rfl⟩)
      case k1 => exact rfl
      case k2 => exact rfl
      case k3 => exact rfl
      intro h' F' N'
      have hlen : i < ps.length := (List.getElem?_eq_some_iff.mp hp).1
      have hsplit : ps = ps.take i ++ (s', ol) :: ps.drop (i + 1) := by
        have e1 : ps[i] = (s', ol) := (List.getElem?_eq_some_iff.mp hp).2
        rw [← e1, List.getElem_cons_drop, List.take_append_drop]
      have htake : ps.take (i + 1) = ps.take i ++ [(s', ol)] := by rw [List.take_add_one, hp]; rfl
      have gs := g
      rw [hsplit] at gs
      k_steps
      · rename_i D5 h5 F5 N5 l5
        have hfar : s' + (ol.length : Int) < b ∨ b + (jl.length : Int) < s' := by omega
        have hlD : ∀ p ∈ tl ++ news, p.1 < D5 := ktn_ltOf l5.2.2.2
        have hfz : fvs.length ≤ 16 := by
          have e1 := hP.length
          have e2 := hI.sub.length_le
          simp at e2
          omega
        refine append_my ((D5, tupO [.int s' ts, .bytes ob to] 0) :: (I, oI) :: (tl ++ news)) F5 N5 (by k_mem) (fun p hp => ?_) (fun p hp => ?_) (by omega) ?_
        · simp only [List.mem_cons] at hp ⊢
          rcases hp with rfl | rfl | hp
          · exact .inl rfl
          · exact .inr (.inr (.inl rfl))
          · exact .inr (.inr (.inr (.inr hp)))
        · simp only [List.mem_cons] at hp
          rcases hp with rfl | rfl | hp
          · exact Nat.ne_of_gt l5.2.2.1
          · exact fun e => hoff _ (.head _) e.symm
          · rcases List.mem_append.mp hp with hp | hp
            · exact Nat.ne_of_gt (htl p hp)
            · exact Nat.ne_of_lt (hfa p hp)
        intro h6 F6 N6
        k_steps
        refine ⟨_, _, _, (fa, W.listOf (fvs ++ [Value.ref D5]).toArray (e + 1)) :: (((D5, tupO [.int s' ts, .bytes ob to] 0) :: tl) ++ news), rfl, F6, newsSub N6 (fun p hp => ?_), .tail _ (List.mem_append.mpr (.inr hm)), fun p hp => ?_, fa, _, _, (D5, tupO [.int s' ts, .bytes ob to] 0) :: tl, fnd ++ [(s', ol)], b, tb, jb, tj, jl, rfl, ?_, hfa, ?_, hjb, ?_, ?_⟩
        · simp only [List.mem_cons, List.cons_append] at hp ⊢
          rcases hp with rfl | rfl | rfl | hp
          · exact .inr (.inr (.inl rfl))
          · exact .inl rfl
          · exact .inr (.inl rfl)
          · exact .inr (.inr (.inr hp))
        · simp only [List.mem_cons, List.cons_append] at hp
          rcases hp with rfl | rfl | hp
          · exact hoff (fa, W.listOf fvs.toArray e) (.head _)
          · exact Nat.ne_of_gt l5.2.1
          · exact hoff _ (.tail _ hp)
        · intro p hp
          rcases List.mem_cons.mp hp with rfl | hp
          · exact l5.2.2.1
          · exact htl p hp
        · exact (hP.mono fun p hp => .tail _ hp).snoc (.mk (.head _) hol)
        · intro p hp
          simp only [List.mem_cons, List.not_mem_nil, or_false] at hp
          rcases hp with rfl | rfl | rfl | rfl <;> rfl
        · rw [htake]
          exact hI.keep gs hfar
      · rename_i D5 h5 F5 N5 l5
        have hfar : s' + (ol.length : Int) < b ∨ b + (jl.length : Int) < s' := by omega
        have hlD : ∀ p ∈ tl ++ news, p.1 < D5 := ktn_ltOf l5.2.2.2
        have hfz : fvs.length ≤ 16 := by
          have e1 := hP.length
          have e2 := hI.sub.length_le
          simp at e2
          omega
        refine append_my ((D5, tupO [.int s' ts, .bytes ob to] 0) :: (I, oI) :: (tl ++ news)) F5 N5 (by k_mem) (fun p hp => ?_) (fun p hp => ?_) (by omega) ?_
        · simp only [List.mem_cons] at hp ⊢
          rcases hp with rfl | rfl | hp
          · exact .inl rfl
          · exact .inr (.inr (.inl rfl))
          · exact .inr (.inr (.inr (.inr hp)))
        · simp only [List.mem_cons] at hp
          rcases hp with rfl | rfl | hp
          · exact Nat.ne_of_gt l5.2.2.1
          · exact fun e => hoff _ (.head _) e.symm
          · rcases List.mem_append.mp hp with hp | hp
            · exact Nat.ne_of_gt (htl p hp)
            · exact Nat.ne_of_lt (hfa p hp)
        intro h6 F6 N6
        k_steps
        refine ⟨_, _, _, (fa, W.listOf (fvs ++ [Value.ref D5]).toArray (e + 1)) :: (((D5, tupO [.int s' ts, .bytes ob to] 0) :: tl) ++ news), rfl, F6, newsSub N6 (fun p hp => ?_), .tail _ (List.mem_append.mpr (.inr hm)), fun p hp => ?_, fa, _, _, (D5, tupO [.int s' ts, .bytes ob to] 0) :: tl, fnd ++ [(s', ol)], b, tb, jb, tj, jl, rfl, ?_, hfa, ?_, hjb, ?_, ?_⟩
        · simp only [List.mem_cons, List.cons_append] at hp ⊢
          rcases hp with rfl | rfl | rfl | hp
          · exact .inr (.inr (.inl rfl))
          · exact .inl rfl
          · exact .inr (.inl rfl)
          · exact .inr (.inr (.inr hp))
        · simp only [List.mem_cons, List.cons_append] at hp
          rcases hp with rfl | rfl | hp
          · exact hoff (fa, W.listOf fvs.toArray e) (.head _)
          · exact Nat.ne_of_gt l5.2.1
          · exact hoff _ (.tail _ hp)
        · intro p hp
          rcases List.mem_cons.mp hp with rfl | hp
          · exact l5.2.2.1
          · exact htl p hp
        · exact (hP.mono fun p hp => .tail _ hp).snoc (.mk (.head _) hol)
        · intro p hp
          simp only [List.mem_cons, List.not_mem_nil, or_false] at hp
          rcases hp with rfl | rfl | rfl | rfl <;> rfl
        · rw [htake]
          exact hI.keep gs hfar
      · rename Fr _ _ _ _ => F7
        rename News _ _ _ _ => N7
        rename (KBw.bInts _ = _) => kb7
        refine ⟨_, _, _, (fa, W.listOf fvs.toArray e) :: (tl ++ news), rfl, F7, newsSub N7 (fun p hp => .tail _ (.tail _ hp)), .tail _ (List.mem_append.mpr (.inr hm)), hoff, fa, fvs, e, tl, fnd, _, _, _, _, _, rfl, htl, hfa, hP, kb7,
          List.forall_mem_cons.mpr ⟨by rfl, List.forall_mem_cons.mpr ⟨by rfl, List.forall_mem_cons.mpr ⟨by rfl, List.forall_mem_cons.mpr ⟨by rfl, List.forall_mem_nil _⟩⟩⟩⟩, ?_⟩
        have hmg := hI.merge gs (by dsimp only; omega) (by dsimp only; omega)
        rw [htake]
        rw [merged_eq b jl s' ol hlo (by omega)]
        have e9 : (if s' < b then s' else b) = min b s' := by split <;> omega
        rw [e9]
        exact hmg
    · clear N1 F1
      rintro I m₁ nx h tk ⟨fa, fvs, e, tl, fnd, b, tb, jb, tj, jl, rfl, htl, hfa, hP, hjb, hm₁, hI⟩ F₁ N₁
      have F₂ := frOvr _ F₁ hm₁
      clear F₁
      simp only [ovr] at F₂
      have hj1 := hI.b1
      have hj0 := hI.b0
      rw [hvl, List.take_length] at hI
      dsimp only
      k_steps
      rename_i D5 h5 lt5 L6 h6 F6 N6 lt6
      have hfl := hP.length
      have hfz : fnd.length ≤ 16 := Nat.le_trans hI.sub.length_le hz
      refine listadd_my (ws := [Value.ref D5]) (n := e) (k := 0) F6 N6 (by k_mem) (.head _) (by simp; omega) ?_
      intro A7 c7 h7 F7 N7 lt7
      dsimp only
      k_steps
      rename Fr _ _ _ _ => F7
      rename News _ _ _ _ => N7
      have sub : ∀ p ∈ tl ++ news, p ∈ (A7, W.listOf (fvs ++ [Value.ref D5]).toArray c7) :: (L6, W.listOf [Value.ref D5].toArray 0) :: (D5, tupO [.int b tb, .bytes jb tj] 0) :: (fa, W.listOf fvs.toArray e) :: (tl ++ news) :=
        fun p hp => .tail _ (.tail _ (.tail _ (.tail _ hp)))
      refine sorted_my (vs := fvs) (v := Value.ref D5) (p := (b, jl)) (ps := fnd) (n := c7) F7 N7 (.head _) (hP.mono fun p hp => sub p (List.mem_append.mpr (.inl hp))) (.mk (.tail _ (.tail _ (.head _))) hjb) (g.sub hI.sub).starts (fun q hq => ?_) (by omega) ?_
      · have h1 := hI.far q hq
        dsimp only
        omega
      intro D8 c8 h8 tk8 i8 F8 N8 lt8 hi8 ha8 hb8
      dsimp only
      k_steps
      obtain ⟨gd1, gd2⟩ := hI.done g i8 ha8 hb8
      refine hret _ ((D8, W.listOf (fvs.take i8 ++ Value.ref D5 :: fvs.drop i8).toArray c8) :: (D5, tupO [.int b tb, .bytes jb tj] 0) :: (tl ++ news)) _ _ (by assumption) ?_ ⟨(D8, _) :: (D5, _) :: tl, rfl, fun p hp q hq => ?_, D8, _, c8, _, rfl, .head _, .inl ?_, gd1, gd2⟩
      · rename News h₀ _ _ _ => N9
        refine newsSub N9 fun p hp => ?_
        simp only [List.mem_cons] at hp ⊢
        rcases hp with rfl | rfl | hp
        · exact .inl rfl
        · exact .inr (.inr (.inr (.inl rfl)))
        · exact .inr (.inr (.inr (.inr (.inr hp))))
      · simp only [List.mem_cons] at hp
        rcases hp with rfl | rfl | hp
        · exact lt8 q (sub q (List.mem_append.mpr (.inr hq)))
        · exact ktn_ltOf lt5.2 q (List.mem_append.mpr (.inr hq))
        · exact Nat.lt_trans (hfa q hq) (htl p hp)
      · have h1 : PcAll ((D8, W.listOf (fvs.take i8 ++ Value.ref D5 :: fvs.drop i8).toArray c8) :: (D5, tupO [.int b tb, .bytes jb tj] 0) :: tl) fvs fnd := hP.mono fun p hp => .tail _ (.tail _ hp)
        exact (h1.take i8).append (.cons (.mk (.tail _ (.head _)) hjb) (h1.drop i8))
theorem Does.weaken {w : World} {f : Addr} {dD dU : Nat} {vs : List Value} {news : List (Addr × Obj)} {P P' : Value → List (Addr × Obj) → Prop} (h : Does w f dD dU vs news P) (hp : ∀ r n, P r n → P' r n) : Does w f dD dU vs news P' := by
  unfold Does at h ⊢
  intro mean mg mb dp un gd cn cs a ccd cl outer A₀ base h₀ L m s Q E B F X N T hk hdp hun hret
  exact h mean mg mb dp un gd cn cs a ccd cl outer A₀ base h₀ L m s Q E B F X N T hk hdp hun fun r n h' tk' F' N' p => hret r n h' tk' F' N' (hp r n p)
theorem add_piece_does (w : World) (news : List (Addr × Obj)) (la : Addr) (vs : List Value) (n : Nat) (ps : List Pc) (o : Int) (d : Array UInt8) (t t' : Tok) (dl : List Int)
   (hm : (la, W.listOf vs.toArray n) ∈ news) (hD : PcAll news vs ps) (hd : KBw.bInts d = dl) (g : Good ps) (ho : 0 ≤ o) (hod : o + dl.length ≤ 16) (hz : ps.length ≤ 16) :
   Does w 21 2 40 [.ref la, .int o t, .bytes d t'] news (fun r news' => Grew news news' ∧ ∃ D vs' c ps', r = .ref D ∧ (D, W.listOf vs'.toArray c) ∈ news' ∧ PcAll news' vs' ps' ∧ Good ps' ∧ ∀ i, octs ps' i = (octs ps i).or (at1 (o, dl) i)) :=
  (add_piece_new w news la vs n ps o d t t' dl hm hD hd g ho hod hz).weaken fun _ _ ⟨tl, e, hlt, D, vs', c, ps', h1, h2, h3, h4, h5⟩ => ⟨⟨tl, e, hlt⟩, D, vs', c, ps', h1, by rw [e]; exact List.mem_append.mpr (.inl h2), by
    rw [e]
    rcases h3 with h3 | ⟨rfl, rfl⟩
    · exact h3.mono fun p hp => List.mem_append.mpr (.inl hp)
    · exact hD.mono fun p hp => List.mem_append.mpr (.inr hp), h4, h5⟩

end Mine

namespace Mine
open PySem PySem.W PySem.Spec PySem.Calls PyProof.Rows
theorem bytes_eq_iff {b c : Array UInt8} {ks ls : List Int} (hb : KBw.bInts b = ks) (hc : KBw.bInts c = ls) : b.toList = c.toList ↔ ks = ls := by
  subst hb hc
  have e : ∀ x : Array UInt8, KBw.bInts x = x.toList.map fun c => ((c.toNat : Nat) : Int) := fun x => rfl
  rw [e, e]
  constructor
  · intro h; rw [h]
  · intro h
    have inj : ∀ (l m : List UInt8), (l.map fun c => ((c.toNat : Nat) : Int)) = (m.map fun c => ((c.toNat : Nat) : Int)) → l = m := by
      intro l
      induction l with
      | nil => intro m hm; cases m with
        | nil => rfl
        | cons _ _ => simp at hm
      | cons x l ih => intro m hm; cases m with
        | nil => simp at hm
        | cons y m =>
          simp only [List.map_cons, List.cons.injEq] at hm
          have hxy : x = y := by
            have h1 : x.toNat = y.toNat := by omega
            exact UInt8.toNat_inj.mp h1
          rw [hxy, ih m hm.2]
    exact inj _ _ h
theorem ne_bytes_my {prog : Program} {w : World} {A : Around} {E : Value → Shared → Prop} {s : Shared} {Q : Value → Shared → Prop} {b c : Array UInt8} {t u : Tok} {ks ls : List Int} (hb : KBw.bInts b = ks) (hc : KBw.bInts c = ls) (h : Q (.bool (decide (ks ≠ ls))) s) :
    wpAny (model prog w) A (compareOp .NotEq (.bytes b t) (.bytes c u)) Q E s := by
  refine ne_bytes ?_
  have e : (b.toList != c.toList) = decide (ks ≠ ls) := by
    have h1 := bytes_eq_iff hb hc
    by_cases hk : ks = ls
    · rw [h1.mpr hk]; simp [hk]
    · have h2 : b.toList ≠ c.toList := fun h => hk (h1.mp h)
      have h3 : (b.toList != c.toList) = true := by simpa using h2
      rw [h3]; simp [hk]
  rw [e]; exact h

local macro_rules | `(tactic| walk_at "exec For Tuple Name cons nil") => `(tactic| (k_here; (rename Fr _ _ _ _ => lF'); (with_unfolding_all refine' For_turns lF' ?_); k_whole))
local macro_rules | `(tactic| walk_at "PostT") => `(tactic| (dsimp only [PostT]))
local macro_rules | `(tactic| walk_at "compareOp NotEq bytes bytes") => `(tactic| (refine ne_bytes_my (by kba_ints) (by kba_ints) ?_))

def JO (news : List (Addr × Obj)) (ps : List Pc) (k : Int) (tk : Tok) (_I : Addr) (i : Nat) (m : Str → Option Value) (nx : List (Addr × Obj)) : Prop :=
  nx = news ∧ (∀ p ∈ [(Str.ofString "at", Value.int k tk)], m p.1 = some p.2) ∧ ∀ q ∈ ps.take i, at1 q k = none
theorem Grew.refl {news : List (Addr × Obj)} : Grew news news := ⟨[], rfl, fun _ h => (nomatch h)⟩

set_option maxHeartbeats 8000000 in
theorem octet_at_does (w : World) (news : List (Addr × Obj)) (la : Addr) (vs : List Value) (n : Nat) (ps : List Pc) (k : Int) (t : Tok)
   (hm : (la, W.listOf vs.toArray n) ∈ news) (hD : PcAll news vs ps) (g : Good ps) :
   Does w 47 2 40 [.ref la, .int k t] news (fun r news' => Grew news news' ∧ ((octs ps k = none ∧ r = .none) ∨ (octs ps k ≠ none ∧ ∃ x t', r = .int x t'))) := by
  have hvl := hD.length
  unfold Does
  k_fill
  intro mean mg mb dp un gd cn cs a ccd cl outer A₀ base h₀ L m s Q E B F X N T hk hdp hun hret
  refine wpAny_call ?_
  k_dflt ktr_enter
  k_steps
  rename Fr _ _ _ _ => F1
  rename News _ _ _ _ => N1
  refine turns_iter (JO news ps k t) rfl (nn := n) (vs := vs) hm F1 N1 ?_ ?_ ?_
  · intro I hI
    exact ⟨rfl, List.forall_mem_cons.mpr ⟨by rfl, List.forall_mem_nil _⟩, fun q hq => by simp at hq⟩
  · clear N1 F1
    rintro I i v m₁ nx h tk oI hvi ⟨rfl, hm₁, hI⟩ hl₁ hoff F₁ N₁
    have F₂ := frOvr _ F₁ hm₁
    clear F₁
    simp only [ovr] at F₂
    obtain ⟨p, hp, hpi⟩ := hD.get hvi
    cases hpi with
    | @mk ta s' ts ob to tn ol htm hol =>
    have hpm : (s', ol) ∈ ps := List.mem_of_getElem? hp
    have hlo := g.lo _ hpm
    have hhi := g.hi _ hpm
    dsimp only at hlo hhi
    have hlen : i < ps.length := (List.getElem?_eq_some_iff.mp hp).1
    have htake : ps.take (i + 1) = ps.take i ++ [(s', ol)] := by rw [List.take_add_one, hp]; rfl
    refine' unpackN_ (items := #[.int s' ts, .bytes ob to]) ?F ?N ?T ?k1 ?k2 ?k3 ?_
    case F => k_asm
    case N => k_asm
    case T => exact (⟨_, (N₁ _ (.tail _ htm)).1, rfl, tn, rfl⟩)
    case k1 => exact rfl
    case k2 => exact rfl
    case k3 => exact rfl
    intro h' F' N'
    (try dsimp only)
    k_steps
    · rename News h₀ _ _ _ => N9
      refine hret _ nx _ _ (by assumption) (newsSub N9 fun p hp => by first | exact hp | exact List.Mem.tail _ hp | exact List.Mem.tail _ (List.Mem.tail _ hp)) ⟨Grew.refl, .inr ⟨fun h => ?_, _, _, rfl⟩⟩
      have h1 := octs_none_iff.mp h _ hpm
      obtain ⟨x, hx⟩ := at1_some (p := (s', ol)) (by assumption) (by assumption)
      rw [hx] at h1; cases h1
    all_goals
      rename Fr _ _ _ _ => F7
      rename News _ _ _ _ => N7
      refine ⟨_, _, _, nx, rfl, F7, N7, hl₁, hoff, rfl, List.forall_mem_cons.mpr ⟨by rfl, List.forall_mem_nil _⟩, ?_⟩
      rw [htake]
      intro q hq
      rcases List.mem_append.mp hq with hq | hq
      · exact hI q hq
      · rw [List.mem_singleton.mp hq]
        exact at1_none (by dsimp only; omega)
  · clear N1 F1
    rintro I m₁ nx h tk ⟨rfl, hm₁, hI⟩ F₁ N₁
    have F₂ := frOvr _ F₁ hm₁
    clear F₁
    simp only [ovr] at F₂
    rw [hvl, List.take_length] at hI
    (try dsimp only)
    k_steps
    exact hret _ nx _ _ (by assumption) (by assumption) ⟨Grew.refl, .inl ⟨octs_none_iff.mpr hI, rfl⟩⟩

def Ag1 (p : Pc) (o : Int) (dl : List Int) : Prop := ∀ i x y, at1 p i = some x → at1 (o, dl) i = some y → x = y
theorem ag_far {s : Int} {ol : List Int} {o : Int} {dl : List Int} (h : ¬ max s o < min (s + ol.length) (o + dl.length)) : Ag1 (s, ol) o dl := by
  intro i x y h1 h2
  have a1 := at1_in h1
  have a2 := at1_in h2
  dsimp only at a1 a2
  omega
theorem ag_near {s : Int} {ol : List Int} {o : Int} {dl : List Int} (h : max s o < min (s + ol.length) (o + dl.length)) :
    (ol.drop (max s o - s).toNat).take ((min (s + ol.length) (o + dl.length) - s).toNat - (max s o - s).toNat) = (dl.drop (max s o - o).toNat).take ((min (s + ol.length) (o + dl.length) - o).toNat - (max s o - o).toNat) ↔ Ag1 (s, ol) o dl := by
  constructor
  · intro e i x y h1 h2
    have a1 := at1_in h1
    have a2 := at1_in h2
    dsimp only at a1 a2
    unfold at1 at h1 h2
    dsimp only at h1 h2
    rw [if_pos a1.1] at h1
    rw [if_pos a2.1] at h2
    have e' := congrArg (fun l => l[(i - max s o).toNat]?) e
    rw [List.getElem?_take, List.getElem?_take, List.getElem?_drop, List.getElem?_drop, if_pos (by omega), if_pos (by omega)] at e'
    have i1 : (max s o - s).toNat + (i - max s o).toNat = (i - s).toNat := by omega
    have i2 : (max s o - o).toNat + (i - max s o).toNat = (i - o).toNat := by omega
    rw [i1, i2, h1, h2] at e'
    exact Option.some.inj e'
  · intro ag
    apply List.ext_getElem?
    intro k
    by_cases hk : (k : Int) < min (s + ol.length) (o + dl.length) - max s o
    · rw [List.getElem?_take, List.getElem?_take, List.getElem?_drop, List.getElem?_drop, if_pos (by omega), if_pos (by omega)]
      obtain ⟨x, hx⟩ := at1_some (p := (s, ol)) (i := max s o + k) (by dsimp only; omega) (by dsimp only; omega)
      obtain ⟨y, hy⟩ := at1_some (p := (o, dl)) (i := max s o + k) (by dsimp only; omega) (by dsimp only; omega)
      have hxy := ag _ _ _ hx hy
      unfold at1 at hx hy
      dsimp only at hx hy
      rw [if_pos (by omega)] at hx hy
      have i1 : (max s o - s).toNat + k = (max s o + k - s).toNat := by omega
      have i2 : (max s o - o).toNat + k = (max s o + k - o).toNat := by omega
      rw [i1, i2, hx, hy, hxy]
    · rw [List.getElem?_eq_none (by simp; omega), List.getElem?_eq_none (by simp; omega)]

theorem ag_eq {s : Int} {ol : List Int} {o : Int} {dl : List Int} (hs : 0 ≤ s) (ho : 0 ≤ o) (h : (if o > s then o else s) < if o + (dl.length : Int) < s + ol.length then o + (dl.length : Int) else s + ol.length) :
    List.take (clipAt ol.length ((if o + (dl.length : Int) < s + ol.length then o + (dl.length : Int) else s + ol.length) - s) - clipAt ol.length ((if o > s then o else s) - s)) (List.drop (clipAt ol.length ((if o > s then o else s) - s)) ol) =
    List.take (clipAt dl.length ((if o + (dl.length : Int) < s + ol.length then o + (dl.length : Int) else s + ol.length) - o) - clipAt dl.length ((if o > s then o else s) - o)) (List.drop (clipAt dl.length ((if o > s then o else s) - o)) dl) ↔ Ag1 (s, ol) o dl := by
  have e1 : (if o > s then o else s) = max s o := by split <;> omega
  have e2 : (if o + (dl.length : Int) < s + ol.length then o + (dl.length : Int) else s + ol.length) = min (s + ol.length) (o + dl.length) := by split <;> omega
  rw [e1, e2] at h ⊢
  rw [clipAt_in (by omega) (by omega), clipAt_in (by omega) (by omega), clipAt_in (by omega) (by omega), clipAt_in (by omega) (by omega)]
  exact ag_near h
theorem ag_far' {s : Int} {ol : List Int} {o : Int} {dl : List Int} (h : ¬ (if o > s then o else s) < if o + (dl.length : Int) < s + ol.length then o + (dl.length : Int) else s + ol.length) : Ag1 (s, ol) o dl := by
  refine ag_far ?_
  have e1 : (if o > s then o else s) = max s o := by split <;> omega
  have e2 : (if o + (dl.length : Int) < s + ol.length then o + (dl.length : Int) else s + ol.length) = min (s + ol.length) (o + dl.length) := by split <;> omega
  rw [e1, e2] at h
  exact h

def JG (news : List (Addr × Obj)) (ps : List Pc) (o : Int) (t : Tok) (d : Array UInt8) (t' : Tok) (dl : List Int) (_I : Addr) (i : Nat) (m : Str → Option Value) (nx : List (Addr × Obj)) : Prop :=
  nx = news ∧ (∀ p ∈ [(Str.ofString "offset", Value.int o t), (Str.ofString "data", Value.bytes d t')], m p.1 = some p.2) ∧ ∀ q ∈ ps.take i, Ag1 q o dl

set_option maxHeartbeats 8000000 in
theorem agrees_does (w : World) (news : List (Addr × Obj)) (la : Addr) (vs : List Value) (n : Nat) (ps : List Pc) (o : Int) (d : Array UInt8) (t t' : Tok) (dl : List Int)
   (hm : (la, W.listOf vs.toArray n) ∈ news) (hD : PcAll news vs ps) (hd : KBw.bInts d = dl) (g : Good ps) (ho : 0 ≤ o) (hod : o + dl.length ≤ 16) :
   Does w 54 2 40 [.ref la, .int o t, .bytes d t'] news (fun r news' => Grew news news' ∧ ((r = .bool true ∧ ∀ p ∈ ps, Ag1 p o dl) ∨ (r = .bool false ∧ ¬ ∀ p ∈ ps, Ag1 p o dl))) := by
  have hvl := hD.length
  unfold Does
  k_fill
  intro mean mg mb dp un gd cn cs a ccd cl outer A₀ base h₀ L m s Q E B F X N T hk hdp hun hret
  refine wpAny_call ?_
  k_dflt ktr_enter
  k_steps
  rename Fr _ _ _ _ => F1
  rename News _ _ _ _ => N1
  refine turns_iter (JG news ps o t d t' dl) rfl (nn := n) (vs := vs) hm F1 N1 ?_ ?_ ?_
  · intro I hI
    exact ⟨rfl, List.forall_mem_cons.mpr ⟨by rfl, List.forall_mem_cons.mpr ⟨by rfl, List.forall_mem_nil _⟩⟩, fun q hq => by simp at hq⟩
  · clear N1 F1
    rintro I i v m₁ nx h tk oI hvi ⟨rfl, hm₁, hI⟩ hl₁ hoff F₁ N₁
    have F₂ := frOvr _ F₁ hm₁
    clear F₁
    simp only [ovr] at F₂
    obtain ⟨p, hp, hpi⟩ := hD.get hvi
    cases hpi with
    | @mk ta s' ts ob to tn ol htm hol =>
    have hpm : (s', ol) ∈ ps := List.mem_of_getElem? hp
    have hlo := g.lo _ hpm
    have hhi := g.hi _ hpm
    dsimp only at hlo hhi
    have hlen : i < ps.length := (List.getElem?_eq_some_iff.mp hp).1
    have htake : ps.take (i + 1) = ps.take i ++ [(s', ol)] := by rw [List.take_add_one, hp]; rfl
    refine' unpackN_ (items := #[.int s' ts, .bytes ob to]) ?F ?N ?T ?k1 ?k2 ?k3 ?_
    case F => k_asm
    case N => k_asm
    case T => exact (⟨_, (N₁ _ (.tail _ htm)).1, rfl, tn, rfl⟩)
    case k1 => exact rfl
    case k2 => exact rfl
    case k3 => exact rfl
    intro h' F' N'
    (try dsimp only)
    k_steps
    · rename News h₀ _ _ _ => N9
      exact hret _ nx _ _ (by assumption) (newsSub N9 fun p hp => by first | exact hp | exact List.Mem.tail _ hp | exact List.Mem.tail _ (List.Mem.tail _ hp)) ⟨Grew.refl, .inr ⟨rfl, fun hh => absurd ((ag_eq hlo ho (by assumption)).mpr (hh _ hpm)) (by assumption)⟩⟩
    all_goals
      have hag : Ag1 (s', ol) o dl := by
        first
          | exact (ag_eq hlo ho (by assumption)).mp (by first | assumption | exact Decidable.not_not.mp (by assumption))
          | exact ag_far' (by assumption)
      rename Fr _ _ _ _ => F7
      rename News _ _ _ _ => N7
      refine ⟨_, _, _, nx, rfl, F7, newsSub N7 fun p hp => .tail _ hp, hl₁, hoff, rfl, List.forall_mem_cons.mpr ⟨by rfl, List.forall_mem_cons.mpr ⟨by rfl, List.forall_mem_nil _⟩⟩, ?_⟩
      rw [htake]
      intro q hq
      rcases List.mem_append.mp hq with hq | hq
      · exact hI q hq
      · rw [List.mem_singleton.mp hq]
        exact hag
  · clear N1 F1
    rintro I m₁ nx h tk ⟨rfl, hm₁, hI⟩ F₁ N₁
    have F₂ := frOvr _ F₁ hm₁
    clear F₁
    simp only [ovr] at F₂
    rw [hvl, List.take_length] at hI
    (try dsimp only)
    k_steps
    exact hret _ nx _ _ (by assumption) (by assumption) ⟨Grew.refl, .inl ⟨rfl, hI⟩⟩

end Mine

namespace Mine
open PySem PySem.W PySem.Spec PySem.Calls PyProof.Rows

section
variable {prog : Program} {w : World} {A : Around} {E : Value → Shared → Prop} {s : Shared} {h₀ : Heap} {L a : Addr} {m : Str → Option Value} {news : List (Addr × Obj)} {Q : Value → Shared → Prop} {vs : List Value} {n : Nat}
theorem len_my {k : Nat} (N : News h₀ L s.heap news) (hm : (a, listOf vs.toArray n) ∈ news) (hk : vs.length = k) (hz : k ≤ 16777216) (h : Q (.int (k : Int) (s.toks + 1)) { s with toks := s.toks + 1 + 1 }) :
    wpAny (model prog w) A (call (.builtin "len") [.ref a]) Q E s := by
  subst hk
  exact len_list (isList_of N hm) (by simp; omega) (by simpa using h)
theorem last_my {value slice : PySem.Expr} {t : Tok} {v : Value} (N : News h₀ L s.heap news) (hm : (a, listOf vs.toArray n) ∈ news) (hv : vs[vs.length - 1]? = some v) (hz : vs.length ≤ 16777216) (h : Q v s)
    (hs : subscripted slice false (.ref a) (.int (-1) t) = operate [.ref a, .int (-1) t] (getItem (.ref a) (.int (-1) t)) := by with_unfolding_all rfl) :
    wpAny (model prog w) A (subscriptTail value slice (.ref a) (.int (-1) t)) Q E s := by
  have hl := isList_of N hm
  have h1 : vs.length - 1 < vs.length := (List.getElem?_eq_some_iff.mp hv).1
  refine tail_any hl.typeIs slot_list_getitem.lookup (PySem.wpAny_getItem_list_neg hl (by decide) (by simp; omega) (by decide) ?_ h) hs
  have e : ((-1 : Int) + vs.toArray.size).toNat = vs.length - 1 := by simp; omega
  rw [e]
  simpa using hv
end
local macro_rules | `(tactic| walk_at "exec For Tuple Name cons nil") => `(tactic| (k_here; (rename Fr _ _ _ _ => lF'); (with_unfolding_all refine' For_turns lF' ?_); k_whole))
local macro_rules | `(tactic| walk_at "PostT") => `(tactic| (dsimp only [PostT]))

local macro_rules | `(tactic| walk_at "call builtin:len") => `(tactic| ((with_reducible show wpAny _ _ (call (Value.builtin "len") [Value.ref _]) _ _ _); refine len_my (by assumption) (by assumption) (by assumption) (by omega) ?_))
local macro_rules | `(tactic| walk_at "subscriptTail") => `(tactic| ((with_reducible show wpAny _ _ (subscriptTail _ _ (Value.ref _) (Value.int (-1) _)) _ _ _); refine last_my (by assumption) (by assumption) (by assumption) (by omega) ?_))

def highF (ps : List Pc) : Int := ps.getLast?.elim 0 fun p => p.1 + p.2.length
set_option maxHeartbeats 8000000 in
theorem highest_of_does (w : World) (news : List (Addr × Obj)) (la : Addr) (vs : List Value) (n : Nat) (ps : List Pc)
   (hm : (la, W.listOf vs.toArray n) ∈ news) (hD : PcAll news vs ps) (g : Good ps) (hz : ps.length ≤ 16) :
   Does w 35 2 40 [.ref la] news (fun r news' => Grew news news' ∧ ∃ t, r = .int (highF ps) t) := by
  have hvl := hD.length
  by_cases h0 : ps.length = 0
  · have e1 : ps = [] := List.eq_nil_of_length_eq_zero h0
    unfold Does
    k_fill
    intro mean mg mb dp un gd cn cs a ccd cl outer A₀ base h₀ L m s Q E B F X N T hk hdp hun hret
    refine wpAny_call ?_
    k_dflt ktr_enter
    k_steps
    · exact hret _ news _ _ (by assumption) (by assumption) ⟨Grew.refl, _, by subst e1; rfl⟩
    · exfalso; omega
  · obtain ⟨v, p, hv, hp, hpi⟩ := hD.get' (i := ps.length - 1) (by omega)
    rw [← hvl] at hv
    have hpm : p ∈ ps := List.mem_of_getElem? hp
    have hhi := g.hi _ hpm
    have hlo := g.lo _ hpm
    have hF : highF ps = p.1 + p.2.length := by unfold highF; rw [List.getLast?_eq_getElem?, hp]; rfl
    cases hpi with
    | @mk ta s' ts ob to tn ol htm hol =>
    dsimp only at hhi hlo hF
    unfold Does
    k_fill
    intro mean mg mb dp un gd cn cs a ccd cl outer A₀ base h₀ L m s Q E B F X N T hk hdp hun hret
    refine wpAny_call ?_
    k_dflt ktr_enter
    k_steps
    · exfalso; omega
    · exact hret _ news _ _ (by assumption) (by assumption) ⟨Grew.refl, _, by rw [hF]⟩

def foundF (ps : List Pc) (k : Int) : List Int := ps.foldl (fun acc p => if p.1 ≤ k ∧ k < p.1 + p.2.length then p.2.drop (k - p.1).toNat else acc) []
def JT (news : List (Addr × Obj)) (ps : List Pc) (k : Int) (t : Tok) (_I : Addr) (i : Nat) (m : Str → Option Value) (nx : List (Addr × Obj)) : Prop :=
  ∃ fa lvs e tl fb ft, nx = (fa, listOf lvs.toArray e) :: (tl ++ news) ∧ (∀ p ∈ tl, fa < p.1) ∧ (∀ q ∈ news, q.1 < fa) ∧ PcAll tl lvs ((ps.take i).filter fun p => decide (k < p.1)) ∧ KBw.bInts fb = foundF (ps.take i) k ∧
    (∀ p ∈ [(Str.ofString "at", Value.int k t), (Str.ofString "found", Value.bytes fb ft), (Str.ofString "left", Value.ref fa)], m p.1 = some p.2)

set_option maxHeartbeats 8000000 in
theorem taken_from_does (w : World) (news : List (Addr × Obj)) (la : Addr) (vs : List Value) (n : Nat) (ps : List Pc) (k : Int) (t : Tok)
   (hm : (la, W.listOf vs.toArray n) ∈ news) (hD : PcAll news vs ps) (g : Good ps) (hz : ps.length ≤ 16) :
   Does w 28 2 40 [.ref la, .int k t] news (fun r news' => Grew news news' ∧ ∃ T fb ft D n' lvs c, r = .ref T ∧ (T, tupO [.bytes fb ft, .ref D] n') ∈ news' ∧ KBw.bInts fb = foundF ps k ∧ (D, W.listOf lvs.toArray c) ∈ news' ∧ PcAll news' lvs (ps.filter fun p => decide (k < p.1))) := by
  have hvl := hD.length
  unfold Does
  k_fill
  intro mean mg mb dp un gd cn cs a ccd cl outer A₀ base h₀ L m s Q E B F X N T hk hdp hun hret
  refine wpAny_call ?_
  k_dflt ktr_enter
  k_steps
  rename Fr _ _ _ _ => F1
  rename News _ _ _ _ => N1
  rename (∀ p ∈ news, p.1 < _) => l1
  refine turns_iter (JT news ps k t) rfl (nn := n) (vs := vs) (.tail _ hm) F1 (newsSub N1 fun p hp => .tail _ hp) ?_ ?_ ?_
  · intro I hI
    exact ⟨_, [], 0, [], _, _, rfl, fun _ h => (nomatch h), l1, .nil, KBw.ints_list [], List.forall_mem_cons.mpr ⟨by rfl, List.forall_mem_cons.mpr ⟨by rfl, List.forall_mem_cons.mpr ⟨by rfl, List.forall_mem_nil _⟩⟩⟩⟩
  · clear N1 F1
    rintro I i v m₁ nx h tk oI hvi ⟨fa, lvs, e, tl, fb, ft, rfl, htl, hfa, hP, hfb, hm₁⟩ hl₁ hoff F₁ N₁
    have F₂ := frOvr _ F₁ hm₁
    clear F₁
    simp only [ovr] at F₂
    obtain ⟨p, hp, hpi⟩ := hD.get hvi
    cases hpi with
    | @mk ta s' ts ob to tn ol htm hol =>
    have hpm : (s', ol) ∈ ps := List.mem_of_getElem? hp
    have hlo := g.lo _ hpm
    have hhi := g.hi _ hpm
    dsimp only at hlo hhi
    have hlen : i < ps.length := (List.getElem?_eq_some_iff.mp hp).1
    have htake : ps.take (i + 1) = ps.take i ++ [(s', ol)] := by rw [List.take_add_one, hp]; rfl
    refine' unpackN_ (items := #[.int s' ts, .bytes ob to]) ?F ?N ?T ?k1 ?k2 ?k3 ?_
    case F => k_asm
    case N => k_asm
    case T => exact (⟨_, (N₁ _ (.tail _ (.tail _ (List.mem_append.mpr (.inr htm))))).1, rfl, tn, rfl⟩)
    case k1 => exact rfl
    case k2 => exact rfl
    case k3 => exact rfl
    intro h' F' N'
    (try dsimp only)
    have hfil : (ps.take (i + 1)).filter (fun p => decide (k < p.1)) = (ps.take i).filter (fun p => decide (k < p.1)) ++ (if k < s' then [(s', ol)] else []) := by
      rw [htake, List.filter_append]
      congr 1
      by_cases hc : k < s' <;> simp [hc]
    have hfnd : foundF (ps.take (i + 1)) k = if s' ≤ k ∧ k < s' + ol.length then ol.drop (k - s').toNat else foundF (ps.take i) k := by
      rw [htake]; unfold foundF; rw [List.foldl_append]; rfl
    have hin : ∀ p, p ∈ (I, oI) :: (fa, W.listOf lvs.toArray e) :: (tl ++ news) → p ∈ (I, oI) :: (fa, W.listOf lvs.toArray e) :: (tl ++ news) := fun _ h => h
    k_steps
    · rename Fr _ _ _ _ => F7
      rename News _ _ _ _ => N7
      rename (KBw.bInts _ = _) => kb7
      refine ⟨_, _, _, (fa, W.listOf lvs.toArray e) :: (tl ++ news), rfl, F7, N7, hl₁, hoff, fa, lvs, e, tl, _, _, rfl, htl, hfa, ?_, ?_, List.forall_mem_cons.mpr ⟨by rfl, List.forall_mem_cons.mpr ⟨by rfl, List.forall_mem_cons.mpr ⟨by rfl, List.forall_mem_nil _⟩⟩⟩⟩
      · rw [hfil, if_neg (by omega), List.append_nil]; exact hP
      · rw [hfnd, if_pos (by omega), kb7, clipAt_in (by omega) (by omega), List.take_of_length_le (by simp)]
    · rename Fr _ _ _ _ => F7
      rename News _ _ _ _ => N7
      refine ⟨_, _, _, (fa, W.listOf lvs.toArray e) :: (tl ++ news), rfl, F7, N7, hl₁, hoff, fa, lvs, e, tl, _, _, rfl, htl, hfa, ?_, ?_, List.forall_mem_cons.mpr ⟨by rfl, List.forall_mem_cons.mpr ⟨by rfl, List.forall_mem_cons.mpr ⟨by rfl, List.forall_mem_nil _⟩⟩⟩⟩
      · rw [hfil, if_neg (by omega), List.append_nil]; exact hP
      · rw [hfnd, if_neg (by omega)]; exact hfb
    · rename_i D5 h5 F5 N5 l5
      have hlD : ∀ p ∈ tl ++ news, p.1 < D5 := ktn_ltOf l5.2.2
      have hfz : lvs.length ≤ 16 := by
        have e1 := hP.length
        have e2 := List.length_filter_le (fun p : Pc => decide (k < p.1)) (ps.take i)
        simp at e2
        omega
      refine append_my ((D5, tupO [.int s' ts, .bytes ob to] 0) :: (I, oI) :: (tl ++ news)) F5 N5 (by k_mem) (fun p hp => ?_) (fun p hp => ?_) (by omega) ?_
      · simp only [List.mem_cons] at hp ⊢
        rcases hp with rfl | rfl | hp
        · exact .inl rfl
        · exact .inr (.inl rfl)
        · exact .inr (.inr (.inr hp))
      · simp only [List.mem_cons] at hp
        rcases hp with rfl | rfl | hp
        · exact Nat.ne_of_gt l5.2.1
        · exact fun e => hoff _ (.head _) e.symm
        · rcases List.mem_append.mp hp with hp | hp
          · exact Nat.ne_of_gt (htl p hp)
          · exact Nat.ne_of_lt (hfa p hp)
      intro h6 F6 N6
      k_steps
      refine ⟨_, _, _, (fa, W.listOf (lvs ++ [Value.ref D5]).toArray (e + 1)) :: (((D5, tupO [.int s' ts, .bytes ob to] 0) :: tl) ++ news), rfl, F6, newsSub N6 (fun p hp => ?_), .tail _ (List.mem_append.mpr (.inr hm)), fun p hp => ?_, fa, _, _, (D5, tupO [.int s' ts, .bytes ob to] 0) :: tl, _, _, rfl, ?_, hfa, ?_, ?_, List.forall_mem_cons.mpr ⟨by rfl, List.forall_mem_cons.mpr ⟨by rfl, List.forall_mem_cons.mpr ⟨by rfl, List.forall_mem_nil _⟩⟩⟩⟩
      · simp only [List.mem_cons, List.cons_append] at hp ⊢
        rcases hp with rfl | rfl | rfl | hp
        · exact .inr (.inr (.inl rfl))
        · exact .inl rfl
        · exact .inr (.inl rfl)
        · exact .inr (.inr (.inr hp))
      · simp only [List.mem_cons, List.cons_append] at hp
        rcases hp with rfl | rfl | hp
        · exact hoff (fa, W.listOf lvs.toArray e) (.head _)
        · exact Nat.ne_of_gt l5.1
        · exact hoff _ (.tail _ hp)
      · intro p hp
        rcases List.mem_cons.mp hp with rfl | hp
        · exact l5.2.1
        · exact htl p hp
      · rw [hfil, if_pos (by omega)]
        exact (hP.mono fun p hp => .tail _ hp).snoc (.mk (.head _) hol)
      · rw [hfnd, if_neg (by omega)]; exact hfb
  · clear N1 F1
    rintro I m₁ nx h tk ⟨fa, lvs, e, tl, fb, ft, rfl, htl, hfa, hP, hfb, hm₁⟩ F₁ N₁
    have F₂ := frOvr _ F₁ hm₁
    clear F₁
    simp only [ovr] at F₂
    rw [hvl, List.take_length] at hP hfb
    (try dsimp only)
    k_steps
    rename_i D5 h5 F5 N5 l5 kF5 kN5 _ _
    refine hret _ ((D5, tupO [.bytes fb ft, .ref fa] 0) :: (fa, W.listOf lvs.toArray e) :: (tl ++ news)) _ _ (by assumption) (by assumption) ⟨⟨(D5, _) :: (fa, _) :: tl, rfl, fun p hp q hq => ?_⟩, D5, fb, ft, fa, _, lvs, e, rfl, .head _, hfb, .tail _ (.head _), hP.mono fun p hp => .tail _ (.tail _ (List.mem_append.mpr (.inl hp)))⟩
    simp only [List.mem_cons] at hp
    rcases hp with rfl | rfl | hp
    · exact ktn_ltOf l5.2 q (List.mem_append.mpr (.inr hq))
    · exact hfa q hq
    · exact Nat.lt_trans (hfa q hq) (htl p hp)

end Mine

namespace Mine
/-- lengths -/
theorem len_bound : ∀ (ps : List Pc) (a : Int), ps.Pairwise (fun (x y : Pc) => x.1 + x.2.length < y.1) → (∀ p ∈ ps, p.2 ≠ []) → (∀ p ∈ ps, a ≤ p.1) → (∀ p ∈ ps, p.1 + p.2.length ≤ 16) → a ≤ 16 → (ps.length : Int) ≤ 16 - a
  | [], a, _, _, _, _, h => by simp; omega
  | p :: ps, a, hc, hn, hl, hh, _ => by
    have h1 := hl p (.head _)
    have h2 := hh p (.head _)
    have h3 : 0 < p.2.length := List.length_pos_iff.mpr (hn p (.head _))
    have hc' := List.pairwise_cons.mp hc
    have := len_bound ps (p.1 + 1) hc'.2 (fun q hq => hn q (.tail _ hq)) (fun q hq => by have := hc'.1 q hq; omega) (fun q hq => hh q (.tail _ hq)) (by omega)
    simp only [List.length_cons]
    omega
theorem Good.len {ps : List Pc} (g : Good ps) : ps.length ≤ 16 := by
  have := len_bound ps 0 g.canon g.ne g.lo g.hi (by omega)
  omega

abbrev Sp := Int × Int
def covS (sp : List Sp) (i : Int) : Prop := ∃ p ∈ sp, p.1 ≤ i ∧ i < p.2
structure GoodS (sp : List Sp) : Prop where
  canon : sp.Pairwise (fun (x y : Sp) => x.2 < y.1)
  ne : ∀ p ∈ sp, p.1 < p.2
  lo : ∀ p ∈ sp, 0 ≤ p.1
  hi : ∀ p ∈ sp, p.2 ≤ 16
theorem lenS_bound : ∀ (ps : List Sp) (a : Int), ps.Pairwise (fun (x y : Sp) => x.2 < y.1) → (∀ p ∈ ps, p.1 < p.2) → (∀ p ∈ ps, a ≤ p.1) → (∀ p ∈ ps, p.2 ≤ 16) → a ≤ 16 → (ps.length : Int) ≤ 16 - a
  | [], a, _, _, _, _, h => by simp; omega
  | p :: ps, a, hc, hn, hl, hh, _ => by
    have h1 := hl p (.head _)
    have h2 := hh p (.head _)
    have h3 := hn p (.head _)
    have hc' := List.pairwise_cons.mp hc
    have := lenS_bound ps (p.1 + 1) hc'.2 (fun q hq => hn q (.tail _ hq)) (fun q hq => by have := hc'.1 q hq; omega) (fun q hq => hh q (.tail _ hq)) (by omega)
    simp only [List.length_cons]
    omega
theorem GoodS.len {ps : List Sp} (g : GoodS ps) : ps.length ≤ 16 := by
  have := lenS_bound ps 0 g.canon g.ne g.lo g.hi (by omega)
  omega
theorem covS_append {a b : List Sp} {i : Int} : covS (a ++ b) i ↔ covS a i ∨ covS b i := by
  unfold covS
  constructor
  · rintro ⟨p, hp, h⟩
    rcases List.mem_append.mp hp with hp | hp
    · exact .inl ⟨p, hp, h⟩
    · exact .inr ⟨p, hp, h⟩
  · rintro (⟨p, hp, h⟩ | ⟨p, hp, h⟩)
    · exact ⟨p, List.mem_append.mpr (.inl hp), h⟩
    · exact ⟨p, List.mem_append.mpr (.inr hp), h⟩
theorem covS_one {p : Sp} {i : Int} : covS [p] i ↔ p.1 ≤ i ∧ i < p.2 := by
  unfold covS
  constructor
  · rintro ⟨q, hq, h⟩
    rw [List.mem_singleton.mp hq] at h; exact h
  · intro h; exact ⟨p, .head _, h⟩
theorem covS_nil {i : Int} : covS [] i ↔ False := ⟨fun ⟨_, h, _⟩ => (nomatch h), False.elim⟩

def gotS (put : Bool) (fnd : List Sp) (lo hi : Int) : List Sp := if put = true then fnd else fnd ++ [(lo, hi)]
structure InvS (pre rest : List Sp) (low high : Int) (fnd : List Sp) (lo hi : Int) (put : Bool) : Prop where
  lt : lo < hi
  can : GoodS (gotS put fnd lo hi)
  sep : ∀ q ∈ fnd, ∀ r ∈ rest, q.2 < r.1
  mem : put = true → (lo, hi) ∈ fnd
  cov : ∀ i, covS (gotS put fnd lo hi) i ↔ covS pre i ∨ (low ≤ i ∧ i < high)
  len : fnd.length ≤ pre.length + put.toNat

theorem InvS.start {rest : List Sp} {low high : Int} (h : low < high) (h0 : 0 ≤ low) (h1 : high ≤ 16) : InvS [] rest low high [] low high false := by
  refine ⟨h, ⟨List.pairwise_singleton _ _, ?_, ?_, ?_⟩, fun _ hq => (nomatch hq), fun e => (nomatch e), fun i => ?_, Nat.zero_le _⟩
  · intro p hp; rw [List.mem_singleton.mp hp]; exact h
  · intro p hp; rw [List.mem_singleton.mp hp]; exact h0
  · intro p hp; rw [List.mem_singleton.mp hp]; exact h1
  · show covS [(low, high)] i ↔ _
    rw [covS_one, covS_nil]; simp

theorem GoodS.app {a b : List Sp} (g : GoodS a) (k : GoodS b) (h : ∀ x ∈ a, ∀ y ∈ b, x.2 < y.1) : GoodS (a ++ b) :=
  ⟨List.pairwise_append.mpr ⟨g.canon, k.canon, h⟩, fun p hp => (List.mem_append.mp hp).elim (g.ne p) (k.ne p), fun p hp => (List.mem_append.mp hp).elim (g.lo p) (k.lo p), fun p hp => (List.mem_append.mp hp).elim (g.hi p) (k.hi p)⟩
theorem GoodS.one {p : Sp} (h : p.1 < p.2) (h0 : 0 ≤ p.1) (h1 : p.2 ≤ 16) : GoodS [p] :=
  ⟨List.pairwise_singleton _ _, fun q hq => by rw [List.mem_singleton.mp hq]; exact h, fun q hq => by rw [List.mem_singleton.mp hq]; exact h0, fun q hq => by rw [List.mem_singleton.mp hq]; exact h1⟩
theorem GoodS.left {a b : List Sp} (g : GoodS (a ++ b)) : GoodS a :=
  ⟨(List.pairwise_append.mp g.canon).1, fun p hp => g.ne p (List.mem_append.mpr (.inl hp)), fun p hp => g.lo p (List.mem_append.mpr (.inl hp)), fun p hp => g.hi p (List.mem_append.mpr (.inl hp))⟩

section
variable {pre rest : List Sp} {r : Sp} {low high lo hi : Int} {fnd : List Sp} {put : Bool}
theorem InvS.rest1 (g : GoodS (pre ++ r :: rest)) : r.1 < r.2 ∧ 0 ≤ r.1 ∧ r.2 ≤ 16 ∧ (∀ y ∈ rest, r.2 < y.1) := by
  have hm : r ∈ pre ++ r :: rest := List.mem_append.mpr (.inr (.head _))
  exact ⟨g.ne r hm, g.lo r hm, g.hi r hm, (List.pairwise_cons.mp (List.pairwise_append.mp g.canon).2.1).1⟩
theorem InvS.openS (v : InvS pre (r :: rest) low high fnd lo hi false) : GoodS fnd ∧ 0 ≤ lo ∧ hi ≤ 16 ∧ ∀ q ∈ fnd, q.2 < lo := by
  have g : GoodS (fnd ++ [(lo, hi)]) := v.can
  have hm : (lo, hi) ∈ fnd ++ [(lo, hi)] := List.mem_append.mpr (.inr (.head _))
  exact ⟨g.left, g.lo _ hm, g.hi _ hm, fun q hq => (List.pairwise_append.mp g.canon).2.2 q hq _ (.head _)⟩

theorem InvS.before (g : GoodS (pre ++ r :: rest)) (v : InvS pre (r :: rest) low high fnd lo hi false) (h : r.2 < lo) : InvS (pre ++ [r]) rest low high (fnd ++ [r]) lo hi false := by
  obtain ⟨g1, g2, g3, g4⟩ := InvS.rest1 g
  obtain ⟨k1, k2, k3, k4⟩ := v.openS
  refine ⟨v.lt, ?_, ?_, fun e => (nomatch e), fun i => ?_, ?_⟩
  · show GoodS ((fnd ++ [r]) ++ [(lo, hi)])
    refine GoodS.app (GoodS.app k1 (GoodS.one g1 g2 g3) fun x hx y hy => ?_) (GoodS.one v.lt k2 k3) fun x hx y hy => ?_
    · rw [List.mem_singleton.mp hy]; exact v.sep x hx r (.head _)
    · rw [List.mem_singleton.mp hy]
      rcases List.mem_append.mp hx with hx | hx
      · exact k4 x hx
      · rw [List.mem_singleton.mp hx]; exact h
  · intro q hq y hy
    rcases List.mem_append.mp hq with hq | hq
    · exact v.sep q hq y (.tail _ hy)
    · rw [List.mem_singleton.mp hq]; exact g4 y hy
  · have h5 : covS (fnd ++ [(lo, hi)]) i ↔ covS pre i ∨ (low ≤ i ∧ i < high) := v.cov i
    show covS ((fnd ++ [r]) ++ [(lo, hi)]) i ↔ _
    rw [covS_append] at h5
    rw [covS_append, covS_append, covS_append]
    grind
  · have := v.len; simp at this ⊢; omega
theorem InvS.put1 (g : GoodS (pre ++ r :: rest)) (v : InvS pre (r :: rest) low high fnd lo hi false) (h : hi < r.1) : InvS (pre ++ [r]) rest low high (fnd ++ [(lo, hi)] ++ [r]) lo hi true := by
  obtain ⟨g1, g2, g3, g4⟩ := InvS.rest1 g
  obtain ⟨k1, k2, k3, k4⟩ := v.openS
  refine ⟨v.lt, ?_, ?_, fun _ => by simp, fun i => ?_, ?_⟩
  · show GoodS ((fnd ++ [(lo, hi)]) ++ [r])
    refine GoodS.app v.can (GoodS.one g1 g2 g3) fun x hx y hy => ?_
    rw [List.mem_singleton.mp hy]
    rcases List.mem_append.mp hx with hx | hx
    · exact v.sep x hx r (.head _)
    · rw [List.mem_singleton.mp hx]; exact h
  · intro q hq y hy
    have h6 := g4 y hy
    rcases List.mem_append.mp hq with hq | hq
    · rcases List.mem_append.mp hq with hq | hq
      · exact v.sep q hq y (.tail _ hy)
      · rw [List.mem_singleton.mp hq]; dsimp only; omega
    · rw [List.mem_singleton.mp hq]; exact h6
  · have h5 : covS (fnd ++ [(lo, hi)]) i ↔ covS pre i ∨ (low ≤ i ∧ i < high) := v.cov i
    show covS ((fnd ++ [(lo, hi)]) ++ [r]) i ↔ _
    rw [covS_append, covS_append (a := pre)]
    grind
  · have := v.len; simp at this ⊢; omega
theorem InvS.after (g : GoodS (pre ++ r :: rest)) (v : InvS pre (r :: rest) low high fnd lo hi true) : hi < r.1 ∧ InvS (pre ++ [r]) rest low high (fnd ++ [r]) lo hi true := by
  obtain ⟨g1, g2, g3, g4⟩ := InvS.rest1 g
  have hm := v.mem rfl
  refine ⟨v.sep _ hm r (.head _), v.lt, ?_, ?_, fun _ => List.mem_append.mpr (.inl hm), fun i => ?_, ?_⟩
  · show GoodS (fnd ++ [r])
    refine GoodS.app v.can (GoodS.one g1 g2 g3) fun x hx y hy => ?_
    rw [List.mem_singleton.mp hy]
    exact v.sep x hx r (.head _)
  · intro q hq y hy
    rcases List.mem_append.mp hq with hq | hq
    · exact v.sep q hq y (.tail _ hy)
    · rw [List.mem_singleton.mp hq]; exact g4 y hy
  · have h5 : covS fnd i ↔ covS pre i ∨ (low ≤ i ∧ i < high) := v.cov i
    show covS (fnd ++ [r]) i ↔ _
    rw [covS_append, covS_append (a := pre)]
    grind
  · have := v.len; simp at this ⊢; omega
theorem InvS.join (g : GoodS (pre ++ r :: rest)) (v : InvS pre (r :: rest) low high fnd lo hi false) (h1 : ¬ r.2 < lo) (h2 : ¬ hi < r.1) : InvS (pre ++ [r]) rest low high fnd (min lo r.1) (max hi r.2) false := by
  obtain ⟨g1, g2, g3, g4⟩ := InvS.rest1 g
  obtain ⟨k1, k2, k3, k4⟩ := v.openS
  have hlt := v.lt
  refine ⟨by omega, ?_, fun q hq y hy => v.sep q hq y (.tail _ hy), fun e => (nomatch e), fun i => ?_, ?_⟩
  · show GoodS (fnd ++ [(min lo r.1, max hi r.2)])
    refine GoodS.app k1 (GoodS.one (by dsimp only; omega) (by dsimp only; omega) (by dsimp only; omega)) fun x hx y hy => ?_
    rw [List.mem_singleton.mp hy]
    have := k4 x hx
    have := v.sep x hx r (.head _)
    dsimp only
    omega
  · have h5 : covS (fnd ++ [(lo, hi)]) i ↔ covS pre i ∨ (low ≤ i ∧ i < high) := v.cov i
    show covS (fnd ++ [(min lo r.1, max hi r.2)]) i ↔ _
    rw [covS_append, covS_one] at h5
    rw [covS_append, covS_append (a := pre), covS_one, covS_one]
    have e : (min lo r.1 ≤ i ∧ i < max hi r.2) ↔ (lo ≤ i ∧ i < hi) ∨ (r.1 ≤ i ∧ i < r.2) := by omega
    dsimp only at h5 ⊢
    rw [e]
    grind
  · have := v.len; simp at this ⊢; omega
end
theorem InvS.done {sp : List Sp} {low high lo hi : Int} {fnd : List Sp} {put : Bool} (v : InvS sp [] low high fnd lo hi put) : GoodS (gotS put fnd lo hi) ∧ ∀ i, covS (gotS put fnd lo hi) i ↔ covS sp i ∨ (low ≤ i ∧ i < high) := ⟨v.can, v.cov⟩

end Mine

namespace Mine
open PySem PySem.W PySem.Spec PySem.Calls PyProof.Rows

inductive SpIn (news : List (Addr × Obj)) : Value → Sp → Prop
  | mk {a : Addr} {i j : Int} {t u : Tok} {n : Nat} : (a, tupO [.int i t, .int j u] n) ∈ news → SpIn news (.ref a) (i, j)
inductive SpAll (news : List (Addr × Obj)) : List Value → List Sp → Prop
  | nil : SpAll news [] []
  | cons {v vs p ps} : SpIn news v p → SpAll news vs ps → SpAll news (v :: vs) (p :: ps)
theorem SpIn.mono {news news' : List (Addr × Obj)} {v : Value} {p : Sp} (h : SpIn news v p) (hs : ∀ q ∈ news, q ∈ news') : SpIn news' v p := by
  cases h with
  | mk hm => exact .mk (hs _ hm)
theorem SpAll.mono {news news' : List (Addr × Obj)} {vs : List Value} {ps : List Sp} (h : SpAll news vs ps) (hs : ∀ q ∈ news, q ∈ news') : SpAll news' vs ps := by
  induction h with
  | nil => exact .nil
  | cons h1 _ ih => exact .cons (h1.mono hs) ih
theorem SpAll.length {news : List (Addr × Obj)} {vs : List Value} {ps : List Sp} (h : SpAll news vs ps) : vs.length = ps.length := by
  induction h with
  | nil => rfl
  | cons _ _ ih => simp [ih]
theorem SpAll.append {news : List (Addr × Obj)} {vs ws : List Value} {ps qs : List Sp} (h : SpAll news vs ps) (k : SpAll news ws qs) : SpAll news (vs ++ ws) (ps ++ qs) := by
  induction h with
  | nil => exact k
  | cons h1 _ ih => exact .cons h1 ih
theorem SpAll.snoc {news : List (Addr × Obj)} {vs : List Value} {ps : List Sp} {v : Value} {p : Sp} (h : SpAll news vs ps) (k : SpIn news v p) : SpAll news (vs ++ [v]) (ps ++ [p]) := h.append (.cons k .nil)
theorem SpAll.get {news : List (Addr × Obj)} {vs : List Value} {ps : List Sp} (h : SpAll news vs ps) : ∀ {i : Nat} {v : Value}, vs[i]? = some v → ∃ p, ps[i]? = some p ∧ SpIn news v p := by
  induction h with
  | nil => intro i v e; simp at e
  | cons h1 _ ih =>
    intro i v e
    cases i with
    | zero => simp at e; subst e; exact ⟨_, by simp, h1⟩
    | succ i => simp at e; obtain ⟨p, hp, hi⟩ := ih e; exact ⟨p, by simpa using hp, hi⟩
local macro_rules | `(tactic| walk_at "exec For Tuple Name cons nil") => `(tactic| (k_here; (rename Fr _ _ _ _ => lF'); (with_unfolding_all refine' For_turns lF' ?_); k_whole))
local macro_rules | `(tactic| walk_at "PostT") => `(tactic| (dsimp only [PostT]))

local macro_rules | `(tactic| walk_at "call type:list") => `(tactic| ((with_reducible show wpAny _ _ (call (Value.type "list") [Value.ref _]) _ _ _); refine listcopy_my (by assumption) (by assumption) (by assumption) (by omega) ?_; intro lcD lcC lcH F' N' l1))

def JS (news : List (Addr × Obj)) (sp : List Sp) (low high : Int) (_I : Addr) (i : Nat) (m : Str → Option Value) (nx : List (Addr × Obj)) : Prop :=
  ∃ fa fvs e tl fnd lo hi tlo thi put, nx = (fa, listOf fvs.toArray e) :: (tl ++ news) ∧ (∀ p ∈ tl, fa < p.1) ∧ (∀ q ∈ news, q.1 < fa) ∧ SpAll tl fvs fnd ∧
    (∀ p ∈ [(Str.ofString "found", Value.ref fa), (Str.ofString "is_put", Value.bool put), (Str.ofString "low", Value.int lo tlo), (Str.ofString "high", Value.int hi thi)], m p.1 = some p.2) ∧ InvS (sp.take i) (sp.drop i) low high fnd lo hi put

set_option maxHeartbeats 8000000 in
theorem add_span_does (w : World) (news : List (Addr × Obj)) (la : Addr) (vs : List Value) (n : Nat) (sp : List Sp) (low high : Int) (t t' : Tok)
   (hm : (la, W.listOf vs.toArray n) ∈ news) (hD : SpAll news vs sp) (g : GoodS sp) (h0 : 0 ≤ low) (h1 : high ≤ 16) :
   Does w 61 2 40 [.ref la, .int low t, .int high t'] news (fun r news' => Grew news news' ∧ ∃ D vs' c sp', r = .ref D ∧ (D, W.listOf vs'.toArray c) ∈ news' ∧ SpAll news' vs' sp' ∧ GoodS sp' ∧ ∀ i, covS sp' i ↔ covS sp i ∨ (low ≤ i ∧ i < high)) := by
  have hvl := hD.length
  have hz := g.len
  unfold Does
  k_fill
  intro mean mg mb dp un gd cn cs a ccd cl outer A₀ base h₀ L m s Q E B F X N T hk hdp hun hret
  refine wpAny_call ?_
  k_dflt ktr_enter
  k_steps
  · rename (∀ q ∈ news, q.1 < _) => l1
    refine hret _ _ _ _ (by assumption) (by assumption) ⟨⟨[(_, _)], rfl, fun p hp q hq => ?_⟩, _, vs, _, sp, rfl, .head _, hD.mono fun p hp => .tail _ hp, g, fun i => ?_⟩
    · rw [List.mem_singleton.mp hp]
      exact l1 q hq
    · constructor
      · exact .inl
      · rintro (h | h)
        · exact h
        · omega
  · rename Fr _ _ _ _ => F1
    rename News _ _ _ _ => N1
    rename (∀ p ∈ news, p.1 < _) => l1
    refine turns_iter (JS news sp low high) rfl (nn := n) (vs := vs) (.tail _ hm) F1 (newsSub N1 fun p hp => .tail _ hp) ?_ ?_ ?_
    · intro I hI
      exact ⟨_, [], 0, [], [], low, high, t, t', false, rfl, fun _ h => (nomatch h), l1, .nil, List.forall_mem_cons.mpr ⟨by rfl, List.forall_mem_cons.mpr ⟨by rfl, List.forall_mem_cons.mpr ⟨by rfl, List.forall_mem_cons.mpr ⟨by rfl, List.forall_mem_nil _⟩⟩⟩⟩, InvS.start (by omega) h0 h1⟩
    · clear N1 F1
      rintro I i v m₁ nx h tk oI hvi ⟨fa, fvs, e, tl, fnd, lo, hi, tlo, thi, put, rfl, htl, hfa, hP, hm₁, hI⟩ hl₁ hoff F₁ N₁
      have F₂ := frOvr _ F₁ hm₁
      clear F₁
      simp only [ovr] at F₂
      obtain ⟨p, hp, hpi⟩ := hD.get hvi
      cases hpi with
      | @mk ta s' s2 ts to tn htm =>
      have hlen : i < sp.length := (List.getElem?_eq_some_iff.mp hp).1
      have htake : sp.take (i + 1) = sp.take i ++ [(s', s2)] := by rw [List.take_add_one, hp]; rfl
      have e1 : sp[i] = (s', s2) := (List.getElem?_eq_some_iff.mp hp).2
      have hdrop : sp.drop i = (s', s2) :: sp.drop (i + 1) := by rw [List.drop_eq_getElem_cons hlen, e1]
      have gs : GoodS (sp.take i ++ (s', s2) :: sp.drop (i + 1)) := by rw [← hdrop, List.take_append_drop]; exact g
      rw [hdrop] at hI
      have hfz : fvs.length ≤ 18 := by
        have e1 := hP.length
        have e2 := hI.len
        have e3 : put.toNat ≤ 1 := Bool.toNat_le put
        simp at e2
        omega
      refine' unpackN_ (items := #[.int s' ts, .int s2 to]) ?F ?N ?T ?k1 ?k2 ?k3 ?_
      case F => k_asm
      case N => k_asm
      case T => exact (⟨_, (N₁ _ (.tail _ (.tail _ (List.mem_append.mpr (.inr htm))))).1, rfl, tn, rfl⟩)
      case k1 => exact rfl
      case k2 => exact rfl
      case k3 => exact rfl
      intro h' F' N'
      (try dsimp only)
      k_steps
      · rename_i D5 h5 F5 N5 l5
        have hput : put = false := by
          cases hput : put with
          | false => rfl
          | true =>
            rw [hput] at hI
            have h9 := (hI.after gs).1
            have := hI.lt
            have := gs.ne (s', s2) (List.mem_append.mpr (.inr (.head _)))
            dsimp only at h9 this
            omega
        subst hput
        refine append_my ((D5, tupO [.int s' ts, .int s2 to] 0) :: (I, oI) :: (tl ++ news)) F5 N5 (by k_mem) (fun p hp => ?_) (fun p hp => ?_) (by omega) ?_
        · simp only [List.mem_cons] at hp ⊢
          rcases hp with rfl | rfl | hp
          · exact .inl rfl
          · exact .inr (.inl rfl)
          · exact .inr (.inr (.inr hp))
        · simp only [List.mem_cons] at hp
          rcases hp with rfl | rfl | hp
          · exact Nat.ne_of_gt l5.2.1
          · exact fun e => hoff _ (.head _) e.symm
          · rcases List.mem_append.mp hp with hp | hp
            · exact Nat.ne_of_gt (htl p hp)
            · exact Nat.ne_of_lt (hfa p hp)
        intro h6 F6 N6
        k_steps
        rename Fr _ _ _ _ => F7
        rename News _ _ _ _ => N7
        refine ⟨_, _, _, (fa, W.listOf (fvs ++ [Value.ref D5]).toArray (e + 1)) :: (((D5, tupO [.int s' ts, .int s2 to] 0) :: tl) ++ news), rfl, F7, newsSub N7 (fun p hp => ?_), .tail _ (List.mem_append.mpr (.inr hm)), fun p hp => ?_, fa, _, _, (D5, tupO [.int s' ts, .int s2 to] 0) :: tl, fnd ++ [(s', s2)], lo, hi, tlo, thi, false, rfl, ?_, hfa, ?_, List.forall_mem_cons.mpr ⟨by rfl, List.forall_mem_cons.mpr ⟨by rfl, List.forall_mem_cons.mpr ⟨by rfl, List.forall_mem_cons.mpr ⟨by rfl, List.forall_mem_nil _⟩⟩⟩⟩, ?_⟩
        · simp only [List.mem_cons, List.cons_append] at hp ⊢
          rcases hp with rfl | rfl | rfl | hp
          · exact .inr (.inr (.inl rfl))
          · exact .inl rfl
          · exact .inr (.inl rfl)
          · exact .inr (.inr (.inr hp))
        · simp only [List.mem_cons, List.cons_append] at hp
          rcases hp with rfl | rfl | hp
          · exact hoff (fa, W.listOf fvs.toArray e) (.head _)
          · exact Nat.ne_of_gt l5.1
          · exact hoff _ (.tail _ hp)
        · intro p hp
          rcases List.mem_cons.mp hp with rfl | hp
          · exact l5.2.1
          · exact htl p hp
        · exact (hP.mono fun p hp => .tail _ hp).snoc (.mk (.head _))
        · rw [htake]
          exact hI.before gs (by assumption)
      · rename_i D5 h5 F5 N5 l5
        rename (put = true) => hput
        subst hput
        refine append_my ((D5, tupO [.int s' ts, .int s2 to] 0) :: (I, oI) :: (tl ++ news)) F5 N5 (by k_mem) (fun p hp => ?_) (fun p hp => ?_) (by omega) ?_
        · simp only [List.mem_cons] at hp ⊢
          rcases hp with rfl | rfl | hp
          · exact .inl rfl
          · exact .inr (.inl rfl)
          · exact .inr (.inr (.inr hp))
        · simp only [List.mem_cons] at hp
          rcases hp with rfl | rfl | hp
          · exact Nat.ne_of_gt l5.2.1
          · exact fun e => hoff _ (.head _) e.symm
          · rcases List.mem_append.mp hp with hp | hp
            · exact Nat.ne_of_gt (htl p hp)
            · exact Nat.ne_of_lt (hfa p hp)
        intro h6 F6 N6
        k_steps
        rename Fr _ _ _ _ => F7
        rename News _ _ _ _ => N7
        refine ⟨_, _, _, (fa, W.listOf (fvs ++ [Value.ref D5]).toArray (e + 1)) :: (((D5, tupO [.int s' ts, .int s2 to] 0) :: tl) ++ news), rfl, F7, newsSub N7 (fun p hp => ?_), .tail _ (List.mem_append.mpr (.inr hm)), fun p hp => ?_, fa, _, _, (D5, tupO [.int s' ts, .int s2 to] 0) :: tl, fnd ++ [(s', s2)], lo, hi, tlo, thi, true, rfl, ?_, hfa, ?_, List.forall_mem_cons.mpr ⟨by rfl, List.forall_mem_cons.mpr ⟨by rfl, List.forall_mem_cons.mpr ⟨by rfl, List.forall_mem_cons.mpr ⟨by rfl, List.forall_mem_nil _⟩⟩⟩⟩, ?_⟩
        · simp only [List.mem_cons, List.cons_append] at hp ⊢
          rcases hp with rfl | rfl | rfl | hp
          · exact .inr (.inr (.inl rfl))
          · exact .inl rfl
          · exact .inr (.inl rfl)
          · exact .inr (.inr (.inr hp))
        · simp only [List.mem_cons, List.cons_append] at hp
          rcases hp with rfl | rfl | hp
          · exact hoff (fa, W.listOf fvs.toArray e) (.head _)
          · exact Nat.ne_of_gt l5.1
          · exact hoff _ (.tail _ hp)
        · intro p hp
          rcases List.mem_cons.mp hp with rfl | hp
          · exact l5.2.1
          · exact htl p hp
        · exact (hP.mono fun p hp => .tail _ hp).snoc (.mk (.head _))
        · rw [htake]
          exact (hI.after gs).2
      · rename_i D5 h5 F5 N5 l5
        rename (put = false) => hput
        subst hput
        refine append_my ((D5, tupO [.int lo tlo, .int hi thi] 0) :: (I, oI) :: (tl ++ news)) F5 N5 (by k_mem) (fun p hp => ?_) (fun p hp => ?_) (by omega) ?_
        · simp only [List.mem_cons] at hp ⊢
          rcases hp with rfl | rfl | hp
          · exact .inl rfl
          · exact .inr (.inl rfl)
          · exact .inr (.inr (.inr hp))
        · simp only [List.mem_cons] at hp
          rcases hp with rfl | rfl | hp
          · exact Nat.ne_of_gt l5.2.1
          · exact fun e => hoff _ (.head _) e.symm
          · rcases List.mem_append.mp hp with hp | hp
            · exact Nat.ne_of_gt (htl p hp)
            · exact Nat.ne_of_lt (hfa p hp)
        intro h6 F6 N6
        k_steps
        rename_i D6 h7 F7 N7 l6
        refine append_my ((D6, tupO [.int s' ts, .int s2 to] 0) :: (D5, tupO [.int lo tlo, .int hi thi] 0) :: (I, oI) :: (tl ++ news)) F7 N7 (.tail _ (.head _)) (fun p hp => ?_) (fun p hp => ?_) (by simp; omega) ?_
        · simp only [List.mem_cons] at hp ⊢
          rcases hp with rfl | rfl | rfl | hp
          · exact .inl rfl
          · exact .inr (.inr (.inl rfl))
          · exact .inr (.inr (.inr (.inl rfl)))
          · exact .inr (.inr (.inr (.inr hp)))
        · simp only [List.mem_cons] at hp
          rcases hp with rfl | rfl | rfl | hp
          · exact Nat.ne_of_gt l6.1
          · exact Nat.ne_of_gt l5.2.1
          · exact fun e => hoff _ (.head _) e.symm
          · rcases List.mem_append.mp hp with hp | hp
            · exact Nat.ne_of_gt (htl p hp)
            · exact Nat.ne_of_lt (hfa p hp)
        intro h8 F8 N8
        k_steps
        rename Fr _ _ _ _ => F9
        rename News _ _ _ _ => N9
        refine ⟨_, _, _, (fa, W.listOf (fvs ++ [Value.ref D5] ++ [Value.ref D6]).toArray (e + 1 + 1)) :: (((D6, tupO [.int s' ts, .int s2 to] 0) :: (D5, tupO [.int lo tlo, .int hi thi] 0) :: tl) ++ news), rfl, F9, newsSub N9 (fun p hp => ?_), .tail _ (List.mem_append.mpr (.inr hm)), fun p hp => ?_, fa, _, _, (D6, tupO [.int s' ts, .int s2 to] 0) :: (D5, tupO [.int lo tlo, .int hi thi] 0) :: tl, fnd ++ [(lo, hi)] ++ [(s', s2)], lo, hi, tlo, thi, true, rfl, ?_, hfa, ?_, List.forall_mem_cons.mpr ⟨by rfl, List.forall_mem_cons.mpr ⟨by rfl, List.forall_mem_cons.mpr ⟨by rfl, List.forall_mem_cons.mpr ⟨by rfl, List.forall_mem_nil _⟩⟩⟩⟩, ?_⟩
        · simp only [List.mem_cons, List.cons_append] at hp ⊢
          rcases hp with rfl | rfl | rfl | rfl | hp
          · exact .inr (.inr (.inr (.inl rfl)))
          · exact .inl rfl
          · exact .inr (.inl rfl)
          · exact .inr (.inr (.inl rfl))
          · exact .inr (.inr (.inr (.inr hp)))
        · simp only [List.mem_cons, List.cons_append] at hp
          rcases hp with rfl | rfl | rfl | hp
          · exact hoff (fa, W.listOf fvs.toArray e) (.head _)
          · exact Nat.ne_of_gt l6.2.2.1
          · exact Nat.ne_of_gt l5.1
          · exact hoff _ (.tail _ hp)
        · intro p hp
          rcases List.mem_cons.mp hp with rfl | hp
          · exact l6.1
          · rcases List.mem_cons.mp hp with rfl | hp
            · exact l5.2.1
            · exact htl p hp
        · exact ((hP.mono fun p hp => .tail _ (.tail _ hp)).snoc (.mk (.tail _ (.head _)))).snoc (.mk (.head _))
        · rw [htake]
          exact hI.put1 gs (by assumption)
      · have hput : put = false := by
          cases hput : put with
          | false => rfl
          | true =>
            rw [hput] at hI
            have h9 := (hI.after gs).1
            dsimp only at h9
            omega
        subst hput
        rename Fr _ _ _ _ => F7
        rename News _ _ _ _ => N7
        refine ⟨_, _, _, (fa, W.listOf fvs.toArray e) :: (tl ++ news), rfl, F7, newsSub N7 (fun p hp => .tail _ hp), hl₁, hoff, fa, fvs, e, tl, fnd, _, _, _, _, false, rfl, htl, hfa, hP, List.forall_mem_cons.mpr ⟨by rfl, List.forall_mem_cons.mpr ⟨by rfl, List.forall_mem_cons.mpr ⟨by rfl, List.forall_mem_cons.mpr ⟨by rfl, List.forall_mem_nil _⟩⟩⟩⟩, ?_⟩
        rw [htake]
        have e8 : (if s' < lo then s' else lo) = min lo s' := by split <;> omega
        have e9 : (if s2 > hi then s2 else hi) = max hi s2 := by split <;> omega
        rw [e8, e9]
        exact hI.join gs (by assumption) (by assumption)
    · clear N1 F1
      rintro I m₁ nx h tk ⟨fa, fvs, e, tl, fnd, lo, hi, tlo, thi, put, rfl, htl, hfa, hP, hm₁, hI⟩ F₁ N₁
      have F₂ := frOvr _ F₁ hm₁
      clear F₁
      simp only [ovr] at F₂
      rw [hvl, List.take_length, List.drop_length] at hI
      (try dsimp only)
      obtain ⟨gd1, gd2⟩ := hI.done
      k_steps
      · rename (put = true) => hput
        subst hput
        refine hret _ ((fa, W.listOf fvs.toArray e) :: (tl ++ news)) _ _ (by assumption) (by assumption) ⟨⟨(fa, _) :: tl, rfl, fun p hp q hq => ?_⟩, fa, fvs, e, fnd, rfl, .head _, hP.mono fun p hp => .tail _ (List.mem_append.mpr (.inl hp)), gd1, gd2⟩
        rcases List.mem_cons.mp hp with rfl | hp
        · exact hfa q hq
        · exact Nat.lt_trans (hfa q hq) (htl p hp)
      · rename_i D5 h5 lt5 L6 h6 F6 N6 lt6
        have hfz : fvs.length ≤ 18 := by
          have e1 := hP.length
          have e2 := hI.len
          have e3 : put.toNat ≤ 1 := Bool.toNat_le put
          omega
        rename (put = false) => hput
        subst hput
        refine listadd_my (ws := [Value.ref D5]) (n := e) (k := 0) F6 N6 (.tail _ (.tail _ (.head _))) (.head _) (by simp; omega) ?_
        intro A7 c7 h7 F7 N7 lt7
        dsimp only
        k_steps
        refine hret _ ((A7, W.listOf (fvs ++ [Value.ref D5]).toArray c7) :: (D5, tupO [.int lo tlo, .int hi thi] 0) :: (tl ++ news)) _ _ (by assumption) ?_ ⟨⟨(A7, _) :: (D5, _) :: tl, rfl, fun p hp q hq => ?_⟩, A7, _, c7, _, rfl, .head _, ?_, gd1, gd2⟩
        · rename News h₀ _ _ _ => N9
          refine newsSub N9 fun p hp => ?_
          simp only [List.mem_cons] at hp ⊢
          rcases hp with rfl | rfl | hp
          · exact .inl rfl
          · exact .inr (.inr (.inl rfl))
          · exact .inr (.inr (.inr (.inr hp)))
        · simp only [List.mem_cons] at hp
          rcases hp with rfl | rfl | hp
          · exact lt7 q (.tail _ (.tail _ (.tail _ (List.mem_append.mpr (.inr hq)))))
          · exact ktn_ltOf lt5.2 q (List.mem_append.mpr (.inr hq))
          · exact Nat.lt_trans (hfa q hq) (htl p hp)
        · exact (hP.mono fun p hp => .tail _ (.tail _ (List.mem_append.mpr (.inl hp)))).snoc (.mk (.tail _ (.head _)))

end Mine

namespace Mine
open PySem PySem.W PySem.Spec PySem.Calls PyProof.Rows
theorem does_use {w : World} {f : Addr} {dD dU : Nat} {vs : List Value} {news : List (Addr × Obj)} {Post : Value → List (Addr × Obj) → Prop} (C : Does w f dD dU vs news Post)
    {mean : ExcName → Option Value} {mg mb : Str → Option Value} {dp un : Nat} {gd : Option (List Code)} {cn : Str} {cs : Scope} {a : Addr} {ccd : Value} {cl : List (Str × Addr)} {outer : List Env} {A₀ : Around} {base h₀ : Heap} {L : Addr} {m : Str → Option Value} {s : Shared} {Q E : Value → Shared → Prop}
    (B : Below A₀ base outer h₀) (F : Fr h₀ L s.heap m) (X : (hd.heap_39 w.params).In h₀) (N : News h₀ L s.heap news) (T : Top hd.view_39 (looseW hd.view_39 []) mean mg mb h₀) (hk : cs.kind = .function) (hd : dp + dD < recursionLimit) (hu : un + dU < cLine)
    (ret : ∀ r news' h' tk', Fr h₀ L h' m → News h₀ L h' news' → Post r news' → Q r { s with heap := h', toks := tk' }) :
    wpAny (model PySem.Challenge.rw_sa0561_01.row.prog w) (ktrTop dp un gd cn cs L a ccd cl outer) (call (.ref f) vs) Q E s := C _ _ _ _ _ _ _ _ _ _ _ _ _ _ _ _ _ _ _ _ B F X N T hk hd hu ret

section
variable {prog : Program} {w : World} {A : Around} {E : Value → Shared → Prop} {s : Shared} {env : Env} {h₀ : Heap} {target : PySem.Expr} {body : List Stmt} {Q : Flow → Shared → Prop}
theorem turns_iter2 {l : Addr} {vs : List Value} {nn : Nat} {m₀ : Str → Option Value} {news : List (Addr × Obj)} (J : Addr → Nat → (Str → Option Value) → List (Addr × Obj) → Prop)
    (hh : A.handled = none) (hl : (l, listOf vs.toArray nn) ∈ news) (F : Fr h₀ env.locals s.heap m₀) (N : News h₀ env.locals s.heap news) (hj : ∀ I, (∀ p ∈ news, p.1 < I) → J I 0 m₀ news)
    (turn : ∀ I i v m₁ nx h tk oI, vs[i]? = some v → J I i m₁ nx → (l, listOf vs.toArray nn) ∈ nx → (∀ p ∈ nx, p.1 ≠ I) → Fr h₀ env.locals h m₁ → News h₀ env.locals h ((I, oI) :: nx) → oI.cls = .type "list_iterator" →
      wpAny (model prog w) A (assign target env v) (fun _ s₃ => wpAny (model prog w) A (execs body env) (PostT h₀ env.locals I oI (l, listOf vs.toArray nn) (J I (i + 1)) { s with heap := h, toks := tk } Q) E s₃) E { s with heap := h, toks := tk })
    (done : ∀ I m₁ nx h tk, J I vs.length m₁ nx → Fr h₀ env.locals h m₁ → News h₀ env.locals h nx → Q .next { s with heap := h, toks := tk }) :
    wpAny (model prog w) A (pyIter (.ref l)) (fun it s₂ => TurnsAt prog w A h₀ env target body Q E it s₂) E s := by
  have hol : s.heap.get? l = some (listOf vs.toArray nn) := (N _ hl).1
  have hls : s.heap.IsList l vs.toArray := ⟨_, hol, rfl, nn, rfl⟩
  have hne : l ≠ s.heap.objs.size := Nat.ne_of_lt (Heap.lt_size hol)
  refine wpAny_pyIter_list hls ?_
  have W := KTurns.ofWalks (target := target) (Walks.list (prog := prog) (w := w) hh s.heap.objs.size l hne vs.toArray) fun i v s Q E st q => letGo_listiter st.1 q
  have hlen : vs.toArray.size = vs.length := by simp
  rw [hlen] at W
  refine ⟨_, _, _, vs.length, _, _, _, m₀, news, (fun i m nx => (l, listOf vs.toArray nn) ∈ nx ∧ J s.heap.objs.size i m nx), rfl, W, ?_, ?_, ?_, ⟨⟨_, Heap.get?_push_size _ rfl, rfl, rfl⟩, hls.at fun o e => Heap.get?_push_of_some _ e⟩, F.push _, (fun p hp => ⟨Heap.get?_push_of_some _ (N p hp).1, (N p hp).2⟩), ⟨hl, hj _ fun p hp => Heap.lt_size (N p hp).1⟩, ?_, ?_⟩
  · intro hm
    rcases List.mem_cons.mp hm with e | hm
    · exact absurd F.ns.lt (e ▸ Nat.lt_irrefl _)
    · exact (N _ hl).2.1 ((List.mem_singleton.mp hm).symm)
  · intro b hb
    rw [List.mem_singleton.mp hb]
    exact next_is_new F
  · intro p hp hI
    exact absurd (Heap.lt_size (N p hp).1) ((List.mem_singleton.mp hI) ▸ Nat.lt_irrefl _)
  · rintro i v m₁ news₁ hh' tk' own hin hP ⟨hl₁, hJ⟩ hoff hown hget hfp hst F₁ N₁
    have hP' : vs[i]? = some v := by simpa using hP
    have hI0 : h₀.get? s.heap.objs.size = none := next_is_new F
    obtain ⟨⟨oI, hoI, hcI, _⟩, _⟩ := id hst
    have hIown : (s.heap.objs.size, oI) ∈ own := hfp _ (List.mem_cons.mpr (.inl rfl)) hI0 _ hoI
    have hoff' : ∀ p ∈ news₁, p.1 ≠ s.heap.objs.size := fun p hp e => hoff p hp (List.mem_singleton.mpr e)
    have N₂ : News h₀ env.locals hh' ((s.heap.objs.size, oI) :: news₁) := fun p hp => by
      rcases List.mem_cons.mp hp with rfl | hp
      · exact N₁ _ (List.mem_append.mpr (.inl hIown))
      · exact N₁ p (List.mem_append.mpr (.inr hp))
    have hlo : hh'.get? l = some (listOf vs.toArray nn) := (N₁ _ (List.mem_append.mpr (.inr hl₁))).1
    refine wpAny_mono (turn s.heap.objs.size i v m₁ news₁ hh' tk' oI hP' hJ hl₁ hoff' F₁ N₂ hcI) (fun _ s₂ p => wpAny_mono p (fun f s₃ p => ?_) fun _ _ e => e) fun _ _ e => e
    have fin : EndT h₀ env.locals s.heap.objs.size oI (l, listOf vs.toArray nn) (J s.heap.objs.size (i + 1)) { s with heap := hh', toks := tk' } s₃ →
        LoopStepU h₀ env.locals [s.heap.objs.size] own (fun m nx => (l, listOf vs.toArray nn) ∈ nx ∧ J s.heap.objs.size (i + 1) m nx) { s with heap := hh', toks := tk' } .next s₃ := by
      rintro ⟨h', tk, m', nx, e, F', N', hm1, ho, hm2⟩
      refine ⟨rfl, h', tk, m', nx, e, F', fun p hp => ?_, fun p hp hq => ho p hp (List.mem_singleton.mp hq), hm1, hm2⟩
      rcases List.mem_append.mp hp with h | h
      · by_cases hI : p.1 = s.heap.objs.size
        · have h2 : hh'.get? p.1 = some p.2 := hget p h
          have h4 : p = (s.heap.objs.size, oI) := by
            rw [hI] at h2
            have h5 := h2.symm.trans hoI
            exact Prod.ext hI (Option.some.inj h5)
          rw [h4]
          exact N' _ (.head _)
        · have h1 : p.1 = l := by
            rcases List.mem_cons.mp (hown p h) with h2 | h2
            · exact absurd h2 hI
            · exact List.mem_singleton.mp h2
          have h2 : hh'.get? p.1 = some p.2 := hget p h
          rw [h1, hlo] at h2
          have h3 : p = (l, listOf vs.toArray nn) := Prod.ext h1 (Option.some.inj h2).symm
          rw [h3]
          exact N' _ (.tail _ hm1)
      · exact N' p (.tail _ h)
    cases f with
    | ret v => exact .ret p
    | brk => exact .brk p
    | next => exact .next (fin p)
    | cont => exact .cont (fin p)
  · rintro h' tk m' news' F' N' _ ⟨_, hJ⟩
    exact done _ m' news' h' tk hJ F' N'
end

theorem strip_mem {p q : Addr × Obj} {tl nx : List (Addr × Obj)} (h : p ∈ tl ++ q :: nx) (hc : p.2.cls ≠ q.2.cls) : p ∈ tl ++ nx := by
  rcases List.mem_append.mp h with h | h
  · exact List.mem_append.mpr (.inl h)
  · rcases List.mem_cons.mp h with rfl | h
    · exact absurd rfl hc
    · exact List.mem_append.mpr (.inr h)
theorem PcAll.strip {q : Addr × Obj} {tl nx : List (Addr × Obj)} {vs : List Value} {ps : List Pc} (h : PcAll (tl ++ q :: nx) vs ps) (hc : q.2.cls = .type "list_iterator") : PcAll (tl ++ nx) vs ps := by
  induction h with
  | nil => exact .nil
  | cons h1 _ ih =>
    refine .cons ?_ ih
    cases h1 with
    | mk hm hb => exact .mk (strip_mem hm (by rw [hc]; show Value.type "tuple" ≠ Value.type "list_iterator"; decide)) hb

local macro_rules | `(tactic| walk_at "exec For Tuple Name cons nil") => `(tactic| (k_here; (rename Fr _ _ _ _ => lF'); (with_unfolding_all refine' For_turns lF' ?_); k_whole))
local macro_rules | `(tactic| walk_at "PostT") => `(tactic| (dsimp only [PostT]))

def JB (news : List (Addr × Obj)) (one other : List Pc) (_I : Addr) (i : Nat) (m : Str → Option Value) (nx : List (Addr × Obj)) : Prop :=
  ∃ fa fvs e tl cur, nx = tl ++ news ∧ (∀ p ∈ tl, ∀ q ∈ news, q.1 < p.1) ∧ (fa, listOf fvs.toArray e) ∈ nx ∧ PcAll nx fvs cur ∧ Good cur ∧ (∀ k, octs cur k = (octs one k).or (octs (other.take i) k)) ∧
    (∀ p ∈ [(Str.ofString "found", Value.ref fa)], m p.1 = some p.2)

set_option maxHeartbeats 8000000 in
theorem behind_does (w : World) (news : List (Addr × Obj)) (la lb : Addr) (vs ws : List Value) (n k : Nat) (one other : List Pc)
   (hm : (la, W.listOf vs.toArray n) ∈ news) (hD : PcAll news vs one) (g : Good one) (hm2 : (lb, W.listOf ws.toArray k) ∈ news) (hD2 : PcAll news ws other) (g2 : Good other) :
   Does w 75 4 60 [.ref la, .ref lb] news (fun r news' => Grew news news' ∧ ∃ D vs' c ps', r = .ref D ∧ (D, W.listOf vs'.toArray c) ∈ news' ∧ PcAll news' vs' ps' ∧ Good ps' ∧ ∀ i, octs ps' i = (octs one i).or (octs other i)) := by
  have hvl := hD2.length
  unfold Does
  k_fill
  intro mean mg mb dp un gd cn cs a ccd cl outer A₀ base h₀ L m s Q E B F X N T hk hdp hun hret
  refine wpAny_call ?_
  k_dflt ktr_enter
  k_steps
  rename Fr _ _ _ _ => F1
  rename News _ _ _ _ => N1
  refine turns_iter2 (JB news one other) rfl (nn := k) (vs := ws) hm2 F1 N1 ?_ ?_ ?_
  · intro I hI
    exact ⟨la, vs, n, [], one, rfl, fun _ h => (nomatch h), hm, hD, g, fun i => by simp [octs], List.forall_mem_cons.mpr ⟨by rfl, List.forall_mem_nil _⟩⟩
  · clear N1 F1
    rintro I i v m₁ nx h tk oI hvi ⟨fa, fvs, e, tl, cur, rfl, htl, hfm, hP, gc, hoc, hm₁⟩ hl₁ hoff F₁ N₁ hcI
    have F₂ := frOvr _ F₁ hm₁
    clear F₁
    simp only [ovr] at F₂
    obtain ⟨p, hp, hpi⟩ := hD2.get hvi
    cases hpi with
    | @mk ta s' ts ob to tn ol htm hol =>
    have hpm : (s', ol) ∈ other := List.mem_of_getElem? hp
    have hlo := g2.lo _ hpm
    have hhi := g2.hi _ hpm
    dsimp only at hlo hhi
    have htake : other.take (i + 1) = other.take i ++ [(s', ol)] := by rw [List.take_add_one, hp]; rfl
    refine' unpackN_ (items := #[.int s' ts, .bytes ob to]) ?F ?N ?T ?k1 ?k2 ?k3 ?_
    case F => k_asm
    case N => k_asm
    case T => exact (⟨_, (N₁ _ (.tail _ (List.mem_append.mpr (.inr htm)))).1, rfl, tn, rfl⟩)
    case k1 => exact rfl
    case k2 => exact rfl
    case k3 => exact rfl
    intro h' F' N'
    (try dsimp only)
    k_steps
    have hz := gc.len
    rename Fr _ _ _ _ => F5
    rename News _ _ _ _ => N5
    refine does_use (add_piece_does w ((I, oI) :: (tl ++ news)) fa fvs e cur s' ob ts to ol (.tail _ hfm) (hP.mono fun p hp => .tail _ hp) hol gc hlo hhi hz) (by assumption) F5 (by assumption) N5 (by assumption) rfl (by show dp + 1 + 2 < recursionLimit; omega) (by show un + 3 + 40 < cLine; omega) ?_
    rintro r news' h9 tk9 F9 N9 ⟨⟨tl', rfl, hlt'⟩, D, vs', c, ps', rfl, hDm, hP9, g9, ho9⟩
    (try dsimp only)
    k_steps
    rename Fr _ _ _ _ => F7
    rename News _ _ _ _ => N7
    have hsub : ∀ p ∈ tl' ++ tl ++ news, p ∈ tl' ++ (I, oI) :: (tl ++ news) := fun p hp => by
      simp only [List.mem_append, List.mem_cons] at hp ⊢
      rcases hp with (hp | hp) | hp
      · exact .inl hp
      · exact .inr (.inr (.inl hp))
      · exact .inr (.inr (.inr hp))
    refine ⟨_, _, _, tl' ++ tl ++ news, rfl, F7, newsSub N7 (fun p hp => ?_), ?_, fun p hp => ?_, D, vs', c, tl' ++ tl, ps', rfl, fun p hp q hq => ?_, ?_, ?_, g9, fun j => ?_, List.forall_mem_cons.mpr ⟨by rfl, List.forall_mem_nil _⟩⟩
    · rcases List.mem_cons.mp hp with rfl | hp
      · exact List.mem_append.mpr (.inr (.head _))
      · exact hsub p hp
    · exact List.mem_append.mpr (.inr hm2)
    · rw [List.append_assoc] at hp
      rcases List.mem_append.mp hp with hp | hp
      · exact Nat.ne_of_gt (hlt' p hp _ (.head _))
      · exact hoff p hp
    · rcases List.mem_append.mp hp with hp | hp
      · exact hlt' p hp q (.tail _ (List.mem_append.mpr (.inr hq)))
      · exact htl p hp q hq
    · rw [List.append_assoc]
      exact strip_mem hDm (by rw [hcI]; show Value.type "list" ≠ Value.type "list_iterator"; decide)
    · rw [List.append_assoc]
      exact hP9.strip hcI
    · rw [ho9 j, hoc j, htake, octs_append, octs_one, Option.or_assoc]
  · clear N1 F1
    rintro I m₁ nx h tk ⟨fa, fvs, e, tl, cur, rfl, htl, hfm, hP, gc, hoc, hm₁⟩ F₁ N₁
    have F₂ := frOvr _ F₁ hm₁
    clear F₁
    simp only [ovr] at F₂
    rw [hvl, List.take_length] at hoc
    (try dsimp only)
    k_steps
    exact hret _ (tl ++ news) _ _ (by assumption) (by assumption) ⟨⟨tl, rfl, htl⟩, fa, fvs, e, cur, rfl, hfm, hP, gc, hoc⟩

end Mine

namespace Mine
open PySem PySem.W PySem.Spec PySem.Calls PyProof.Rows
local macro_rules | `(tactic| walk_at "exec For Tuple Name cons nil") => `(tactic| (k_here; (rename Fr _ _ _ _ => lF'); (with_unfolding_all refine' For_turns lF' ?_); k_whole))
local macro_rules | `(tactic| walk_at "PostT") => `(tactic| (dsimp only [PostT]))

def JC (news : List (Addr × Obj)) (some' : List Pc) (place : Int) (tp : Tok) (_I : Addr) (i : Nat) (m : Str → Option Value) (nx : List (Addr × Obj)) : Prop :=
  ∃ fl flv el fh fhv eh tl lw hg, nx = tl ++ news ∧ (∀ p ∈ tl, ∀ q ∈ news, q.1 < p.1) ∧ (fl, listOf flv.toArray el) ∈ nx ∧ PcAll nx flv lw ∧ Good lw ∧ (fh, listOf fhv.toArray eh) ∈ nx ∧ PcAll nx fhv hg ∧ Good hg ∧
    (∀ k, octs lw k = if k < place then octs (some'.take i) k else none) ∧ (∀ k, octs hg k = if k < place then none else octs (some'.take i) k) ∧
    (∀ p ∈ [(Str.ofString "low", Value.ref fl), (Str.ofString "high", Value.ref fh), (Str.ofString "place", Value.int place tp)], m p.1 = some p.2)

theorem good_nil : Good [] := ⟨.nil, fun _ h => (nomatch h), fun _ h => (nomatch h), fun _ h => (nomatch h)⟩
theorem cut_low {o : Int} {dl : List Int} {place : Int} (k : Int) : at1 (o, dl.take (max 0 (min (dl.length : Int) (place - o))).toNat) k = if k < place then at1 (o, dl) k else none := by
  by_cases h1 : o ≤ k
  · unfold at1
    rw [if_pos h1, if_pos h1, List.getElem?_take]
    dsimp only
    by_cases h2 : k < place
    · rw [if_pos h2]
      by_cases h3 : (k - o).toNat < dl.length
      · rw [if_pos (by omega)]
      · rw [List.getElem?_eq_none (by omega)]; simp
    · rw [if_neg h2, if_neg (by omega)]
  · have e : ∀ l, at1 (o, l) k = none := fun l => by unfold at1; rw [if_neg h1]
    rw [e, e]; simp
theorem cut_high {o : Int} {dl : List Int} {place : Int} (k : Int) : at1 (o + max 0 (min (dl.length : Int) (place - o)), dl.drop (max 0 (min (dl.length : Int) (place - o))).toNat) k = if k < place then none else at1 (o, dl) k := by
  by_cases h1 : o + max 0 (min (dl.length : Int) (place - o)) ≤ k
  · have h4 : o ≤ k := by omega
    unfold at1
    rw [if_pos h1, if_pos h4, List.getElem?_drop]
    dsimp only
    have e : (max 0 (min (dl.length : Int) (place - o))).toNat + (k - (o + max 0 (min (dl.length : Int) (place - o)))).toNat = (k - o).toNat := by omega
    rw [e]
    by_cases h2 : k < place
    · rw [if_pos h2, List.getElem?_eq_none (by omega)]
    · rw [if_neg h2]
  · have e : at1 (o + max 0 (min (dl.length : Int) (place - o)), dl.drop (max 0 (min (dl.length : Int) (place - o))).toNat) k = none := by unfold at1; rw [if_neg h1]
    rw [e]
    by_cases h2 : k < place
    · rw [if_pos h2]
    · rw [if_neg h2]
      exact (at1_none (by dsimp only; omega)).symm

set_option maxHeartbeats 8000000 in
theorem cut_does (w : World) (news : List (Addr × Obj)) (la : Addr) (vs : List Value) (n : Nat) (one : List Pc) (place : Int) (tp : Tok)
   (hm : (la, W.listOf vs.toArray n) ∈ news) (hD : PcAll news vs one) (g : Good one) (hp0 : 0 ≤ place) :
   Does w 87 4 60 [.ref la, .int place tp] news (fun r news' => Grew news news' ∧ ∃ T n' fl flv el fh fhv eh lw hg, r = .ref T ∧ (T, tupO [.ref fl, .ref fh] n') ∈ news' ∧ (fl, W.listOf flv.toArray el) ∈ news' ∧ PcAll news' flv lw ∧ Good lw ∧ (fh, W.listOf fhv.toArray eh) ∈ news' ∧ PcAll news' fhv hg ∧ Good hg ∧
     (∀ k, octs lw k = if k < place then octs one k else none) ∧ (∀ k, octs hg k = if k < place then none else octs one k)) := by
  have hvl := hD.length
  unfold Does
  k_fill
  intro mean mg mb dp un gd cn cs a ccd cl outer A₀ base h₀ L m s Q E B F X N T hk hdp hun hret
  refine wpAny_call ?_
  k_dflt ktr_enter
  k_steps
  rename_i lC hC ltC lD hD' ltD T9 h9 ltT h10 h11 h12 F1 N1
  refine turns_iter2 (JC news one place tp) rfl (nn := n) (vs := vs) (.tail _ (.tail _ hm)) F1 (newsSub N1 fun p hp => .tail _ hp) ?_ ?_ ?_
  · intro I hI
    refine ⟨_, [], 0, _, [], 0, [(_, _), (_, _)], [], [], rfl, ?_, .tail _ (.head _), .nil, good_nil, .head _, .nil, good_nil, fun k => by simp [octs], fun k => by simp [octs],
      List.forall_mem_cons.mpr ⟨by rfl, List.forall_mem_cons.mpr ⟨by rfl, List.forall_mem_cons.mpr ⟨by rfl, List.forall_mem_nil _⟩⟩⟩⟩
    intro p hp q hq
    simp only [List.mem_cons, List.not_mem_nil, or_false] at hp
    rcases hp with rfl | rfl
    · exact ktn_ltOf ltD.2 q hq
    · exact ltC q hq
  · clear N1 F1
    rintro I i v m₁ nx h tk oI hvi ⟨fl, flv, el, fh, fhv, eh, tl, lw, hg, rfl, htl, hfl, hPl, gl, hfh, hPh, gh, hol', hoh', hm₁⟩ hl₁ hoff F₁ N₁ hcI
    have F₂ := frOvr _ F₁ hm₁
    clear F₁
    simp only [ovr] at F₂
    obtain ⟨p, hp, hpi⟩ := hD.get hvi
    cases hpi with
    | @mk ta s' ts ob to tn ol htm hol =>
    have hpm : (s', ol) ∈ one := List.mem_of_getElem? hp
    have hlo := g.lo _ hpm
    have hhi := g.hi _ hpm
    dsimp only at hlo hhi
    have hlen : i < one.length := (List.getElem?_eq_some_iff.mp hp).1
    have htake : one.take (i + 1) = one.take i ++ [(s', ol)] := by rw [List.take_add_one, hp]; rfl
    refine' unpackN_ (items := #[.int s' ts, .bytes ob to]) ?F ?N ?T ?k1 ?k2 ?k3 ?_
    case F => k_asm
    case N => k_asm
    case T => exact (⟨_, (N₁ _ (.tail _ (List.mem_append.mpr (.inr htm)))).1, rfl, tn, rfl⟩)
    case k1 => exact rfl
    case k2 => exact rfl
    case k3 => exact rfl
    intro h' F' N'
    (try dsimp only)
    k_steps
    have hzl := gl.len
    have hzh := gh.len
    have hM : (if (if place - s' < (ol.length : Int) then place - s' else (ol.length : Int)) > 0 then (if place - s' < (ol.length : Int) then place - s' else (ol.length : Int)) else 0) = max 0 (min (ol.length : Int) (place - s')) := by
      repeat' split
      all_goals omega
    rename Fr _ _ _ _ => F5
    rename News _ _ _ _ => N5
    rename (KBw.bInts _ = _) => kb1
    rw [hM] at F5 kb1 ⊢
    have hlowk := fun k => cut_low (o := s') (dl := ol) (place := place) k
    have hhighk := fun k => cut_high (o := s') (dl := ol) (place := place) k
    have hM0 : 0 ≤ max 0 (min (ol.length : Int) (place - s')) := by omega
    have hM1 : max 0 (min (ol.length : Int) (place - s')) ≤ ol.length := by omega
    rw [clipAt_in hM0 hM1] at kb1
    have up1 : ∀ p ∈ tl ++ news, p ∈ (I, oI) :: (tl ++ news) := fun p hp => .tail _ hp
    refine does_use (add_piece_does w ((I, oI) :: (tl ++ news)) fl flv el lw s' _ ts _ (ol.take (max 0 (min (ol.length : Int) (place - s'))).toNat) (up1 _ hfl) (hPl.mono up1) kb1 gl hlo (by simp only [List.length_take]; omega) hzl) (by assumption) F5 (by assumption) N5 (by assumption) rfl (by show dp + 1 + 2 < recursionLimit; omega) (by show un + 3 + 40 < cLine; omega) ?_
    rintro r news' h9 tk9 F9 N9 ⟨⟨tl1, rfl, hlt1⟩, D1, vs1, c1, ps1, rfl, hDm1, hP1, g1, ho1⟩
    (try dsimp only)
    k_steps
    rename Fr _ _ _ _ => F6
    rename News _ _ _ _ => N6
    rename (KBw.bInts _ = _) => kb2
    rw [clipAt_in hM0 hM1, List.take_of_length_le (by simp only [List.length_drop]; omega)] at kb2
    have up2 : ∀ p ∈ tl ++ news, p ∈ tl1 ++ (I, oI) :: (tl ++ news) := fun p hp => List.mem_append.mpr (.inr (.tail _ hp))
    refine does_use (add_piece_does w (tl1 ++ (I, oI) :: (tl ++ news)) fh fhv eh hg (s' + max 0 (min (ol.length : Int) (place - s'))) _ _ _ (ol.drop (max 0 (min (ol.length : Int) (place - s'))).toNat) (up2 _ hfh) (hPh.mono up2) kb2 gh (by omega) (by simp only [List.length_drop]; omega) hzh) (by assumption) F6 (by assumption) N6 (by assumption) rfl (by show dp + 1 + 2 < recursionLimit; omega) (by show un + 3 + 40 < cLine; omega) ?_
    rintro r news' h9 tk9 F9 N9 ⟨⟨tl2, rfl, hlt2⟩, D2, vs2, c2, ps2, rfl, hDm2, hP2, g2, ho2⟩
    (try dsimp only)
    k_steps
    rename Fr _ _ _ _ => F7
    rename News _ _ _ _ => N7
    rw [← List.append_assoc] at N7 hP2 hDm2
    have hsub : ∀ p ∈ tl2 ++ tl1 ++ tl ++ news, p ∈ tl2 ++ tl1 ++ (I, oI) :: (tl ++ news) := fun p hp => by
      simp only [List.mem_append, List.mem_cons] at hp ⊢
      rcases hp with ((hp | hp) | hp) | hp
      · exact .inl (.inl hp)
      · exact .inl (.inr hp)
      · exact .inr (.inr (.inl hp))
      · exact .inr (.inr (.inr hp))
    have lclass : Value.type "list" ≠ oI.cls := by rw [hcI]; decide
    refine ⟨_, _, _, tl2 ++ tl1 ++ tl ++ news, rfl, F7, newsSub N7 (fun p hp => ?_), ?_, fun p hp => ?_, D1, vs1, c1, D2, vs2, c2, tl2 ++ tl1 ++ tl, ps1, ps2, rfl, fun p hp q hq => ?_, ?_, ?_, g1, ?_, ?_, g2, fun j => ?_, fun j => ?_, List.forall_mem_cons.mpr ⟨by rfl, List.forall_mem_cons.mpr ⟨by rfl, List.forall_mem_cons.mpr ⟨by rfl, List.forall_mem_nil _⟩⟩⟩⟩
    · rcases List.mem_cons.mp hp with rfl | hp
      · exact List.mem_append.mpr (.inr (.head _))
      · exact hsub p hp
    · exact List.mem_append.mpr (.inr hm)
    · rw [List.append_assoc] at hp
      rcases List.mem_append.mp hp with hp | hp
      · rcases List.mem_append.mp hp with hp | hp
        · exact Nat.ne_of_gt (hlt2 p hp _ (List.mem_append.mpr (.inr (.head _))))
        · exact Nat.ne_of_gt (hlt1 p hp _ (.head _))
      · exact hoff p hp
    · rcases List.mem_append.mp hp with hp | hp
      · rcases List.mem_append.mp hp with hp | hp
        · exact hlt2 p hp q (up2 _ (List.mem_append.mpr (.inr hq)))
        · exact hlt1 p hp q (up1 _ (List.mem_append.mpr (.inr hq)))
      · exact htl p hp q hq
    · have h1 := strip_mem hDm1 lclass
      rw [List.append_assoc, List.append_assoc]
      exact List.mem_append.mpr (.inr h1)
    · have h1 := hP1.strip hcI
      refine h1.mono fun p hp => ?_
      rw [List.append_assoc, List.append_assoc]
      exact List.mem_append.mpr (.inr hp)
    · rw [List.append_assoc]
      exact strip_mem hDm2 lclass
    · rw [List.append_assoc]
      exact hP2.strip hcI
    · rw [ho1 j, hlowk j, hol' j, htake, octs_append, octs_one]
      by_cases hj : j < place <;> simp [hj]
    · rw [ho2 j, hhighk j, hoh' j, htake, octs_append, octs_one]
      by_cases hj : j < place <;> simp [hj]
  · clear N1 F1
    rintro I m₁ nx h tk ⟨fl, flv, el, fh, fhv, eh, tl, lw, hg, rfl, htl, hfl, hPl, gl, hfh, hPh, gh, hol', hoh', hm₁⟩ F₁ N₁
    have F₂ := frOvr _ F₁ hm₁
    clear F₁
    simp only [ovr] at F₂
    rw [hvl, List.take_length] at hol' hoh'
    (try dsimp only)
    k_steps
    rename_i D5 h5 F5 N5 l5 kF5 kN5 _ _
    have up : ∀ p ∈ tl ++ news, p ∈ (D5, tupO [.ref fl, .ref fh] 0) :: (tl ++ news) := fun p hp => .tail _ hp
    refine hret _ ((D5, tupO [.ref fl, .ref fh] 0) :: (tl ++ news)) _ _ (by assumption) (by assumption) ⟨⟨(D5, _) :: tl, rfl, fun p hp q hq => ?_⟩, D5, 0, fl, flv, el, fh, fhv, eh, lw, hg, rfl, .head _, up _ hfl, hPl.mono up, gl, up _ hfh, hPh.mono up, gh, hol', hoh'⟩
    rcases List.mem_cons.mp hp with rfl | hp
    · exact l5 q (List.mem_append.mpr (.inr hq))
    · exact htl p hp q hq

end Mine

namespace Mine
open PySem PySem.W PySem.Spec PySem.Calls PyProof.Rows
local macro_rules | `(tactic| k_mem) => `(tactic| first | assumption | exact List.Mem.tail _ (by assumption) | exact List.Mem.tail _ (List.Mem.tail _ (by assumption)))
local macro_rules | `(tactic| k_all) => `(tactic| assumption)
local macro_rules | `(tactic| walk_at "call builtin:len") => `(tactic| ((with_reducible show wpAny _ _ (call (Value.builtin "len") [Value.ref _]) _ _ _); refine len_my (by assumption) (by k_mem) (by assumption) (by omega) ?_))
set_option maxHeartbeats 1000000 in
theorem draw_does (w : World) (news : List (Addr × Obj)) (pa ca : Addr) (vs : List Value) (n n' : Nat) (ns : List Int) (k : Int) (t t' : Tok) (many : Int)
   (hm : (ca, W.listOf vs.toArray n) ∈ news) (hI : IntsAre vs ns) (hk0 : 0 ≤ k) (hk1 : k ≤ 100) (hmn : 0 < many) (hmn' : many < 100) (hz : ns.length ≤ 64) (hoff : ∀ p ∈ news, p.1 ≠ pa) :
   Does w 68 2 40 [.ref pa, .int many t] ((pa, W.listOf #[.ref ca, .int k t'] n') :: news) (fun r news' => ∃ d td tk e, r = .int d td ∧ 0 ≤ d ∧ d < many ∧ news' = (pa, W.listOf #[.ref ca, .int (k + 1) tk] e) :: news) := by
  have hvl := hI.length
  unfold Does
  k_fill
  intro mean mg mb dp un gd cn cs a ccd cl outer A₀ base h₀ L m s Q E B F X N T hk hdp hun hret
  refine wpAny_call ?_
  k_dflt ktr_enter
  k_steps
  · exact hret _ _ _ _ (by assumption) (by assumption) ⟨_, _, _, _, rfl, fmod_lo _ hmn, fmod_hi _ hmn, rfl⟩
  · exact hret _ _ _ _ (by assumption) (by assumption) ⟨_, _, _, _, rfl, fmod_lo _ hmn, fmod_hi _ hmn, rfl⟩

end Mine

namespace Mine
open PySem PySem.W PySem.Spec PySem.Calls PyProof.Rows PyProof.Rows.LCg PyProof.Rows.LCp
section
variable {prog : Program} {w : World} {A : Around} {E : Value → Shared → Prop} {s : Shared} {h₀ : Heap} {L : Addr} {m : Str → Option Value} {env : Env}
theorem compEnd_mono {h₀ : Heap} {L : Addr} {m : Str → Option Value} {s₁ : Shared} {I : Addr} {oI : Obj} {C : Addr} {oC : Obj} {D : Addr} {oD : Obj} {S : List (Addr × Obj) → Prop} {rest rest' : Value → List (Addr × Obj) → Prop} {y : Value} {s₂ : Shared}
    (h : CompEnd h₀ L m s₁ I oI C oC D oD S rest y s₂) (hr : ∀ news, rest y news → rest' y news) : CompEnd h₀ L m s₁ I oI C oC D oD S rest' y s₂ := by
  obtain ⟨h', tk, news', e, F, N, o, hS, r⟩ := h
  exact ⟨h', tk, news', e, F, N, o, hS, hr _ r⟩

theorem compRestP_ind {elt : PySem.Expr} {x x₂ : Str} {scope : Scope} {cl : List (Str × Addr)} {S : List (Addr × Obj) → Prop} {P : Nat → Value → Prop} {Fin : List Value → List (Addr × Obj) → Prop} {n : Nat} {news : List (Addr × Obj)}
    (Inv : Nat → List Value → List (Addr × Obj) → Prop) (h0 : Inv 0 [] news) (zero : ∀ ys nx, Inv n ys nx → Fin ys nx)
    (step : ∀ i ys nx, i < n → Inv i ys nx → ∀ v, P i v → ∃ (t : Addr) (ot : Obj) (v₁ v₂ : Value) (nt : Nat), v = .ref t ∧ (t, ot) ∈ nx ∧ ot.cls = .type "tuple" ∧ ot.data = .seq #[v₁, v₂] nt ∧
      ∀ I oI C oC D m₂ h tk (E' : Value → Shared → Prop), NsObj oC m₂ → m₂ x = some v₁ → m₂ x₂ = some v₂ → Fr h₀ L h m → News h₀ L h ((I, oI) :: (C, oC) :: (D, lst ys) :: nx) → Off3 I C D nx → ((@Ne Nat I C) ∧ (@Ne Nat I D) ∧ (@Ne Nat C D)) →
      wpAny (model prog w) A (eval elt (compEnvC scope cl C env)) (CompEnd h₀ L m { s with heap := h, toks := tk } I oI C oC D (lst ys) S (fun y nx' => Inv (i + 1) (ys ++ [y]) nx')) E' { s with heap := h, toks := tk }) :
    CompRestP prog w A h₀ L m env elt x x₂ scope cl s S P Fin n 0 [] news := by
  have key : ∀ k i ys nx, i + k = n → Inv i ys nx → CompRestP prog w A h₀ L m env elt x x₂ scope cl s S P Fin k i ys nx := by
    intro k
    induction k with
    | zero => intro i ys nx e hI; exact CompRestP.zero (zero ys nx ((show i = n by omega) ▸ hI))
    | succ k ih =>
      intro i ys nx e hI
      refine CompRestP.succ fun v hv => ?_
      obtain ⟨t, ot, v₁, v₂, nt, e1, e2, e3, e4, hs⟩ := step i ys nx (by omega) hI v hv
      refine ⟨t, ot, v₁, v₂, nt, e1, e2, e3, e4, fun I oI C oC D m₂ h tk E' a1 a2 a3 a4 a5 a6 a7 => ?_⟩
      exact wpAny_mono (hs I oI C oC D m₂ h tk E' a1 a2 a3 a4 a5 a6 a7) (fun y s₂ hy => compEnd_mono hy fun nx' hi => ih (i + 1) _ nx' (by omega) hi) fun _ _ e => e
  exact key n 0 [] news (by omega) h0

theorem compRest_ind {elt : PySem.Expr} {x : Str} {scope : Scope} {cl : List (Str × Addr)} {S : List (Addr × Obj) → Prop} {P : Nat → Value → Prop} {Fin : List Value → List (Addr × Obj) → Prop} {n : Nat} {news : List (Addr × Obj)}
    (Inv : Nat → List Value → List (Addr × Obj) → Prop) (h0 : Inv 0 [] news) (zero : ∀ ys nx, Inv n ys nx → Fin ys nx)
    (step : ∀ i ys nx, i < n → Inv i ys nx → ∀ v I oI C oC D m₂ h tk (E' : Value → Shared → Prop), P i v → NsObj oC m₂ → m₂ x = some v → Fr h₀ L h m → News h₀ L h ((I, oI) :: (C, oC) :: (D, lst ys) :: nx) → Off3 I C D nx → ((@Ne Nat I C) ∧ (@Ne Nat I D) ∧ (@Ne Nat C D)) →
      wpAny (model prog w) A (eval elt (compEnvC scope cl C env)) (CompEnd h₀ L m { s with heap := h, toks := tk } I oI C oC D (lst ys) S (fun y nx' => Inv (i + 1) (ys ++ [y]) nx')) E' { s with heap := h, toks := tk }) :
    CompRest prog w A h₀ L m env elt x scope cl s S P Fin n 0 [] news := by
  have key : ∀ k i ys nx, i + k = n → Inv i ys nx → CompRest prog w A h₀ L m env elt x scope cl s S P Fin k i ys nx := by
    intro k
    induction k with
    | zero => intro i ys nx e hI; exact CompRest.zero (zero ys nx ((show i = n by omega) ▸ hI))
    | succ k ih =>
      intro i ys nx e hI
      refine CompRest.succ fun v I oI C oC D m₂ h tk E' a0 a1 a2 a3 a4 a5 a6 => ?_
      exact wpAny_mono (step i ys nx (by omega) hI v I oI C oC D m₂ h tk E' a0 a1 a2 a3 a4 a5 a6) (fun y s₂ hy => compEnd_mono hy fun nx' hi => ih (i + 1) _ nx' (by omega) hi) fun _ _ e => e
  exact key n 0 [] news (by omega) h0

def Wait (p : Prop) : Prop := p
theorem wait_comp {elt : PySem.Expr} {gens : List Comprehension} {scope : Scope} {pos : Pos} {Q : Value → Shared → Prop} (h : Wait (wpAny (model prog w) A (eval (.ListComp elt gens scope pos) env) Q E s)) :
    wpAny (model prog w) A (eval (.ListComp elt gens scope pos) env) Q E s := h
end
local macro_rules | `(tactic| walk_at "eval ListComp") => `(tactic| (refine wait_comp ?_))

set_option maxHeartbeats 1000000 in
theorem covered_does (w : World) (news : List (Addr × Obj)) (la : Addr) (vs : List Value) (n : Nat) (ps : List Pc)
   (hm : (la, W.listOf vs.toArray n) ∈ news) (hD : PcAll news vs ps) (g : Good ps) :
   Does w 40 2 40 [.ref la] news (fun r news' => (∀ p ∈ news, p ∈ news') ∧ ∃ D vs' c, r = .ref D ∧ (D, W.listOf vs'.toArray c) ∈ news' ∧ SpAll news' vs' (ps.map fun p => (p.1, p.1 + (p.2.length : Int)))) := by
  have hvl := hD.length
  have hz := g.len
  unfold Does
  k_fill
  intro mean mg mb dp un gd cn cs a ccd cl outer A₀ base h₀ L m s Q E B F X N T hk hdp hun hret
  refine wpAny_call ?_
  k_dflt ktr_enter
  k_steps
  unfold Wait
  rename Fr _ _ _ _ => F1
  rename News _ _ _ _ => N1
  refine LCp.ListComp_P (F₀ := F1) (by with_unfolding_all rfl) (by decide) (by rfl) (by decide) (by rfl) (by rfl) (by decide) ?_
  refine ld F1 (by rfl) ?_
  refine LCp.SrcLP.ledger (by rfl) F1 N1 hm (by rw [sizeLine_eq]; simp; omega) ?_
  intro gh
  refine compRestP_ind (fun i ys nx => ∃ tl, nx = tl ++ news ∧ SpAll nx ys ((ps.take i).map fun p => (p.1, p.1 + (p.2.length : Int)))) ⟨[], rfl, .nil⟩ ?_ ?_
  · rintro ys nx ⟨tl, rfl, hS⟩ D h tk F2 N2 o1
    (try dsimp only)
    k_steps
    have e1 : ps.take vs.toArray.size = ps := by rw [List.size_toArray, hvl, List.take_length]
    rw [e1] at hS
    exact hret _ ((D, lst ys) :: (tl ++ news)) _ _ (by assumption) (by assumption) ⟨fun p hp => .tail _ (List.mem_append.mpr (.inr hp)), D, ys, _, rfl, .head _, hS.mono fun p hp => .tail _ hp⟩
  · rintro i ys nx hi ⟨tl, rfl, hS⟩ v hv
    have hv' : vs[i]? = some v := by simpa using hv
    obtain ⟨p, hp, hpi⟩ := hD.get hv'
    cases hpi with
    | @mk ta s' ts ob to tn ol htm hol =>
    have hpm : (s', ol) ∈ ps := List.mem_of_getElem? hp
    have hlo := g.lo _ hpm
    have hhi := g.hi _ hpm
    dsimp only at hlo hhi
    refine ⟨ta, _, .int s' ts, .bytes ob to, tn, rfl, List.mem_append.mpr (.inr htm), rfl, rfl, ?_⟩
    intro I oI C oC D m2 h tk E' hC hx hy F2 N2 off ne
    k_steps
    rename_i D5 h5 F5 N5 l5
    have htake : ps.take (i + 1) = ps.take i ++ [(s', ol)] := by rw [List.take_add_one, hp]; rfl
    refine CompEnd.intro F5 N5 ((D5, tupO [.int s' ts, .int (s' + ol.length) (tk + 1 + 1)] 0) :: (tl ++ news)) (fun p hp => ?_) ⟨⟨Nat.ne_of_gt l5.1, Nat.ne_of_gt l5.2.1, Nat.ne_of_gt l5.2.2.1⟩, off⟩ (.inr ⟨_, .tail _ (List.mem_append.mpr (.inr hm)), rfl, n, rfl⟩)
      ⟨(D5, tupO [.int s' ts, .int (s' + ol.length) (tk + 1 + 1)] 0) :: tl, rfl, ?_⟩
    · simp only [List.mem_cons] at hp ⊢
      rcases hp with rfl | rfl | rfl | rfl | hp
      · exact .inr (.inl rfl)
      · exact .inr (.inr (.inl rfl))
      · exact .inr (.inr (.inr (.inl rfl)))
      · exact .inl rfl
      · exact .inr (.inr (.inr (.inr hp)))
    · rw [htake, List.map_append]
      exact (hS.mono fun p hp => .tail _ hp).snoc (.mk (.head _))

end Mine

namespace Mine
open PySem PySem.W PySem.Spec PySem.Calls PyProof.Rows PyProof.Rows.LCg PyProof.Rows.LCp

def EndR (h₀ : Heap) (L : Addr) (I : Addr) (oI : Obj) (J : (Str → Option Value) → List (Addr × Obj) → Prop) (s : Shared) (s₂ : Shared) : Prop :=
  ∃ h' tk m' nx', s₂ = { s with heap := h', toks := tk } ∧ Fr h₀ L h' m' ∧ News h₀ L h' ((I, oI) :: nx') ∧ (∀ p ∈ nx', p.1 ≠ I) ∧ J m' nx'
def PostR (h₀ : Heap) (L : Addr) (I : Addr) (oI : Obj) (J : (Str → Option Value) → List (Addr × Obj) → Prop) (s : Shared) (Q : Flow → Shared → Prop) (f : Flow) (s₂ : Shared) : Prop :=
  match f with
  | .ret v => Q (.ret v) s₂
  | .brk => Q .next s₂
  | _ => EndR h₀ L I oI J s s₂
section
variable {prog : Program} {w : World} {A : Around} {E : Value → Shared → Prop} {s : Shared} {env : Env} {h₀ : Heap} {body : List Stmt} {Q : Flow → Shared → Prop}
theorem turns_range {x : Str} {px : Pos} {r : Addr} {b₀ : Int} {t₀ u₀ v₀ : Tok} {n : Nat} {m₀ : Str → Option Value} {news : List (Addr × Obj)} (J : Addr → Nat → (Str → Option Value) → List (Addr × Obj) → Prop)
    (hh : A.handled = none) (hr : IsRange s.heap r 0 b₀ 1 t₀ u₀ v₀) (hn : b₀ = (n : Int)) (hz : n ≤ 1000) (F : Fr h₀ env.locals s.heap m₀) (N : News h₀ env.locals s.heap news) (hj : ∀ I, (∀ p ∈ news, p.1 < I) → J I 0 m₀ news)
    (turn : ∀ I (i : Nat) t m₁ nx h tk oI, i < n → J I i m₁ nx → (∀ p ∈ nx, p.1 ≠ I) → Fr h₀ env.locals h m₁ → News h₀ env.locals h ((I, oI) :: nx) → oI.cls = .type "range_iterator" →
      wpAny (model prog w) A (assign (.Name x px) env (.int (i : Int) t)) (fun _ s₃ => wpAny (model prog w) A (execs body env) (PostR h₀ env.locals I oI (J I (i + 1)) { s with heap := h, toks := tk } Q) E s₃) E { s with heap := h, toks := tk })
    (done : ∀ I m₁ nx h tk, J I n m₁ nx → Fr h₀ env.locals h m₁ → News h₀ env.locals h nx → Q .next { s with heap := h, toks := tk }) :
    wpAny (model prog w) A (pyIter (.ref r)) (fun it s₂ => TurnsAt prog w A h₀ env (.Name x px) body Q E it s₂) E s := by
  subst hn
  refine wpAny_pyIter_range hr (small_one (by decide) (by decide) (by omega) (by omega)) ?_
  have hsz : Builtin.Range.rangeSize 0 (n : Int) 1 = (n : Int) := by rw [rangeSize_nat]; simp
  have W := KTurns.ofWalks (target := (.Name x px)) ((Walks.range (prog := prog) (w := w) hh s.heap.objs.size 0 1 n).bound) fun i v s Q E st q => wpAny_of_eq (a := ()) rfl q
  refine ⟨_, _, _, n, _, _, _, m₀, news, (fun i m nx => J s.heap.objs.size i m nx), rfl, W, ?_, ?_, ?_, (by show IsRangeIter _ _ _ _ _; rw [hsz]; simpa using Heap.get?_push_size _ rfl), F.push _, (fun p hp => ⟨Heap.get?_push_of_some _ (N p hp).1, (N p hp).2⟩), hj _ fun p hp => Heap.lt_size (N p hp).1, ?_, ?_⟩
  · intro hm
    exact absurd F.ns.lt ((List.mem_singleton.mp hm) ▸ Nat.lt_irrefl _)
  · intro b hb
    rw [List.mem_singleton.mp hb]
    exact next_is_new F
  · intro p hp hI
    exact absurd (Heap.lt_size (N p hp).1) ((List.mem_singleton.mp hI) ▸ Nat.lt_irrefl _)
  · rintro i v m₁ news₁ hh' tk' own hin ⟨_, t, rfl⟩ hJ hoff hown hget hfp hst F₁ N₁
    have hI0 : h₀.get? s.heap.objs.size = none := next_is_new F
    obtain ⟨oI, hoI, hcI⟩ : ∃ o, hh'.get? s.heap.objs.size = some o ∧ o.cls = .type "range_iterator" := ⟨_, hst, rfl⟩
    have hIown := hfp _ (List.mem_singleton.mpr rfl) hI0 _ hoI
    have hoff' : ∀ p ∈ news₁, p.1 ≠ s.heap.objs.size := fun p hp e => hoff p hp (List.mem_singleton.mpr e)
    have N₂ := newsSub N₁ (l' := (s.heap.objs.size, oI) :: news₁) fun p hp => by
      rcases List.mem_cons.mp hp with rfl | hp
      · exact List.mem_append.mpr (.inl hIown)
      · exact List.mem_append.mpr (.inr hp)
    have e1 : (0 : Int) + (i : Int) * 1 = (i : Int) := by omega
    rw [e1]
    refine wpAny_mono (turn s.heap.objs.size i t m₁ news₁ hh' tk' oI hin hJ hoff' F₁ N₂ hcI) (fun _ s₂ p => wpAny_mono p (fun f s₃ p => ?_) fun _ _ e => e) fun _ _ e => e
    have fin : EndR h₀ env.locals s.heap.objs.size oI (J s.heap.objs.size (i + 1)) { s with heap := hh', toks := tk' } s₃ →
        LoopStepU h₀ env.locals [s.heap.objs.size] own (fun m nx => J s.heap.objs.size (i + 1) m nx) { s with heap := hh', toks := tk' } .next s₃ := by
      rintro ⟨h', tk, m', nx, e, F', N', ho, hm2⟩
      refine ⟨rfl, h', tk, m', nx, e, F', fun p hp => ?_, fun p hp hq => ho p hp (List.mem_singleton.mp hq), hm2⟩
      rcases List.mem_append.mp hp with h | h
      · have hI : p.1 = s.heap.objs.size := List.mem_singleton.mp (hown p h)
        have h2 : hh'.get? p.1 = some p.2 := hget p h
        rw [hI] at h2
        have h5 := h2.symm.trans hoI
        have h4 : p = (s.heap.objs.size, oI) := Prod.ext hI (Option.some.inj h5)
        rw [h4]
        exact N' _ (.head _)
      · exact N' p (.tail _ h)
    cases f with
    | ret v => exact .ret p
    | brk => exact .brk p
    | next => exact .next (fin p)
    | cont => exact .cont (fin p)
  · rintro h' tk m' news' F' N' _ hJ
    exact done _ m' news' h' tk hJ F' N'
end

abbrev poolO (ca : Addr) (k : Int) (t : Tok) (e : Nat) : Obj := W.listOf #[.ref ca, .int k t] e
theorem draw_use {w : World} {led rest : List (Addr × Obj)} {pa ca : Addr} {vs : List Value} {n n' : Nat} {ns : List Int} {k : Int} {t t' : Tok} {many : Int}
    {mean : ExcName → Option Value} {mg mb : Str → Option Value} {dp un : Nat} {gd : Option (List Code)} {cn : Str} {cs : Scope} {a : Addr} {ccd : Value} {cl : List (Str × Addr)} {outer : List Env} {A₀ : Around} {base h₀ : Heap} {L : Addr} {m : Str → Option Value} {s : Shared} {Q E : Value → Shared → Prop}
    (hp : (pa, poolO ca k t' n') ∈ led) (hs : ∀ p ∈ rest, p ∈ led) (hoff : ∀ p ∈ rest, p.1 ≠ pa) (hm : (ca, W.listOf vs.toArray n) ∈ rest) (hI : IntsAre vs ns) (hk0 : 0 ≤ k) (hk1 : k ≤ 100) (hmn : 0 < many) (hmn' : many < 100) (hz : ns.length ≤ 64)
    (B : Below A₀ base outer h₀) (F : Fr h₀ L s.heap m) (X : (hd.heap_39 w.params).In h₀) (N : News h₀ L s.heap led) (T : Top hd.view_39 (looseW hd.view_39 []) mean mg mb h₀) (hk : cs.kind = .function) (hd : dp + 2 < recursionLimit) (hu : un + 40 < cLine)
    (ret : ∀ d td tk e h' tk', Fr h₀ L h' m → News h₀ L h' ((pa, poolO ca (k + 1) tk e) :: rest) → 0 ≤ d → d < many → Q (.int d td) { s with heap := h', toks := tk' }) :
    wpAny (model PySem.Challenge.rw_sa0561_01.row.prog w) (ktrTop dp un gd cn cs L a ccd cl outer) (call (.ref 68) [.ref pa, .int many t]) Q E s := by
  refine does_use (draw_does w rest pa ca vs n n' ns k t t' many hm hI hk0 hk1 hmn hmn' hz hoff) B F X (newsSub N fun p hq => ?_) T hk hd hu ?_
  · rcases List.mem_cons.mp hq with rfl | hq
    · exact hp
    · exact hs p hq
  · rintro r news' h' tk' F' N' ⟨d, td, tk, e, rfl, h0, h1, rfl⟩
    exact ret d td tk e h' tk' F' N' h0 h1

end Mine

namespace Mine
open PySem PySem.W PySem.Spec PySem.Calls PyProof.Rows PyProof.Rows.LCg PyProof.Rows.LCp
theorem PcAll.sub {l l' : List (Addr × Obj)} {vs : List Value} {ps : List Pc} (h : PcAll l vs ps) (hs : ∀ p ∈ l, p.2.cls = .type "tuple" → p ∈ l') : PcAll l' vs ps := by
  induction h with
  | nil => exact .nil
  | cons h1 _ ih =>
    refine .cons ?_ ih
    cases h1 with
    | mk hm hb => exact .mk (hs _ hm rfl) hb
theorem PcAll.not_pool {l : List (Addr × Obj)} {vs : List Value} {ps : List Pc} (h : PcAll l vs ps) {D pa ca : Addr} {c e : Nat} {k : Int} {t : Tok} : (D, W.listOf vs.toArray c) ≠ (pa, poolO ca k t e) := by
  intro e
  have e1 : vs.toArray = #[.ref ca, .int k t] := by
    have e2 := congrArg (fun p : Addr × Obj => p.2.data) e
    dsimp only at e2
    injection e2
  have e3 : vs = [.ref ca, .int k t] := by
    have := congrArg Array.toList e1
    simpa using this
  subst e3
  cases h with
  | cons _ h2 => cases h2 with
    | cons h3 _ => cases h3

theorem bytes_my {prog : Program} {w : World} {A : Around} {E : Value → Shared → Prop} {s : Shared} {h₀ : Heap} {L D : Addr} {m : Str → Option Value} {news : List (Addr × Obj)} {Q : Value → Shared → Prop} {vs : List Value} {ns : List Int}
    (F : Fr h₀ L s.heap m) (N : News h₀ L s.heap news) (hh : A.handled = none) (hm : (D, lst vs) ∈ news) (hi : IntsAre vs ns) (hr : ∀ x ∈ ns, 97 ≤ x ∧ x < 99) (hz : ns.length ≤ 16)
    (h : ∀ h' b t' k, Fr h₀ L h' m → News h₀ L h' news → KBw.bInts b = ns → Q (.bytes b t') { s with heap := h', toks := k }) : wpAny (model prog w) A (call (.type "bytes") [.ref D]) Q E s := by
  have hr' : ∀ n ∈ ns, 0 ≤ n ∧ n < 256 := fun x hx => by have := hr x hx; omega
  exact call_bytes_ints (ns := ns) ⟨_, (N _ hm).1, rfl, _, rfl⟩ hi hr' (by rw [hi.length, sizeLine_eq]; omega) hh fun h' t' k hk => h h' _ t' k (F.keptAll hk) (N.grown hk) (KBa.ints_make hr')

theorem wait_post {α : Type} {M : Model} {A : Around} {t : Sem α} {Q : α → Shared → Prop} {E : Value → Shared → Prop} {s : Shared} (h : wpAny M A t (fun a s' => Wait (Q a s')) E s) : wpAny M A t Q E s := h
local macro_rules | `(tactic| k_mem) => `(tactic| first | assumption | (refine List.mem_append.mpr (Or.inr ?_); k_mem))
local macro_rules | `(tactic| walk_at "eval ListComp") => `(tactic| (refine wait_comp ?_))
local macro_rules | `(tactic| walk_at "PostR") => `(tactic| (dsimp only [PostR]))
local macro_rules | `(tactic| walk_at "exec For Name Call cons nil") => `(tactic| (k_here; (rename Fr _ _ _ _ => lF'); (with_unfolding_all refine' For_turns lF' ?_); k_whole))
local macro_rules | `(tactic| walk_at "call type:range") => `(tactic| ((with_reducible show wpAny _ _ (call (Value.type "range") [Value.int _ _]) _ _ _); refine range1_rows (by assumption) (by assumption) ?_; intro _ _ _ _ _ rgX F' N' rgK; (try dsimp only)))

theorem off1_mem {D : Addr} : ∀ {l : List (Addr × Obj)}, LCg.Off1 D l → ∀ p ∈ l, p.1 ≠ D
  | [], _, _, h => nomatch h
  | _ :: _, x, p, h => by
    rcases List.mem_cons.mp h with rfl | h
    · exact x.1
    · exact off1_mem x.2 p h
theorem allLt_mem {d : Addr} : ∀ {l : List (Addr × Obj)}, AllLt d l → ∀ p ∈ l, p.1 < d
  | [], _, _, h => nomatch h
  | _ :: _, x, p, h => by
    rcases List.mem_cons.mp h with rfl | h
    · exact x.1
    · exact allLt_mem x.2 p h
def JL (pa ca : Addr) (k : Int) (R1 : List (Addr × Obj)) (_I : Addr) (i : Nat) (m : Str → Option Value) (nx : List (Addr × Obj)) : Prop :=
  ∃ k1 t1 e1 fa fvs fe tl cur, nx = (pa, poolO ca k1 t1 e1) :: (tl ++ R1) ∧ (∀ p ∈ tl, p.1 ≠ pa ∧ ∀ q ∈ R1, p.1 ≠ q.1) ∧ k ≤ k1 ∧ k1 ≤ k + 1 + 6 * i ∧ (fa, listOf fvs.toArray fe) ∈ tl ∧ PcAll tl fvs cur ∧ Good cur ∧
    (∀ p ∈ [(Str.ofString "found", Value.ref fa)], m p.1 = some p.2)

set_option maxHeartbeats 1000000 in
theorem lot_does (w : World) (rest : List (Addr × Obj)) (pa ca : Addr) (vs : List Value) (n e : Nat) (ns : List Int) (k : Int) (t : Tok)
   (hm : (ca, W.listOf vs.toArray n) ∈ rest) (hI : IntsAre vs ns) (hk0 : 0 ≤ k) (hk1 : k ≤ 60) (hz : ns.length ≤ 64) (hoff : ∀ p ∈ rest, p.1 ≠ pa) :
   Does w 80 6 100 [.ref pa] ((pa, poolO ca k t e) :: rest) (fun r news' => ∃ k' t' e' tl D vs' c ps', r = .ref D ∧ news' = (pa, poolO ca k' t' e') :: (tl ++ rest) ∧ (∀ p ∈ tl, p.1 ≠ pa ∧ ∀ q ∈ rest, p.1 ≠ q.1) ∧ 0 ≤ k' ∧ k' ≤ k + 19 ∧ (D, W.listOf vs'.toArray c) ∈ tl ∧ PcAll tl vs' ps' ∧ Good ps') := by
  have hvl := hI.length
  unfold Does
  k_fill
  intro mean mg mb dp un gd cn cs a ccd cl outer A₀ base h₀ L m s Q E B F X N T hk hdp hun hret
  refine wpAny_call ?_
  k_dflt (refine' code_defC ?k1 ?k2 ?k3 ?k4 ?k5 ?kA ?kF ?kK ?k6 ?k7 ?k8 ?k9 ?kB ?kD ?_ ?c2 ?c3 ?c4; (case kA => exact rfl); (case kF => exact rfl); (case kK => assumption); (case k1 => k_asm); (case k2 => k_asm); (case k3 => k_asm); (case k4 => k_asm); (case k5 => k_asm); (case k6 => k_is); (case k7 => k_is); (case k8 => ktr_room); (case k9 => exact BindsTo.of_eq rfl); (case kB => exact rfl); (case kD => decide +kernel); (case c2 => exact rfl); (case c3 => exact rfl); (case c4 => exact rfl); k_whole)
  intro g' L' h' tk' cells' FG' F' N' Y' B' X' T' l1
  k_cells Y'
  (try simp only [List.cons_append, List.nil_append] at N')
  (try dsimp only)
  (try k_fold)
  rename_i oc dc
  have hR1 : ∀ p ∈ (L' + 1, oc) :: rest, p.1 ≠ pa := fun p hp => by
    rcases List.mem_cons.mp hp with rfl | hp
    · exact Nat.ne_of_gt (Nat.lt_succ_of_lt (l1 _ (.head _)))
    · exact hoff p hp
  have hmR : (ca, W.listOf vs.toArray n) ∈ (L' + 1, oc) :: rest := .tail _ hm
  have hcR : (L' + 1, oc) ∈ (L' + 1, oc) :: rest := .head _
  k_steps
  rename_i l2 h2 lt2 h3 F2 N2
  refine draw_use (led := _) (rest := (l2, W.listOf #[] 0) :: (L' + 1, oc) :: rest) (.tail _ (.tail _ (.head _))) (fun p hp => ?_) (fun p hp => ?_) (.tail _ hmR) hI hk0 (by omega) (by decide) (by decide) hz (by assumption) F2 (by assumption) N2 (by assumption) rfl (by show dp + 1 + 2 < recursionLimit; omega) (by show un + 3 + 40 < cLine; omega) ?_
  · simp only [List.mem_cons] at hp ⊢
    rcases hp with rfl | rfl | hp
    · exact .inl rfl
    · exact .inr (.inl rfl)
    · exact .inr (.inr (.inr hp))
  · rcases List.mem_cons.mp hp with rfl | hp
    · exact Nat.ne_of_gt lt2.2.1
    · exact hR1 p hp
  clear F2 N2
  intro d td tkd ed hd tkd' F3 N3 hd0 hd1
  (try dsimp only)
  k_steps
  clear F3 N3
  rename_i h4 tk4 t4 u4 v4 rgX F4 N4 rgK
  dsimp only at rgX
  have hgoff : ∀ I, (∀ p ∈ (pa, poolO ca (k + 1) tkd ed) :: (l2, W.listOf #[] 0) :: (L' + 1, oc) :: rest, p.1 < I) → JL pa ca k ((L' + 1, oc) :: rest) I 0 (fun y => if y = Str.ofString "found" then some (Value.ref l2) else none) ((pa, poolO ca (k + 1) tkd ed) :: (l2, W.listOf #[] 0) :: (L' + 1, oc) :: rest) := fun I _ => by
    refine ⟨k + 1, tkd, ed, l2, [], 0, [(l2, W.listOf #[] 0)], [], rfl, fun p hp => ?_, by omega, by omega, .head _, .nil, good_nil, List.forall_mem_cons.mpr ⟨by rfl, List.forall_mem_nil _⟩⟩
    rw [List.mem_singleton.mp hp]
    exact ⟨Nat.ne_of_gt lt2.2.1, fun q hq => Nat.ne_of_gt (by
      rcases List.mem_cons.mp hq with rfl | hq
      · exact lt2.1
      · exact allLt_mem lt2.2.2 q hq)⟩
  refine turns_range (n := (1 + d).toNat) (JL pa ca k ((L' + 1, oc) :: rest)) rfl rgX (by omega) (by omega) F4 N4 (fun I hI => ?_) ?_ ?_
  · obtain ⟨k1, t1, e1, fa, fvs, fe, tl, cur, q1, q2, q3, q4, q5, q6, q7, q8⟩ := hgoff I hI
    exact ⟨k1, t1, e1, fa, fvs, fe, tl, cur, q1, q2, q3, q4, q5, q6, q7, fun p hp => by rw [← q8 p hp]; rw [List.mem_singleton.mp hp]; rfl⟩
  · clear F4 N4 rgX rgK hgoff
    rintro I i ti m₁ nx h tk oI hin ⟨k1, t1, e1, fa, fvs, fe, tl, cur, rfl, htl, hk2, hk3, hfa, hP, gc, hm₁⟩ hIoff F₁ N₁ hcI
    have F₂ := frOvr _ F₁ hm₁
    clear F₁
    simp only [ovr] at F₂
    have hin2 : i ≤ 2 := by omega
    have hTR : ∀ p ∈ tl ++ (L' + 1, oc) :: rest, p.1 ≠ pa := fun p hp => (List.mem_append.mp hp).elim (fun hp => (htl p hp).1) (hR1 p)
    have hIpa : I ≠ pa := fun e => hIoff _ (.head _) e.symm
    have hmT : (ca, W.listOf vs.toArray n) ∈ tl ++ (L' + 1, oc) :: rest := List.mem_append.mpr (.inr hmR)
    have hcT : (L' + 1, oc) ∈ tl ++ (L' + 1, oc) :: rest := List.mem_append.mpr (.inr hcR)
    have hzc := gc.len
    have hfaT : (fa, listOf fvs.toArray fe) ∈ tl ++ (L' + 1, oc) :: rest := List.mem_append.mpr (.inl hfa)
    have hPT : PcAll (tl ++ (L' + 1, oc) :: rest) fvs cur := hP.mono fun p hp => List.mem_append.mpr (.inl hp)
    generalize hTg : tl ++ (L' + 1, oc) :: rest = TR at *
    k_steps
    rename Fr _ _ _ _ => F5
    rename News _ _ _ _ => N5
    have hIR : ∀ p ∈ (I, oI) :: TR, p.1 ≠ pa := fun p hp => by
      rcases List.mem_cons.mp hp with rfl | hp
      · exact hIpa
      · exact hTR p hp
    refine draw_use (led := _) (rest := (I, oI) :: TR) (.tail _ (.head _)) (fun p hp => ?_) hIR (.tail _ hmT) hI (by omega) (by omega) (by decide) (by decide) hz (by assumption) F5 (by assumption) N5 (by assumption) rfl (by show dp + 1 + 2 < recursionLimit; omega) (by show un + 3 + 40 < cLine; omega) ?_
    · simp only [List.mem_cons] at hp ⊢
      rcases hp with rfl | hp
      · exact .inl rfl
      · exact .inr (.inr hp)
    clear F5 N5 N₁ F₂
    intro o to tko eo ho tko' F5 N5 ho0 ho1
    (try dsimp only)
    k_steps
    unfold Wait
    rename Fr _ _ _ _ => F6
    rename News _ _ _ _ => N6
    refine LCg.ListComp_U (F₀ := F6) (by with_unfolding_all rfl) (by decide) (by rfl) (by decide) (by rfl) (wait_post ?_)
    k_steps
    rename Fr _ _ _ _ => F7
    rename News _ _ _ _ => N7
    refine draw_use (led := _) (rest := (I, oI) :: TR) (.head _) (fun p hp => .tail _ hp) hIR (.tail _ hmT) hI (by omega) (by omega) (by decide) (by decide) hz (by assumption) F7 (by assumption) N7 (by assumption) rfl (by show dp + 1 + 2 < recursionLimit; omega) (by show un + 3 + 40 < cLine; omega) ?_
    clear F7 N7
    intro d2 td2 tk2 e2 h2' tk2' F8 N8 hd20 hd21
    (try dsimp only)
    k_steps
    clear F8 N8
    rename_i h9 tk9 t9 u9 v9 rgX9 F9 N9 rgK9
    dsimp only at rgX9
    unfold Wait
    refine CompSrc.range (n := (1 + d2).toNat) (by rfl) F9 N9 rgX9 (small_one (by decide) (by decide) (by omega) (by omega)) (by rw [rangeSize_nat]; simp) (by rw [sizeLine_eq]; omega) ?_
    clear F9 N9 rgX9 rgK9
    intro gh
    refine compRest_ind (fun j ys nx => ∃ k2 t2 e2 ms, nx = (pa, poolO ca k2 t2 e2) :: (I, oI) :: TR ∧ k1 ≤ k2 ∧ k2 ≤ k1 + 2 + j ∧ IntsAre ys ms ∧ ms.length = j ∧ ∀ x ∈ ms, 97 ≤ x ∧ x < 99) ⟨k1 + 1 + 1, tk2, e2, [], rfl, by omega, by omega, .nil, rfl, fun _ hx => (nomatch hx)⟩ ?_ ?_
    · rintro ys nx ⟨k2, t2, e2', ms, rfl, hk4, hk5, hms, hml, hmr⟩ D h10 tk10 F10 N10 o10
      (try dsimp only)
      k_steps
      rename Fr _ _ _ _ => F11
      rename News _ _ _ _ => N11
      refine bytes_my F11 N11 rfl (.head _) hms hmr (by omega) ?_
      clear F11 N11
      intro h12 b12 t12 k12 F12 N12 hb12
      (try dsimp only)
      k_steps
      rename Fr _ _ _ _ => F13
      rename News _ _ _ _ => N13
      have hup : ∀ p ∈ TR, p ∈ (D, lst ys) :: (pa, poolO ca k2 t2 e2') :: (I, oI) :: TR := fun p hp => .tail _ (.tail _ (.tail _ hp))
      refine does_use (add_piece_new w ((D, lst ys) :: (pa, poolO ca k2 t2 e2') :: (I, oI) :: TR) fa fvs fe cur o b12 to t12 ms (hup _ hfaT) (hPT.mono hup) hb12 gc ho0 (by omega) hzc) (by assumption) F13 (by assumption) N13 (by assumption) rfl (by show dp + 1 + 2 < recursionLimit; omega) (by show un + 3 + 40 < cLine; omega) ?_
      clear F13 N13
      rintro r news' h14 tk14 F14 N14 ⟨tl2, rfl, hlt2, D3, vs3, c3, ps3, rfl, hDm3, hP3, g3, ho3⟩
      (try dsimp only)
      k_steps
      rename Fr _ _ _ _ => F15
      rename News _ _ _ _ => N15
      have hT2 : tl2 ++ (D, lst ys) :: TR = tl2 ++ (D, lst ys) :: tl ++ (L' + 1, oc) :: rest := by rw [← hTg]; simp
      have hD3' : (D3, W.listOf vs3.toArray c3) ∈ tl2 ++ (D, lst ys) :: tl := List.mem_append.mpr (.inl hDm3)
      have hP3' : PcAll (tl2 ++ (D, lst ys) :: tl) vs3 ps3 := by
        rcases hP3 with hP3 | ⟨rfl, rfl⟩
        · exact hP3.mono fun p hp => List.mem_append.mpr (.inl hp)
        · exact hP.mono fun p hp => List.mem_append.mpr (.inr (.tail _ hp))
      refine ⟨_, _, _, (pa, poolO ca k2 t2 e2') :: (tl2 ++ (D, lst ys) :: tl ++ (L' + 1, oc) :: rest), rfl, F15, newsSub N15 (fun p hp => ?_), fun p hp => ?_, k2, t2, e2', D3, vs3, c3, tl2 ++ (D, lst ys) :: tl, ps3, rfl, fun p hp => ?_, by omega, by omega, hD3', hP3', g3, List.forall_mem_cons.mpr ⟨by rfl, List.forall_mem_nil _⟩⟩
      · rw [← hT2] at hp
        simp only [List.mem_append, List.mem_cons] at hp ⊢
        rcases hp with rfl | rfl | hp | rfl | hp
        · exact .inr (.inr (.inr (.inl rfl)))
        · exact .inr (.inr (.inl rfl))
        · exact .inl hp
        · exact .inr (.inl rfl)
        · exact .inr (.inr (.inr (.inr hp)))
      · rw [← hT2] at hp
        simp only [List.mem_append, List.mem_cons] at hp
        rcases hp with rfl | hp | rfl | hp
        · exact hIpa.symm
        · exact Nat.ne_of_gt (hlt2 p hp (I, oI) (.tail _ (.tail _ (.head _))))
        · exact o10.2.1.symm
        · exact hIoff p (.tail _ hp)
      · simp only [List.mem_append, List.mem_cons] at hp
        rcases hp with hp | rfl | hp
        · refine ⟨Nat.ne_of_gt (hlt2 p hp (pa, poolO ca k2 t2 e2') (.tail _ (.head _))), fun q hq => Nat.ne_of_gt (hlt2 p hp q ?_)⟩
          rw [← hTg]
          exact .tail _ (.tail _ (.tail _ (List.mem_append.mpr (.inr hq))))
        · refine ⟨o10.1.symm, fun q hq => (off1_mem o10 q ?_).symm⟩
          rw [← hTg]
          exact .tail _ (.tail _ (List.mem_append.mpr (.inr hq)))
        · exact htl p hp
    · rintro j ys nx hj ⟨k2, t2, e2', ms, rfl, hk4, hk5, hms, hml, hmr⟩ v I2 oI2 C2 oC2 D2 m2 h10 tk10 E10 ⟨tv, rfl⟩ hC2 hx2 F10 N10 off2 ne2
      k_steps
      rename Fr _ _ _ _ => F11
      rename News _ _ _ _ => N11
      have hoff2 : ∀ p ∈ (I2, oI2) :: (C2, oC2) :: (D2, lst ys) :: (I, oI) :: TR, p.1 ≠ pa := fun p hp => by
        simp only [List.mem_cons] at hp
        rcases hp with rfl | rfl | rfl | rfl | hp
        · exact off2.1.1.symm
        · exact off2.1.2.1.symm
        · exact off2.1.2.2.symm
        · exact hIpa
        · exact hTR p hp
      refine draw_use (led := _) (rest := (I2, oI2) :: (C2, oC2) :: (D2, lst ys) :: (I, oI) :: TR) (.tail _ (.tail _ (.tail _ (.head _)))) (fun p hp => ?_) hoff2 (.tail _ (.tail _ (.tail _ (.tail _ hmT)))) hI (by omega) (by omega) (by decide) (by decide) hz (by assumption) F11 (by assumption) N11 (by assumption) rfl (by show dp + 1 + 2 < recursionLimit; omega) (by show un + 3 + 40 < cLine; omega) ?_
      · simp only [List.mem_cons] at hp ⊢
        rcases hp with rfl | rfl | rfl | rfl | hp
        · exact .inl rfl
        · exact .inr (.inl rfl)
        · exact .inr (.inr (.inl rfl))
        · exact .inr (.inr (.inr (.inr (.inl rfl))))
        · exact .inr (.inr (.inr (.inr (.inr hp))))
      intro d3 td3 tk3 e3 h12 tk12 F12 N12 hd30 hd31
      (try dsimp only)
      k_steps
      rename Fr _ _ _ _ => F13
      rename News _ _ _ _ => N13
      refine CompEnd.intro F13 N13 ((pa, poolO ca (k2 + 1) tk3 e3) :: (I, oI) :: TR) (fun p hp => ?_) ⟨off2.1, off2.2⟩ trivial ⟨k2 + 1, tk3, e3, ms ++ [97 + d3], rfl, by omega, by omega, ksk_snoc hms, by simp [hml], fun x hx => ?_⟩
      · simp only [List.mem_cons] at hp ⊢
        rcases hp with rfl | rfl | rfl | rfl | rfl | hp
        · exact .inr (.inl rfl)
        · exact .inr (.inr (.inl rfl))
        · exact .inr (.inr (.inr (.inl rfl)))
        · exact .inl rfl
        · exact .inr (.inr (.inr (.inr (.inl rfl))))
        · exact .inr (.inr (.inr (.inr (.inr hp))))
      · rcases List.mem_append.mp hx with hx | hx
        · exact hmr x hx
        · rw [List.mem_singleton.mp hx]; omega
  · clear F4 N4 rgX rgK hgoff
    rintro I m₁ nx h tk ⟨k1, t1, e1, fa, fvs, fe, tl, cur, rfl, htl, hk2, hk3, hfa, hP, gc, hm₁⟩ F₁ N₁
    have F₂ := frOvr _ F₁ hm₁
    clear F₁
    simp only [ovr] at F₂
    (try dsimp only)
    k_steps
    have e5 : tl ++ (L' + 1, oc) :: rest = tl ++ [(L' + 1, oc)] ++ rest := by simp
    rename Fr h₀ _ _ _ => F9
    rename News h₀ _ _ _ => N9
    rw [e5] at N9
    refine hret _ _ _ _ F9 N9 ⟨k1, t1, e1, tl ++ [(L' + 1, oc)], fa, fvs, fe, cur, rfl, rfl, fun p hp => ?_, by omega, by omega, List.mem_append.mpr (.inl hfa), hP.mono fun p hp => List.mem_append.mpr (.inl hp), gc⟩
    rcases List.mem_append.mp hp with hp | hp
    · exact ⟨(htl p hp).1, fun q hq => (htl p hp).2 q (.tail _ hq)⟩
    · rw [List.mem_singleton.mp hp]
      exact ⟨hR1 _ (.head _), fun q hq => Nat.ne_of_gt (Nat.lt_succ_of_lt (l1 _ (.tail _ hq)))⟩

end Mine

namespace Mine
open PySem PySem.W PySem.Spec PySem.Calls PySem.SeqAt PyProof.Rows
theorem EqAt.bytes {A : Around} {s : Shared} (b c : Array UInt8) (t u : Tok) : EqAt A s (.bytes b t) (.bytes c u) (decide (b.toList = c.toList)) := fun _ _ _ _ h => eqBool_bytes h
theorem range2 (e : Nat → Bool) : (List.range (min 2 2)).all e = (e 0 && e 1) := by
  show (List.range 2).all e = _
  simp [List.range, List.range.loop]
section
variable {A : Around} {s : Shared} {h₀ : Heap} {L : Addr} {news : List (Addr × Obj)}
theorem PcIn.eq {v1 v2 : Value} {p1 p2 : Pc} (N : News h₀ L s.heap news) (hu : A.units < cLine) (h1 : PcIn news v1 p1) (h2 : PcIn news v2 p2) : EqAt A s v1 v2 (decide (p1 = p2)) := by
  cases h1 with
  | @mk a1 i1 t1 b1 u1 n1 l1 m1 e1 =>
    cases h2 with
    | @mk a2 i2 t2 b2 u2 n2 l2 m2 e2 =>
      have g1 := (N _ m1).1
      have g2 := (N _ m2).1
      by_cases hne : a1 = a2
      · subst hne
        have e := g1.symm.trans g2
        injection e with e
        injection e with _ _ e _
        injection e with e _
        have e := congrArg Array.toList e
        simp only [List.cons.injEq, Value.int.injEq, Value.bytes.injEq] at e
        obtain ⟨⟨rfl, _⟩, ⟨rfl, _⟩, _⟩ := e
        subst e1 e2
        rw [decide_eq_true rfl]
        exact EqAt.same _
      · have hk : decide ((i1, l1) = (i2, l2)) = ((List.range (min #[Value.int i1 t1, .bytes b1 u1].size #[Value.int i2 t2, .bytes b2 u2].size)).all (fun j => if j = 0 then i1 == i2 else decide (b1.toList = b2.toList)) && #[Value.int i1 t1, .bytes b1 u1].size == #[Value.int i2 t2, .bytes b2 u2].size) := by
          show _ = ((List.range (min 2 2)).all _ && (2 == 2))
          rw [range2]
          have := bytes_eq_iff e1 e2
          simp [this]
          by_cases h : i1 = i2 <;> by_cases h' : l1 = l2 <;> simp [h, h']
        rw [hk]
        refine EqAt.of_refs hne (RcAt.tuples ⟨_, g1, rfl, _, rfl⟩ ⟨_, g2, rfl, _, rfl⟩ hu fun j j1 j2 => ?_)
        have hj : j < 2 := j1
        match j, hj with
        | 0, _ => exact EqAt.int_int _ _ _ _
        | 1, _ => exact EqAt.bytes _ _ _ _
theorem SpIn.eq {v1 v2 : Value} {p1 p2 : Sp} (N : News h₀ L s.heap news) (hu : A.units < cLine) (h1 : SpIn news v1 p1) (h2 : SpIn news v2 p2) : EqAt A s v1 v2 (decide (p1 = p2)) := by
  cases h1 with
  | @mk a1 i1 b1 t1 u1 n1 m1 =>
    cases h2 with
    | @mk a2 i2 b2 t2 u2 n2 m2 =>
      have g1 := (N _ m1).1
      have g2 := (N _ m2).1
      by_cases hne : a1 = a2
      · subst hne
        have e := g1.symm.trans g2
        injection e with e
        injection e with _ _ e _
        injection e with e _
        have e := congrArg Array.toList e
        simp only [List.cons.injEq, Value.int.injEq] at e
        obtain ⟨⟨rfl, _⟩, ⟨rfl, _⟩, _⟩ := e
        rw [decide_eq_true rfl]
        exact EqAt.same _
      · have hk : decide ((i1, b1) = (i2, b2)) = ((List.range (min #[Value.int i1 t1, .int b1 u1].size #[Value.int i2 t2, .int b2 u2].size)).all (fun j => if j = 0 then i1 == i2 else b1 == b2) && #[Value.int i1 t1, .int b1 u1].size == #[Value.int i2 t2, .int b2 u2].size) := by
          show _ = ((List.range (min 2 2)).all _ && (2 == 2))
          rw [range2]
          simp
          by_cases h : i1 = i2 <;> by_cases h' : b1 = b2 <;> simp [h, h']
        rw [hk]
        refine EqAt.of_refs hne (RcAt.tuples ⟨_, g1, rfl, _, rfl⟩ ⟨_, g2, rfl, _, rfl⟩ hu fun j j1 j2 => ?_)
        have hj : j < 2 := j1
        match j, hj with
        | 0, _ => exact EqAt.int_int _ _ _ _
        | 1, _ => exact EqAt.int_int _ _ _ _
theorem all_eq {α : Type} [DecidableEq α] (ps qs : List α) (hl : ps.length = qs.length) : (List.range ps.length).all (fun j => decide (ps[j]? = qs[j]?)) = decide (ps = qs) := by
  by_cases h : ps = qs
  · subst h; simp
  · rw [decide_eq_false h]
    rw [List.all_eq_false]
    apply Classical.byContradiction
    intro hc
    apply h
    apply List.ext_getElem? 
    intro i
    by_cases hi : i < ps.length
    · apply Classical.byContradiction
      intro hn
      exact hc ⟨i, List.mem_range.mpr hi, by simpa using hn⟩
    · rw [List.getElem?_eq_none (by omega), List.getElem?_eq_none (by omega)]
variable {prog : Program} {w : World} {E : Value → Shared → Prop} {Q : Value → Shared → Prop} {l b : Addr} {vs ws : List Value} {n k : Nat}
theorem lists_eq {α : Type} [DecidableEq α] {ps qs : List α} (hl : s.heap.IsList l vs.toArray) (hb : s.heap.IsList b ws.toArray) (hvs : vs.length = ps.length) (hws : ws.length = qs.length) (hu : A.units < cLine)
    (he : ∀ (j : Nat) v1 v2 p1 p2, vs[j]? = some v1 → ws[j]? = some v2 → ps[j]? = some p1 → qs[j]? = some p2 → EqAt A.in1 s v1 v2 (decide (p1 = p2)))
    (h : Q (.bool (decide (ps = qs))) s) : wpAny (model prog w) A (compareOp .Eq (.ref l) (.ref b)) Q E s := by
  by_cases hsz : ps.length = qs.length
  · refine eq_listAt hl hb (by simp; omega) hu (e := fun j => decide (ps[j]? = qs[j]?)) (fun j j1 j2 => ?_) ?_
    · have j1' : j < vs.length := by simpa using j1
      have j2' : j < ws.length := by simpa using j2
      have g1 : j < ps.length := by omega
      have g2 : j < qs.length := by omega
      have := he j vs[j] ws[j] ps[j] qs[j] (List.getElem?_eq_getElem j1') (List.getElem?_eq_getElem j2') (List.getElem?_eq_getElem g1) (List.getElem?_eq_getElem g2)
      rw [List.getElem?_eq_getElem g1, List.getElem?_eq_getElem g2]
      simpa using this
    · have e1 : vs.toArray.size = ps.length := by simpa using hvs
      rw [e1, all_eq ps qs hsz]; exact h
  · refine eq_list_lengthsAt hl hb (by simp; omega) hu ?_
    rw [decide_eq_false (fun e => hsz (by rw [e]))] at h
    exact h
theorem lists_ne {α : Type} [DecidableEq α] {ps qs : List α} (hl : s.heap.IsList l vs.toArray) (hb : s.heap.IsList b ws.toArray) (hvs : vs.length = ps.length) (hws : ws.length = qs.length) (hu : A.units < cLine)
    (he : ∀ (j : Nat) v1 v2 p1 p2, vs[j]? = some v1 → ws[j]? = some v2 → ps[j]? = some p1 → qs[j]? = some p2 → EqAt A.in1 s v1 v2 (decide (p1 = p2)))
    (h : Q (.bool (!decide (ps = qs))) s) : wpAny (model prog w) A (compareOp .NotEq (.ref l) (.ref b)) Q E s := by
  by_cases hsz : ps.length = qs.length
  · refine RcNeAt.lists hl hb (by simp; omega) hu (e := fun j => decide (ps[j]? = qs[j]?)) (fun j j1 j2 => ?_) prog w E Q ?_
    · have j1' : j < vs.length := by simpa using j1
      have j2' : j < ws.length := by simpa using j2
      have g1 : j < ps.length := by omega
      have g2 : j < qs.length := by omega
      have := he j vs[j] ws[j] ps[j] qs[j] (List.getElem?_eq_getElem j1') (List.getElem?_eq_getElem j2') (List.getElem?_eq_getElem g1) (List.getElem?_eq_getElem g2)
      rw [List.getElem?_eq_getElem g1, List.getElem?_eq_getElem g2]
      simpa using this
    · have e1 : vs.toArray.size = ps.length := by simpa using hvs
      rw [e1, all_eq ps qs hsz]; exact h
  · refine RcNeAt.lists_lengths hl hb (by simp; omega) hu prog w E Q ?_
    rw [decide_eq_false (fun e => hsz (by rw [e]))] at h
    exact h
theorem pcs_eq {ps qs : List Pc} (N : News h₀ L s.heap news) (hm : (l, W.listOf vs.toArray n) ∈ news) (hD : PcAll news vs ps) (hm2 : (b, W.listOf ws.toArray k) ∈ news) (hD2 : PcAll news ws qs) (hu : A.units + 2 < cLine)
    (h : Q (.bool (decide (ps = qs))) s) : wpAny (model prog w) A (compareOp .Eq (.ref l) (.ref b)) Q E s :=
  lists_eq ⟨_, (N _ hm).1, rfl, _, rfl⟩ ⟨_, (N _ hm2).1, rfl, _, rfl⟩ hD.length hD2.length (by omega) (fun j v1 v2 p1 p2 e1 e2 e3 e4 => by
    obtain ⟨q1, f1, g1⟩ := hD.get e1
    obtain ⟨q2, f2, g2⟩ := hD2.get e2
    rw [e3] at f1; rw [e4] at f2
    injection f1 with f1; injection f2 with f2
    subst f1 f2
    exact g1.eq N (by show A.units + 1 < cLine; omega) g2) h
theorem pcs_ne {ps qs : List Pc} (N : News h₀ L s.heap news) (hm : (l, W.listOf vs.toArray n) ∈ news) (hD : PcAll news vs ps) (hm2 : (b, W.listOf ws.toArray k) ∈ news) (hD2 : PcAll news ws qs) (hu : A.units + 2 < cLine)
    (h : Q (.bool (!decide (ps = qs))) s) : wpAny (model prog w) A (compareOp .NotEq (.ref l) (.ref b)) Q E s :=
  lists_ne ⟨_, (N _ hm).1, rfl, _, rfl⟩ ⟨_, (N _ hm2).1, rfl, _, rfl⟩ hD.length hD2.length (by omega) (fun j v1 v2 p1 p2 e1 e2 e3 e4 => by
    obtain ⟨q1, f1, g1⟩ := hD.get e1
    obtain ⟨q2, f2, g2⟩ := hD2.get e2
    rw [e3] at f1; rw [e4] at f2
    injection f1 with f1; injection f2 with f2
    subst f1 f2
    exact g1.eq N (by show A.units + 1 < cLine; omega) g2) h
theorem sps_ne {ps qs : List Sp} (N : News h₀ L s.heap news) (hm : (l, W.listOf vs.toArray n) ∈ news) (hD : SpAll news vs ps) (hm2 : (b, W.listOf ws.toArray k) ∈ news) (hD2 : SpAll news ws qs) (hu : A.units + 2 < cLine)
    (h : Q (.bool (!decide (ps = qs))) s) : wpAny (model prog w) A (compareOp .NotEq (.ref l) (.ref b)) Q E s :=
  lists_ne ⟨_, (N _ hm).1, rfl, _, rfl⟩ ⟨_, (N _ hm2).1, rfl, _, rfl⟩ hD.length hD2.length (by omega) (fun j v1 v2 p1 p2 e1 e2 e3 e4 => by
    obtain ⟨q1, f1, g1⟩ := hD.get e1
    obtain ⟨q2, f2, g2⟩ := hD2.get e2
    rw [e3] at f1; rw [e4] at f2
    injection f1 with f1; injection f2 with f2
    subst f1 f2
    exact g1.eq N (by show A.units + 1 < cLine; omega) g2) h
theorem ones_eq_nil {j : Nat} {vs : List Value} (N : News h₀ L s.heap news) (hm : (l, W.listOf vs.toArray n) ∈ news) (hj : vs.length = j) (hm2 : (b, W.listOf #[] k) ∈ news) (hu : A.units + 2 < cLine)
    (h : Q (.bool (decide (j = 0))) s) : wpAny (model prog w) A (compareOp .Eq (.ref l) (.ref b)) Q E s := by
  subst hj
  cases vs with
  | nil => exact lists_eq (ps := ([] : List Nat)) (qs := []) (vs := []) (ws := []) ⟨_, (N _ hm).1, rfl, _, rfl⟩ ⟨_, (N _ hm2).1, rfl, _, rfl⟩ rfl rfl (by omega) (fun j _ _ _ _ e _ _ _ => by simp at e) h
  | cons v vs => exact eq_list_lengthsAt ⟨_, (N _ hm).1, rfl, _, rfl⟩ ⟨_, (N _ hm2).1, rfl, _, rfl⟩ (by simp) (by omega) h
end

end Mine

namespace Mine
open PySem PySem.W PySem.Spec PySem.Calls PySem.SeqAt PyProof.Rows PyProof.Rows.LCg PyProof.Rows.LCp
section
variable {prog : Program} {w : World} {A : Around} {E : Value → Shared → Prop} {s : Shared} {h₀ : Heap} {L : Addr} {m : Str → Option Value} {env : Env}
/-- A comprehension over pairs with one test: the loop. -/
theorem loop_pt {ct elt iter : PySem.Expr} {elts : List PySem.Expr} {x1} {tp : Pos} {scope : Scope} {pos : Pos} {it acc : Value} {env : Env} {R : Result → Shared → Prop} (I : Nat → Shared → Prop)
    (turn : ∀ n s, I n s → wpAny (model prog w) A (pyNext it) (fun r s₁ => match r with
      | none => R (.ok .next) s₁
      | some v => wpAny (model prog w) A (letOwnedTupleGo (.Tuple elts x1 tp) it v) (fun _ s₁' => wpAny (model prog w) A (assign (.Tuple elts x1 tp) env v) (fun _ s₂ =>
          wpAny (model prog w) A (isTrue ct env (eval ct env)) (fun ok s₃ => if ok = true then wpAny (model prog w) A (eval elt env) (fun x s₄ =>
              wpAny (model prog w) A (call (.builtin "list.append") [acc, x]) (fun _ s₅ => ∃ m, m < n ∧ I m s₅) (notedBy (model prog w) A env fun e s' => R (.error e) s') s₄) (notedBy (model prog w) A env fun e s' => R (.error e) s') s₃
            else ∃ m, m < n ∧ I m s₃) (notedBy (model prog w) A env fun e s' => R (.error e) s') s₂)
          (notedBy (model prog w) A env fun e s' => R (.error e) s') s₁') (notedBy (model prog w) A env fun e s' => R (.error e) s') s₁) (notedBy (model prog w) A env fun e s' => R (.error e) s') s)
    (n : Nat) (h : I n s) : codeAny (model prog w) A (.compLoop (.ListComp elt [⟨.Tuple elts x1 tp, iter, [ct], 0⟩] scope pos) 0 it acc env) R s := by
  refine codeAny_loop rfl I (fun n s hI => ?_) n h
  show wpAny _ A ((compTurn (.ListComp elt [⟨.Tuple elts x1 tp, iter, [ct], 0⟩] scope pos) 0 it acc env).onRaise (fun x => do noteFrame x env; theTreesLotGoes x)) _ _ s
  refine wpAny_noted ?_
  rw [compTurn_list]
  refine wpAny_bind (wpAny_standAt (wpAny_bind (wpAny_mono (turn n s hI) (fun r s₁ h₁ => ?_) fun _ _ x => x)))
  cases r with
  | none => exact wpAny_pure h₁
  | some v =>
    refine wpAny_bind (wpAny_mono h₁ (fun _ s₁' h₁' => ?_) fun _ _ x => x)
    refine wpAny_bind (wpAny_mono h₁' (fun _ s₂ h₂ => ?_) fun _ _ x => x)
    refine wpAny_bind (wpAny_tests_one (wpAny_mono h₂ (fun ok s₃ h₃ => ?_) fun _ _ x => x))
    cases ok with
    | false => exact wpAny_pure ⟨rfl, h₃⟩
    | true => exact wpAny_bind (wpAny_bind (wpAny_mono h₃ (fun x s₄ h₄ => wpAny_bind (wpAny_mono h₄ (fun _ s₅ h₅ => wpAny_pure (wpAny_pure ⟨rfl, h₅⟩)) fun _ _ x => x)) fun _ _ x => x))
def TEnd (h₀ : Heap) (L : Addr) (m : Str → Option Value) (s₁ : Shared) (led : List (Addr × Obj)) (rest : Value → Prop) (y : Value) (s₂ : Shared) : Prop :=
  ∃ h' tk, s₂ = { s₁ with heap := h', toks := tk } ∧ Fr h₀ L h' m ∧ News h₀ L h' led ∧ rest y
theorem TEnd.intro {h₀ : Heap} {L : Addr} {m : Str → Option Value} {s₁ : Shared} {led all : List (Addr × Obj)} {rest : Value → Prop} {y : Value} {h' : Heap} {tk : Nat} (F : Fr h₀ L h' m) (N : News h₀ L h' all) (sub : ∀ p ∈ led, p ∈ all) (r : rest y) :
    TEnd h₀ L m s₁ led rest y { s₁ with heap := h', toks := tk } := ⟨h', tk, rfl, F, fun p hp => N p (sub p hp), r⟩
def StepPT (prog : Program) (w : World) (A : Around) (h₀ : Heap) (L : Addr) (m : Str → Option Value) (env : Env) (ct elt : PySem.Expr) (x x₂ : Str) (scope : Scope) (cl : List (Str × Addr)) (s : Shared) (its : Array Value) (news : List (Addr × Obj)) (Inv : Nat → List Value → Prop) : Prop :=
  ∀ i ys, i < its.size → Inv i ys → ∀ v, its[i]? = some v → ∃ (t : Addr) (ot : Obj) (v₁ v₂ : Value) (nt : Nat), v = .ref t ∧ (t, ot) ∈ news ∧ ot.cls = .type "tuple" ∧ ot.data = .seq #[v₁, v₂] nt ∧
    ∀ I oI C oC D m₂ h tk (E' : Value → Shared → Prop), NsObj oC m₂ → m₂ x = some v₁ → m₂ x₂ = some v₂ → Fr h₀ L h m → News h₀ L h ((I, oI) :: (C, oC) :: (D, lst ys) :: news) →
      wpAny (model prog w) A (isTrue ct (compEnvC scope cl C env) (eval ct (compEnvC scope cl C env))) (fun ok s' => if ok = true then
        wpAny (model prog w) A (eval elt (compEnvC scope cl C env)) (TEnd h₀ L m { s with heap := h, toks := tk } ((I, oI) :: (C, oC) :: (D, lst ys) :: news) (fun y => Inv (i + 1) (ys ++ [y]))) E' s'
        else TEnd h₀ L m { s with heap := h, toks := tk } ((I, oI) :: (C, oC) :: (D, lst ys) :: news) (fun _ => Inv (i + 1) ys) Value.none s') E' { s with heap := h, toks := tk }

theorem block_pt {ct elt iter : PySem.Expr} {x x₂ : Str} {px px₂ tp : Pos} {tk} {scope : Scope} {cl : List (Str × Addr)} {pos : Pos} {s₂ : Shared} {I ax : Addr} {its : Array Value} {k0 : Nat} {news : List (Addr × Obj)} (Inv : Nat → List Value → Prop) {RR : Value → Addr → Result → Shared → Prop}
    (hsz : its.size ≤ sizeLine) (hcell : ∀ y ∈ scope.names, y.2 ≠ .cell) (hkind : scope.kind = .function) (hx : scope.names.lookup x = some .local) (hx₂ : scope.names.lookup x₂ = some .local) (hxx : x ≠ x₂) (hh : A.handled = none)
    (hIt : s₂.heap.IsListIter I ax 0) (hm : (ax, ({ cls := .type "list", data := .seq its k0 } : Obj)) ∈ news)
    (F : Fr h₀ L s₂.heap m) (N : News h₀ L s₂.heap news) (hIL : L ≠ I) (hI₀ : h₀.get? I = none) (off : ∀ p ∈ news, p.1 ≠ I) (R0 : Inv 0 [])
    (R : StepPT prog w A h₀ L m env ct elt x x₂ scope cl s₂ its news Inv)
    (hRR : ∀ D C h tk m' ys, Fr h₀ L h m → News h₀ L h ((D, lst ys) :: news) → h.Ns C m' → h₀.get? C = none → C ≠ L → C ≠ D → (∀ p ∈ news, p.1 ≠ C) → Inv its.size ys → RR (.ref D) C (.ok .next) { s₂ with heap := h, toks := tk }) :
    wpAny (model prog w) A (newList []) (fun acc s₃ => wpAny (model prog w) A (newFunctionEnv scope env.globals cl [] env.qual none .none (some env)) (fun cenv s₄ =>
      codeAny (model prog w) A (.compStart (.ListComp elt [⟨.Tuple [.Name x px, .Name x₂ px₂] tk tp, iter, [ct], 0⟩] scope pos) 0 (.ref I) acc { cenv with scope := relabel scope env }) (RR acc cenv.locals) s₄) E s₃) E s₂ := by
  have hne : ax ≠ I := off _ hm
  have W := Walks.list (prog := prog) (w := w) hh I ax hne its
  have hLs : s₂.heap.IsList ax its := ⟨_, (N _ hm).1, rfl, _, rfl⟩
  have hIlt : I < s₂.heap.objs.size := by obtain ⟨_, e, _⟩ := hIt; exact Heap.lt_size e
  refine wpAny_newObj_type (wpAny_newFunctionEnv hcell (by intro y hy; simp at hy) (fun h₁ hns₁ hsb₁ => ?_) hkind)
  dsimp only at hns₁ hsb₁ ⊢
  generalize hH2 : s₂.heap.push { cls := .type "list", dict := none, data := .seq ([] : List Value).toArray } = H2 at hns₁ hsb₁ ⊢
  generalize hDz : s₂.heap.objs.size = D at hns₁ hsb₁ hIlt ⊢
  have hCz : H2.objs.size = D + 1 := by rw [← hH2, Heap.size_push, hDz]
  generalize hCy : H2.objs.size = C at hns₁ hsb₁ ⊢
  have hDC : D < C := by rw [← hCy, hCz]; exact Nat.lt_succ_self _
  have low : ∀ b o, s₂.heap.get? b = some o → b < D := fun b o e => hDz ▸ Heap.lt_size e
  have old : ∀ b o, s₂.heap.get? b = some o → h₁.get? b = some o := fun b o e => hsb₁.extBut b o (Nat.ne_of_lt (Nat.lt_trans (low b o e) hDC)) (Heap.get?_push_of_some _ (hH2 ▸ Heap.get?_push_of_some _ e))
  have hacc : h₁.get? D = some (lst []) := hsb₁.extBut _ _ (Nat.ne_of_lt hDC) (Heap.get?_push_of_some _ (hH2 ▸ hDz ▸ Heap.get?_push_size _ rfl))
  have new₀ : ∀ a, D ≤ a → h₀.get? a = none := fun a ha => by
    cases e : h₀.get? a with
    | none => rfl
    | some o' => exact absurd (low a o' (F.keep a o' e)) (Nat.not_lt.mpr ha)
  have hD₀ := new₀ D (Nat.le_refl _)
  have hC₀ := new₀ C (Nat.le_of_lt hDC)
  have hLlt : L < D := hDz ▸ F.ns.lt
  have hDL : D ≠ L := Nat.ne_of_gt hLlt
  have hCL : C ≠ L := Nat.ne_of_gt (Nat.lt_trans hLlt hDC)
  have hCI : C ≠ I := Nat.ne_of_gt (Nat.lt_trans hIlt hDC)
  have hDI : D ≠ I := Nat.ne_of_gt hIlt
  have hCD' : C ≠ D := Nat.ne_of_gt hDC
  have offL : ∀ p ∈ news, p.1 ≠ C ∧ p.1 ≠ D := fun p hp => ⟨Nat.ne_of_lt (Nat.lt_trans (low _ _ (N p hp).1) hDC), Nat.ne_of_lt (low _ _ (N p hp).1)⟩
  have loop : ∀ s₃ : Shared, s₃ = { s₂ with heap := h₁, toks := s₂.toks + ([] : List (Str × Value)).length } →
      codeAny (model prog w) A (.compLoop (.ListComp elt [⟨.Tuple [.Name x px, .Name x₂ px₂] tk tp, iter, [ct], 0⟩] scope pos) 0 (.ref I) (.ref D) (compEnvC scope cl C env)) (RR (.ref D) C) s₃ := by
    rintro s₃ rfl
    refine loop_pt (fun k s' => ∃ h' tk i ys m', s' = { s₂ with heap := h', toks := tk } ∧ i ≤ its.size ∧ k = its.size + 1 - i ∧ ys.length ≤ i ∧ h'.IsListIter I ax i ∧ Fr h₀ L h' m ∧ h'.Ns C m' ∧ News h₀ L h' ((D, lst ys) :: news) ∧ Inv i ys) ?_ (its.size + 1)
      ⟨h₁, _, 0, [], _, rfl, Nat.zero_le _, rfl, Nat.le_refl _, hIt.at fun o e => old _ o e, F.keeps old, hns₁, fun p hp => ?_, R0⟩
    · rintro k s' ⟨h', tk, i, ys, m', rfl, hi, rfl, hyl, hit', F', hn', N', hI'⟩
      have hL' : h'.IsList ax its := ⟨_, (N' _ (.tail _ hm)).1, rfl, _, rfl⟩
      by_cases hlt : i < its.size
      · refine W.item i _ _ _ hlt ⟨hit', hL'⟩ fun v h₂ tk₂ hPv hst₂ hk₂ => ?_
        obtain ⟨t, ot, v₁, v₂, nt, rfl, hmt, hct, hdt, R''⟩ := R i ys hlt hI' v hPv
        have N₂ : News h₀ L h₂ ((D, lst ys) :: news) := news_but N' hk₂ fun p hp => by
          rcases List.mem_cons.mp hp with rfl | hp
          · exact hDI
          · exact off p hp
        have ht : IsTup h₂ t #[v₁, v₂] := ⟨ot, (N₂ _ (.tail _ hmt)).1, hct, nt, hdt⟩
        refine wpAny_letOwnedTupleGo_listiter hst₂.1 ?_
        refine assign_Tuple_tuple hh ht rfl rfl fun h₅ he => ?_
        have he' : ∀ b o, h₂.get? b = some o → h₅.get? b = some o := fun b o e => he b o (Nat.ne_of_lt (Heap.lt_size e)) e
        refine assignInOrder_cons (wpAny_assign_Name (wpAny_storeName_local (lookup_relabel_local hx) ((hn'.at' fun o e => hk₂ _ o (by simpa using hCI) e).at' fun o e => he' _ o e) (fun h₆ hn₆ hs₆ => ?_) (by simp [compEnvC, relabel, hkind])))
        refine assignInOrder_cons (wpAny_assign_Name (wpAny_storeName_local (lookup_relabel_local hx₂) hn₆ (fun h₃ hn₃ hs₃ => ?_) (by simp [compEnvC, relabel, hkind])))
        refine assignInOrder_nil ?_
        have old3 : ∀ b o, b ≠ C → h₂.get? b = some o → h₃.get? b = some o := fun b o hb e => hs₃.extBut b o hb (hs₆.extBut b o hb (he' b o e))
        have hit₃ : h₃.IsListIter I ax (i + 1) := hst₂.1.at fun o e => old3 _ o (Ne.symm hCI) e
        obtain ⟨oI, heI, hoI⟩ := id hit₃
        obtain ⟨oC, heC, hoC⟩ := ns_obj hn₃
        have F₃ : Fr h₀ L h₃ m := (((fr_but F' hk₂ hIL hI₀).keeps he').change hs₆ hCL hC₀).change hs₃ hCL hC₀
        have N₃ : News h₀ L h₃ ((I, oI) :: (C, oC) :: (D, lst ys) :: news) := fun p hp => by
          rcases List.mem_cons.mp hp with rfl | hp
          · exact ⟨heI, Ne.symm hIL, hI₀⟩
          rcases List.mem_cons.mp hp with rfl | hp
          · exact ⟨heC, hCL, hC₀⟩
          have z := N₂ p hp
          refine ⟨old3 _ _ ?_ z.1, z.2⟩
          rcases List.mem_cons.mp hp with rfl | hp
          · exact Ne.symm hCD'
          · exact (offL p hp).1
        refine wpAny_mono (R'' I oI C oC D _ h₃ _ _ hoC (by simp [hxx]) (by simp) F₃ N₃) (fun ok s₄ h₄ => ?_) fun _ _ e => e
        have close : ∀ h₅ tk₅ ys', Fr h₀ L h₅ m → h₅.get? I = some oI → h₅.get? C = some oC → News h₀ L h₅ ((D, lst ys') :: news) → ys'.length ≤ i + 1 → Inv (i + 1) ys' →
            ∃ m_1, m_1 < its.size + 1 - i ∧ ∃ h' tk i ys m', ({ s₂ with heap := h₅, toks := tk₅ } : Shared) = { s₂ with heap := h', toks := tk } ∧ i ≤ its.size ∧ m_1 = its.size + 1 - i ∧ ys.length ≤ i ∧ h'.IsListIter I ax i ∧ Fr h₀ L h' m ∧ h'.Ns C m' ∧ News h₀ L h' ((D, lst ys) :: news) ∧ Inv i ys :=
          fun h₅ tk₅ ys' F₅ e1 e2 N₅ hy₅ hI₅ => ⟨its.size + 1 - (i + 1), by omega, h₅, tk₅, i + 1, ys', _, rfl, hlt, rfl, hy₅, ⟨oI, e1, hoI⟩, F₅, hoC.ns e2, N₅, hI₅⟩
        cases ok with
        | true =>
          simp only [if_true] at h₄ ⊢
          refine wpAny_mono h₄ (fun y s₅ h₅ => ?_) fun _ _ e => e
          obtain ⟨h₄, tk₄, rfl, F₄, N₄, R₄⟩ := h₅
          have zI := (N₄ _ (.head _)).1
          have zC := (N₄ _ (.tail _ (.head _))).1
          have zD := (N₄ _ (.tail _ (.tail _ (.head _)))).1
          refine append_at (hsz := by show ys.toArray.size ≤ sizeLine; rw [List.size_toArray]; omega) zD fun h₅ hs₅ hD₅ => ?_
          refine close h₅ tk₄ (ys ++ [y]) (F₄.change hs₅ hDL hD₀) (hs₅.extBut _ _ (Ne.symm hDI) zI) (hs₅.extBut _ _ hCD' zC) (fun p hp => ?_) (by simp; exact hyl) R₄
          rcases List.mem_cons.mp hp with rfl | hp
          · exact ⟨hD₅.trans (congrArg some (lst_snoc ys y)), hDL, hD₀⟩
          · exact ⟨hs₅.extBut _ _ (offL p hp).2 (N₄ p (.tail _ (.tail _ (.tail _ hp)))).1, (N₄ p (.tail _ (.tail _ (.tail _ hp)))).2⟩
        | false =>
          simp only [Bool.false_eq_true, if_false] at h₄ ⊢
          obtain ⟨h₅, tk₄, rfl, F₄, N₄, R₄⟩ := h₄
          exact close h₅ tk₄ ys F₄ (N₄ _ (.head _)).1 (N₄ _ (.tail _ (.head _))).1 (fun p hp => N₄ p (.tail _ (.tail _ hp))) (by omega) R₄
      · obtain rfl : i = its.size := Nat.le_antisymm hi (Nat.not_lt.mp hlt)
        refine W.done _ _ _ ⟨hit', hL'⟩ fun h₂ tk₂ hk₂ => ?_
        exact hRR _ _ h₂ tk₂ _ ys (fr_but F' hk₂ hIL hI₀) (news_but N' hk₂ fun p hp => by
          rcases List.mem_cons.mp hp with rfl | hp
          · exact hDI
          · exact off p hp) (hn'.at' fun o e => hk₂ _ o (by simpa using hCI) e) hC₀ hCL hCD' (fun p hp => (offL p hp).1) hI'
    · rcases List.mem_cons.mp hp with rfl | hp
      · exact ⟨hacc, hDL, hD₀⟩
      · exact ⟨old _ _ (N p hp).1, (N p hp).2⟩
  exact codeAny_compStart_list (loop _ rfl) (W.self 0 _ _ _ ⟨hIt.at fun o e => old _ o e, hLs.at fun o e => old _ o e⟩ (loop _ rfl))

theorem ListComp_pt {ct elt iter : PySem.Expr} {x x₂ : Str} {px px₂ tp : Pos} {tk} {scope : Scope} {cl : List (Str × Addr)} {pos : Pos} {Q : Value → Shared → Prop} (_F₀ : Fr h₀ L s.heap m)
    (hclos : closureFor scope env = pure cl) (hcell : ∀ y ∈ scope.names, y.2 ≠ .cell) (hkind : scope.kind = .function)
    (hnames : ∀ y ∈ scope.names, y.2 = .local → scope.names.lookup y.1 = some .local) (hx : scope.names.lookup x = some .local) (hx₂ : scope.names.lookup x₂ = some .local) (hxx : x ≠ x₂)
    (h : wpAny (model prog w) A (eval iter env) (fun xv s₁ => ∃ ax its k0 news Inv, xv = .ref ax ∧ A.handled = none ∧ Fr h₀ L s₁.heap m ∧ News h₀ L s₁.heap news ∧ (ax, ({ cls := .type "list", data := .seq its k0 } : Obj)) ∈ news ∧ its.size ≤ sizeLine ∧ Inv 0 [] ∧
      ∀ g, StepPT prog w A h₀ L m env ct elt x x₂ scope cl { s₁ with heap := g } its news Inv ∧ ∀ D h tk ys, Fr h₀ L h m → News h₀ L h ((D, lst ys) :: news) → Inv its.size ys → Q (.ref D) { s₁ with heap := h, toks := tk }) E s)
    (hs : ∀ x, foldedSetIterable iter env x = pure x := by intro _; rfl) :
    wpAny (model prog w) A (eval (.ListComp elt [⟨.Tuple [.Name x px, .Name x₂ px₂] tk tp, iter, [ct], 0⟩] scope pos) env) Q E s := by
  rw [eval_ListComp]
  refine wpAny_comprehension_free (use := none) rfl hs hclos hkind hnames (wpAny_mono h (fun xv s₁ h₁ => ?_) fun _ _ e => e)
  obtain ⟨ax, its, k0, news, Inv, rfl, hh, F, N, hm, hsz, R0, R⟩ := h₁
  have hl : s₁.heap.IsList ax its := ⟨_, (N _ hm).1, rfl, _, rfl⟩
  refine wpAny_pyIter_list hl ?_
  have up : ∀ b o, s₁.heap.get? b = some o → (s₁.heap.push { cls := .type "list_iterator", data := .fields #[.ref ax, .int 0 0] }).get? b = some o := fun b o e => Heap.get?_push_of_some _ e
  refine block_pt Inv hsz hcell hkind hx hx₂ hxx hh ⟨_, Heap.get?_push_size _ rfl, rfl, rfl⟩ hm (F.keeps up) (N.grown up) (Nat.ne_of_lt F.ns.lt) (next_is_new F) (fun p hp => Nat.ne_of_lt (Heap.lt_size (N p hp).1)) R0 (R _).1 ?_
  intro D C h tk m' ys F' N' hn hC₀ hCL hCD offC fin
  refine ⟨m', hn, fun h'' hs'' => (R s₁.heap).2 D h'' tk ys (F'.change hs'' hCL hC₀) (fun p hp => ?_) fin⟩
  refine ⟨hs''.extBut _ _ ?_ (N' p hp).1, (N' p hp).2⟩
  rcases List.mem_cons.mp hp with rfl | hp
  · exact Ne.symm hCD
  · exact offC p hp
end

end Mine

namespace Mine
theorem Good.tail {p : Pc} {ps : List Pc} (g : Good (p :: ps)) : p.2 ≠ [] ∧ 0 ≤ p.1 ∧ p.1 + p.2.length ≤ 16 ∧ (∀ q ∈ ps, p.1 + p.2.length < q.1) ∧ Good ps :=
  ⟨g.ne p (.head _), g.lo p (.head _), g.hi p (.head _), (List.pairwise_cons.mp g.canon).1, g.sub (List.sublist_cons_self p ps)⟩
theorem octs_in {ps : List Pc} {i x : Int} (h : octs ps i = some x) : ∃ q ∈ ps, q.1 ≤ i ∧ i < q.1 + q.2.length := by
  obtain ⟨q, hq, hx⟩ := octs_some h
  exact ⟨q, hq, at1_in hx⟩
theorem octs_mem : ∀ {ps : List Pc} {q : Pc} {i x : Int}, Good ps → q ∈ ps → at1 q i = some x → octs ps i = some x
  | p :: r, q, i, x, g, hq, h => by
    show (at1 p i).or (octs r i) = some x
    rcases List.mem_cons.mp hq with rfl | hq
    · rw [h]; rfl
    · have h1 := g.tail
      have h2 := h1.2.2.2.1 q hq
      have h3 := at1_in h
      rw [at1_none (p := p) (i := i) (by omega), octs_mem h1.2.2.2.2 hq h]; rfl
theorem octs_head {p : Pc} {r : List Pc} (g : Good (p :: r)) : ∃ x, octs (p :: r) p.1 = some x := by
  have h0 : 0 < p.2.length := List.length_pos_iff.mpr g.tail.1
  obtain ⟨x, hx⟩ := at1_some (p := p) (i := p.1) (by omega) (by omega)
  exact ⟨x, octs_mem g (.head _) hx⟩
theorem octs_low {ps : List Pc} {i : Int} (h : ∀ q ∈ ps, i < q.1) : octs ps i = none := octs_none fun q hq => at1_none (by have := h q hq; omega)
theorem octs_off {p : Pc} {r : List Pc} {i : Int} (h : ¬ (p.1 ≤ i ∧ i < p.1 + p.2.length)) : octs (p :: r) i = octs r i := by
  show (at1 p i).or (octs r i) = _
  rw [at1_none h]; rfl
theorem octs_first {p : Pc} {r : List Pc} (g : Good (p :: r)) {i : Int} (h : i ≤ p.1 + p.2.length) : octs (p :: r) i = at1 p i := by
  show (at1 p i).or (octs r i) = _
  rw [octs_low (ps := r) (i := i) fun q hq => by have := g.tail.2.2.2.1 q hq; omega]; simp
theorem start_le {p q : Pc} {ps qs : List Pc} (g : Good (p :: ps)) (k : Good (q :: qs)) (h : ∀ i, octs (p :: ps) i = octs (q :: qs) i) : q.1 ≤ p.1 := by
  obtain ⟨x, hx⟩ := octs_head g
  rw [h] at hx
  obtain ⟨r, hr, h1, _⟩ := octs_in hx
  rcases List.mem_cons.mp hr with rfl | hr
  · exact h1
  · have := k.tail.2.2.2.1 r hr; omega
theorem end_le {p q : Pc} {ps qs : List Pc} (g : Good (p :: ps)) (k : Good (q :: qs)) (h : ∀ i, octs (p :: ps) i = octs (q :: qs) i) (e : p.1 = q.1) : q.2.length ≤ p.2.length := by
  apply Classical.byContradiction
  intro hn
  have h1 := h (p.1 + p.2.length)
  rw [octs_first g (by omega), octs_first k (by omega), at1_none (p := p) (by omega)] at h1
  obtain ⟨x, hx⟩ := at1_some (p := q) (i := p.1 + p.2.length) (by omega) (by omega)
  rw [hx] at h1
  cases h1
theorem canon_uniq : ∀ {ps qs : List Pc}, Good ps → Good qs → (∀ i, octs ps i = octs qs i) → ps = qs
  | [], [], _, _, _ => rfl
  | [], q :: qs, _, k, h => by
    obtain ⟨x, hx⟩ := octs_head k
    rw [← h] at hx; cases hx
  | p :: ps, [], g, _, h => by
    obtain ⟨x, hx⟩ := octs_head g
    rw [h] at hx; cases hx
  | (a, b) :: ps, (c, d) :: qs, g, k, h => by
    have s1 := start_le g k h
    have s2 := start_le k g fun i => (h i).symm
    dsimp only at s1 s2
    obtain rfl : a = c := by omega
    have e1 := end_le g k h rfl
    have e2 := end_le k g (fun i => (h i).symm) rfl
    dsimp only at e1 e2
    have e3 : b = d := by
      apply List.ext_getElem? 
      intro n
      by_cases hn : n < b.length
      · have h1 := h (a + n)
        rw [octs_first g (by dsimp only; omega), octs_first k (by dsimp only; omega)] at h1
        unfold at1 at h1
        dsimp only at h1
        rw [if_pos (by omega), if_pos (by omega)] at h1
        have e4 : (a + (n : Int) - a).toNat = n := by omega
        rwa [e4] at h1
      · rw [List.getElem?_eq_none (by omega), List.getElem?_eq_none (by omega)]
    subst e3
    have g1 := g.tail
    have k1 := k.tail
    rw [canon_uniq g1.2.2.2.2 k1.2.2.2.2 fun i => ?_]
    by_cases hi : i ≤ a + b.length
    · rw [octs_low fun q hq => by have := g1.2.2.2.1 q hq; dsimp only at this; omega, octs_low fun q hq => by have := k1.2.2.2.1 q hq; dsimp only at this; omega]
    · have h1 := h i
      rwa [octs_off (by dsimp only; omega), octs_off (by dsimp only; omega)] at h1

theorem GoodS.tail {p : Sp} {ps : List Sp} (g : GoodS (p :: ps)) : p.1 < p.2 ∧ (∀ q ∈ ps, p.2 < q.1) ∧ GoodS ps :=
  ⟨g.ne p (.head _), (List.pairwise_cons.mp g.canon).1, (List.pairwise_cons.mp g.canon).2, fun q hq => g.ne q (.tail _ hq), fun q hq => g.lo q (.tail _ hq), fun q hq => g.hi q (.tail _ hq)⟩
theorem startS_le {p q : Sp} {ps qs : List Sp} (g : GoodS (p :: ps)) (k : GoodS (q :: qs)) (h : ∀ i, covS (p :: ps) i ↔ covS (q :: qs) i) : q.1 ≤ p.1 := by
  have h0 := g.tail.1
  obtain ⟨r, hr, h1, _⟩ := (h p.1).mp ⟨p, .head _, by omega, by omega⟩
  rcases List.mem_cons.mp hr with rfl | hr
  · exact h1
  · have := k.tail.2.1 r hr
    have := k.tail.1
    omega
theorem endS_le {p q : Sp} {ps qs : List Sp} (g : GoodS (p :: ps)) (h : ∀ i, covS (p :: ps) i ↔ covS (q :: qs) i) (e : p.1 = q.1) : q.2 ≤ p.2 := by
  apply Classical.byContradiction
  intro hn
  have h0 := g.tail.1
  obtain ⟨r, hr, h1, h2⟩ := (h p.2).mpr ⟨q, .head _, by omega, by omega⟩
  rcases List.mem_cons.mp hr with rfl | hr
  · omega
  · have := g.tail.2.1 r hr; omega
theorem covS_cons {p : Sp} {ps : List Sp} {i : Int} : covS (p :: ps) i ↔ (p.1 ≤ i ∧ i < p.2) ∨ covS ps i := by
  unfold covS
  simp
theorem spans_uniq : ∀ {ps qs : List Sp}, GoodS ps → GoodS qs → (∀ i, covS ps i ↔ covS qs i) → ps = qs
  | [], [], _, _, _ => rfl
  | [], q :: qs, _, k, h => by
    have := k.tail.1
    exact absurd ((h q.1).mpr ⟨q, .head _, by omega, by omega⟩) covS_nil.mp
  | p :: ps, [], g, _, h => by
    have := g.tail.1
    exact absurd ((h p.1).mp ⟨p, .head _, by omega, by omega⟩) covS_nil.mp
  | (a, b) :: ps, (c, d) :: qs, g, k, h => by
    have s1 := startS_le g k h
    have s2 := startS_le k g fun i => (h i).symm
    dsimp only at s1 s2
    obtain rfl : a = c := by omega
    have e1 := endS_le g h rfl
    have e2 := endS_le k (fun i => (h i).symm) rfl
    dsimp only at e1 e2
    obtain rfl : b = d := by omega
    have g1 := g.tail
    have k1 := k.tail
    rw [spans_uniq g1.2.2 k1.2.2 fun i => ?_]
    have h1 := h i
    rw [covS_cons, covS_cons] at h1
    dsimp only at h1 g1 k1
    constructor
    · intro hc
      obtain ⟨r, hr, h2, h3⟩ := id hc
      have := g1.2.1 r hr
      exact (h1.mp (.inr hc)).resolve_left (by omega)
    · intro hc
      obtain ⟨r, hr, h2, h3⟩ := id hc
      have := k1.2.1 r hr
      exact (h1.mpr (.inr hc)).resolve_left (by omega)

def spanOf (ps : List Pc) : List Sp := ps.map fun p => (p.1, p.1 + (p.2.length : Int))
theorem spanOf_good {ps : List Pc} (g : Good ps) : GoodS (spanOf ps) where
  canon := List.pairwise_map.mpr g.canon
  ne := fun p hp => by
    obtain ⟨q, hq, rfl⟩ := List.mem_map.mp hp
    have := List.length_pos_iff.mpr (g.ne q hq)
    dsimp only; omega
  lo := fun p hp => by
    obtain ⟨q, hq, rfl⟩ := List.mem_map.mp hp
    exact g.lo q hq
  hi := fun p hp => by
    obtain ⟨q, hq, rfl⟩ := List.mem_map.mp hp
    exact g.hi q hq
theorem spanOf_cov {ps : List Pc} {i : Int} : covS (spanOf ps) i ↔ octs ps i ≠ none := by
  constructor
  · rintro ⟨p, hp, h1, h2⟩ hn
    obtain ⟨q, hq, rfl⟩ := List.mem_map.mp hp
    obtain ⟨x, hx⟩ := at1_some (p := q) h1 h2
    rw [octs_none_iff.mp hn q hq] at hx
    cases hx
  · intro hn
    cases e : octs ps i with
    | none => exact absurd e hn
    | some x =>
      obtain ⟨q, hq, h1, h2⟩ := octs_in e
      exact ⟨_, List.mem_map.mpr ⟨q, hq, rfl⟩, h1, h2⟩
theorem or_ne_none {α : Type} {a b : Option α} : a.or b ≠ none ↔ a ≠ none ∨ b ≠ none := by cases a <;> cases b <;> simp

def highOf (ps : List Pc) : Int := ps.getLast?.elim 0 fun p => p.1 + p.2.length
theorem high_spec {ps : List Pc} (g : Good ps) : 0 ≤ highOf ps ∧ (∀ i, highOf ps ≤ i → octs ps i = none) ∧ (highOf ps = 0 ∨ octs ps (highOf ps - 1) ≠ none) := by
  rcases List.eq_nil_or_concat ps with rfl | ⟨l, p, rfl⟩
  · exact ⟨Int.le_refl _, fun _ _ => rfl, .inl rfl⟩
  · have e : highOf (l.concat p) = p.1 + p.2.length := by simp [highOf]
    rw [e]
    rw [List.concat_eq_append] at g ⊢
    have hm : p ∈ l ++ [p] := by simp
    have h1 := g.lo p hm
    have h2 := List.length_pos_iff.mpr (g.ne p hm)
    have h3 := (List.pairwise_append.mp g.canon).2.2
    refine ⟨by omega, fun i hi => octs_none fun q hq => at1_none ?_, .inr fun hn => ?_⟩
    · rcases List.mem_append.mp hq with hq | hq
      · have := h3 q hq p (by simp); omega
      · rw [List.mem_singleton.mp hq]; omega
    · obtain ⟨x, hx⟩ := at1_some (p := p) (i := p.1 + p.2.length - 1) (by omega) (by omega)
      rw [octs_none_iff.mp hn p hm] at hx
      cases hx
theorem high_uniq {f : Int → Option Int} {h k : Int} (h0 : 0 ≤ h) (h1 : ∀ i, h ≤ i → f i = none) (h2 : h = 0 ∨ f (h - 1) ≠ none) (k0 : 0 ≤ k) (k1 : ∀ i, k ≤ i → f i = none) (k2 : k = 0 ∨ f (k - 1) ≠ none) : h = k := by
  apply Classical.byContradiction
  intro hn
  rcases Int.lt_or_gt_of_ne hn with hl | hl
  · rcases k2 with k2 | k2
    · omega
    · exact k2 (h1 _ (by omega))
  · rcases h2 with h2 | h2
    · omega
    · exact h2 (k1 _ (by omega))
theorem high_max {a b c : List Pc} (ga : Good a) (gb : Good b) (gc : Good c) (h : ∀ i, octs c i = (octs a i).or (octs b i)) : highOf c = max (highOf a) (highOf b) := by
  obtain ⟨a0, a1, a2⟩ := high_spec ga
  obtain ⟨b0, b1, b2⟩ := high_spec gb
  obtain ⟨c0, c1, c2⟩ := high_spec gc
  refine high_uniq (f := octs c) c0 c1 c2 (by omega) (fun i hi => ?_) ?_
  · rw [h, a1 i (by omega), b1 i (by omega)]; rfl
  · rcases Int.le_total (highOf a) (highOf b) with hl | hl
    · rw [Int.max_eq_right hl]
      refine b2.imp id fun hb => ?_
      rw [h]; exact or_ne_none.mpr (.inr hb)
    · rw [Int.max_eq_left hl]
      refine a2.imp id fun ha => ?_
      rw [h]; exact or_ne_none.mpr (.inl ha)

theorem alike_iff {a b c d : List Pc} (ga : Good a) (gb : Good b) (gc : Good c) (gd : Good d) (hc : ∀ i, octs c i = (octs a i).or (octs b i)) (hd : ∀ i, octs d i = (octs b i).or (octs a i)) :
    c = d ↔ ∀ p ∈ b, ∀ q ∈ a, ∀ i x y, at1 q i = some x → at1 p i = some y → x = y := by
  constructor
  · rintro rfl p hp q hq i x y hx hy
    have e := hc i
    rw [hd i, octs_mem ga hq hx, octs_mem gb hp hy] at e
    simpa using e.symm
  · intro h
    refine canon_uniq gc gd fun i => ?_
    rw [hc, hd]
    cases ea : octs a i with
    | none => simp
    | some x =>
      cases eb : octs b i with
      | none => simp
      | some y =>
        obtain ⟨q, hq, hx⟩ := octs_some ea
        obtain ⟨p, hp, hy⟩ := octs_some eb
        rw [h p hp q hq i x y hx hy]

def foundOf (ps : List Pc) (k : Int) : List Int := ps.foldl (fun acc p => if p.1 ≤ k ∧ k < p.1 + p.2.length then p.2.drop (k - p.1).toNat else acc) []
theorem found_keep {k : Int} : ∀ (r : List Pc) (acc : List Int), (∀ q ∈ r, k < q.1) → r.foldl (fun acc p => if p.1 ≤ k ∧ k < p.1 + p.2.length then p.2.drop (k - p.1).toNat else acc) acc = acc
  | [], _, _ => rfl
  | q :: r, acc, h => by
    have h1 := h q (.head _)
    rw [List.foldl_cons, if_neg (by omega)]
    exact found_keep r acc fun p hp => h p (.tail _ hp)
theorem filter_all {k : Int} {r : List Pc} (h : ∀ q ∈ r, k < q.1) : (r.filter fun p => decide (k < p.1)) = r := List.filter_eq_self.mpr fun q hq => decide_eq_true (h q hq)
theorem take_spec {ps : List Pc} (g : Good ps) {k : Int} (h0 : 0 ≤ k) (h1 : k < 16) (hk : ∀ i, i < k → octs ps i = none) :
    k + (foundOf ps k).length ≤ 16 ∧ (∀ i, (at1 (k, foundOf ps k) i).or (octs (ps.filter fun p => decide (k < p.1)) i) = octs ps i) ∧ octs ps (k + (foundOf ps k).length) = none := by
  have hs : ∀ p ∈ ps, k ≤ p.1 := fun p hp => by
    apply Classical.byContradiction
    intro hn
    have h2 := List.length_pos_iff.mpr (g.ne p hp)
    obtain ⟨x, hx⟩ := at1_some (p := p) (i := p.1) (by omega) (by omega)
    rw [octs_none_iff.mp (hk p.1 (by omega)) p hp] at hx
    cases hx
  have none0 : ∀ i, at1 (k, []) i = none := fun i => at1_none (by rintro ⟨_, h⟩; simp at h; omega)
  by_cases ha : ∀ q ∈ ps, k < q.1
  · have e1 : foundOf ps k = [] := found_keep ps [] ha
    rw [e1, filter_all ha]
    refine ⟨by simp; omega, fun i => by rw [none0]; rfl, octs_low fun q hq => by have := ha q hq; simpa using this⟩
  · cases ps with
    | nil => exact absurd (fun q hq => nomatch hq) ha
    | cons p r =>
      have g1 := g.tail
      have h2 : ∀ q ∈ r, k < q.1 := fun q hq => by
        have := g1.2.2.2.1 q hq
        have := hs p (.head _)
        omega
      have h3 : p.1 = k := by
        have := hs p (.head _)
        apply Classical.byContradiction
        intro hn
        exact ha fun q hq => by
          rcases List.mem_cons.mp hq with rfl | hq
          · omega
          · exact h2 q hq
      have h4 := List.length_pos_iff.mpr g1.1
      have e1 : foundOf (p :: r) k = p.2 := by
        unfold foundOf
        rw [List.foldl_cons, if_pos (by omega), found_keep r _ h2, h3]
        simp
      have e2 : ((p :: r).filter fun p => decide (k < p.1)) = r := by
        rw [List.filter_cons, if_neg (by simp; omega)]
        exact filter_all h2
      rw [e1, e2, ← h3]
      exact ⟨g1.2.2.1, fun i => rfl, by rw [octs_first g (Int.le_refl _)]; exact at1_none (by omega)⟩
theorem Good.filter {ps : List Pc} (g : Good ps) (f : Pc → Bool) : Good (ps.filter f) := g.sub List.filter_sublist

end Mine

namespace Mine
open PySem PySem.W PySem.Spec PySem.Calls PyProof.Rows PyProof.Rows.LCg PyProof.Rows.LCp
def Kept (xs : List (Addr × List Pc)) (l : List (Addr × Obj)) : Prop := ∀ q ∈ xs, (∃ vs c, (q.1, W.listOf vs.toArray c) ∈ l ∧ PcAll l vs q.2) ∧ Good q.2
theorem Kept.mono {xs : List (Addr × List Pc)} {l l' : List (Addr × Obj)} (K : Kept xs l) (h : ∀ p ∈ l, p ∈ l') : Kept xs l' := fun q hq => by
  obtain ⟨⟨vs, c, hm, hP⟩, g⟩ := K q hq
  exact ⟨⟨vs, c, h _ hm, hP.mono h⟩, g⟩
theorem Kept.cons {xs : List (Addr × List Pc)} {l l' : List (Addr × Obj)} (K : Kept xs l) (h : ∀ p ∈ l, p ∈ l') {D : Addr} {vs : List Value} {c : Nat} {ps : List Pc} (hm : (D, W.listOf vs.toArray c) ∈ l') (hP : PcAll l' vs ps) (g : Good ps) : Kept ((D, ps) :: xs) l' := fun q hq => by
  rcases List.mem_cons.mp hq with rfl | hq
  · exact ⟨⟨vs, c, hm, hP⟩, g⟩
  · exact K.mono h q hq
section
variable {w : World} {mean : ExcName → Option Value} {mg mb : Str → Option Value} {dp un : Nat} {gd : Option (List Code)} {cn : Str} {cs : Scope} {a : Addr} {ccd : Value} {cl : List (Str × Addr)} {outer : List Env} {A₀ : Around} {base h₀ : Heap} {L : Addr} {m : Str → Option Value} {s : Shared} {Q E : Value → Shared → Prop}
variable {xs : List (Addr × List Pc)} {l : List (Addr × Obj)} {x y : Addr} {p q : List Pc}
theorem behind_use (K : Kept xs l) (hx : (x, p) ∈ xs) (hy : (y, q) ∈ xs) (B : Below A₀ base outer h₀) (F : Fr h₀ L s.heap m) (X : (hd.heap_39 w.params).In h₀) (N : News h₀ L s.heap l) (T : Top hd.view_39 (looseW hd.view_39 []) mean mg mb h₀) (hk : cs.kind = .function) (hd : dp + 4 < recursionLimit) (hu : un + 60 < cLine)
    (ret : ∀ D r l' h' tk', Fr h₀ L h' m → News h₀ L h' l' → (∀ p ∈ l, p ∈ l') → Kept ((D, r) :: xs) l' → (∀ i, octs r i = (octs p i).or (octs q i)) → Q (.ref D) { s with heap := h', toks := tk' }) :
    wpAny (model PySem.Challenge.rw_sa0561_01.row.prog w) (ktrTop dp un gd cn cs L a ccd cl outer) (call (.ref 75) [.ref x, .ref y]) Q E s := by
  obtain ⟨⟨vs, c, hm, hP⟩, g⟩ := K _ hx
  obtain ⟨⟨vs2, c2, hm2, hP2⟩, g2⟩ := K _ hy
  refine does_use (behind_does w l x y vs vs2 c c2 p q hm hP g hm2 hP2 g2) B F X N T hk hd hu ?_
  rintro r news' h' tk' F' N' ⟨gr, D, vs', c', ps', rfl, hm', hP', g', ho⟩
  exact ret D ps' news' h' tk' F' N' gr.sub (K.cons gr.sub hm' hP' g') ho
theorem cut_use {place : Int} {tp : Tok} (K : Kept xs l) (hx : (x, p) ∈ xs) (hp0 : 0 ≤ place) (B : Below A₀ base outer h₀) (F : Fr h₀ L s.heap m) (X : (hd.heap_39 w.params).In h₀) (N : News h₀ L s.heap l) (T : Top hd.view_39 (looseW hd.view_39 []) mean mg mb h₀) (hk : cs.kind = .function) (hd : dp + 4 < recursionLimit) (hu : un + 60 < cLine)
    (ret : ∀ T' n' D1 D2 r1 r2 l' h' tk', Fr h₀ L h' m → News h₀ L h' l' → (∀ p ∈ l, p ∈ l') → (T', tupO [.ref D1, .ref D2] n') ∈ l' → Kept ((D1, r1) :: (D2, r2) :: xs) l' → (∀ k, octs r1 k = if k < place then octs p k else none) → (∀ k, octs r2 k = if k < place then none else octs p k) → Q (.ref T') { s with heap := h', toks := tk' }) :
    wpAny (model PySem.Challenge.rw_sa0561_01.row.prog w) (ktrTop dp un gd cn cs L a ccd cl outer) (call (.ref 87) [.ref x, .int place tp]) Q E s := by
  obtain ⟨⟨vs, c, hm, hP⟩, g⟩ := K _ hx
  refine does_use (cut_does w l x vs c p place tp hm hP g hp0) B F X N T hk hd hu ?_
  rintro r news' h' tk' F' N' ⟨gr, T', n', fl, flv, el, fh, fhv, eh, lw, hg, rfl, hT, hm1, hP1, g1, hm2, hP2, g2, o1, o2⟩
  exact ret T' n' fl fh lw hg news' h' tk' F' N' gr.sub hT ((K.cons gr.sub hm2 hP2 g2).cons (fun _ h => h) hm1 hP1 g1) o1 o2
theorem taken_use {k : Int} {tp : Tok} (K : Kept xs l) (hx : (x, p) ∈ xs) (B : Below A₀ base outer h₀) (F : Fr h₀ L s.heap m) (X : (hd.heap_39 w.params).In h₀) (N : News h₀ L s.heap l) (T : Top hd.view_39 (looseW hd.view_39 []) mean mg mb h₀) (hk : cs.kind = .function) (hd : dp + 2 < recursionLimit) (hu : un + 40 < cLine)
    (ret : ∀ T' n' fb ft D l' h' tk', Fr h₀ L h' m → News h₀ L h' l' → (∀ p ∈ l, p ∈ l') → (T', tupO [.bytes fb ft, .ref D] n') ∈ l' → KBw.bInts fb = foundOf p k → Kept ((D, p.filter fun q => decide (k < q.1)) :: xs) l' → Q (.ref T') { s with heap := h', toks := tk' }) :
    wpAny (model PySem.Challenge.rw_sa0561_01.row.prog w) (ktrTop dp un gd cn cs L a ccd cl outer) (call (.ref 28) [.ref x, .int k tp]) Q E s := by
  obtain ⟨⟨vs, c, hm, hP⟩, g⟩ := K _ hx
  refine does_use (taken_from_does w l x vs c p k tp hm hP g g.len) B F X N T hk hd hu ?_
  rintro r news' h' tk' F' N' ⟨gr, T', fb, ft, D, n', lvs, c', rfl, hT, hfb, hm1, hP1⟩
  exact ret T' n' fb ft D news' h' tk' F' N' gr.sub hT hfb (K.cons gr.sub hm1 hP1 (g.filter _))
theorem high_use (K : Kept xs l) (hx : (x, p) ∈ xs) (B : Below A₀ base outer h₀) (F : Fr h₀ L s.heap m) (X : (hd.heap_39 w.params).In h₀) (N : News h₀ L s.heap l) (T : Top hd.view_39 (looseW hd.view_39 []) mean mg mb h₀) (hk : cs.kind = .function) (hd : dp + 2 < recursionLimit) (hu : un + 40 < cLine)
    (ret : ∀ t l' h' tk', Fr h₀ L h' m → News h₀ L h' l' → (∀ p ∈ l, p ∈ l') → Q (.int (highOf p) t) { s with heap := h', toks := tk' }) :
    wpAny (model PySem.Challenge.rw_sa0561_01.row.prog w) (ktrTop dp un gd cn cs L a ccd cl outer) (call (.ref 35) [.ref x]) Q E s := by
  obtain ⟨⟨vs, c, hm, hP⟩, g⟩ := K _ hx
  refine does_use (highest_of_does w l x vs c p hm hP g g.len) B F X N T hk hd hu ?_
  rintro r news' h' tk' F' N' ⟨gr, t, rfl⟩
  exact ret t news' h' tk' F' N' gr.sub
theorem octet_use {k : Int} {tp : Tok} (K : Kept xs l) (hx : (x, p) ∈ xs) (hn : octs p k = none) (B : Below A₀ base outer h₀) (F : Fr h₀ L s.heap m) (X : (hd.heap_39 w.params).In h₀) (N : News h₀ L s.heap l) (T : Top hd.view_39 (looseW hd.view_39 []) mean mg mb h₀) (hk : cs.kind = .function) (hd : dp + 2 < recursionLimit) (hu : un + 40 < cLine)
    (ret : ∀ l' h' tk', Fr h₀ L h' m → News h₀ L h' l' → (∀ p ∈ l, p ∈ l') → Q .none { s with heap := h', toks := tk' }) :
    wpAny (model PySem.Challenge.rw_sa0561_01.row.prog w) (ktrTop dp un gd cn cs L a ccd cl outer) (call (.ref 47) [.ref x, .int k tp]) Q E s := by
  obtain ⟨⟨vs, c, hm, hP⟩, g⟩ := K _ hx
  refine does_use (octet_at_does w l x vs c p k tp hm hP g) B F X N T hk hd hu ?_
  rintro r news' h' tk' F' N' ⟨gr, ⟨_, rfl⟩ | ⟨hc, _⟩⟩
  · exact ret news' h' tk' F' N' gr.sub
  · exact absurd hn hc
theorem cov_use (K : Kept xs l) (hx : (x, p) ∈ xs) (B : Below A₀ base outer h₀) (F : Fr h₀ L s.heap m) (X : (hd.heap_39 w.params).In h₀) (N : News h₀ L s.heap l) (T : Top hd.view_39 (looseW hd.view_39 []) mean mg mb h₀) (hk : cs.kind = .function) (hd : dp + 2 < recursionLimit) (hu : un + 40 < cLine)
    (ret : ∀ D vs c l' h' tk', Fr h₀ L h' m → News h₀ L h' l' → (∀ p ∈ l, p ∈ l') → (D, W.listOf vs.toArray c) ∈ l' → SpAll l' vs (spanOf p) → Q (.ref D) { s with heap := h', toks := tk' }) :
    wpAny (model PySem.Challenge.rw_sa0561_01.row.prog w) (ktrTop dp un gd cn cs L a ccd cl outer) (call (.ref 40) [.ref x]) Q E s := by
  obtain ⟨⟨vs, c, hm, hP⟩, g⟩ := K _ hx
  refine does_use (covered_does w l x vs c p hm hP g) B F X N T hk hd hu ?_
  rintro r news' h' tk' F' N' ⟨gr, D, vs', c', rfl, hm', hS⟩
  exact ret D vs' c' news' h' tk' F' N' gr hm' hS
theorem add_use {o : Int} {d : Array UInt8} {t t' : Tok} {dl : List Int} (K : Kept xs l) (hx : (x, p) ∈ xs) (hd' : KBw.bInts d = dl) (ho : 0 ≤ o) (hod : o + dl.length ≤ 16) (B : Below A₀ base outer h₀) (F : Fr h₀ L s.heap m) (X : (hd.heap_39 w.params).In h₀) (N : News h₀ L s.heap l) (T : Top hd.view_39 (looseW hd.view_39 []) mean mg mb h₀) (hk : cs.kind = .function) (hd : dp + 2 < recursionLimit) (hu : un + 40 < cLine)
    (ret : ∀ D r l' h' tk', Fr h₀ L h' m → News h₀ L h' l' → (∀ p ∈ l, p ∈ l') → Kept ((D, r) :: xs) l' → (∀ i, octs r i = (octs p i).or (at1 (o, dl) i)) → Q (.ref D) { s with heap := h', toks := tk' }) :
    wpAny (model PySem.Challenge.rw_sa0561_01.row.prog w) (ktrTop dp un gd cn cs L a ccd cl outer) (call (.ref 21) [.ref x, .int o t, .bytes d t']) Q E s := by
  obtain ⟨⟨vs, c, hm, hP⟩, g⟩ := K _ hx
  refine does_use (add_piece_does w l x vs c p o d t t' dl hm hP hd' g ho hod g.len) B F X N T hk hd hu ?_
  rintro r news' h' tk' F' N' ⟨gr, D, vs', c', ps', rfl, hm', hP', g', ho'⟩
  exact ret D ps' news' h' tk' F' N' gr.sub (K.cons gr.sub hm' hP' g') ho'
end
section
variable {prog : Program} {w : World} {A : Around} {E : Value → Shared → Prop} {Q : Value → Shared → Prop} {s : Shared} {h₀ : Heap} {L : Addr} {xs : List (Addr × List Pc)} {l : List (Addr × Obj)} {x y : Addr} {p q : List Pc}
theorem same_use (K : Kept xs l) (hx : (x, p) ∈ xs) (hy : (y, q) ∈ xs) (N : News h₀ L s.heap l) (hu : A.units + 2 < cLine) (h : ∀ i, octs p i = octs q i) (ret : Q (.bool false) s) : wpAny (model prog w) A (compareOp .NotEq (.ref x) (.ref y)) Q E s := by
  obtain ⟨⟨vs, c, hm, hP⟩, g⟩ := K _ hx
  obtain ⟨⟨vs2, c2, hm2, hP2⟩, g2⟩ := K _ hy
  refine pcs_ne N hm hP hm2 hP2 hu ?_
  rw [canon_uniq g g2 h, decide_eq_true rfl]
  exact ret
theorem eq_use (K : Kept xs l) (hx : (x, p) ∈ xs) (hy : (y, q) ∈ xs) (N : News h₀ L s.heap l) (hu : A.units + 2 < cLine) (ret : Q (.bool (decide (p = q))) s) : wpAny (model prog w) A (compareOp .Eq (.ref x) (.ref y)) Q E s := by
  obtain ⟨⟨vs, c, hm, hP⟩, g⟩ := K _ hx
  obtain ⟨⟨vs2, c2, hm2, hP2⟩, g2⟩ := K _ hy
  exact pcs_eq N hm hP hm2 hP2 hu ret
end

end Mine

namespace Mine
open PySem PySem.W PySem.Spec PySem.Calls PyProof.Rows PyProof.Rows.LCg PyProof.Rows.LCp
local macro_rules | `(tactic| k_mem) => `(tactic| first | assumption | (refine List.mem_append.mpr (Or.inr ?_); k_mem))
local macro_rules | `(tactic| k_all) => `(tactic| assumption)
local macro_rules | `(tactic| walk_at "eval ListComp") => `(tactic| (refine wait_comp ?_))
local macro_rules | `(tactic| walk_at "call type:range") => `(tactic| ((with_reducible show wpAny _ _ (call (Value.type "range") _) _ _ _); refine range1_rows (by assumption) (by assumption) ?_; intro _ _ _ _ _ rgX F' N' rgK; (try dsimp only)))
theorem law_units (e : Env) : (callerA.deeper e).units + 2 < cLine := by
  simp [Around.deeper, callerA, cLine]
local macro_rules | `(tactic| walk_at "exec For Tuple Call cons nil") => `(tactic| (k_here; (rename Fr _ _ _ _ => lF'); (with_unfolding_all refine' For_turns lF' ?_); k_whole))
local macro_rules | `(tactic| walk_at "PostT") => `(tactic| (dsimp only [PostT]))
theorem SpAll.strip {q : Addr × Obj} {tl nx : List (Addr × Obj)} {vs : List Value} {ps : List Sp} (h : SpAll (tl ++ q :: nx) vs ps) (hc : q.2.cls = .type "list_iterator") : SpAll (tl ++ nx) vs ps := by
  induction h with
  | nil => exact .nil
  | cons h1 _ ih =>
    refine .cons ?_ ih
    cases h1 with
    | mk hm => exact .mk (strip_mem hm (by rw [hc]; show Value.type "tuple" ≠ Value.type "list_iterator"; decide))
def JSp (base : List (Addr × Obj)) (sa sb : List Sp) (fx : List (Str × Value)) (_I : Addr) (i : Nat) (m : Str → Option Value) (nx : List (Addr × Obj)) : Prop :=
  ∃ D vs c sp, (∀ p ∈ base, p ∈ nx) ∧ (D, listOf vs.toArray c) ∈ nx ∧ SpAll nx vs sp ∧ GoodS sp ∧ (∀ j, covS sp j ↔ covS sa j ∨ covS (sb.take i) j) ∧ ∀ p ∈ ((Str.ofString "spans", Value.ref D) :: fx), m p.1 = some p.2
local macro_rules | `(tactic| walk_at "compareOp NotEq int int") => `(tactic| (refine wait_cmp ?_))
theorem max_if (a b : Int) : max a b = if b > a then b else a := by split <;> omega
theorem ne_bools {prog : Program} {w : World} {A : Around} {E : Value → Shared → Prop} {Q : Value → Shared → Prop} {s : Shared} {x y : Bool} (e : x = y) (h : Q (.bool false) s) : wpAny (model prog w) A (compareOp .NotEq (.bool x) (.bool y)) Q E s :=
  SeqAt.RcNeAt.bool_bool x y prog w E Q (by subst e; simpa using h)
local macro_rules | `(tactic| walk_at "compareOp NotEq bool bool") => `(tactic| (refine wait_cmp ?_))
theorem wait_call {M : Model} {A : Around} {E : Value → Shared → Prop} {s : Shared} {f : Addr} {vs : List Value} {Q : Value → Shared → Prop} (h : Wait (wpAny M A (call (.ref f) vs) Q E s)) : wpAny M A (call (.ref f) vs) Q E s := h
local macro_rules | `(tactic| walk_at "call ref") => `(tactic| (refine wait_call ?_))
theorem wait_cmp {M : Model} {A : Around} {E : Value → Shared → Prop} {s : Shared} {op : CmpOp} {a b : Value} {Q : Value → Shared → Prop} (h : Wait (wpAny M A (compareOp op a b) Q E s)) : wpAny M A (compareOp op a b) Q E s := h
local macro_rules | `(tactic| walk_at "compareOp NotEq ref ref") => `(tactic| (refine wait_cmp ?_))
local macro_rules | `(tactic| walk_at "compareOp Eq ref ref") => `(tactic| (refine wait_cmp ?_))
def LotIn (l : List (Addr × Obj)) (v : Value) (ps : List Pc) : Prop := ∃ D vs c, v = .ref D ∧ (D, W.listOf vs.toArray c) ∈ l ∧ PcAll l vs ps ∧ Good ps
theorem LotIn.sub {l l' : List (Addr × Obj)} {v : Value} {ps : List Pc} (h : LotIn l v ps) (hs : ∀ p ∈ l, p ∈ l') : LotIn l' v ps := by
  obtain ⟨D, vs, c, rfl, hm, hP, g⟩ := h
  exact ⟨D, vs, c, rfl, hs _ hm, hP.mono hs, g⟩
theorem PcAll.subD {l l' : List (Addr × Obj)} {vs : List Value} {ps : List Pc} (h : PcAll l vs ps) (hs : ∀ p ∈ l, (∀ v, p.2.data ≠ .cell v) → p ∈ l') : PcAll l' vs ps := by
  induction h with
  | nil => exact .nil
  | cons h1 _ ih =>
    refine .cons ?_ ih
    cases h1 with
    | mk hm hb => exact .mk (hs _ hm fun _ e => nomatch e) hb
theorem LotIn.subD {l l' : List (Addr × Obj)} {v : Value} {ps : List Pc} (h : LotIn l v ps) (hs : ∀ p ∈ l, (∀ v, p.2.data ≠ .cell v) → p ∈ l') : LotIn l' v ps := by
  obtain ⟨D, vs, c, rfl, hm, hP, g⟩ := h
  exact ⟨D, vs, c, rfl, hs _ hm fun _ e => (nomatch e), hP.subD hs, g⟩
def JR (pa ca : Addr) (base : List (Addr × Obj)) (j : Nat) (ys : List Value) (nx : List (Addr × Obj)) : Prop :=
  ∃ k t e tl, nx = (pa, poolO ca k t e) :: (tl ++ base) ∧ (∀ p ∈ tl, p.1 ≠ pa ∧ ∀ q ∈ base, p.1 ≠ q.1) ∧ 0 ≤ k ∧ k ≤ 19 * j ∧ ys.length = j ∧ ∀ y ∈ ys, ∃ ps, LotIn (tl ++ base) y ps
set_option maxHeartbeats 1000000 in
theorem row : PySem.Challenge.rw_sa0561_01.Holds := by
  refine hd ?_
  k_go0
  all_goals (try k_fold)
  rename Fr _ _ _ _ => F0
  rename News _ _ _ _ => N0
  rename CellsAre _ _ _ => X0
  clear X0
  rename_i oc1 oc0 c1 c0
  have d1 : oc1.data = .cell none := c1
  have d0 : oc0.data = .cell none := c0
  clear c1 c0
  rename IntsAre _ _ => hI
  rename List Int => ns
  rename World => w
  rename Heap.IsList _ _ _ => hS
  rename_i sa sv _ ra w1 r0 hr hlen _ _ hD h1 tk1
  rename Shared => s₁
  clear ra w1 r0 hr hD
  have hlen : ns.length ≤ 63 := by omega
  obtain ⟨m0, F1⟩ : ∃ m0, Fr _ _ _ (ovr [(Str.ofString "script", Value.ref sa)] m0) := ⟨_, frOvr _ F0 (List.forall_mem_cons.mpr ⟨by rfl, List.forall_mem_nil _⟩)⟩
  simp only [ovr] at F1
  clear F0
  k_steps
  unfold Wait
  rename Fr _ _ _ _ => F0
  refine LCg.ListComp_U (F₀ := F0) (by with_unfolding_all rfl) (by decide) (by rfl) (by decide) (by rfl) (wait_post ?_)
  k_steps
  unfold Wait
  rename_i D1 vs1 h2 F2 N2 hI1 _ _ l1
  have hz1 := hI1.length
  refine CompSrc.ledger (by rfl) F2 N2 (.head _) (by rw [sizeLine_eq]; simp at hz1 ⊢; omega) ?_
  intro gh
  refine compRest_ind (fun j ys nx => nx = [(D1, W.listOf vs1.toArray 0), (s₁.heap.objs.size + 1 + 1, oc1), (s₁.heap.objs.size + 1, oc0)] ∧ IntsAre ys ((ns.take 40).take j)) ⟨rfl, .nil⟩ ?_ ?_
  · rintro ys nx ⟨rfl, hys⟩ D h tk F3 N3 o1
    (try dsimp only)
    have hk := hys.length
    simp only [LCg.Off1, and_true] at o1
    k_steps
    rename Fr _ _ _ _ => F4
    rename News _ _ _ _ => N4
    unfold Wait
    refine LCg.ListComp_U (F₀ := F4) (by with_unfolding_all rfl) (by decide) (by rfl) (by decide) (by rfl) (wait_post ?_)
    k_steps
    unfold Wait
    rename_i tkP pa h5 l1 h6 o1' d1' h7 tk7 t7 u7 v7 rgX F5 N5 rgK
    clear F4 N4
    obtain ⟨bs, hmD, hmP, N6, hbA, hbP⟩ : ∃ bs : List (Addr × Obj), (D, W.listOf ys.toArray ys.length) ∈ bs ∧ (s₁.heap.objs.size + 1, o1') ∈ bs ∧ News s₁.heap s₁.heap.objs.size h7 ((pa, poolO D 0 tkP 0) :: (s₁.heap.objs.size + 1 + 1, oc1) :: bs) ∧ (∀ q ∈ bs, q.1 ≠ s₁.heap.objs.size + 1 + 1) ∧ (∀ q ∈ bs, q.1 ≠ pa) := by
      refine ⟨[(D, lst ys), (s₁.heap.objs.size + 1, o1')], .head _, .tail _ (.head _), newsSub N5 fun p hp => ?_, fun q hq => ?_, fun q hq => ?_⟩
      · simp only [List.mem_cons, List.not_mem_nil, or_false] at hp ⊢
        rcases hp with rfl | rfl | rfl | rfl
        · exact .inl rfl
        · exact .inr (.inr (.inr (.inl rfl)))
        · exact .inr (.inl rfl)
        · exact .inr (.inr (.inr (.inr rfl)))
      · simp only [List.mem_cons, List.not_mem_nil, or_false] at hq
        rcases hq with rfl | rfl
        · exact o1.2.1.symm
        · exact Nat.ne_of_lt (Nat.lt_succ_self _)
      · simp only [List.mem_cons, List.not_mem_nil, or_false] at hq
        rcases hq with rfl | rfl
        · exact Nat.ne_of_lt l1.1
        · exact Nat.ne_of_lt l1.2.2.2
    have hAP : s₁.heap.objs.size + 1 + 1 ≠ pa := Nat.ne_of_lt l1.2.2.1
    clear N5 o1 l1
    refine CompSrc.range (n := 3) (by rfl) F5 N6 rgX (by decide) (by decide) (by rw [sizeLine_eq]; omega) ?_
    clear F5 N6 rgX rgK
    intro gh
    refine compRest_ind (JR pa D ((s₁.heap.objs.size + 1 + 1, oc1) :: bs)) ⟨0, _, 0, [], rfl, fun _ hp => (nomatch hp), by omega, by omega, rfl, fun _ hy => (nomatch hy)⟩ ?_ ?_
    · rintro zs nx ⟨k, t, e, tl, rfl, htl, hk0, hk1, hzl, hzs⟩ D2 h8 tk8 F6 N6 o2
      (try dsimp only)
      obtain ⟨va, vb, vc, rfl⟩ : ∃ va vb vc, zs = [va, vb, vc] := by
        match zs, hzl with
        | [x, y, z], _ => exact ⟨x, y, z, rfl⟩
      obtain ⟨pa', Da, vsa, ca, rfl, hma, hPa, ga⟩ := hzs va (.head _)
      obtain ⟨pb', Db, vsb, cb, rfl, hmb, hPb, gb⟩ := hzs vb (.tail _ (.head _))
      obtain ⟨pc', Dc, vsc, cc, rfl, hmc, hPc, gc⟩ := hzs vc (.tail _ (.tail _ (.head _)))
      have hTB : ∀ p ∈ tl ++ (s₁.heap.objs.size + 1 + 1, oc1) :: bs, (∀ v, p.2.data ≠ .cell v) → p ∈ tl ++ bs := fun p hp hn => by
        simp only [List.mem_append, List.mem_cons] at hp ⊢
        rcases hp with hp | rfl | hp
        · exact .inl hp
        · exact absurd d1 (hn _)
        · exact .inr hp
      have hma := hTB _ hma fun _ e => nomatch e
      have hmb := hTB _ hmb fun _ e => nomatch e
      have hmc := hTB _ hmc fun _ e => nomatch e
      have hPa := hPa.subD hTB
      have hPb := hPb.subD hTB
      have hPc := hPc.subD hTB
      obtain ⟨R, hR, hma, hmb, hmc, hPa, hPb, hPc, hmD, hmP, hRA, hRP, N7⟩ : ∃ R : List (Addr × Obj), (D2, lst [Value.ref Da, Value.ref Db, Value.ref Dc]) ∈ R ∧ (Da, W.listOf vsa.toArray ca) ∈ R ∧ (Db, W.listOf vsb.toArray cb) ∈ R ∧ (Dc, W.listOf vsc.toArray cc) ∈ R ∧ PcAll R vsa pa' ∧ PcAll R vsb pb' ∧ PcAll R vsc pc' ∧
          (D, W.listOf ys.toArray ys.length) ∈ R ∧ (s₁.heap.objs.size + 1, o1') ∈ R ∧ (∀ q ∈ R, q.1 ≠ s₁.heap.objs.size + 1 + 1) ∧ (∀ q ∈ R, q.1 ≠ pa) ∧ News s₁.heap s₁.heap.objs.size h8 ((s₁.heap.objs.size + 1 + 1, oc1) :: (pa, poolO D k t e) :: R) := by
        have up : ∀ p ∈ tl ++ bs, p ∈ (D2, lst [Value.ref Da, Value.ref Db, Value.ref Dc]) :: (tl ++ bs) := fun p hp => .tail _ hp
        refine ⟨(D2, lst [Value.ref Da, Value.ref Db, Value.ref Dc]) :: (tl ++ bs), .head _, up _ hma, up _ hmb, up _ hmc, hPa.mono up, hPb.mono up, hPc.mono up, up _ (List.mem_append.mpr (.inr hmD)), up _ (List.mem_append.mpr (.inr hmP)), fun q hq => ?_, fun q hq => ?_, newsSub N6 fun q hq => ?_⟩
        · simp only [List.mem_append, List.mem_cons] at hq
          rcases hq with rfl | hq | hq
          · exact (off1_mem o2 (s₁.heap.objs.size + 1 + 1, oc1) (.tail _ (List.mem_append.mpr (.inr (.head _))))).symm
          · exact (htl q hq).2 _ (.head _)
          · exact hbA q hq
        · simp only [List.mem_append, List.mem_cons] at hq
          rcases hq with rfl | hq | hq
          · exact (off1_mem o2 _ (.head _)).symm
          · exact (htl q hq).1
          · exact hbP q hq
        · simp only [List.mem_append, List.mem_cons] at hq ⊢
          rcases hq with rfl | rfl | rfl | hq | hq
          · exact .inr (.inr (.inr (.inl rfl)))
          · exact .inr (.inl rfl)
          · exact .inl rfl
          · exact .inr (.inr (.inl hq))
          · exact .inr (.inr (.inr (.inr hq)))
      clear N6 hTB htl hzs
      have hall : ∀ p ∈ (pa, poolO D k t e) :: R, p.1 ≠ s₁.heap.objs.size + 1 + 1 := List.forall_mem_cons.mpr ⟨hAP.symm, hRA⟩
      k_steps
      unfold Wait
      rename_i ha1 ha2 oA dA ha3 ha4 F8 N8
      refine draw_use (led := _) (rest := (s₁.heap.objs.size + 1 + 1, oA) :: R) (.tail _ (.head _)) (fun p hp => ?_) (List.forall_mem_cons.mpr ⟨hAP, hRP⟩) (.tail _ hmD) hys hk0 (by omega) (by decide) (by decide) (by simp only [List.length_take]; omega) (by assumption) F8 (by assumption) N8 (by assumption) rfl (by decide) (by decide) ?_
      · rcases List.mem_cons.mp hp with rfl | hp
        · exact .head _
        · exact .tail _ (.tail _ hp)
      clear F8 N8 hall
      intro pl tp tkp ep hp tkp' F9 N9 hpl0 hpl1
      obtain ⟨l9, hA9, K9, N9⟩ : ∃ l9, (s₁.heap.objs.size + 1 + 1, oA) ∈ l9 ∧ Kept [(Da, pa'), (Db, pb'), (Dc, pc')] l9 ∧ News s₁.heap s₁.heap.objs.size hp l9 := by
        have up : ∀ p ∈ R, p ∈ (pa, poolO D (k + 1) tkp ep) :: (s₁.heap.objs.size + 1 + 1, oA) :: R := fun p hp => .tail _ (.tail _ hp)
        refine ⟨_, .tail _ (.head _), fun q hq => ?_, N9⟩
        simp only [List.mem_cons, List.not_mem_nil, or_false] at hq
        rcases hq with rfl | rfl | rfl
        · exact ⟨⟨_, _, up _ hma, hPa.mono up⟩, ga⟩
        · exact ⟨⟨_, _, up _ hmb, hPb.mono up⟩, gb⟩
        · exact ⟨⟨_, _, up _ hmc, hPc.mono up⟩, gc⟩
      clear hR hma hmb hmc hPa hPb hPc hmD hmP hRA hRP hAP
      (try dsimp only)
      k_steps
      unfold Wait
      rename Fr _ _ _ _ => F0
      rename News _ _ _ _ => N0
      refine behind_use (x := Da) (p := pa') (y := Db) (q := pb') K9 (by simp) (by simp) (by assumption) F0 (by assumption) N0 (by assumption) rfl (by decide) (by decide) ?_
      clear F0 N0
      intro D1 both l1 h1 tk1 F1 N1 sub1 K1 hp1
      have hA1 := sub1 _ hA9
      (try dsimp only)
      k_steps
      unfold Wait
      rename Fr _ _ _ _ => F0
      rename News _ _ _ _ => N0
      refine behind_use (x := D1) (p := both) (y := Dc) (q := pc') K1 (by simp) (by simp) (by assumption) F0 (by assumption) N0 (by assumption) rfl (by decide) (by decide) ?_
      clear F0 N0
      intro D2 p2 l2 h2 tk2 F2 N2 sub2 K2 hp2
      have hA2 := sub2 _ hA1
      (try dsimp only)
      k_steps
      unfold Wait
      rename Fr _ _ _ _ => F0
      rename News _ _ _ _ => N0
      refine behind_use (x := Db) (p := pb') (y := Dc) (q := pc') K2 (by simp) (by simp) (by assumption) F0 (by assumption) N0 (by assumption) rfl (by decide) (by decide) ?_
      clear F0 N0
      intro D3 p3 l3 h3 tk3 F3 N3 sub3 K3 hp3
      have hA3 := sub3 _ hA2
      (try dsimp only)
      k_steps
      unfold Wait
      rename Fr _ _ _ _ => F0
      rename News _ _ _ _ => N0
      refine behind_use (x := Da) (p := pa') (y := D3) (q := p3) K3 (by simp) (by simp) (by assumption) F0 (by assumption) N0 (by assumption) rfl (by decide) (by decide) ?_
      clear F0 N0
      intro D4 p4 l4 h4 tk4 F4 N4 sub4 K4 hp4
      have hA4 := sub4 _ hA3
      (try dsimp only)
      k_steps
      unfold Wait
      rename Fr _ _ _ _ => F0
      rename News _ _ _ _ => N0
      refine same_use (x := D2) (p := p2) (y := D4) (q := p4) K4 (by simp) (by simp) N0 (law_units _) (fun i => by rw [hp2, hp1, hp4, hp3, Option.or_assoc]) ?_
      (try dsimp only)
      k_steps
      unfold Wait
      rename Fr _ _ _ _ => F0
      rename News _ _ _ _ => N0
      refine behind_use (x := Da) (p := pa') (y := Da) (q := pa') K4 (by simp) (by simp) (by assumption) F0 (by assumption) N0 (by assumption) rfl (by decide) (by decide) ?_
      clear F0 N0
      intro D5 p5 l5 h5 tk5 F5 N5 sub5 K5 hp5
      have hA5 := sub5 _ hA4
      (try dsimp only)
      k_steps
      unfold Wait
      rename Fr _ _ _ _ => F0
      rename News _ _ _ _ => N0
      refine same_use (x := D5) (p := p5) (y := Da) (q := pa') K5 (by simp) (by simp) N0 (law_units _) (fun i => by rw [hp5]; cases octs pa' i <;> rfl) ?_
      (try dsimp only)
      k_steps
      unfold Wait
      rename Fr _ _ _ _ => F0
      rename News _ _ _ _ => N0
      refine behind_use (x := D1) (p := both) (y := Da) (q := pa') K5 (by simp) (by simp) (by assumption) F0 (by assumption) N0 (by assumption) rfl (by decide) (by decide) ?_
      clear F0 N0
      intro D6 p6 l6 h6 tk6 F6 N6 sub6 K6 hp6
      have hA6 := sub6 _ hA5
      (try dsimp only)
      k_steps
      unfold Wait
      rename Fr _ _ _ _ => F0
      rename News _ _ _ _ => N0
      refine same_use (x := D6) (p := p6) (y := D1) (q := both) K6 (by simp) (by simp) N0 (law_units _) (fun i => by rw [hp6, hp1]; cases octs pa' i <;> cases octs pb' i <;> rfl) ?_
      (try dsimp only)
      k_steps
      unfold Wait
      rename_i le he F0 N0 _
      have K6e : Kept ((le, []) :: _) _ := K6.cons (fun p hp => .tail _ hp) (vs := []) (c := 0) (.head _) .nil good_nil
      refine behind_use (x := le) (p := []) (y := Da) (q := pa') K6e (by simp) (by simp) (by assumption) F0 (by assumption) N0 (by assumption) rfl (by decide) (by decide) ?_
      clear F0 N0
      intro D7 p7 l7 h7 tk7 F7 N7 sub7 K7 hp7
      have hA7 := sub7 _ (.tail _ hA6)
      (try dsimp only)
      k_steps
      unfold Wait
      rename Fr _ _ _ _ => F0
      rename News _ _ _ _ => N0
      refine same_use (x := D7) (p := p7) (y := Da) (q := pa') K7 (by simp) (by simp) N0 (law_units _) (fun i => by rw [hp7]; rfl) ?_
      (try dsimp only)
      k_steps
      unfold Wait
      rename Fr _ _ _ _ => F0
      rename News _ _ _ _ => N0
      refine cov_use (x := Da) (p := pa') K7 (by simp) (by assumption) F0 (by assumption) N0 (by assumption) rfl (by decide) (by decide) ?_
      clear F0 N0
      intro D8 vs8 c8 l8 h8 tk8 F8 N8 sub8 hm8 hS8
      have hA8 := sub8 _ hA7
      have K8 := K7.mono sub8
      (try dsimp only)
      k_steps
      unfold Wait
      rename Fr _ _ _ _ => F0
      rename News _ _ _ _ => N0
      refine cov_use (x := Db) (p := pb') K8 (by simp) (by assumption) F0 (by assumption) N0 (by assumption) rfl (by decide) (by decide) ?_
      clear F0 N0
      intro D9 vs9 c9 l9 h9 tk9 F9 N9 sub9 hm9 hS9
      have hA9 := sub9 _ hA8
      have K9 := K8.mono sub9
      have hm8' := sub9 _ hm8
      have hS8' := hS8.mono sub9
      (try dsimp only)
      refine turns_iter2 (JSp l9 (spanOf pa') (spanOf pb') [(Str.ofString "both", Value.ref D1), (Str.ofString "place", Value.int pl tp), (Str.ofString "b", Value.ref Db)]) rfl (nn := c9) (vs := vs9) hm9 F9 N9 ?_ ?_ ?_
      · intro I _
        exact ⟨D8, vs8, c8, spanOf pa', fun p hp => hp, hm8', hS8', spanOf_good ga, fun j => by simp [covS_nil], List.forall_mem_cons.mpr ⟨by rfl, List.forall_mem_cons.mpr ⟨by rfl, List.forall_mem_cons.mpr ⟨by rfl, List.forall_mem_cons.mpr ⟨by rfl, List.forall_mem_nil _⟩⟩⟩⟩⟩
      · clear N9 F9
        rintro I i v m₁ nx h tk oI hvi ⟨Dx, vsx, cx, sp, hbs, hDm, hS, gS, hcov, hm₁⟩ hl₁ hoff F₁ N₁ hcI
        have F₂ := frOvr _ F₁ hm₁
        clear F₁
        simp only [ovr] at F₂
        obtain ⟨p, hp, hpi⟩ := hS9.get hvi
        cases hpi with
        | @mk ta i1 j1 ts to tn htm =>
        have hpm : (i1, j1) ∈ spanOf pb' := List.mem_of_getElem? hp
        have hlo := (spanOf_good gb).lo _ hpm
        have hhi := (spanOf_good gb).hi _ hpm
        have htake : (spanOf pb').take (i + 1) = (spanOf pb').take i ++ [(i1, j1)] := by rw [List.take_add_one, hp]; rfl
        refine' unpackN_ (items := #[.int i1 ts, .int j1 to]) ?F ?N ?T ?k1 ?k2 ?k3 ?_
        case F => k_asm
        case N => k_asm
        case T => exact (⟨_, (N₁ _ (.tail _ (hbs _ htm))).1, rfl, tn, rfl⟩)
        case k1 => exact rfl
        case k2 => exact rfl
        case k3 => exact rfl
        intro h' F' N'
        (try dsimp only)
        k_steps
        unfold Wait
        rename Fr _ _ _ _ => F0
        rename News _ _ _ _ => N0
        refine does_use (add_span_does w ((I, oI) :: nx) Dx vsx cx sp i1 j1 ts to (.tail _ hDm) (hS.mono fun p hp => .tail _ hp) gS hlo hhi) (by assumption) F0 (by assumption) N0 (by assumption) rfl (by decide) (by decide) ?_
        clear F0 N0
        rintro r news' h9 tk9 F9 N9 ⟨⟨tl', rfl, hlt'⟩, D', vs', c', sp', rfl, hDm', hS', gS', hcov'⟩
        (try dsimp only)
        k_steps
        rename Fr _ _ _ _ => F7
        rename News _ _ _ _ => N7
        refine ⟨_, _, _, tl' ++ nx, rfl, F7, newsSub N7 (fun p hp => ?_), List.mem_append.mpr (.inr hl₁), fun p hp => ?_, D', vs', c', sp', fun p hp => List.mem_append.mpr (.inr (hbs p hp)), strip_mem hDm' (by rw [hcI]; show Value.type "list" ≠ Value.type "list_iterator"; decide), hS'.strip hcI, gS', fun j => ?_, List.forall_mem_cons.mpr ⟨by rfl, List.forall_mem_cons.mpr ⟨by rfl, List.forall_mem_cons.mpr ⟨by rfl, List.forall_mem_cons.mpr ⟨by rfl, List.forall_mem_nil _⟩⟩⟩⟩⟩
        · simp only [List.mem_append, List.mem_cons] at hp ⊢
          rcases hp with rfl | hp | hp
          · exact .inr (.inl rfl)
          · exact .inl hp
          · exact .inr (.inr hp)
        · rcases List.mem_append.mp hp with hp | hp
          · exact Nat.ne_of_gt (hlt' p hp _ (.head _))
          · exact hoff p hp
        · rw [hcov', hcov, htake, covS_append, covS_one, or_assoc]
      · clear N9 F9
        rintro I m₁ nx h tk ⟨Dx, vsx, cx, sp, hbs, hDm, hS, gS, hcov, hm₁⟩ F₁ N₁
        have F₂ := frOvr _ F₁ hm₁
        clear F₁
        simp only [ovr] at F₂
        rw [hS9.length, List.take_length] at hcov
        have hsp : spanOf both = sp := spans_uniq (spanOf_good (K9 (D1, both) (by simp)).2) gS fun i => by
          rw [hcov, spanOf_cov, spanOf_cov, spanOf_cov, hp1]
          exact or_ne_none
        have KA := K9.mono hbs
        have hAA := hbs _ hA9
        (try dsimp only)
        k_steps
        unfold Wait
        rename Fr _ _ _ _ => F0
        rename News _ _ _ _ => N0
        refine cov_use (x := D1) (p := both) KA (by simp) (by assumption) F0 (by assumption) N0 (by assumption) rfl (by decide) (by decide) ?_
        clear F0 N0
        intro DB vsB cB lB hB tkB FB NB subB hmB' hSB
        have hAB := subB _ hAA
        have KB := KA.mono subB
        have hDmB := subB _ hDm
        have hSdB := hS.mono subB
        (try dsimp only)
        k_steps
        unfold Wait
        rename Fr _ _ _ _ => F0
        rename News _ _ _ _ => N0
        refine sps_ne N0 hmB' hSB hDmB hSdB (law_units _) ?_
        rw [hsp, decide_eq_true rfl]
        (try dsimp only)
        k_steps
        unfold Wait
        rename Fr _ _ _ _ => F0
        rename News _ _ _ _ => N0
        refine high_use (x := D1) (p := both) KB (by simp) (by assumption) F0 (by assumption) N0 (by assumption) rfl (by decide) (by decide) ?_
        clear F0 N0
        intro tC lC hC tkC FC NC subC
        have hAC := subC _ hAB
        have KC := KB.mono subC
        (try dsimp only)
        k_steps
        unfold Wait
        rename Fr _ _ _ _ => F0
        rename News _ _ _ _ => N0
        refine high_use (x := Da) (p := pa') KC (by simp) (by assumption) F0 (by assumption) N0 (by assumption) rfl (by decide) (by decide) ?_
        clear F0 N0
        intro tD lD hD tkD FD ND subD
        have hAD := subD _ hAC
        have KD := KC.mono subD
        (try dsimp only)
        k_steps
        unfold Wait
        rename Fr _ _ _ _ => F0
        rename News _ _ _ _ => N0
        refine high_use (x := Db) (p := pb') KD (by simp) (by assumption) F0 (by assumption) N0 (by assumption) rfl (by decide) (by decide) ?_
        clear F0 N0
        intro tE lE hE tkE FE NE subE
        have hAE := subE _ hAD
        have KE := KD.mono subE
        (try dsimp only)
        k_steps
        · rename (highOf both ≠ _) => hne
          have hmx := high_max ga gb (K9 (D1, both) (by simp)).2 hp1
          exact absurd (hmx.trans (max_if _ _)) hne
        · unfold Wait
          rename Fr _ _ _ _ => F0
          rename News _ _ _ _ => N0
          obtain ⟨⟨vsA, cA, hmA', hPA'⟩, gA'⟩ := KE (Da, pa') (by simp)
          obtain ⟨⟨vsB, cB', hmB2, hPB2⟩, gB'⟩ := KE (Db, pb') (by simp)
          have hvB := hPB2.length
          have hzB := gB'.len
          dsimp only at hvB hzB hmA' hPA' hmB2 hPB2
          refine ListComp_pt F0 (by with_unfolding_all rfl) (by decide) (by rfl) (by decide) (by rfl) (by rfl) (by decide) (wait_post ?_)
          k_steps
          unfold Wait
          refine ⟨Db, vsB.toArray, cB', lE, fun i ys => (ys.length = 0 ↔ ∀ p ∈ pb'.take i, ∀ q ∈ pa', Ag1 q p.1 p.2), rfl, rfl, F0, N0, hmB2, by rw [sizeLine_eq]; simp; omega, by simp, fun g => ⟨?_, ?_⟩⟩
          · intro i ys hi hInv v hv
            have hv' : vsB[i]? = some v := by simpa using hv
            obtain ⟨p, hp, hpi⟩ := hPB2.get hv'
            cases hpi with
            | @mk ta s' ts ob to tn ol htm hol =>
            have hpm : (s', ol) ∈ pb' := List.mem_of_getElem? hp
            have hlo := gB'.lo _ hpm
            have hhi := gB'.hi _ hpm
            dsimp only at hlo hhi
            have htake : pb'.take (i + 1) = pb'.take i ++ [(s', ol)] := by rw [List.take_add_one, hp]; rfl
            refine ⟨ta, _, .int s' ts, .bytes ob to, tn, rfl, htm, rfl, rfl, ?_⟩
            intro I oI C oC D m2 h tk E' hC hx hy F2 N2
            clear F0 N0
            k_steps
            unfold Wait
            rename Fr _ _ _ _ => F3
            rename News _ _ _ _ => N3
            refine does_use (agrees_does w ((I, oI) :: (C, oC) :: (D, lst ys) :: lE) Da vsA cA pa' s' ob ts to ol (.tail _ (.tail _ (.tail _ hmA'))) (hPA'.mono fun p hp => .tail _ (.tail _ (.tail _ hp))) hol gA' hlo hhi) (by assumption) F3 (by assumption) N3 (by assumption) rfl (by decide) (by decide) ?_
            rintro r news' h' tk' F5 N5 ⟨gr, ⟨rfl, hag⟩ | ⟨rfl, hag⟩⟩
            · (try dsimp only)
              k_steps
              refine TEnd.intro F5 N5 (fun p hp => gr.sub p hp) ?_
              rw [htake]
              exact hInv.trans ⟨fun h p hp => (List.mem_append.mp hp).elim (h p) (fun hp => by rw [List.mem_singleton.mp hp]; exact hag), fun h p hp => h p (List.mem_append.mpr (.inl hp))⟩
            · (try dsimp only)
              k_steps
              refine TEnd.intro F5 N5 (fun p hp => gr.sub p hp) ?_
              rw [htake]
              exact ⟨fun h => absurd h (by simp), fun h => absurd (fun q hq => h _ (List.mem_append.mpr (.inr (.head _))) q hq) hag⟩
          · intro DF hF tkF ys2 FF NF hInv
            clear F0 N0
            have e1 : pb'.take vsB.toArray.size = pb' := by rw [List.size_toArray, hvB, List.take_length]
            rw [e1] at hInv
            (try dsimp only)
            k_steps
            unfold Wait
            rename_i le2 he2 F0 N0 _
            refine ones_eq_nil (j := ys2.length) N0 (.tail _ (.head _)) rfl (.head _) (law_units _) ?_
            have KF := KE.mono (l' := (le2, W.listOf #[] 0) :: (DF, lst ys2) :: lE) (fun p hp => .tail _ (.tail _ hp))
            have hAF : (s₁.heap.objs.size + 1 + 1, oA) ∈ (le2, W.listOf #[] 0) :: (DF, lst ys2) :: lE := .tail _ (.tail _ hAE)
            (try dsimp only)
            k_steps
            unfold Wait
            rename Fr _ _ _ _ => F0
            rename News _ _ _ _ => N0
            refine behind_use (x := Db) (p := pb') (y := Da) (q := pa') KF (by simp) (by simp) (by assumption) F0 (by assumption) N0 (by assumption) rfl (by decide) (by decide) ?_
            clear F0 N0
            intro DG pG lG hG tkG FG NG subG KG hpG
            have hAG := subG _ hAF
            (try dsimp only)
            k_steps
            unfold Wait
            rename Fr _ _ _ _ => F0
            rename News _ _ _ _ => N0
            have hal : decide (both = pG) = decide (ys2.length = 0) := decide_eq_decide.mpr ((alike_iff ga gb (KG (D1, both) (by simp)).2 (KG (DG, pG) (by simp)).2 hp1 hpG).trans hInv.symm)
            refine eq_use (x := D1) (p := both) (y := DG) (q := pG) KG (by simp) (by simp) N0 (law_units _) ?_
            (try dsimp only)
            k_steps
            unfold Wait
            rename Fr _ _ _ _ => F0
            rename News _ _ _ _ => N0
            refine cut_use (x := D1) (p := both) (place := pl) KG (by simp) hpl0 (by assumption) F0 (by assumption) N0 (by assumption) rfl (by decide) (by decide) ?_
            clear F0 N0
            intro TH nH DL DH qL qH lH hH tkH FH NH subH hTH KH hqL hqH
            have hAH := subH _ hAG
            (try dsimp only)
            have hts := take_spec (KH (DH, qH) (by simp)).2 hpl0 hpl1 (fun i hi => by rw [hqH, if_pos hi])
            k_steps
            unfold Wait
            rename Fr _ _ _ _ => F0
            rename News _ _ _ _ => N0
            refine behind_use (x := DL) (p := qL) (y := DH) (q := qH) KH (by simp) (by simp) (by assumption) F0 (by assumption) N0 (by assumption) rfl (by decide) (by decide) ?_
            clear F0 N0
            intro DI qI lI hI tkI FI NI subI KI hpI
            have hAI := subI _ hAH
            (try dsimp only)
            k_steps
            unfold Wait
            rename Fr _ _ _ _ => F0
            rename News _ _ _ _ => N0
            refine same_use (x := DI) (p := qI) (y := D1) (q := both) KI (by simp) (by simp) N0 (law_units _) (fun i => by rw [hpI, hqL, hqH]; by_cases hi : i < pl <;> simp [hi]) ?_
            (try dsimp only)
            k_steps
            unfold Wait
            rename Fr _ _ _ _ => F0
            rename News _ _ _ _ => N0
            refine behind_use (x := DH) (p := qH) (y := DL) (q := qL) KI (by simp) (by simp) (by assumption) F0 (by assumption) N0 (by assumption) rfl (by decide) (by decide) ?_
            clear F0 N0
            intro DJ qJ lJ hJ tkJ FJ NJ subJ KJ hpJ
            have hAJ := subJ _ hAI
            (try dsimp only)
            k_steps
            unfold Wait
            rename Fr _ _ _ _ => F0
            rename News _ _ _ _ => N0
            refine same_use (x := DJ) (p := qJ) (y := D1) (q := both) KJ (by simp) (by simp) N0 (law_units _) (fun i => by rw [hpJ, hqL, hqH]; by_cases hi : i < pl <;> simp [hi]) ?_
            (try dsimp only)
            k_steps
            unfold Wait
            rename Fr _ _ _ _ => F0
            rename News _ _ _ _ => N0
            refine taken_use (x := DH) (p := qH) KJ (by simp) (by assumption) F0 (by assumption) N0 (by assumption) rfl (by decide) (by decide) ?_
            clear F0 N0
            intro TK nK fb ft DK lK hK tkK FK NK subK hTK hfb KK
            have hAK := subK _ hAJ
            (try dsimp only)
            k_steps
            unfold Wait
            rename_i le3 he3 F0 N0 _
            have KKe : Kept ((le3, []) :: _) _ := KK.cons (fun p hp => .tail _ hp) (vs := []) (c := 0) (.head _) .nil good_nil
            refine add_use (x := le3) (p := []) KKe (by simp) hfb hpl0 hts.1 (by assumption) F0 (by assumption) N0 (by assumption) rfl (by decide) (by decide) ?_
            clear F0 N0
            intro DM qM lM hM tkM FM NM subM KM hpM
            have hAM := subM _ (.tail _ hAK)
            (try dsimp only)
            k_steps
            unfold Wait
            rename Fr _ _ _ _ => F0
            rename News _ _ _ _ => N0
            refine behind_use (x := DM) (p := qM) (y := DK) (q := qH.filter fun q => decide (pl < q.1)) KM (by simp) (by simp) (by assumption) F0 (by assumption) N0 (by assumption) rfl (by decide) (by decide) ?_
            clear F0 N0
            intro DN qN lN hN tkN FN NN subN KN hpN
            have hAN := subN _ hAM
            (try dsimp only)
            k_steps
            unfold Wait
            rename Fr _ _ _ _ => F0
            rename News _ _ _ _ => N0
            refine same_use (x := DN) (p := qN) (y := DH) (q := qH) KN (by simp) (by simp) N0 (law_units _) (fun i => by rw [hpN, hpM]; exact hts.2.1 i) ?_
            (try dsimp only)
            k_steps
            unfold Wait
            refine octet_use (x := DH) (p := qH) KN (by simp) hts.2.2 (by assumption) F0 (by assumption) N0 (by assumption) rfl (by decide) (by decide) ?_
            clear F0 N0
            intro lZ hZ tkZ FZ NZ subZ
            (try dsimp only)
            k_steps
    · rintro j zs nx hj ⟨k, t, e, tl, rfl, htl, hk0, hk1, hzl, hzs⟩ v I oI C oC D2 m2 h8 tk8 E' hv hC hx F6 N6 off ne
      k_steps
      unfold Wait
      have hmB : (D, W.listOf ys.toArray ys.length) ∈ (I, oI) :: (C, oC) :: (D2, lst zs) :: (tl ++ (s₁.heap.objs.size + 1 + 1, oc1) :: bs) := .tail _ (.tail _ (.tail _ (List.mem_append.mpr (.inr (.tail _ hmD)))))
      have ho3 := off.mem
      have hofp : ∀ p ∈ (I, oI) :: (C, oC) :: (D2, lst zs) :: (tl ++ (s₁.heap.objs.size + 1 + 1, oc1) :: bs), p.1 ≠ pa := fun p hp => by
        have hpo := ho3 _ (.head _)
        simp only [List.mem_cons, List.mem_append] at hp
        rcases hp with rfl | rfl | rfl | hp | rfl | hp
        · exact hpo.1.symm
        · exact hpo.2.1.symm
        · exact hpo.2.2.symm
        · exact (htl p hp).1
        · exact hAP
        · exact hbP p hp
      refine does_use (lot_does w ((I, oI) :: (C, oC) :: (D2, lst zs) :: (tl ++ (s₁.heap.objs.size + 1 + 1, oc1) :: bs)) pa D ys _ e _ k t hmB hys hk0 (by omega) (by simp only [List.length_take]; omega) hofp) (by assumption) F6 (by assumption) (newsSub N6 fun p hp => ?_) (by assumption) rfl (by decide) (by decide) ?_
      · simp only [List.mem_cons] at hp ⊢
        rcases hp with rfl | rfl | rfl | rfl | hp
        · exact .inr (.inr (.inr (.inl rfl)))
        · exact .inl rfl
        · exact .inr (.inl rfl)
        · exact .inr (.inr (.inl rfl))
        · exact .inr (.inr (.inr (.inr hp)))
      clear F6 N6
      rintro r news' h9 tk9 F7 N7 ⟨k', t', e', tl2, D3, vs3, c3, ps3, rfl, rfl, ht2, q0, q1, hm3, hP3, g3⟩
      have hIC : ∀ p ∈ tl2, p.1 ≠ I ∧ p.1 ≠ C ∧ p.1 ≠ D2 := fun p hp => ⟨(ht2 p hp).2 _ (.head _), (ht2 p hp).2 _ (.tail _ (.head _)), (ht2 p hp).2 _ (.tail _ (.tail _ (.head _)))⟩
      refine CompEnd.intro F7 N7 ((pa, poolO D k' t' e') :: (tl2 ++ tl ++ (s₁.heap.objs.size + 1 + 1, oc1) :: bs)) (fun p hp => ?_) (Off3.of fun p hp => ?_) trivial ⟨k', t', e', tl2 ++ tl, rfl, fun p hp => ?_, q0, by omega, by simp [hzl], fun y hy => ?_⟩
      · simp only [List.mem_cons, List.mem_append, or_assoc] at hp ⊢
        rcases hp with rfl | rfl | rfl | rfl | hp | hp
        · exact .inr (.inr (.inl rfl))
        · exact .inr (.inr (.inr (.inl rfl)))
        · exact .inr (.inr (.inr (.inr (.inl rfl))))
        · exact .inl rfl
        · exact .inr (.inl hp)
        · exact .inr (.inr (.inr (.inr (.inr hp))))
      · simp only [List.mem_cons, List.mem_append, or_assoc] at hp
        rcases hp with rfl | hp | hp
        · exact ho3 (pa, poolO D k t e) (.head _)
        · exact hIC p hp
        · exact ho3 p (.tail _ (List.mem_append.mpr (by simpa using hp)))
      · rcases List.mem_append.mp hp with hp | hp
        · exact ⟨(ht2 p hp).1, fun q hq => (ht2 p hp).2 q (.tail _ (.tail _ (.tail _ (List.mem_append.mpr (.inr hq)))))⟩
        · exact htl p hp
      · rcases List.mem_append.mp hy with hy | hy
        · obtain ⟨ps, hps⟩ := hzs y hy
          exact ⟨ps, hps.sub fun p hp => by rw [List.append_assoc]; exact List.mem_append.mpr (.inr hp)⟩
        · rw [List.mem_singleton.mp hy]
          exact ⟨ps3, D3, vs3, c3, rfl, List.mem_append.mpr (.inl (List.mem_append.mpr (.inl hm3))), hP3.mono fun p hp => List.mem_append.mpr (.inl (List.mem_append.mpr (.inl hp))), g3⟩
  · rintro i ys nx hi ⟨rfl, hys⟩ v I oI C oC D m2 h tk E' hv hC hx F3 N3 off ne
    have hv' : vs1[i]? = some v := by simpa using hv
    obtain ⟨x, t, rfl, hxn⟩ := hI1.at i v hv'
    k_steps
    have htk : (ns.take 40).take (i + 1) = (ns.take 40).take i ++ [x] := by rw [List.take_add_one, hxn]; rfl
    rename Fr _ _ _ _ => F4
    rename News _ _ _ _ => N4
    exact CompEnd.intro F4 N4 _ (fun p hp => hp) off (.inr ⟨_, .head _, rfl, _, rfl⟩) ⟨rfl, htk ▸ ksk_snoc hys⟩

end Mine

theorem PySem.Challenge.cw_sa0561_01_holds : PySem.Challenge.rw_sa0561_01.Holds := by
  exact Mine.row
