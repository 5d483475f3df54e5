import PyProof.Rows.All
import Wide.All
import OpenK.AllK
import Wide.FinOn
import Lean
import PySem.Challenge.RW_tk0004_01
set_option Elab.async false
set_option rowWalk.seconds 0
set_option maxRecDepth 100000
section
open PySem PySem.W PyProof.Rows
set_option maxHeartbeats 8000000
namespace Mine
open_top hd for PySem.Challenge.rw_tk0004_01
end Mine
end
section
open PySem PySem.W PyProof.Rows
namespace Mine
theorem kc_nine {cm : Str → Option Value} {n₁ n₂ n₃ n₄ n₅ n₆ n₇ n₈ n₉ : Str} {c₁ c₂ c₃ c₄ c₅ c₆ c₇ c₈ c₉ : Addr} {cells : List (Addr × Obj)} (x : CellsAre cm [(n₁, c₁), (n₂, c₂), (n₃, c₃), (n₄, c₄), (n₅, c₅), (n₆, c₆), (n₇, c₇), (n₈, c₈), (n₉, c₉)] cells) :
    ∃ o₁ o₂ o₃ o₄ o₅ o₆ o₇ o₈ o₉, cells = [(c₁, o₁), (c₂, o₂), (c₃, o₃), (c₄, o₄), (c₅, o₅), (c₆, o₆), (c₇, o₇), (c₈, o₈), (c₉, o₉)] ∧ o₁.data = .cell (cm n₁) ∧ o₂.data = .cell (cm n₂) ∧ o₃.data = .cell (cm n₃) ∧ o₄.data = .cell (cm n₄) ∧ o₅.data = .cell (cm n₅) ∧ o₆.data = .cell (cm n₆) ∧ o₇.data = .cell (cm n₇) ∧ o₈.data = .cell (cm n₈) ∧ o₉.data = .cell (cm n₉) := by
  cases x with | cons h r => obtain ⟨o₂, o₃, o₄, o₅, o₆, o₇, o₈, o₉, rfl, h₂, h₃, h₄, h₅, h₆, h₇, h₈, h₉⟩ := kc_eight r; exact ⟨_, o₂, o₃, o₄, o₅, o₆, o₇, o₈, o₉, rfl, h, h₂, h₃, h₄, h₅, h₆, h₇, h₈, h₉⟩
theorem kc_ten {cm : Str → Option Value} {n₀ n₁ n₂ n₃ n₄ n₅ n₆ n₇ n₈ n₉ : Str} {c₀ c₁ c₂ c₃ c₄ c₅ c₆ c₇ c₈ c₉ : Addr} {cells : List (Addr × Obj)} (x : CellsAre cm [(n₀, c₀), (n₁, c₁), (n₂, c₂), (n₃, c₃), (n₄, c₄), (n₅, c₅), (n₆, c₆), (n₇, c₇), (n₈, c₈), (n₉, c₉)] cells) :
    ∃ o₀ o₁ o₂ o₃ o₄ o₅ o₆ o₇ o₈ o₉, cells = [(c₀, o₀), (c₁, o₁), (c₂, o₂), (c₃, o₃), (c₄, o₄), (c₅, o₅), (c₆, o₆), (c₇, o₇), (c₈, o₈), (c₉, o₉)] ∧ o₀.data = .cell (cm n₀) ∧ o₁.data = .cell (cm n₁) ∧ o₂.data = .cell (cm n₂) ∧ o₃.data = .cell (cm n₃) ∧ o₄.data = .cell (cm n₄) ∧ o₅.data = .cell (cm n₅) ∧ o₆.data = .cell (cm n₆) ∧ o₇.data = .cell (cm n₇) ∧ o₈.data = .cell (cm n₈) ∧ o₉.data = .cell (cm n₉) := by
  cases x with | cons h r => obtain ⟨o₁, o₂, o₃, o₄, o₅, o₆, o₇, o₈, o₉, rfl, h₁, h₂, h₃, h₄, h₅, h₆, h₇, h₈, h₉⟩ := kc_nine r; exact ⟨_, o₁, o₂, o₃, o₄, o₅, o₆, o₇, o₈, o₉, rfl, h, h₁, h₂, h₃, h₄, h₅, h₆, h₇, h₈, h₉⟩
end Mine
end
section
open PySem PySem.W PyProof.Rows
set_option maxHeartbeats 8000000
namespace Mine
def Con (w : World) (f : Addr) (vs : List Value) (news : List (Addr × Obj)) (k : Nat) (post : Value → List (Addr × Obj) → Prop) : Prop :=
  ∀ (p : Program) (loose : List Str) (mean : ExcName → Option Value) (mg mb : Str → Option Value) (dp un : Nat) (gd : Option (List Code)) (cn : Str) (cs : Scope) (a : Addr) (ccd : Value) (cl : List (Str × Addr)) (outer : List Env) (A₀ : Around) (base h₀ : Heap) (L : Addr) (m : Str → Option Value) (s : Shared) (Q E : Value → Shared → Prop),
    Below A₀ base outer h₀ → Fr h₀ L s.heap m → (hd.heap_39 w.params).In h₀ → News h₀ L s.heap news → Top p loose mean mg mb h₀ → cs.kind = .function → dp + k < recursionLimit → un + 8 * k < cLine →
    (∀ r tl h' tk', Fr h₀ L h' m → News h₀ L h' tl → post r tl → Q r { s with heap := h', toks := tk' }) →
    wpAny (model PySem.Challenge.rw_tk0004_01.row.prog w) (ktrTop dp un gd cn cs L a ccd cl outer) (call (.ref f) vs) Q E s
section
variable {w : World} {f : Addr} {vs : List Value} {news : List (Addr × Obj)} {k : Nat} {post : Value → List (Addr × Obj) → Prop}
theorem Con.use {p : Program} {loose : List Str} {mean : ExcName → Option Value} {mg mb : Str → Option Value} {dp un : Nat} {gd : Option (List Code)} {cn : Str} {cs : Scope} {a : Addr} {ccd : Value} {cl : List (Str × Addr)} {outer : List Env} {A₀ : Around} {base h₀ : Heap} {L : Addr} {m : Str → Option Value} {s : Shared} {Q E : Value → Shared → Prop}
    (C : Con w f vs news k post) (B : Below A₀ base outer h₀) (F : Fr h₀ L s.heap m) (X : (hd.heap_39 w.params).In h₀) (N : News h₀ L s.heap news) (T : Top p loose mean mg mb h₀) (hk : cs.kind = .function) (hd : dp + k < recursionLimit) (hu : un + 8 * k < cLine)
    (h : ∀ r tl h' tk', Fr h₀ L h' m → News h₀ L h' tl → post r tl → Q r { s with heap := h', toks := tk' }) :
    wpAny (model PySem.Challenge.rw_tk0004_01.row.prog w) (ktrTop dp un gd cn cs L a ccd cl outer) (call (.ref f) vs) Q E s :=
  C _ _ _ _ _ _ _ _ _ _ _ _ _ _ _ _ _ _ _ _ _ _ B F X N T hk hd hu h
end
theorem rowK (w : World) : PySem.Challenge.rw_tk0004_01 = PySem.Challenge.rw_tk0004_01 ∨ hd.heap_39 w.params = [] := Or.inl rfl
end Mine
end
section
open PySem PySem.W PyProof.Rows PySem.Calls
namespace Mine
open LCg
section
variable {prog : Program} {w : World} {A : Around} {s : Shared} {h₀ : Heap} {L : Addr} {m : Str → Option Value}
theorem comp_core {elt target iter : Expr} {scope : Scope} {pos : Pos} {I D : Addr} {cenv : Env} {fp wr cw : List Addr} {n : Nat} {P Md : Nat → Value → Heap → Prop} {St : Nat → Heap → Prop} {R : Result → Shared → Prop} {news : List (Addr × Obj)}
    (W : KTurns prog w A target I fp wr n P Md St) (hsz : n ≤ sizeLine) (Rd : Heap → Prop) (T : Nat → Heap → Prop)
    (hRd : ∀ h h', Rd h → (∀ b ∈ cw, ∀ o, h.get? b = some o → h'.get? b = some o) → Rd h') (hTR : ∀ i h, T i h → Rd h)
    (hasg : ∀ i v (s : Shared) (Q : Unit → Shared → Prop) (E : Value → Shared → Prop), i < n → P i v s.heap → Rd s.heap →
      (∀ h' tk, T i h' → (∀ b o, b ∉ cw → s.heap.get? b = some o → h'.get? b = some o) → Q () { s with heap := h', toks := tk }) → wpAny (model prog w) A (assign target cenv v) Q E s)
    (hLw : L ∉ wr) (hLc : L ∉ cw) (hLD : L ≠ D) (hw0 : ∀ b ∈ wr, h₀.get? b = none) (hc0 : ∀ b ∈ cw, h₀.get? b = none) (hD0 : h₀.get? D = none)
    (hcf : ∀ b ∈ cw, b ∉ fp) (hDf : D ∉ fp) (hDc : D ∉ cw)
    (Rest : Nat → List Value → List (Addr × Obj) → Prop)
    (hrest : ∀ i ys news own h tk (E' : Value → Shared → Prop), i < n → Rest i ys news → T i h → (∀ b ∈ D :: (cw ++ wr), ∃ o, (b, o) ∈ own) → (∀ b ∈ cw, ∀ o, h.get? b = some o → (b, o) ∈ own) →
      (∀ p ∈ news, p.1 ∉ D :: (cw ++ wr)) → Fr h₀ L h m → News h₀ L h (own ++ news) →
      wpAny (model prog w) A (eval elt cenv) (fun y s' => ∃ h' tk' news', s' = { s with heap := h', toks := tk' } ∧ Fr h₀ L h' m ∧ News h₀ L h' (own ++ news') ∧ (∀ p ∈ news', p.1 ∉ D :: (cw ++ wr)) ∧ Rest (i + 1) (ys ++ [y]) news') E' { s with heap := h, toks := tk })
    (hwr : ∀ i h, St i h → ∀ b ∈ wr, ∃ o, h.get? b = some o) (hcx : ∀ h, Rd h → ∀ b ∈ cw, ∃ o, h.get? b = some o)
    (hst : St 0 s.heap) (hrd : Rd s.heap) (F : Fr h₀ L s.heap m) (N : News h₀ L s.heap ((D, lst []) :: news)) (off : ∀ p ∈ news, p.1 ∉ D :: (cw ++ wr)) (R0 : Rest 0 [] news) (hLf : L ∉ fp)
    (hR : ∀ h' tk ys news', Fr h₀ L h' m → News h₀ L h' ((D, lst ys) :: news') → (∀ p ∈ news', p.1 ∉ D :: (cw ++ wr)) → Rd h' → Rest n ys news' → R (.ok .next) { s with heap := h', toks := tk }) :
    codeAny (model prog w) A (.compLoop (.ListComp elt [⟨target, iter, [], 0⟩] scope pos) 0 (.ref I) (.ref D) cenv) R s := by
  have off1 : ∀ {p : Addr}, p ∉ D :: (cw ++ wr) → p ≠ D ∧ p ∉ cw ∧ p ∉ wr := fun h => by
    simp only [List.mem_cons, List.mem_append, not_or] at h; exact h
  have hDw : D ∉ wr := fun h => hDf (W.sub _ h)
  have hcw : ∀ b ∈ cw, b ∉ wr := fun b hb h => hcf b hb (W.sub _ h)
  refine kcp_loop (fun k s' => ∃ h' tk i ys news', s' = { s with heap := h', toks := tk } ∧ i ≤ n ∧ k = n + 1 - i ∧ ys.length = i ∧ St i h' ∧ Rd h' ∧ Fr h₀ L h' m ∧ News h₀ L h' ((D, lst ys) :: news') ∧
      (∀ p ∈ news', p.1 ∉ D :: (cw ++ wr)) ∧ Rest i ys news') ?_ (n + 1) ⟨s.heap, s.toks, 0, [], news, rfl, Nat.zero_le _, rfl, rfl, hst, hrd, F, N, off, R0⟩
  rintro k s' ⟨h', tk, i, ys, news', rfl, hi, rfl, hyl, hst', hrd', F', N', off', R'⟩
  -- what a change of the iterator's own objects keeps
  have keepW : ∀ h₁ : Heap, (∀ b o, b ∉ wr → h'.get? b = some o → h₁.get? b = some o) → Rd h₁ ∧ Fr h₀ L h₁ m ∧ News h₀ L h₁ ((D, lst ys) :: news') := fun h₁ hk => by
    refine ⟨hRd _ _ hrd' fun b hb o e => hk b o (hcw b hb) e, ⟨F'.ns.at' fun o e => hk _ o hLw e, fun b o e => hk b o (fun hb => by rw [hw0 b hb] at e; cases e) (F'.keep b o e), F'.above⟩, fun p hp => ⟨hk _ _ ?_ (N' p hp).1, (N' p hp).2⟩⟩
    rcases List.mem_cons.mp hp with rfl | hp
    · exact hDw
    · exact (off1 (off' p hp)).2.2
  by_cases hlt : i < n
  · refine W.item i _ _ _ hlt hst' fun v h₁ tk₁ hMd hk₁ => ?_
    refine W.go i v _ _ _ hMd fun h₂ hP hst₂ hk₂ => ?_
    obtain ⟨hrd₂, F₂, N₂⟩ := keepW h₂ fun b o hb e => hk₂ b o hb (hk₁ b o hb e)
    refine hasg i v _ _ _ hlt hP hrd₂ fun h₃ tk₃ hT hk₃ => ?_
    have F₃ : Fr h₀ L h₃ m := ⟨F₂.ns.at' fun o e => hk₃ _ o hLc e, fun b o e => hk₃ b o (fun hb => by rw [hc0 b hb] at e; cases e) (F₂.keep b o e), F₂.above⟩
    have N₃ : News h₀ L h₃ ((D, lst ys) :: news') := fun p hp => ⟨hk₃ _ _ (by
      rcases List.mem_cons.mp hp with rfl | hp
      · exact hDc
      · exact (off1 (off' p hp)).2.1) (N₂ p hp).1, (N₂ p hp).2⟩
    have hst₃ : St (i + 1) h₃ := W.frame _ _ _ hst₂ fun b hb o e => hk₃ b o (fun hc => hcf b hc hb) e
    have hfpN : L ∉ D :: (cw ++ fp) := by
      simp only [List.mem_cons, List.mem_append, not_or]; exact ⟨hLD, hLc, hLf⟩
    have own1 : ∀ b ∈ D :: (cw ++ wr), ∃ o, (b, o) ∈ PyProof.Rows.ownOf h₀ (D :: (cw ++ fp)) h₃ := by
      intro b hb
      rcases List.mem_cons.mp hb with rfl | hb
      · exact ⟨_, mem_ownOf (List.mem_cons_self ..) hD0 (N₃ _ (List.mem_cons_self ..)).1⟩
      · rcases List.mem_append.mp hb with hb | hb
        · obtain ⟨o, e⟩ := hcx _ (hTR _ _ hT) b hb
          exact ⟨o, mem_ownOf (List.mem_cons_of_mem _ (List.mem_append_left _ hb)) (hc0 b hb) e⟩
        · obtain ⟨o, e⟩ := hwr _ _ hst₃ b hb
          exact ⟨o, mem_ownOf (List.mem_cons_of_mem _ (List.mem_append_right _ (W.sub b hb))) (hw0 b hb) e⟩
    refine wpAny_mono (hrest i ys news' (PyProof.Rows.ownOf h₀ (D :: (cw ++ fp)) h₃) h₃ tk₃ _ hlt R' hT own1
      (fun b hb o e => mem_ownOf (List.mem_cons_of_mem _ (List.mem_append_left _ hb)) (hc0 b hb) e) off' F₃ ((news_ownOf hfpN).append fun p hp => N₃ p (List.mem_cons_of_mem _ hp))) (fun y s₄ h₄ => ?_) fun _ _ e => e
    obtain ⟨h₄, tk₄, news₄, rfl, F₄, N₄, off₄, R₄⟩ := h₄
    have zD := (N₄ (D, lst ys) (List.mem_append_left _ (mem_ownOf (List.mem_cons_self ..) hD0 (N₃ _ (List.mem_cons_self ..)).1))).1
    have keepOwn : ∀ b ∈ cw ++ fp, ∀ o, h₃.get? b = some o → h₄.get? b = some o := by
      intro b hb o e
      cases hn : h₀.get? b with
      | some o₀ =>
        have : o₀ = o := by have q := F₃.keep b o₀ hn; rw [e] at q; exact (Option.some.inj q).symm
        exact this ▸ F₄.keep b o₀ hn
      | none => exact (N₄ _ (List.mem_append_left _ (mem_ownOf (List.mem_cons_of_mem _ hb) hn e))).1
    refine append_at (hsz := by show ys.toArray.size ≤ sizeLine; rw [List.size_toArray, hyl]; exact Nat.le_trans hi hsz) zD fun h₅ hs₅ hD₅ => ?_
    have k5 : ∀ b o, b ≠ D → h₄.get? b = some o → h₅.get? b = some o := fun b o hb e => hs₅.extBut b o hb e
    refine ⟨n + 1 - (i + 1), by omega, h₅, tk₄, i + 1, ys ++ [y], news₄, rfl, hlt, rfl, by rw [List.length_append, List.length_singleton, hyl], ?_, ?_, F₄.change hs₅ (Ne.symm hLD) hD0, ?_, off₄, R₄⟩
    · exact W.frame _ _ _ hst₃ fun b hb o e => k5 b o (fun q => hDf (q ▸ hb)) (keepOwn b (List.mem_append_right _ hb) o e)
    · exact hRd _ _ (hTR _ _ hT) fun b hb o e => k5 b o (fun q => hDc (q ▸ hb)) (keepOwn b (List.mem_append_left _ hb) o e)
    · intro p hp
      rcases List.mem_cons.mp hp with rfl | hp
      · exact ⟨hD₅.trans (congrArg some (lst_snoc ys y)), Ne.symm hLD, hD0⟩
      · have z := N₄ p (List.mem_append_right _ hp)
        exact ⟨k5 _ _ (off1 (off₄ p hp)).1 z.1, z.2⟩
  · obtain rfl : i = n := Nat.le_antisymm hi (Nat.not_lt.mp hlt)
    refine W.done _ _ _ hst' fun h₂ tk₂ hk₂ => ?_
    obtain ⟨hrd₂, F₂, N₂⟩ := keepW h₂ hk₂
    exact hR h₂ tk₂ ys news' F₂ N₂ off' hrd₂ R'
end
end Mine
end
section
open PySem PySem.W PyProof.Rows PySem.Calls PySem.Spec
namespace Mine
open LCg
def ZEnd (h₀ : Heap) (L : Addr) (m : Str → Option Value) (s₁ : Shared) (own : List (Addr × Obj)) (WR : List Addr) (rest : Value → List (Addr × Obj) → Prop) (y : Value) (s₂ : Shared) : Prop :=
  ∃ h' tk' news', s₂ = { s₁ with heap := h', toks := tk' } ∧ Fr h₀ L h' m ∧ News h₀ L h' (own ++ news') ∧ (∀ p ∈ news', p.1 ∉ WR) ∧ rest y news'
def RestZ (prog : Program) (w : World) (A : Around) (h₀ : Heap) (L : Addr) (m : Str → Option Value) (env : Env) (elt : Expr) (x x₂ : Str) (scope : Scope) (cl : List (Str × Addr)) (s : Shared) (Fin : List Value → List (Addr × Obj) → Prop) :
    List (Value × Value) → List Value → List (Addr × Obj) → Prop
  | [], ys, news => Fin ys news
  | p :: r, ys, news => ∀ own WR C oC m₂ h tk (E' : Value → Shared → Prop), (∀ b ∈ WR, ∃ o, (b, o) ∈ own) → (C, oC) ∈ own → NsObj oC m₂ → m₂ x = some p.1 → m₂ x₂ = some p.2 → (∀ p ∈ news, p.1 ∉ WR) → Fr h₀ L h m → News h₀ L h (own ++ news) →
      wpAny (model prog w) A (eval elt (compEnvC scope cl C env)) (ZEnd h₀ L m { s with heap := h, toks := tk } own WR (fun y news' => RestZ prog w A h₀ L m env elt x x₂ scope cl s Fin r (ys ++ [y]) news')) E' { s with heap := h, toks := tk }
/-- a comprehension whose own name is a cell: the cell C, in the list of the names that it closes over -/
def RestX (prog : Program) (w : World) (A : Around) (h₀ : Heap) (L : Addr) (m : Str → Option Value) (env : Env) (elt : Expr) (x : Str) (scope : Scope) (cl : List (Str × Addr)) (s : Shared) (Fin : List Value → List (Addr × Obj) → Prop) :
    List Value → List Value → List (Addr × Obj) → Prop
  | [], ys, news => Fin ys news
  | p :: r, ys, news => ∀ own WR C c oc h tk (E' : Value → Shared → Prop), (∀ b ∈ WR, ∃ o, (b, o) ∈ own) → (c, oc) ∈ own → oc.data = .cell (some p) → (∀ p ∈ news, p.1 ∉ WR) → Fr h₀ L h m → News h₀ L h (own ++ news) →
      wpAny (model prog w) A (eval elt (compEnvC scope ((x, c) :: cl) C env)) (ZEnd h₀ L m { s with heap := h, toks := tk } own WR (fun y news' => RestX prog w A h₀ L m env elt x scope cl s Fin r (ys ++ [y]) news')) E' { s with heap := h, toks := tk }
section
variable {prog : Program} {w : World} {A : Around} {E : Value → Shared → Prop} {s : Shared} {h₀ : Heap} {L : Addr} {m : Str → Option Value} {env : Env}
def SrcZ (prog : Program) (w : World) (A : Around) (h₀ : Heap) (L : Addr) (m : Str → Option Value) (env : Env) (elt : Expr) (target : Expr) (x x₂ : Str) (scope : Scope) (cl : List (Str × Addr)) (Fin : Shared → List Value → List (Addr × Obj) → Prop) (it : Value) (s₂ : Shared) : Prop :=
  ∃ (I : Addr) (fp wr : List Addr) (vs : List (Value × Value)) (Md : Nat → Value → Heap → Prop) (St : Nat → Heap → Prop) (news : List (Addr × Obj)), it = .ref I ∧ A.handled = none ∧
    KTurns prog w A target I fp wr vs.length (fun i v h => ∃ T p, v = .ref T ∧ vs[i]? = some p ∧ h.IsTuple T #[p.1, p.2]) Md St ∧
    (∀ (s : Shared) (Q : Value → Shared → Prop) (E : Value → Shared → Prop), St 0 s.heap → Q (.ref I) s → wpAny (model prog w) A (pyIter (.ref I)) Q E s) ∧ vs.length ≤ sizeLine ∧ (∀ b ∈ wr, h₀.get? b = none) ∧ L ∉ fp ∧
    (∀ i h, St i h → ∀ b ∈ wr, ∃ o, h.get? b = some o) ∧ St 0 s₂.heap ∧ (∀ b ∈ fp, b < s₂.heap.objs.size) ∧ Fr h₀ L s₂.heap m ∧ News h₀ L s₂.heap news ∧ (∀ p ∈ news, p.1 ∉ wr) ∧
    ∀ s₃ : Shared, (∃ h tk, s₃ = { s₂ with heap := h, toks := tk }) → RestZ prog w A h₀ L m env elt x x₂ scope cl s₃ (Fin s₃) vs [] news
theorem ListComp_Z {elt iter : Expr} {x x₂ : Str} {px px₂ tp : Pos} {tk : Nat} {scope : Scope} {cl : List (Str × Addr)} {pos : Pos} {Q : Value → Shared → Prop} (_F₀ : Fr h₀ L s.heap m)
    (hclos : closureFor scope env = pure cl) (hcell : ∀ y ∈ scope.names, y.2 ≠ .cell) (hkind : scope.kind = .function)
    (hnames : ∀ y ∈ scope.names, y.2 = .local → scope.names.lookup y.1 = some .local) (hx : scope.names.lookup x = some .local) (hx₂ : scope.names.lookup x₂ = some .local) (hxx : ¬ x = x₂)
    (h : wpAny (model prog w) A (eval iter env) (fun xv s₁ => wpAny (model prog w) A (pyIter xv) (fun it s₂ => SrcZ prog w A h₀ L m env elt (.Tuple [.Name x px, .Name x₂ px₂] tk tp) x x₂ scope cl (fun s₂ => FinE h₀ L m s₂ Q) it s₂) E s₁) E s)
    (hs : ∀ x, foldedSetIterable iter env x = pure x := by intro _; rfl) :
    wpAny (model prog w) A (eval (.ListComp elt [⟨.Tuple [.Name x px, .Name x₂ px₂] tk tp, iter, [], 0⟩] scope pos) env) Q E s := by
  rw [eval_ListComp]
  refine wpAny_comprehension_free (use := none) rfl hs hclos hkind hnames (wpAny_mono h (fun xv s₁ h₁ => wpAny_mono h₁ (fun it s₂ h₂ => ?_) fun _ _ e => e) fun _ _ e => e)
  obtain ⟨I, fp, wr, vs, Md, St, news, rfl, hh, W, hself, hsz, hwr0, hLf, hwrx, hst, hfp, F, N, hnw, R⟩ := h₂
  refine wpAny_newObj_type (wpAny_newFunctionEnv hcell (by intro y hy; simp at hy) (fun h₁ hns₁ hsb₁ => ?_) hkind)
  dsimp only at hns₁ hsb₁ ⊢
  generalize hH2 : s₂.heap.push { cls := .type "list", dict := none, data := .seq ([] : List Value).toArray } = H2 at hns₁ hsb₁ ⊢
  have hC : H2.objs.size = s₂.heap.objs.size + 1 := by rw [← hH2, Heap.size_push]
  have hDC : s₂.heap.objs.size ≠ H2.objs.size := by rw [hC]; exact Nat.ne_of_lt (Nat.lt_succ_self _)
  have below : ∀ b, b < s₂.heap.objs.size → b ≠ H2.objs.size ∧ b ≠ s₂.heap.objs.size := fun b hb => ⟨by rw [hC]; exact Nat.ne_of_lt (Nat.lt_succ_of_lt hb), Nat.ne_of_lt hb⟩
  have hDf : s₂.heap.objs.size ∉ fp := fun hm => Nat.lt_irrefl _ (hfp _ hm)
  have hCf : H2.objs.size ∉ fp := fun hm => by have := hfp _ hm; rw [hC] at this; exact Nat.lt_irrefl _ (Nat.lt_of_succ_lt this)
  have old : ∀ b o, s₂.heap.get? b = some o → h₁.get? b = some o := fun b o e => hsb₁.extBut b o (below b (Heap.lt_size e)).1 (Heap.get?_push_of_some _ (hH2 ▸ Heap.get?_push_of_some _ e))
  have hacc : h₁.get? s₂.heap.objs.size = some (lst []) := hsb₁.extBut _ _ hDC (Heap.get?_push_of_some _ (hH2 ▸ Heap.get?_push_size _ rfl))
  have hst₁ : St 0 h₁ := W.frame _ _ _ hst fun b _ o e => old b o e
  have fresh₀ : ∀ a, s₂.heap.objs.size ≤ a → h₀.get? a = none := fun a ha => by
    cases e : h₀.get? a with
    | none => rfl
    | some o' => exact absurd (Heap.lt_size (F.keep a o' e)) (Nat.not_lt.mpr ha)
  have hD₀ : h₀.get? s₂.heap.objs.size = none := fresh₀ _ (Nat.le_refl _)
  have hC₀ : h₀.get? H2.objs.size = none := fresh₀ _ (by rw [hC]; exact Nat.le_succ _)
  have hLlt : L < s₂.heap.objs.size := F.ns.lt
  have hLw : L ∉ wr := fun hb => hLf (W.sub _ hb)
  have loop : ∀ s₃ : Shared, s₃ = { s₂ with heap := h₁, toks := s₂.toks + ([] : List (Str × Value)).length } →
      codeAny (model prog w) A (.compLoop (.ListComp elt [⟨.Tuple [.Name x px, .Name x₂ px₂] tk tp, iter, [], 0⟩] scope pos) 0 (.ref I) (.ref s₂.heap.objs.size) (compEnvC scope cl H2.objs.size env))
        (compPost (model prog w) A E none Q (.ref s₂.heap.objs.size) H2.objs.size) s₃ := by
    rintro s₃ rfl
    refine comp_core (D := s₂.heap.objs.size) (cw := [H2.objs.size]) (news := news) W hsz (fun h => ∃ m', h.Ns H2.objs.size m') (fun i h => ∃ p m₂, vs[i]? = some p ∧ h.Ns H2.objs.size m₂ ∧ m₂ x = some p.1 ∧ m₂ x₂ = some p.2)
      (fun h h' ⟨m', hn⟩ hk => ⟨m', hn.at' fun o e => hk _ (List.mem_singleton.mpr rfl) o e⟩) (fun i h ⟨_, m₂, _, hn, _⟩ => ⟨m₂, hn⟩) ?_ hLw
      (fun hm => Nat.lt_irrefl L (Nat.lt_of_lt_of_le hLlt (by rw [List.mem_singleton.mp hm, hC]; exact Nat.le_succ _))) (Nat.ne_of_lt hLlt) hwr0 (fun b hb => by rw [List.mem_singleton.mp hb]; exact hC₀) hD₀
      (fun b hb => by rw [List.mem_singleton.mp hb]; exact hCf) hDf (fun hm => hDC (List.mem_singleton.mp hm))
      (fun i ys nw => RestZ prog w A h₀ L m env elt x x₂ scope cl s₂ (FinE h₀ L m s₂ Q) (vs.drop i) ys nw) ?_ hwrx (fun h ⟨m', hn⟩ b hb => by rw [List.mem_singleton.mp hb]; obtain ⟨o, _, _, e, _⟩ := hn; exact ⟨o, e⟩)
      hst₁ ⟨_, hns₁⟩ (F.keeps old) ?_ ?_ (R s₂ ⟨_, _, rfl⟩) hLf ?_
    · rintro i v s₄ Q₄ E₄ hi ⟨T, p, rfl, hp, hT⟩ ⟨m', hn⟩ hQ
      refine kcp_assign (env := compEnvC scope cl H2.objs.size env) hh hT (lookup_relabel_local hx) (lookup_relabel_local hx₂) (by simp [compEnvC, relabel, hkind]) hn fun h' tk' hn' hk' => hQ h' tk' ⟨p, _, hp, hn', by simp [hxx], by simp⟩ fun b o hb e => hk' b o (fun q => hb (List.mem_singleton.mpr q)) e
    · rintro i ys nw own h tk' E' hi hR ⟨p, m₂, hp, hn, hm1, hm2⟩ hWR hcw hoff F' N'
      obtain ⟨oC, eC, hoC⟩ := ns_obj hn
      have hdrop : vs.drop i = p :: vs.drop (i + 1) := by
        rw [List.drop_eq_getElem_cons hi]
        congr 1
        exact Option.some.inj ((List.getElem?_eq_getElem hi).symm.trans hp)
      have hR' : RestZ prog w A h₀ L m env elt x x₂ scope cl s₂ (FinE h₀ L m s₂ Q) (p :: vs.drop (i + 1)) ys nw := by rw [← hdrop]; exact hR
      exact hR' own _ _ oC m₂ h tk' E' hWR (hcw _ (List.mem_singleton.mpr rfl) _ eC) hoC hm1 hm2 hoff F' N'
    · intro p hp
      rcases List.mem_cons.mp hp with rfl | hp
      · exact ⟨hacc, Ne.symm (Nat.ne_of_lt hLlt), hD₀⟩
      · exact ⟨old _ _ (N p hp).1, (N p hp).2⟩
    · intro p hp
      have hb := below _ (Heap.lt_size (N p hp).1)
      simp only [List.mem_cons, List.mem_append, List.not_mem_nil, or_false, not_or]
      exact ⟨hb.2, hb.1, hnw p hp⟩
    · rintro h' tk' ys nw F' N' hoff ⟨m', hn⟩ hR
      have hnil : vs.drop vs.length = [] := List.drop_eq_nil_of_le (Nat.le_refl _)
      rw [hnil] at hR
      have hR' : FinE h₀ L m s₂ Q ys nw := hR
      have hCL : H2.objs.size ≠ L := by rw [hC]; exact Ne.symm (Nat.ne_of_lt (Nat.lt_succ_of_lt hLlt))
      have hoff' : ∀ p ∈ nw, p.1 ≠ s₂.heap.objs.size ∧ p.1 ≠ H2.objs.size := fun p hp => by
        have := hoff p hp
        simp only [List.mem_cons, List.mem_append, List.not_mem_nil, or_false, not_or] at this
        exact ⟨this.1, this.2.1⟩
      refine ⟨m', hn, fun h'' hs'' => hR' _ h'' tk' (F'.change hs'' hCL hC₀) (fun p hp => ?_) ?_⟩
      · refine ⟨hs''.extBut _ _ ?_ (N' p hp).1, (N' p hp).2⟩
        rcases List.mem_cons.mp hp with rfl | hp
        · exact hDC
        · exact (hoff' p hp).2
      · exact (Off3.of (I := s₂.heap.objs.size) (C := H2.objs.size) (D := s₂.heap.objs.size) fun p hp => ⟨(hoff' p hp).1, (hoff' p hp).2, (hoff' p hp).1⟩).one
  exact codeAny_compStart_list (loop _ rfl) (hself _ _ _ hst₁ (loop _ rfl))
theorem kt_imp {target : Expr} {I : Addr} {fp wr : List Addr} {n n' : Nat} {P P' Md : Nat → Value → Heap → Prop} {St : Nat → Heap → Prop} (W : KTurns prog w A target I fp wr n P Md St) (hn : n = n') (hP : ∀ i v h, P i v h → P' i v h) :
    KTurns prog w A target I fp wr n' P' Md St := by
  subst hn
  exact { sub := W.sub, frame := W.frame, item := W.item, done := W.done, go := fun i v s Q E hm hQ => W.go i v s Q E hm fun h' hp hst hk => hQ h' (hP _ _ _ hp) hst hk }
theorem zip_src {l1 l2 : Addr} {k1 k2 : Nat} {xs ys : List Value} {news : List (Addr × Obj)} {elt : Expr} {elts : List Expr} {k : Nat} {pos : Pos} {x x₂ : Str} {scope : Scope} {cl : List (Str × Addr)} {Fin : Shared → List Value → List (Addr × Obj) → Prop}
    (hh : A.handled = none) (F : Fr h₀ L s.heap m) (N : News h₀ L s.heap news) (hm1 : (l1, listOf xs.toArray k1) ∈ news) (hm2 : (l2, listOf ys.toArray k2) ∈ news) (hsz : xs.length ≤ sizeLine)
    (rest : ∀ s₃ : Shared, (∃ h tk, s₃ = { s with heap := h, toks := tk }) → RestZ prog w A h₀ L m env elt x x₂ scope cl s₃ (Fin s₃) (xs.zip ys) [] news) :
    wpAny (model prog w) A (call (.type "zip") [.ref l1, .ref l2]) (fun xv s₁ => wpAny (model prog w) A (pyIter xv) (fun it s₂ => SrcZ prog w A h₀ L m env elt (.Tuple elts k pos) x x₂ scope cl Fin it s₂) E s₁) E s := by
  have hax1 := N _ hm1
  have hax2 := N _ hm2
  have hl1 : s.heap.IsList l1 xs.toArray := ⟨_, hax1.1, rfl, _, rfl⟩
  have hl2 : s.heap.IsList l2 ys.toArray := ⟨_, hax2.1, rfl, _, rfl⟩
  have hlt1 : l1 < s.heap.objs.size := Heap.lt_size hax1.1
  have hlt2 : l2 < s.heap.objs.size := Heap.lt_size hax2.1
  have hLs : L < s.heap.objs.size := F.ns.lt
  have D : ZipApart (s.heap.objs.size + 4) (s.heap.objs.size + 2) (s.heap.objs.size + 3) s.heap.objs.size (s.heap.objs.size + 1) l1 l2 := ktu_apart _ _ _ hlt1 hlt2
  refine call_zip_2 hl1 hl2 fun h' hz hTI hTO hi1 hi2 hsz' hk => ?_
  refine wpAny_pyIter_zip hz ?_
  have W := WalksT.zip2 (prog := prog) (w := w) hh _ _ _ _ _ _ _ D xs.toArray ys.toArray
  have fresh : ∀ j : Nat, h₀.get? (s.heap.objs.size + j) = none := fun j => Heap.get?_none_of_le (Nat.le_trans (Nat.le_of_lt (Nat.lt_of_le_of_lt F.above hLs)) (Nat.le_add_right _ _))
  refine ⟨_, _, _, xs.zip ys, _, _, news, rfl, hh, kt_imp (KTurns.ofWalksU W.toU) (by simp [List.length_zip]) ?_, fun s Q E st hQ => W.self 0 s Q E st hQ, ?_, ?_, ?_, ?_, ⟨hz, hTI, ⟨_, _, hTO⟩, hi1, hi2, hl1.at fun o e => hk _ o e, hl2.at fun o e => hk _ o e⟩, ?_, F.keeps hk, N.grown hk, ?_, ?_⟩
  · rintro i v h ⟨T, vals, rfl, ⟨a, b, ha, hb, rfl⟩, hT⟩
    refine ⟨T, (a, b), rfl, ?_, hT⟩
    have ha' : xs[i]? = some a := by simpa using ha
    have hb' : ys[i]? = some b := by simpa using hb
    rw [List.getElem?_zip_eq_some]
    exact ⟨ha', hb'⟩
  · rw [List.length_zip]; exact Nat.le_trans (Nat.min_le_left _ _) hsz
  · intro b hb
    have hb' : b = s.heap.objs.size + 4 ∨ b = s.heap.objs.size + 3 ∨ b = s.heap.objs.size + 0 ∨ b = s.heap.objs.size + 1 := by simpa using hb
    rcases hb' with rfl | rfl | rfl | rfl <;> exact fresh _
  · intro hb
    have hb' : L = s.heap.objs.size + 4 ∨ L = s.heap.objs.size + 2 ∨ L = s.heap.objs.size + 3 ∨ L = s.heap.objs.size + 0 ∨ L = s.heap.objs.size + 1 ∨ L = l1 ∨ L = l2 := by simpa using hb
    rcases hb' with e | e | e | e | e | e | e
    · exact ktu_ne 4 hLs e
    · exact ktu_ne 2 hLs e
    · exact ktu_ne 3 hLs e
    · exact Nat.ne_of_lt hLs e
    · exact ktu_ne 1 hLs e
    · exact hax1.2.1 e.symm
    · exact hax2.2.1 e.symm
  · rintro i h ⟨hz, hTI, ⟨a, b, hTO⟩, ⟨o1, ho1, _⟩, ⟨o2, ho2, _⟩, _⟩ c hc
    have hc' : c = s.heap.objs.size + 4 ∨ c = s.heap.objs.size + 3 ∨ c = s.heap.objs.size ∨ c = s.heap.objs.size + 1 := by simpa using hc
    rcases hc' with rfl | rfl | rfl | rfl
    · exact ⟨_, hz⟩
    · exact ⟨_, hTO⟩
    · exact ⟨_, ho1⟩
    · exact ⟨_, ho2⟩
  · intro b hb
    show b < h'.objs.size
    rw [hsz']
    have hb' : b = s.heap.objs.size + 4 ∨ b = s.heap.objs.size + 2 ∨ b = s.heap.objs.size + 3 ∨ b = s.heap.objs.size + 0 ∨ b = s.heap.objs.size + 1 ∨ b = l1 ∨ b = l2 := by simpa using hb
    rcases hb' with rfl | rfl | rfl | rfl | rfl | rfl | rfl
    · exact Nat.add_lt_add_left (by decide) _
    · exact Nat.add_lt_add_left (by decide) _
    · exact Nat.add_lt_add_left (by decide) _
    · exact Nat.add_lt_add_left (by decide) _
    · exact Nat.add_lt_add_left (by decide) _
    · exact Nat.lt_of_lt_of_le hlt1 (Nat.le_add_right _ _)
    · exact Nat.lt_of_lt_of_le hlt2 (Nat.le_add_right _ _)
  · intro p hp hb
    have hlp := Heap.lt_size (N p hp).1
    have hb' : p.1 = s.heap.objs.size + 4 ∨ p.1 = s.heap.objs.size + 3 ∨ p.1 = s.heap.objs.size ∨ p.1 = s.heap.objs.size + 1 := by simpa using hb
    rcases hb' with e | e | e | e
    · exact ktu_ne 4 hlp e
    · exact ktu_ne 3 hlp e
    · exact Nat.ne_of_lt hlp e
    · exact ktu_ne 1 hlp e
  · rintro s₃ ⟨h3, tk3, rfl⟩
    exact rest _ ⟨h3, tk3, rfl⟩
end
end Mine
namespace Mine
open LCg
section
variable {prog : Program} {w : World} {A : Around} {s : Shared} {h₀ : Heap} {L : Addr} {m : Str → Option Value} {env : Env}
end
end Mine
namespace Mine
end Mine
end
section
open PySem PySem.W PyProof.Rows PySem.Calls PySem.Spec
namespace Mine
open LCg
theorem neA {a b : Nat} (h : a ≠ b) : @Ne Addr a b := h
theorem isCell_at {h h' : Heap} {c : Addr} {v : Option Value} (x : h.IsCell c v) (e : ∀ o, h.get? c = some o → h'.get? c = some o) : h'.IsCell c v := let ⟨o, ho, hd⟩ := x; ⟨o, e o ho, hd⟩
theorem lookup_relabel_cell {env : Env} : ∀ {names : List (Str × NameKind)} {x : Str}, names.lookup x = some .cell →
    (names.map fun (n, k) => if (k == NameKind.free && env.scope.kind == .function && env.kindOf n == some .cell) then (n, NameKind.cell) else (n, k)).lookup x = some .cell
  | [], _, h => by simp at h
  | (n, k) :: r, x, h => by
    have ih := @lookup_relabel_cell env r x
    show List.lookup x ((if (k == NameKind.free && env.scope.kind == .function && env.kindOf n == some .cell) = true then (n, NameKind.cell) else (n, k)) :: _) = _
    cases hx : x == n with
    | true =>
      simp only [List.lookup_cons, hx] at h
      cases h
      simp [List.lookup_cons, hx]
    | false =>
      simp only [List.lookup_cons, hx] at h
      by_cases hc : (k == NameKind.free && env.scope.kind == .function && env.kindOf n == some .cell) = true
      · rw [if_pos hc]; simp only [List.lookup_cons, hx]; exact ih h
      · rw [if_neg hc]; simp only [List.lookup_cons, hx]; exact ih h
section
variable {M : Model} {A : Around} {E : Value → Shared → Prop} {s : Shared}
theorem newEnv_own {scope : Scope} {env : Env} {cl : List (Str × Addr)} {x : Str} {Q : Env → Shared → Prop} (hcf : ∀ n acc, cellsFrom n scope.names acc = (x, n) :: acc) (hpc : ∀ h, pushCells h scope.names = h.push { cls := .type "cell", data := .cell none })
    (hQ : Q (newEnv scope s.heap.objs.size env.globals ((x, s.heap.objs.size + 1) :: cl) env.qual none .none (some env) builtinsNs) { s with heap := (s.heap.push { cls := .type "dict", data := .dict #[] }).push { cls := .type "cell", data := .cell none } }) :
    wpAny M A (newFunctionEnv scope env.globals cl [] env.qual none .none (some env)) Q E s := by
  simp only [newFunctionEnv, Option.isSome_some, if_true]
  refine wpAny_bind (wpAny_alloc ?_)
  refine wpAny_bind (wpAny_layCells _ (fun name kind cells => by cases hkc : kind == NameKind.cell <;> simp [hkc]) _ _ _ _ ?_)
  rw [hcf, hpc]
  rw [List.forIn_nil]
  refine wpAny_bind (wpAny_pure (wpAny_pure ?_))
  rw [show ({ s with heap := s.heap.push { cls := .type "dict", data := .dict #[] } } : Shared).heap.objs.size = s.heap.objs.size + 1 from Heap.size_push ..]
  exact hQ
end
section
variable {prog : Program} {w : World} {A : Around} {E : Value → Shared → Prop} {s : Shared} {h₀ : Heap} {L : Addr} {m : Str → Option Value} {env : Env}
def SrcX (prog : Program) (w : World) (A : Around) (h₀ : Heap) (L : Addr) (m : Str → Option Value) (env : Env) (elt : Expr) (x : Str) (scope : Scope) (cl : List (Str × Addr)) (Fin : Shared → List Value → List (Addr × Obj) → Prop) (xv : Value) (s₁ : Shared) : Prop :=
  ∃ (ax : Addr) (its : List Value) (k : Nat) (news : List (Addr × Obj)), xv = .ref ax ∧ A.handled = none ∧ Fr h₀ L s₁.heap m ∧ News h₀ L s₁.heap news ∧ (ax, listOf its.toArray k) ∈ news ∧ its.length ≤ sizeLine ∧
    ∀ s₃ : Shared, (∃ h tk, s₃ = { s₁ with heap := h, toks := tk }) → RestX prog w A h₀ L m env elt x scope cl s₃ (Fin s₃) its [] news
theorem SrcX.intro {elt : Expr} {x : Str} {scope : Scope} {cl : List (Str × Addr)} {Fin : Shared → List Value → List (Addr × Obj) → Prop} {ax : Addr} {its : List Value} {k : Nat} {news : List (Addr × Obj)}
    (hh : A.handled = none) (F : Fr h₀ L s.heap m) (N : News h₀ L s.heap news) (hm : (ax, listOf its.toArray k) ∈ news) (hsz : its.length ≤ sizeLine)
    (h : ∀ s₃ : Shared, (∃ h tk, s₃ = { s with heap := h, toks := tk }) → RestX prog w A h₀ L m env elt x scope cl s₃ (Fin s₃) its [] news) :
    SrcX prog w A h₀ L m env elt x scope cl Fin (.ref ax) s := ⟨ax, its, k, news, rfl, hh, F, N, hm, hsz, h⟩
theorem ListComp_X {elt iter : Expr} {x : Str} {px : Pos} {scope : Scope} {cl : List (Str × Addr)} {pos : Pos} {Q : Value → Shared → Prop} (_F₀ : Fr h₀ L s.heap m)
    (hclos : closureFor scope env = pure cl) (hcf : ∀ n acc, cellsFrom n scope.names acc = (x, n) :: acc) (hpc : ∀ h, pushCells h scope.names = h.push { cls := .type "cell", data := .cell none }) (hkind : scope.kind = .function)
    (hnames : ∀ y ∈ scope.names, y.2 = .local → scope.names.lookup y.1 = some .local) (hx : scope.names.lookup x = some .cell)
    (h : wpAny (model prog w) A (eval iter env) (fun xv s₁ => SrcX prog w A h₀ L m env elt x scope cl (fun s₂ => FinE h₀ L m s₂ Q) xv s₁) E s)
    (hs : ∀ x, foldedSetIterable iter env x = pure x := by intro _; rfl) :
    wpAny (model prog w) A (eval (.ListComp elt [⟨.Name x px, iter, [], 0⟩] scope pos) env) Q E s := by
  rw [eval_ListComp]
  refine wpAny_comprehension_free (use := none) rfl hs hclos hkind hnames (wpAny_mono h (fun xv s₁ h₁ => ?_) fun _ _ e => e)
  obtain ⟨ax, its, k, news, rfl, hh, F, N, hm, hsz, R⟩ := h₁
  have hax := N _ hm
  have hl : s₁.heap.IsList ax its.toArray := ⟨_, hax.1, rfl, _, rfl⟩
  have hlt : ax < s₁.heap.objs.size := Heap.lt_size hax.1
  have hLlt : L < s₁.heap.objs.size := F.ns.lt
  refine wpAny_pyIter_list hl ?_
  generalize hI : s₁.heap.objs.size = I at hlt hLlt
  refine wpAny_newObj_type (newEnv_own hcf hpc ?_)
  dsimp only
  generalize hH1 : s₁.heap.push { cls := .type "list_iterator", data := .fields #[.ref ax, .int 0 0] } = H1
  generalize hH2 : H1.push { cls := .type "list", dict := none, data := .seq ([] : List Value).toArray } = H2
  have hD : H1.objs.size = I + 1 := by rw [← hH1, Heap.size_push, hI]
  have hC : H2.objs.size = I + 2 := by rw [← hH2, Heap.size_push, hD]
  generalize hH3 : (H2.push { cls := .type "dict", data := .dict #[] }).push { cls := .type "cell", data := .cell none } = h₁
  have old1 : ∀ b o, s₁.heap.get? b = some o → H1.get? b = some o := fun b o e => hH1 ▸ Heap.get?_push_of_some _ e
  have up2 : ∀ b o, H1.get? b = some o → H2.get? b = some o := fun b o e => hH2 ▸ Heap.get?_push_of_some _ e
  have up3 : ∀ b o, H2.get? b = some o → h₁.get? b = some o := fun b o e => hH3 ▸ Heap.get?_push_of_some _ (Heap.get?_push_of_some _ e)
  have old : ∀ b o, s₁.heap.get? b = some o → h₁.get? b = some o := fun b o e => up3 _ _ (up2 _ _ (old1 _ _ e))
  have hacc : h₁.get? (I + 1) = some (lst []) := up3 _ _ (by rw [← hH2, ← hD]; exact Heap.get?_push_size _ rfl)
  have hit : h₁.get? I = some { cls := .type "list_iterator", data := .fields #[.ref ax, .int 0 0] } := up3 _ _ (up2 _ _ (by rw [← hH1, ← hI]; exact Heap.get?_push_size _ rfl))
  have hns : h₁.Ns (I + 2) (fun _ => none) := by
    rw [← hC, ← hH3]
    exact (Heap.Ns.new ..).at' fun o e => Heap.get?_push_of_some _ e
  have hcl : h₁.IsCell (I + 3) none := by
    refine ⟨{ cls := .type "cell", data := .cell none }, ?_, rfl⟩
    rw [← hH3, show I + 3 = (H2.push { cls := .type "dict", data := .dict #[] }).objs.size by rw [Heap.size_push, hC]]
    exact Heap.get?_push_size _ rfl
  rw [hC, hD, show I + 2 + 1 = I + 3 from rfl]
  have fresh₀ : ∀ a, I ≤ a → h₀.get? a = none := fun a ha => by
    cases e : h₀.get? a with
    | none => rfl
    | some o' => exact absurd (Heap.lt_size (F.keep a o' e)) (by rw [hI]; exact Nat.not_lt.mpr ha)
  have nI : ∀ j, I ≠ I + (j + 1) := fun j => by omega
  have hst₁ : h₁.IsListIter I ax 0 ∧ h₁.IsList ax its.toArray := ⟨⟨_, hit, rfl, rfl⟩, hl.at fun o e => old _ _ e⟩
  have W : KTurns prog w A (.Name x px) I [I, ax] [I] its.length (fun i v _ => its[i]? = some v) (fun i v h => its.toArray[i]? = some v ∧ h.IsListIter I ax (i + 1) ∧ h.IsList ax its.toArray) (fun i h => h.IsListIter I ax i ∧ h.IsList ax its.toArray) :=
    kt_imp (KTurns.ofWalks (Walks.list hh I ax (Nat.ne_of_lt hlt) its.toArray) fun _ _ s Q E _ hQ => by show wpAny _ _ (pure ()) _ _ _; exact wpAny_pure hQ) (by simp) (fun i v h hp => by simpa using hp)
  have cwm : ∀ b, b ∈ [I + 2, I + 3] ↔ b = I + 2 ∨ b = I + 3 := fun b => by simp
  have hLI : L ≠ I := Nat.ne_of_lt hLlt
  have hCw : ∀ b ∈ [I + 2, I + 3], @LT.lt Nat _ (I + 1) b := fun b hb => by rcases (cwm b).mp hb with rfl | rfl <;> omega
  have hLn : @LT.lt Nat _ L I := hLlt
  have hfp : ∀ b, b ∈ [I, ax] → @LE.le Nat _ b I := fun b hb => by
    have : b = I ∨ b = ax := by simpa using hb
    rcases this with rfl | rfl
    · exact Nat.le_refl _
    · exact Nat.le_of_lt hlt
  have loop : ∀ s₃ : Shared, s₃ = { s₁ with heap := h₁ } →
      codeAny (model prog w) A (.compLoop (.ListComp elt [⟨.Name x px, iter, [], 0⟩] scope pos) 0 (.ref I) (.ref (I + 1)) (compEnvC scope ((x, I + 3) :: cl) (I + 2) env))
        (compPost (model prog w) A E none Q (.ref (I + 1)) (I + 2)) s₃ := by
    rintro s₃ rfl
    refine comp_core (D := I + 1) (cw := [I + 2, I + 3]) (news := news) W hsz (fun h => (∃ m', h.Ns (I + 2) m') ∧ ∃ v, h.IsCell (I + 3) v) (fun i h => ∃ p m', its[i]? = some p ∧ h.Ns (I + 2) m' ∧ h.IsCell (I + 3) (some p))
      (fun h h' ⟨⟨m', hn⟩, v, hv⟩ hk => ⟨⟨m', hn.at' fun o e => hk _ ((cwm _).mpr (Or.inl rfl)) o e⟩, v, isCell_at hv fun o e => hk _ ((cwm _).mpr (Or.inr rfl)) o e⟩) (fun i h ⟨p, m', _, hn, hv⟩ => ⟨⟨m', hn⟩, _, hv⟩) ?_ (by simpa using hLI)
      (fun hm => by have := hCw _ hm; omega) (neA (by omega)) (fun b hb => by rw [List.mem_singleton.mp hb]; exact fresh₀ _ (Nat.le_refl _)) (fun b hb => fresh₀ _ (Nat.le_of_lt (Nat.lt_of_succ_lt (hCw b hb)))) (fresh₀ _ (Nat.le_succ _))
      (fun b hb hb' => by have := hCw b hb; have := hfp b hb'; omega) (fun hb' => by have := hfp _ hb'; omega) (fun hm => by have := hCw _ hm; omega)
      (fun i ys nw => RestX prog w A h₀ L m env elt x scope cl { s₁ with heap := h₁ } (FinE h₀ L m { s₁ with heap := h₁ } Q) (its.drop i) ys nw) ?_ (fun i h st b hb => by rw [List.mem_singleton.mp hb]; obtain ⟨o, e, _⟩ := st.1; exact ⟨o, e⟩)
      (fun h ⟨⟨m', hn⟩, v, hv⟩ b hb => by
        rcases (cwm b).mp hb with rfl | rfl
        · obtain ⟨o, _, _, e, _⟩ := hn; exact ⟨o, e⟩
        · obtain ⟨o, e, _⟩ := hv; exact ⟨o, e⟩)
      hst₁ ⟨⟨_, hns⟩, _, hcl⟩ (F.keeps old) ?_ ?_ (R _ ⟨_, _, rfl⟩) (fun hb' => by
        have : L = I ∨ L = ax := by simpa using hb'
        rcases this with e | e
        · exact hLI e
        · exact hax.2.1 e.symm) ?_
    · rintro i v s₄ Q₄ E₄ hi hp ⟨⟨m', hn⟩, v0, hv⟩ hQ
      refine wpAny_assign_Name (wpAny_storeName_cell (v₀ := v0) (c := I + 3) (by simp [compEnvC, relabel, hkind]) (lookup_relabel_cell hx) (by simp [compEnvC]) hv fun h' hc' hs' => ?_)
      refine hQ h' s₄.toks ⟨v, m', hp, hn.sameBut hs' (neA (by omega)), hc'⟩ fun b o hb e => hs'.extBut b o (fun q => hb ((cwm b).mpr (Or.inr q))) e
    · rintro i ys nw own h tk' E' hi hR ⟨p, m', hp, hn, hv⟩ hWR hcw hoff F' N'
      obtain ⟨oc, ec, hoc⟩ := hv
      have hdrop : its.drop i = p :: its.drop (i + 1) := by
        rw [List.drop_eq_getElem_cons hi]
        congr 1
        exact Option.some.inj ((List.getElem?_eq_getElem hi).symm.trans hp)
      have hR' : RestX prog w A h₀ L m env elt x scope cl { s₁ with heap := h₁ } (FinE h₀ L m { s₁ with heap := h₁ } Q) (p :: its.drop (i + 1)) ys nw := by rw [← hdrop]; exact hR
      exact hR' own _ _ (I + 3) oc h tk' E' hWR (hcw _ ((cwm _).mpr (Or.inr rfl)) _ ec) hoc hoff F' N'
    · intro p hp
      rcases List.mem_cons.mp hp with rfl | hp
      · exact ⟨hacc, neA (by omega), fresh₀ _ (Nat.le_succ _)⟩
      · exact ⟨old _ _ (N p hp).1, (N p hp).2⟩
    · intro p hp
      have hb : @LT.lt Nat _ p.1 I := hI ▸ Heap.lt_size (N p hp).1
      simp only [List.mem_cons, List.mem_append, List.not_mem_nil, or_false, not_or]
      exact ⟨neA (by omega), ⟨neA (by omega), neA (by omega)⟩, neA (by omega)⟩
    · rintro h' tk' ys nw F' N' hoff ⟨⟨m', hn⟩, v, hv⟩ hR
      have hnil : its.drop its.length = [] := List.drop_eq_nil_of_le (Nat.le_refl _)
      rw [hnil] at hR
      have hR' : FinE h₀ L m { s₁ with heap := h₁ } Q ys nw := hR
      have hoff' : ∀ p ∈ nw, p.1 ≠ I + 1 ∧ p.1 ≠ I + 2 := fun p hp => by
        have := hoff p hp
        simp only [List.mem_cons, List.mem_append, List.not_mem_nil, or_false, not_or] at this
        exact ⟨this.1, this.2.1.1⟩
      refine ⟨m', hn, fun h'' hs'' => hR' _ h'' tk' (F'.change hs'' (neA (by omega)) (fresh₀ _ (by omega))) (fun p hp => ?_) ?_⟩
      · refine ⟨hs''.extBut _ _ ?_ (N' p hp).1, (N' p hp).2⟩
        rcases List.mem_cons.mp hp with rfl | hp
        · exact neA (by omega)
        · exact (hoff' p hp).2
      · exact (Off3.of (I := I + 1) (C := I + 2) (D := I + 1) fun p hp => ⟨(hoff' p hp).1, (hoff' p hp).2, (hoff' p hp).1⟩).one
  exact codeAny_compStart_list (loop _ rfl) (wpAny_pyIter_listiter hst₁.1 (loop _ rfl))
end
section
variable {prog : Program} {w : World} {A : Around} {s : Shared} {h₀ : Heap} {L : Addr} {m : Str → Option Value} {env : Env}
end
end Mine
end
section
namespace Mine
theorem gcd_fmod {a b : Int} (ha : 0 ≤ a) (hb : 0 < b) : Int.gcd b (a.fmod b) = Int.gcd a b := by
  obtain ⟨m, rfl⟩ := Int.eq_ofNat_of_zero_le ha
  obtain ⟨n, rfl⟩ := Int.eq_ofNat_of_zero_le (Int.le_of_lt hb)
  rw [Int.fmod_eq_emod_of_nonneg _ (Int.le_of_lt hb), ← Int.natCast_emod]
  show Nat.gcd n (m % n) = Nat.gcd m n
  rw [Nat.gcd_comm n, Nat.gcd_comm m, ← Nat.gcd_rec]
theorem fr_num {a b : Int} (hb : b ≠ 0) : Int.fdiv a (if b > 0 then (Int.gcd a b : Int) else -(Int.gcd a b : Int)) = (Rat.divInt a b).num := by
  have hg : (0 : Int) < Int.gcd a b := by have := Int.gcd_pos_of_ne_zero_right a hb; omega
  have hd : (Int.gcd a b : Int) ∣ a := Int.gcd_dvd_left a b
  rw [Rat.num_divInt, Int.gcd_comm b a]
  rcases Int.lt_or_gt_of_ne hb with h | h
  · rw [if_neg (by omega), Int.sign_eq_neg_one_of_neg h]
    rw [Int.fdiv_eq_ediv_of_dvd ((Int.neg_dvd).mpr hd), Int.ediv_neg, Int.neg_mul, Int.one_mul, Int.neg_ediv_of_dvd hd]
  · rw [if_pos h, Int.sign_eq_one_of_pos h, Int.one_mul, Int.fdiv_eq_ediv_of_dvd hd]
theorem fr_den {a b : Int} (hb : b ≠ 0) : Int.fdiv b (if b > 0 then (Int.gcd a b : Int) else -(Int.gcd a b : Int)) = ((Rat.divInt a b).den : Int) := by
  have hg : (0 : Int) < Int.gcd a b := by have := Int.gcd_pos_of_ne_zero_right a hb; omega
  have hd : (Int.gcd a b : Int) ∣ b := Int.gcd_dvd_right a b
  rw [Rat.den_divInt, if_neg hb, Int.gcd_comm b a, Int.natCast_ediv]
  rcases Int.lt_or_gt_of_ne hb with h | h
  · rw [if_neg (by omega), Int.fdiv_eq_ediv_of_dvd ((Int.neg_dvd).mpr hd), Int.ediv_neg, ← Int.neg_ediv_of_dvd hd]
    congr 1; omega
  · rw [if_pos h, Int.fdiv_eq_ediv_of_dvd hd]
    congr 1; omega
theorem fr_part_ne {a b : Int} (hb : b ≠ 0) : (if b > 0 then (Int.gcd a b : Int) else -(Int.gcd a b : Int)) ≠ 0 := by
  have := Int.gcd_pos_of_ne_zero_right a hb
  split <;> omega
theorem fr_part_log {a b : Int} (hb : b ≠ 0) (h : b.natAbs < 2 ^ 2000) : (if b > 0 then (Int.gcd a b : Int) else -(Int.gcd a b : Int)).natAbs.log2 < 9000 := by
  have h1 : Int.gcd a b ≤ b.natAbs := Int.gcd_le_natAbs_right a hb
  have h0 := Int.gcd_pos_of_ne_zero_right a hb
  have e : (if b > 0 then (Int.gcd a b : Int) else -(Int.gcd a b : Int)).natAbs = Int.gcd a b := by split <;> omega
  rw [e]
  have : Int.gcd a b < 2 ^ 2000 := Nat.lt_of_le_of_lt h1 h
  have : (Int.gcd a b).log2 < 2000 := (Nat.log2_lt (by omega)).mpr this
  omega
theorem fr_num_le (a b : Int) : (Rat.divInt a b).num.natAbs ≤ a.natAbs := by
  rw [Rat.num_divInt]
  rcases Int.lt_trichotomy b 0 with h | h | h
  · rw [Int.sign_eq_neg_one_of_neg h, Int.neg_mul, Int.one_mul]
    refine Nat.le_trans (Int.natAbs_ediv_le_natAbs _ _) (by omega)
  · subst h; simp
  · rw [Int.sign_eq_one_of_pos h, Int.one_mul]
    exact Int.natAbs_ediv_le_natAbs _ _
theorem fr_den_le {a b : Int} (hb : b ≠ 0) : (Rat.divInt a b).den ≤ b.natAbs := by
  rw [Rat.den_divInt, if_neg hb]
  exact Nat.div_le_self _ _
/-- a fraction's size -/
structure Sz (k : Nat) (x : Rat) : Prop where
  intro ::
  left : x.num.natAbs < 2 ^ k
  right : x.den < 2 ^ k
/-- an int's size -/
structure Sm (k : Nat) (x : Int) : Prop where
  intro ::
  lt : x.natAbs < 2 ^ k
theorem Sz.mono {k l : Nat} {x : Rat} (h : Sz k x) (hl : k ≤ l) : Sz l x :=
  ⟨Nat.lt_of_lt_of_le h.left (Nat.pow_le_pow_right (by decide) hl), Nat.lt_of_lt_of_le h.right (Nat.pow_le_pow_right (by decide) hl)⟩
theorem mul_lt_pow {a b k l : Nat} (ha : a < 2 ^ k) (hb : b < 2 ^ l) : a * b < 2 ^ (k + l) := by
  rw [Nat.pow_add]
  exact Nat.mul_lt_mul'' ha hb
theorem ti_mul (x y : Rat) : Rat.divInt (x.num * y.num) ((x.den : Int) * y.den) = x * y := by
  rw [Rat.mul_def', ← Int.natCast_mul, Rat.divInt_ofNat]
theorem ti_sub (x y : Rat) : Rat.divInt (x.num * y.den - y.num * x.den) ((x.den : Int) * y.den) = x - y := by
  rw [Rat.sub_def', ← Int.natCast_mul, Rat.divInt_ofNat]
theorem ti_div (x y : Rat) : Rat.divInt (x.num * y.den) ((x.den : Int) * y.num) = x / y := by
  rw [Rat.div_def, Rat.inv_def]
  conv => rhs; rw [← Rat.num_divInt_den x]
  rw [Rat.divInt_mul_divInt]
theorem den_ne (x : Rat) : (x.den : Int) ≠ 0 := by have := x.den_nz; omega
theorem num_ne {x : Rat} (h : x ≠ 0) : x.num ≠ 0 := fun e => h (Rat.num_eq_zero.mp e)
theorem Sz.mul {k l : Nat} {x y : Rat} (hx : Sz k x) (hy : Sz l y) : Sz (k + l) (x * y) := by
  rw [← ti_mul]
  refine ⟨Nat.lt_of_le_of_lt (fr_num_le _ _) ?_, Nat.lt_of_le_of_lt (fr_den_le (Int.mul_ne_zero (den_ne x) (den_ne y))) ?_⟩
  · rw [Int.natAbs_mul]; exact mul_lt_pow hx.left hy.left
  · rw [Int.natAbs_mul]; exact mul_lt_pow hx.right hy.right
theorem Sz.div {k l : Nat} {x y : Rat} (hx : Sz k x) (hy : Sz l y) (h0 : y ≠ 0) : Sz (k + l) (x / y) := by
  rw [← ti_div]
  refine ⟨Nat.lt_of_le_of_lt (fr_num_le _ _) ?_, Nat.lt_of_le_of_lt (fr_den_le (Int.mul_ne_zero (den_ne x) (num_ne h0))) ?_⟩
  · rw [Int.natAbs_mul]; exact mul_lt_pow hx.left hy.right
  · rw [Int.natAbs_mul]; exact mul_lt_pow hx.right hy.left
theorem Sz.sub {k l : Nat} {x y : Rat} (hx : Sz k x) (hy : Sz l y) : Sz (k + l + 1) (x - y) := by
  rw [← ti_sub]
  refine ⟨Nat.lt_of_le_of_lt (fr_num_le _ _) ?_, Nat.lt_of_le_of_lt (fr_den_le (Int.mul_ne_zero (den_ne x) (den_ne y))) ?_⟩
  · have h1 : (x.num * y.den).natAbs < 2 ^ (k + l) := by rw [Int.natAbs_mul]; exact mul_lt_pow hx.left hy.right
    have h2 : (y.num * x.den).natAbs < 2 ^ (k + l) := by rw [Int.natAbs_mul, Nat.add_comm]; exact mul_lt_pow hy.left hx.right
    rw [Nat.pow_succ]; omega
  · rw [Int.natAbs_mul, Nat.pow_succ]
    have : (x.den : Int).natAbs * (y.den : Int).natAbs < 2 ^ (k + l) := mul_lt_pow hx.right hy.right
    omega
theorem Sz.neg {k : Nat} {x : Rat} (hx : Sz k x) : Sz k (-x) := ⟨by rw [Rat.neg_num, Int.natAbs_neg]; exact hx.left, hx.right⟩
end Mine
namespace Mine
end Mine
namespace Mine
theorem dd_ne (x y : Rat) : (x.den : Int) * (y.den : Int) ≠ 0 := Int.mul_ne_zero (den_ne x) (den_ne y)
theorem dn_ne {x y : Rat} (h : y ≠ 0) : (x.den : Int) * y.num ≠ 0 := Int.mul_ne_zero (den_ne x) (num_ne h)
theorem dd_lt {x y : Rat} (hx : Sz 900 x) (hy : Sz 900 y) : Sm 2000 ((x.den : Int) * (y.den : Int)) := by
  constructor
  rw [Int.natAbs_mul]
  exact Nat.lt_of_lt_of_le (mul_lt_pow hx.right hy.right) (Nat.pow_le_pow_right (by decide) (by decide))
theorem dn_lt {x y : Rat} (hx : Sz 900 x) (hy : Sz 900 y) : Sm 2000 ((x.den : Int) * y.num) := by
  constructor
  rw [Int.natAbs_mul]
  exact Nat.lt_of_lt_of_le (mul_lt_pow hx.right hy.left) (Nat.pow_le_pow_right (by decide) (by decide))
end Mine
end
section
open PySem PySem.W PyProof.Rows PySem.Calls PySem.Spec
namespace Mine
section
variable {prog : Program} {w : World} {A : Around} {E : Value → Shared → Prop} {s : Shared} {h₀ : Heap} {L : Addr} {m : Str → Option Value} {news : List (Addr × Obj)}
end
end Mine
namespace Mine
section
variable {prog : Program} {w : World} {A : Around} {E : Value → Shared → Prop} {s : Shared} {env : Env} {h₀ : Heap} {x : Str} {body : List Stmt} {Q : Flow → Shared → Prop}
theorem range_inv {I : Addr} {a : Int} {n : Nat} (J : Nat → (Str → Option Value) → List (Addr × Obj) → Prop)
    (turn : ∀ (i : Nat) (m : Str → Option Value) (news : List (Addr × Obj)) t h tk, i < n → J i m news → (∀ p ∈ news, p.1 ≠ I) → Fr h₀ env.locals h (fun y => if y = x then some (.int (a + (i : Int)) t) else m y) →
      News h₀ env.locals h ((I, itR (a + ((i + 1 : Nat) : Int)) ((n : Int) - ((i + 1 : Nat) : Int))) :: news) →
      wpAny (model prog w) A (execs body env) (UnrPost h₀ env.locals { s with heap := h, toks := tk } I (itR (a + ((i + 1 : Nat) : Int)) ((n : Int) - ((i + 1 : Nat) : Int))) (J (i + 1)) Q) E { s with heap := h, toks := tk })
    (done : ∀ (m : Str → Option Value) (news : List (Addr × Obj)) h tk, J n m news → Fr h₀ env.locals h m → News h₀ env.locals h news → Q .next { s with heap := h, toks := tk })
    {m : Str → Option Value} {news : List (Addr × Obj)} (h0 : J 0 m news) (hoff : ∀ p ∈ news, p.1 ≠ I) : RangeRest prog w A E h₀ env x body Q s I a n n 0 m news := by
  have key : ∀ k i m news, i + k = n → J i m news → (∀ p ∈ news, p.1 ≠ I) → RangeRest prog w A E h₀ env x body Q s I a n k i m news := by
    intro k
    induction k with
    | zero =>
      intro i m news hi hJ _
      have e : i = n := by omega
      subst e
      exact fun h tk F N => done m news h tk hJ F N
    | succ k ih =>
      intro i m news hi hJ hoff
      refine RangeRest.succ fun t h tk F N => ?_
      refine wpAny_mono (turn i m news t h tk (by omega) hJ hoff F N) (fun f s₂ p => ?_) fun _ _ e => e
      have up : UnrEnd h₀ env.locals { s with heap := h, toks := tk } I (itR (a + ((i + 1 : Nat) : Int)) ((n : Int) - ((i + 1 : Nat) : Int))) (J (i + 1)) s₂ →
          UnrEnd h₀ env.locals { s with heap := h, toks := tk } I (itR (a + ((i + 1 : Nat) : Int)) ((n : Int) - ((i + 1 : Nat) : Int))) (RangeRest prog w A E h₀ env x body Q s I a n k (i + 1)) s₂ := by
        rintro ⟨h', tk', m', news', rfl, F', N', off', hJ'⟩
        exact ⟨h', tk', m', news', rfl, F', N', off', ih _ _ _ (by omega) hJ' off'⟩
      cases f with
      | ret v => exact p
      | brk => exact p
      | next => exact up p
      | cont => exact up p
  exact key n 0 m news (by omega) h0 hoff
/-- names whose values are known, set upon the frame's map -/
def setAll : List (Str × Value) → (Str → Option Value) → Str → Option Value
  | [], m => m
  | p :: r, m => fun y => if y = p.1 then some p.2 else setAll r m y
theorem setAll_eq {m : Str → Option Value} : ∀ {ps : List (Str × Value)}, (∀ p ∈ ps, m p.1 = some p.2) → setAll ps m = m
  | [], _ => rfl
  | p :: r, h => by
    funext y
    show (if y = p.1 then some p.2 else setAll r m y) = m y
    by_cases e : y = p.1
    · rw [if_pos e, e]; exact (h p (.head _)).symm
    · rw [if_neg e, setAll_eq fun q hq => h q (.tail _ hq)]
end
end Mine
namespace Mine
section
variable {prog : Program} {w : World} {A : Around} {E : Value → Shared → Prop} {s : Shared} {env : Env} {h₀ : Heap} {L : Addr}
end
def CellAt (led : List (Addr × Obj)) (c : Addr) (x : Rat) : Prop := ∃ t u : Tok, (c, ({ cls := .type "tuple", data := .seq #[.int x.num t, .int (x.den : Int) u] } : Obj)) ∈ led
theorem CellAt.mono {led led' : List (Addr × Obj)} {c : Addr} {x : Rat} (h : CellAt led c x) (hs : ∀ p ∈ led, p ∈ led') : CellAt led' c x := let ⟨t, u, hm⟩ := h; ⟨t, u, hs _ hm⟩
end Mine
namespace Mine
section
variable {prog : Program} {w : World} {A : Around} {E : Value → Shared → Prop} {s : Shared} {env : Env} {h₀ : Heap} {L : Addr}
end
end Mine
namespace Mine
theorem sz_one : Sz 1 (1 : Rat) := ⟨by decide, by decide⟩
end Mine
namespace Mine
end Mine
namespace Mine
end Mine
end
section
open PySem PySem.W PyProof.Rows
namespace Mine
section
variable {s : Shared} {h₀ : Heap} {L : Addr}
variable {m : Str → Option Value} {s₁ : Shared} {I C D : Addr} {oI oC oD : Obj} {S : List (Addr × Obj) → Prop} {rest : Value → List (Addr × Obj) → Prop} {y : Value} {h' : Heap} {tk : Nat} {news' : List (Addr × Obj)}
end
end Mine
end
section
open PySem PySem.W PyProof.Rows
namespace Mine
section
variable {prog : Program} {w : World} {A : Around} {E : Value → Shared → Prop} {s : Shared} {h₀ : Heap} {L : Addr} {m : Str → Option Value} {env : Env}
end
theorem off1N {D a : Addr} {o : Obj} : ∀ {l : List (Addr × Obj)}, LCg.Off1 D l → (a, o) ∈ l → a ≠ D
  | [], _, hm => nomatch hm
  | _ :: _, h, hm => by
    rcases List.mem_cons.mp hm with rfl | hm
    · exact h.1
    · exact off1N h.2 hm
theorem ltM3 {D a : Addr} {o : Obj} : ∀ {l : List (Addr × Obj)}, AllLt D l → (a, o) ∈ l → @LT.lt Nat _ a D
  | [], _, hm => nomatch hm
  | _ :: _, h, hm => by
    rcases List.mem_cons.mp hm with rfl | hm
    · exact h.1
    · exact ltM3 h.2 hm
section
variable {w : World} {f : Addr} {vs : List Value} {news : List (Addr × Obj)} {k : Nat}
variable {p : Program} {loose : List Str} {mean : ExcName → Option Value} {mg mb : Str → Option Value} {dp un : Nat} {gd : Option (List Code)} {cn : Str} {cs : Scope} {a : Addr} {ccd : Value} {cl : List (Str × Addr)} {outer : List Env} {A₀ : Around} {base h₀ : Heap} {L : Addr} {m : Str → Option Value} {s : Shared} {Q E : Value → Shared → Prop}
end
end Mine
end
section
open PySem PySem.W PyProof.Rows
namespace Mine
section
variable {prog : Program} {w : World} {A : Around} {s : Shared} {h₀ : Heap} {L : Addr} {m : Str → Option Value} {env : Env}
/-- a comprehension by an invariant: one walk of the element serves all turns -/
theorem compInv {elt : Expr} {x : Str} {scope : Scope} {cl : List (Str × Addr)} {S : List (Addr × Obj) → Prop} {P : Nat → Value → Prop} {Fin : List Value → List (Addr × Obj) → Prop} {n : Nat} (J : Nat → List Value → List (Addr × Obj) → Prop)
    (step : ∀ i ys news v I oI C oC D m₂ h tk (E' : Value → Shared → Prop), i < n → J i ys news → P i v → LCg.NsObj oC m₂ → m₂ x = some v → Fr h₀ L h m → News h₀ L h ((I, oI) :: (C, oC) :: (D, LCg.lst ys) :: news) → LCg.Off3 I C D news → ((@Ne Nat I C) ∧ (@Ne Nat I D) ∧ (@Ne Nat C D)) →
      wpAny (model prog w) A (eval elt (compEnvC scope cl C env)) (LCg.CompEnd h₀ L m { s with heap := h, toks := tk } I oI C oC D (LCg.lst ys) S (fun y news' => J (i + 1) (ys ++ [y]) news')) E' { s with heap := h, toks := tk })
    (fin : ∀ ys news, J n ys news → Fin ys news) {news : List (Addr × Obj)} (h0 : J 0 [] news) :
    LCg.CompRest prog w A h₀ L m env elt x scope cl s S P Fin n 0 [] news := by
  have key : ∀ k i ys news, i + k = n → J i ys news → LCg.CompRest prog w A h₀ L m env elt x scope cl s S P Fin k i ys news := by
    intro k
    induction k with
    | zero =>
      intro i ys news hi hJ
      have e : i = n := by omega
      subst e
      exact LCg.CompRest.zero (fin ys news hJ)
    | succ k ih =>
      intro i ys news hi hJ
      refine LCg.CompRest.succ fun v I oI C oC D m₂ h tk E' hv hC hx F N o e => ?_
      refine wpAny_mono (step i ys news v I oI C oC D m₂ h tk E' (by omega) hJ hv hC hx F N o e) (fun y s₂ p => ?_) fun _ _ e => e
      obtain ⟨h', tk', news', e1, F', N', o', hS, r⟩ := p
      exact ⟨h', tk', news', e1, F', N', o', hS, ih _ _ _ (by omega) r⟩
  exact key n 0 [] news (by omega) h0
end
end Mine
end
section
open PySem PySem.W PyProof.Rows PySem.Calls
set_option linter.all false
namespace Mine
abbrev Led := List (Addr × Obj)
abbrev Fm := Str → Option Value
/-- the frame's map with one name set -/
abbrev put (x : Str) (v : Value) (m : Fm) : Fm := fun y => if y = x then some v else m y
/-- no address twice -/
def Uniq (led : Led) : Prop := ∀ p ∈ led, ∀ q ∈ led, p.1 = q.1 → p.2 = q.2
theorem News.uniq {h₀ h : Heap} {L : Addr} {led : Led} (N : News h₀ L h led) : Uniq led := fun p hp q hq e => by
  have a := (N p hp).1
  rw [e, (N q hq).1] at a
  exact (Option.some.inj a).symm
section
variable {prog : Program} {w : World} {A : Around} {env : Env} {h₀ : Heap} {L : Addr} {m : Fm} {news : Led}
/-- the expression gives this very value and stores nothing -/
def Pv (prog : Program) (w : World) (A : Around) (env : Env) (h₀ : Heap) (L : Addr) (m : Fm) (news : Led) (e : Expr) (v : Value) : Prop :=
  ∀ h g d tk os (Q E : Value → Shared → Prop), Fr h₀ L h m → News h₀ L h news → (∀ tk', Q v ⟨h, g, d, tk', os⟩) → wpAny (model prog w) A (eval e env) Q E ⟨h, g, d, tk, os⟩
/-- the expression gives this int (its token unknown) and stores nothing -/
def Pi (prog : Program) (w : World) (A : Around) (env : Env) (h₀ : Heap) (L : Addr) (m : Fm) (news : Led) (e : Expr) (z : Int) : Prop :=
  ∀ h g d tk os (Q E : Value → Shared → Prop), Fr h₀ L h m → News h₀ L h news → (∀ t tk', Q (.int z t) ⟨h, g, d, tk', os⟩) → wpAny (model prog w) A (eval e env) Q E ⟨h, g, d, tk, os⟩
/-- the test is this bool, nothing is stored -/
def Pb (prog : Program) (w : World) (A : Around) (env : Env) (h₀ : Heap) (L : Addr) (m : Fm) (news : Led) (e : Expr) (b : Bool) : Prop :=
  ∀ h g d tk os (Q : Bool → Shared → Prop) (E : Value → Shared → Prop), Fr h₀ L h m → News h₀ L h news → (∀ tk', Q b ⟨h, g, d, tk', os⟩) → wpAny (model prog w) A (isTrue e env (eval e env)) Q E ⟨h, g, d, tk, os⟩
/-- the expression gives a value and a ledger of which the post holds -/
def Pc (prog : Program) (w : World) (A : Around) (env : Env) (h₀ : Heap) (L : Addr) (m : Fm) (news : Led) (e : Expr) (post : Value → Led → Prop) : Prop :=
  ∀ h g d tk os (Q E : Value → Shared → Prop), Fr h₀ L h m → News h₀ L h news → (∀ r tl h' tk', post r tl → Fr h₀ L h' m → News h₀ L h' tl → Q r ⟨h', g, d, tk', os⟩) → wpAny (model prog w) A (eval e env) Q E ⟨h, g, d, tk, os⟩
def Pl (prog : Program) (w : World) (A : Around) (env : Env) (h₀ : Heap) (L : Addr) (m : Fm) (pos : Pos) (news : Led) (es : List Expr) (post : List Value → Led → Prop) : Prop :=
  ∀ h g d tk os (Q : List Value → Shared → Prop) (E : Value → Shared → Prop), Fr h₀ L h m → News h₀ L h news → (∀ r tl h' tk', post r tl → Fr h₀ L h' m → News h₀ L h' tl → Q r ⟨h', g, d, tk', os⟩) → wpAny (model prog w) A (spliced (backTo pos (starEach es env))) Q E ⟨h, g, d, tk, os⟩
/-- statements -/
def Ex (prog : Program) (w : World) (A : Around) (env : Env) (h₀ : Heap) (L : Addr) (m : Fm) (news : Led) (ss : List Stmt) (R : Flow → Fm → Led → Prop) : Prop :=
  ∀ h g d tk os (Q : Flow → Shared → Prop) (E : Value → Shared → Prop), PassesOwn (model prog w) A env E → Fr h₀ L h m → News h₀ L h news → (∀ f m' n' h' tk', R f m' n' → Fr h₀ L h' m' → News h₀ L h' n' → Q f ⟨h', g, d, tk', os⟩) → wpAny (model prog w) A (execs ss env) Q E ⟨h, g, d, tk, os⟩

theorem Pv.loc {x : Str} {pos : Pos} {v : Value} (hv : m x = some v) (hl : env.locals = L := by rfl) (hx : env.kindOf x = some .local := by rfl) (hk : env.scope.kind = .function := by rfl) (hd : (x == ("__debug__" : Str)) = false := by decide) :
    Pv prog w A env h₀ L m news (.Name x pos) v := fun _ _ _ tk _ _ _ F _ q => wpAny_Name (wpAny_loadName_local hk hx (hl ▸ F.ns) hv (q tk)) hd
theorem Pv.own {C : Addr} {oC : Obj} {m₂ : Fm} {x : Str} {pos : Pos} {v : Value} (hm : (C, oC) ∈ news) (hC : LCg.NsObj oC m₂) (hv : m₂ x = some v) (hl : env.locals = C := by rfl) (hx : env.kindOf x = some .local := by rfl) (hk : env.scope.kind = .function := by rfl) (hd : (x == ("__debug__" : Str)) = false := by decide) :
    Pv prog w A env h₀ L m news (.Name x pos) v := fun _ _ _ tk _ _ _ _ N q => wpAny_Name (wpAny_loadName_local hk hx (hl ▸ hC.ns (N _ hm).1) hv (q tk)) hd
theorem Pv.cell {c : Addr} {o : Obj} {x : Str} {pos : Pos} {v : Value} (hm : (c, o) ∈ news) (ho : o.data = .cell (some v)) (hc : env.cells.lookup x = some c := by rfl) (hx : env.kindOf x = some .cell := by rfl) (hk : env.scope.kind = .function := by rfl) (hd : (x == ("__debug__" : Str)) = false := by decide) :
    Pv prog w A env h₀ L m news (.Name x pos) v := fun _ _ _ tk _ _ _ _ N q => wpAny_Name (wpAny_loadName_cell hk hx hc ⟨o, N.get hm, ho⟩ (q tk)) hd
theorem Pv.glob {K : Frag} {p : Program} {loose : List Str} {mg mb : Fm} {x : Str} {pos : Pos} {v : Value} (X : K.In h₀) (T : TopRead p loose mg mb h₀) (e : nsIn K mainGlobals x = some (some v)) (hg : env.globals = mainGlobals := by rfl) (hx : env.kindOf x = some .globalImplicit := by rfl) (hk : env.scope.kind = .function := by rfl) (hd : (x == ("__debug__" : Str)) = false := by decide) :
    Pv prog w A env h₀ L m news (.Name x pos) v := fun h _ _ tk _ _ _ F _ q => Name_function_global hk hx (loadGlobal_global (env := env) (show h.Ns env.globals mg from hg ▸ T.g.keeps F.keep) (mg_of X T.g e) (q tk)) hd
theorem Pv.built {K : Frag} {p : Program} {loose : List Str} {mg mb : Fm} {x : Str} {pos : Pos} {v : Value} (X : K.In h₀) (T : TopRead p loose mg mb h₀) (e : nsIn K mainGlobals x = some none) (hv : bootBuiltins x = some v) (hn : x ≠ "__name__") (hg : env.globals = mainGlobals := by rfl) (hb : env.builtins = builtinsNs := by rfl) (hx : env.kindOf x = some .globalImplicit := by rfl) (hk : env.scope.kind = .function := by rfl) (hd : (x == ("__debug__" : Str)) = false := by decide) :
    Pv prog w A env h₀ L m news (.Name x pos) v := fun h _ _ tk _ _ _ F _ q => Name_function_global hk hx (loadGlobal_builtin (env := env) (show h.Ns env.globals mg from hg ▸ T.g.keeps F.keep) (mg_none_of X T.g e) (show h.Ns env.builtins mb from hb ▸ T.b.keeps F.keep) ((T.builtins x hn).trans hv) (q tk)) hd
theorem Pv.none {k : Nat} {pos : Pos} : Pv prog w A env h₀ L m news (.Constant .none k pos) .none := fun _ _ _ _ _ _ _ _ _ q => PyProof.Rows.Constant_none (q _)
theorem Pi.const {z : Int} {k : Nat} {pos : Pos} : Pi prog w A env h₀ L m news (.Constant (.int z) k pos) z := fun _ _ _ _ _ _ _ _ _ q => wpAny_Constant_int (q _ _)
theorem Pi.of {e : Expr} {z : Int} {t : Tok} (h : Pv prog w A env h₀ L m news e (.int z t)) : Pi prog w A env h₀ L m news e z := fun h' g d tk os Q E F N q => h h' g d tk os Q E F N (q t)
theorem Pv.item {e i : Expr} {pos : Pos} {l : Addr} {vs : List Value} {c : Nat} {z : Int} {v : Value} (he : Pv prog w A env h₀ L m news e (.ref l)) (hi : Pi prog w A env h₀ L m news i z) (hm : (l, listOf vs.toArray c) ∈ news) (h0 : 0 ≤ z) (h1 : z < 2 ^ 63) (hx : vs[z.toNat]? = some v)
    (hs : ∀ u, subscripted i false (.ref l) (.int z u) = operate [.ref l, .int z u] (getItem (.ref l) (.int z u)) := by intro _; rfl) :
    Pv prog w A env h₀ L m news (.Subscript e i pos) v := fun h g d tk os Q E F N q =>
  Subscript_ (he h g d tk os _ _ F N fun tk => hi h g d tk os _ _ F N fun u tk => by
    have hl : h.IsList l vs.toArray := ⟨_, (N _ hm).1, rfl, _, rfl⟩
    exact tail_any hl.typeIs slot_list_getitem.lookup (wpAny_getItem_list hl h0 h1 (by simpa using hx) (q tk)) (hs u))
theorem Pv.titem {e i : Expr} {pos : Pos} {l : Addr} {vs : List Value} {z : Int} {v : Value} {j : Nat} (he : Pv prog w A env h₀ L m news e (.ref l)) (hi : Pi prog w A env h₀ L m news i z) (hm : (l, ({ cls := .type "tuple", data := .seq vs.toArray } : Obj)) ∈ news) (h0 : -(2 ^ 63) ≤ z) (h1 : z < 2 ^ 63) (hj : seqIndex? z vs.length = some j) (hx : vs[j]? = some v)
    (hs : ∀ u, subscripted i false (.ref l) (.int z u) = operate [.ref l, .int z u] (getItem (.ref l) (.int z u)) := by intro _; rfl) :
    Pv prog w A env h₀ L m news (.Subscript e i pos) v := fun h g d tk os Q E F N q =>
  Subscript_ (he h g d tk os _ _ F N fun tk => hi h g d tk os _ _ F N fun u tk => item_tupleT (News.isTup N hm) h0 h1 hj hx (q tk) (hs u))
theorem Pi.add {a b : Expr} {pos : Pos} {x y : Int} (ha : Pi prog w A env h₀ L m news a x) (hb : Pi prog w A env h₀ L m news b y) : Pi prog w A env h₀ L m news (.BinOp a .Add b pos) (x + y) := fun h g d tk os Q E F N q =>
  wpAny_BinOp (ha h g d tk os _ _ F N fun _ tk => hb h g d tk os _ _ F N fun _ _ => P.add_int (q _ _))
theorem Pi.sub {a b : Expr} {pos : Pos} {x y : Int} (ha : Pi prog w A env h₀ L m news a x) (hb : Pi prog w A env h₀ L m news b y) : Pi prog w A env h₀ L m news (.BinOp a .Sub b pos) (x - y) := fun h g d tk os Q E F N q =>
  wpAny_BinOp (ha h g d tk os _ _ F N fun _ tk => hb h g d tk os _ _ F N fun _ _ => P.sub_int (q _ _))
theorem Pi.mul {a b : Expr} {pos : Pos} {x y : Int} (ha : Pi prog w A env h₀ L m news a x) (hb : Pi prog w A env h₀ L m news b y) (hm : IntMulOk x y) : Pi prog w A env h₀ L m news (.BinOp a .Mult b pos) (x * y) := fun h g d tk os Q E F N q =>
  wpAny_BinOp (ha h g d tk os _ _ F N fun _ tk => hb h g d tk os _ _ F N fun _ _ => P.mul_int (q _ _) hm)
theorem Pi.neg {a : Expr} {pos : Pos} {x : Int} (ha : Pi prog w A env h₀ L m news a x) : Pi prog w A env h₀ L m news (.UnaryOp .USub a pos) (-x) := fun h g d tk os Q E F N q =>
  wpAny_UnaryOp (ha h g d tk os _ _ F N fun _ _ => P.neg_int (q _ _))
theorem Pb.ne {a b : Expr} {pos : Pos} {x y : Int} (ha : Pi prog w A env h₀ L m news a x) (hb : Pi prog w A env h₀ L m news b y) (hm : behindInMarks .NotEq b = false := by with_unfolding_all rfl) : Pb prog w A env h₀ L m news (.Compare a [.NotEq] [b] pos) (x != y) := fun h g d tk os Q E F N q =>
  wpAny_isTrue_Compare1 (ha h g d tk os _ _ F N fun _ tk => hb h g d tk os _ _ F N fun _ _ => P.ne_int (wpAny_truthy_bool (q _))) hm
theorem Pb.and {a b : Expr} {pos : Pos} {x y : Bool} (ha : Pb prog w A env h₀ L m news a x) (hb : x = true → Pb prog w A env h₀ L m news b y) : Pb prog w A env h₀ L m news (.BoolOp .And [a, b] pos) (x && y) := fun h g d tk os Q E F N q =>
  isTrue_and (ha h g d tk os _ _ F N fun tk => by
    cases x with
    | false => exact q tk
    | true => exact isTrue_and (hb rfl h g d tk os _ _ F N fun tk => by
      cases y with
      | false => exact q tk
      | true => exact isTrue_and_nil (q tk)))
theorem Pb.none {a b : Expr} {pos : Pos} {v : Value} {k : Nat} {p' : Pos} (ha : Pv prog w A env h₀ L m news a v) (hb : b = .Constant .none k p' := by rfl) (hm : behindInMarks .Is b = false := by with_unfolding_all rfl) :
    Pb prog w A env h₀ L m news (.Compare a [.Is] [b] pos) (v == .none) := fun h g d tk os Q E F N q => by
  subst hb
  exact wpAny_isTrue_Compare1 (ha h g d tk os _ _ F N fun _ => PyProof.Rows.Constant_none (is_none_gen (wpAny_truthy_bool (q _)))) hm
/-- a call of this value with these arguments -/
def Ok (prog : Program) (w : World) (A : Around) (h₀ : Heap) (L : Addr) (m : Fm) (fv : Value) (vs : List Value) (news : Led) (post : Value → Led → Prop) : Prop :=
  ∀ h g d tk os (Q E : Value → Shared → Prop), Fr h₀ L h m → News h₀ L h news → (∀ r tl h' tk', post r tl → Fr h₀ L h' m → News h₀ L h' tl → Q r ⟨h', g, d, tk', os⟩) → wpAny (model prog w) A (call fv vs) Q E ⟨h, g, d, tk, os⟩
theorem Pl.nil {pos : Pos} {S : List Value → Led → Prop} (h : S [] news) : Pl prog w A env h₀ L m pos news [] S := fun _ _ _ _ _ _ _ F N q => args_nil (q _ _ _ _ h F N)
theorem Pl.v {pos : Pos} {e : Expr} {es : List Expr} {v : Value} {S : List Value → Led → Prop} (he : Pv prog w A env h₀ L m news e v) (h : Pl prog w A env h₀ L m pos news es (fun vs tl => S (v :: vs) tl)) (hc : starEach (e :: es) env = (false, eval e env) :: starEach es env := by rfl) : Pl prog w A env h₀ L m pos news (e :: es) S :=
  fun h' g d tk os Q E F N q => args_cons (he h' g d tk os _ _ F N fun tk => h h' g d tk os _ _ F N fun r tl h'' tk' s F' N' => q _ _ _ _ s F' N') hc
theorem Pl.i {pos : Pos} {e : Expr} {es : List Expr} {z : Int} {S : List Value → Led → Prop} (he : Pi prog w A env h₀ L m news e z) (h : ∀ t, Pl prog w A env h₀ L m pos news es (fun vs tl => S (.int z t :: vs) tl)) (hc : starEach (e :: es) env = (false, eval e env) :: starEach es env := by rfl) : Pl prog w A env h₀ L m pos news (e :: es) S :=
  fun h' g d tk os Q E F N q => args_cons (he h' g d tk os _ _ F N fun t tk => h t h' g d tk os _ _ F N fun r tl h'' tk' s F' N' => q _ _ _ _ s F' N') hc
theorem Pl.c {pos : Pos} {e : Expr} {es : List Expr} {P1 : Value → Led → Prop} {S : List Value → Led → Prop} (he : Pc prog w A env h₀ L m news e P1) (h : ∀ r tl, P1 r tl → Pl prog w A env h₀ L m pos tl es (fun vs tl' => S (r :: vs) tl')) (hc : starEach (e :: es) env = (false, eval e env) :: starEach es env := by rfl) : Pl prog w A env h₀ L m pos news (e :: es) S :=
  fun h' g d tk os Q E F N q => args_cons (he h' g d tk os _ _ F N fun r tl h₁ tk p F N => h r tl p h₁ g d tk os _ _ F N fun r tl h'' tk' s F' N' => q _ _ _ _ s F' N') hc
theorem Pc.v {e : Expr} {v : Value} {post : Value → Led → Prop} (he : Pv prog w A env h₀ L m news e v) (h : post v news) : Pc prog w A env h₀ L m news e post := fun h' g d tk os _ _ F N q => he h' g d tk os _ _ F N fun _ => q _ _ _ _ h F N
theorem Pc.i {e : Expr} {z : Int} {post : Value → Led → Prop} (he : Pi prog w A env h₀ L m news e z) (h : ∀ t, post (.int z t) news) : Pc prog w A env h₀ L m news e post := fun h' g d tk os _ _ F N q => he h' g d tk os _ _ F N fun t _ => q _ _ _ _ (h t) F N
/-- a call of one of the program's own functions -/
theorem Pc.fn {K : Frag} {f e : Expr} {es : List Expr} {pos : Pos} {fv : Value} {post : Value → Led → Prop} (X : K.In h₀) (hf : Pv prog w A env h₀ L m news f fv) (hk : keepIn K fv = true) (ha : Pl prog w A env h₀ L m pos news (e :: es) (fun vs tl => Ok prog w A h₀ L m fv vs tl post))
    (he : eval (.Call f (e :: es) [] pos) env = (do callWith pos (← eval f env) [] (backTo pos (starEach (e :: es) env)) (backToKw pos (keywordEach [] env))) := by rfl) (hc : starEach (e :: es) env = (false, eval e env) :: starEach es env := by rfl) (hp : (backTo pos (starEach es env)).any (·.1) = false := by rfl) :
    Pc prog w A env h₀ L m news (.Call f (e :: es) [] pos) post := fun h g d tk os Q E F N q =>
  Call_ (hf h g d tk os _ _ F N fun tk => callWith_K (h₀ := h₀) X hk (ha h g d tk os _ _ F N fun vs tl h' tk' o F' N' => ⟨fun a b c => F'.keep _ _ (X a b c), o h' g d tk' os _ _ F' N' q⟩) hc hp) he
theorem Pc.tuple {es : List Expr} {k : Nat} {pos : Pos} {post : Value → Led → Prop} (ha : Pl prog w A env h₀ L m pos news es (fun vs tl => vs.length ≤ sizeLine ∧ ∀ D, (∀ p ∈ tl, p.1 < D) → post (.ref D) ((D, ({ cls := .type "tuple", data := .seq vs.toArray } : Obj)) :: tl))) :
    Pc prog w A env h₀ L m news (.Tuple es k pos) post := fun h g d tk os Q E F N q =>
  Tuple_ (ha h g d tk os _ _ F N fun vs tl h' tk' o F' N' => kup_newTuple F' N' (fun D h'' F'' N'' l => q _ _ _ _ (o.2 D l) F'' N'') o.1)
theorem Ok.con {cn : Str} {cs : Scope} {aa : Addr} {ccd : Value} {cl : List (Str × Addr)} {outer : List Env} {A₀ : Around} {base : Heap} {dp un : Nat} {gd : Option (List Code)} {p : Program} {loose : List Str} {mean : ExcName → Option Value} {mg mb : Fm} {f : Addr} {vs : List Value} {k : Nat} {post : Value → Led → Prop} (B : Below A₀ base outer h₀) (X : (hd.heap_39 w.params).In h₀) (T : Top p loose mean mg mb h₀) (hk : cs.kind = .function) (hd : dp + k < recursionLimit) (hu : un + 8 * k < cLine) (C : Con w f vs news k post) :
    Ok PySem.Challenge.rw_tk0004_01.row.prog w (ktrTop dp un gd cn cs L aa ccd cl outer) h₀ L m (.ref f) vs news post := fun h g d tk os Q E F N q =>
  C.use (s := ⟨h, g, d, tk, os⟩) B F X N T hk hd hu fun r tl h' tk' F' N' P => q r tl h' tk' P F' N'
end
end Mine
end
section
open PySem PySem.W PyProof.Rows PySem.Calls
set_option linter.unusedVariables false
namespace Mine
/-- after the statements the rest -/
def Seq (prog : Program) (w : World) (A : Around) (env : Env) (h₀ : Heap) (L : Addr) (ss : List Stmt) (R : Flow → Fm → Led → Prop) (f : Flow) (m : Fm) (news : Led) : Prop :=
  match f with
  | .next => Ex prog w A env h₀ L m news ss R
  | f => R f m news
theorem news_put {h₀ h h' : Heap} {L c : Addr} {o o' : Obj} {news rest : Led} (N : News h₀ L h news) (hm : (c, o) ∈ news) (hs : Heap.SameBut c h h') (ho : h'.get? c = some o') (hr : ∀ p ∈ rest, p ∈ news) (hne : ∀ p ∈ rest, p.1 ≠ c) : News h₀ L h' ((c, o') :: rest) := fun p hp => by
  rcases List.mem_cons.mp hp with rfl | hp
  · exact ⟨ho, (N _ hm).2⟩
  · exact ⟨(hs.2 _ (hne p hp)).trans (N p (hr p hp)).1, (N p (hr p hp)).2⟩
section
variable {prog : Program} {w : World} {A : Around} {env : Env} {h₀ : Heap} {L : Addr} {m : Fm} {news : Led} {ss : List Stmt} {R : Flow → Fm → Led → Prop}
theorem Ok.mono {fv : Value} {vs : List Value} {P1 post : Value → Led → Prop} (o : Ok prog w A h₀ L m fv vs news P1) (h : ∀ r tl, P1 r tl → post r tl) : Ok prog w A h₀ L m fv vs news post := fun h' g d tk os Q E F N q => o h' g d tk os Q E F N fun r tl h'' tk' p F' N' => q r tl h'' tk' (h r tl p) F' N'
theorem Ok.monoU {fv : Value} {vs : List Value} {P1 post : Value → Led → Prop} (o : Ok prog w A h₀ L m fv vs news P1) (h : ∀ r tl, Uniq tl → P1 r tl → post r tl) : Ok prog w A h₀ L m fv vs news post := fun h' g d tk os Q E F N q => o h' g d tk os Q E F N fun r tl h'' tk' p F' N' => q r tl h'' tk' (h r tl (News.uniq N') p) F' N'
theorem Ex.nil (h : R .next m news) : Ex prog w A env h₀ L m news [] R := fun _ _ _ _ _ _ _ _ F N q => wpAny_execs_nil (q _ _ _ _ _ h F N)
theorem Seq.nil (h : Ex prog w A env h₀ L m news ss R) : Ex prog w A env h₀ L m news [] (Seq prog w A env h₀ L ss R) := Ex.nil h
/-- the plain way of one statement -/
theorem Ex.one {st : Stmt} (x : ∀ h g d tk os (Q : Flow → Shared → Prop) (E : Value → Shared → Prop), PassesOwn (model prog w) A env E → Fr h₀ L h m → News h₀ L h news → (∀ f m' n' h' tk', Seq prog w A env h₀ L ss R f m' n' → Fr h₀ L h' m' → News h₀ L h' n' → Q f ⟨h', g, d, tk', os⟩) → wpAny (model prog w) A (exec st env) Q E ⟨h, g, d, tk, os⟩) :
    Ex prog w A env h₀ L m news (st :: ss) R := fun h g d tk os Q E hE F N q => wpAny_execs_cons (x h g d tk os _ E hE F N fun f m' n' h' tk' s F' N' => by
  cases f with
  | next => exact s h' g d tk' os Q E hE F' N' q
  | ret v => exact q _ _ _ _ _ s F' N'
  | brk => exact q _ _ _ _ _ s F' N'
  | cont => exact q _ _ _ _ _ s F' N')
theorem Ex.asg {x : Str} {p1 pos : Pos} {e : Expr} (he : Pc prog w A env h₀ L m news e (fun r tl => Ex prog w A env h₀ L (put x r m) tl ss R)) (hl : env.locals = L := by rfl) (hs : swapsWith e (some (.Name x p1)) pos.line env = pure false := by rfl) (hx : env.kindOf x = some .local := by rfl)
    (hp : (env.scope.kind == .class || (env.scope.kind == .module && env.locals != env.globals)) = false := by rfl) : Ex prog w A env h₀ L m news (.Assign [.Name x p1] e pos :: ss) R :=
  Ex.one fun h g d tk os Q E hE F N q => wpAny_Assign_Name (he h g d tk os _ _ F N fun r tl h' tk' p F' N' => wpAny_storeName_local hx (hl ▸ F'.ns) (fun h'' hn hs' => q .next _ _ _ _ p (F'.set (hl ▸ hn) (hl ▸ hs')) (N'.set (hl ▸ hs'))) hp) hs
/-- what a store to a cell wants -/
def CellP (prog : Program) (w : World) (A : Around) (env : Env) (h₀ : Heap) (L : Addr) (m : Fm) (ss : List Stmt) (R : Flow → Fm → Led → Prop) (c : Addr) (r : Value) (tl : Led) : Prop :=
  ∃ (o : Obj) (v₀ : Option Value) (rest : Led), (c, o) ∈ tl ∧ o.data = .cell v₀ ∧ (∀ p ∈ rest, p ∈ tl) ∧ (∀ p ∈ rest, p.1 ≠ c) ∧ ∀ o' : Obj, o'.data = .cell (some r) → Ex prog w A env h₀ L m ((c, o') :: rest) ss R
theorem CellP.mk {c : Addr} {r : Value} {tl : Led} {o : Obj} {v₀ : Option Value} (rest : Led) (hm : (c, o) ∈ tl) (ho : o.data = .cell v₀) (hr : ∀ p ∈ rest, p ∈ tl) (hne : ∀ p ∈ rest, p.1 ≠ c) (k : ∀ o' : Obj, o'.data = .cell (some r) → Ex prog w A env h₀ L m ((c, o') :: rest) ss R) : CellP prog w A env h₀ L m ss R c r tl := ⟨o, v₀, rest, hm, ho, hr, hne, k⟩
theorem Ex.asgCell {x : Str} {p1 pos : Pos} {e : Expr} {c : Addr} (he : Pc prog w A env h₀ L m news e (CellP prog w A env h₀ L m ss R c)) (hc : env.cells.lookup x = some c := by rfl) (hs : swapsWith e (some (.Name x p1)) pos.line env = pure false := by rfl) (hx : env.kindOf x = some .cell := by rfl) (hk : env.scope.kind = .function := by rfl) :
    Ex prog w A env h₀ L m news (.Assign [.Name x p1] e pos :: ss) R :=
  Ex.one fun h g d tk os Q E hE F N q => wpAny_Assign_Name (he h g d tk os _ _ F N fun r tl h' tk' p F' N' => by
    obtain ⟨o, v₀, rest, hm, ho, hr, hne, k⟩ := p
    have z := N' _ hm
    refine wpAny_storeName_cell hk hx hc ⟨o, z.1, ho⟩ fun h'' hv hs' => ?_
    obtain ⟨o', ho', hd'⟩ := hv
    exact q .next _ _ _ _ (k o' hd') (F'.change hs' z.2.1 z.2.2) (news_put N' hm hs' ho' hr hne)) hs
theorem Ex.ret {e : Expr} {pos : Pos} (he : Pc prog w A env h₀ L m news e (fun r tl => R (.ret r) m tl)) : Ex prog w A env h₀ L m news (.Return (some e) pos :: ss) R :=
  Ex.one fun h g d tk os Q E hE F N q => wpAny_Return_some (he h g d tk os _ _ F N fun r tl h' tk' p F' N' => q _ _ _ _ _ p F' N')
theorem Ex.ite {test : Expr} {body orelse : List Stmt} {pos : Pos} {c : Bool} (hc : Pb prog w A env h₀ L m news test c) (ht : c = true → Ex prog w A env h₀ L m news body (Seq prog w A env h₀ L ss R)) (hf : c = false → Ex prog w A env h₀ L m news orelse (Seq prog w A env h₀ L ss R)) :
    Ex prog w A env h₀ L m news (.If test body orelse pos :: ss) R :=
  Ex.one fun h g d tk os Q E hE F N q => wpAny_If (hc h g d tk os _ _ F N fun tk' => by
    cases c with
    | true => exact ht rfl h g d tk' os Q E hE F N q
    | false => exact hf rfl h g d tk' os Q E hE F N q)
def JoinP (J : Fm → Led → Prop) (R : Flow → Fm → Led → Prop) (f : Flow) (m : Fm) (news : Led) : Prop := match f with
  | .next => J m news
  | f => R f m news
theorem Ex.iteJ {test : Expr} {body orelse : List Stmt} {pos : Pos} {c : Bool} (J : Fm → Led → Prop) (tail : ∀ m' n', J m' n' → Ex prog w A env h₀ L m' n' ss R) (hc : Pb prog w A env h₀ L m news test c) (ht : c = true → Ex prog w A env h₀ L m news body (JoinP J R)) (hf : c = false → Ex prog w A env h₀ L m news orelse (JoinP J R)) :
    Ex prog w A env h₀ L m news (.If test body orelse pos :: ss) R := by
  have key : ∀ b, Ex prog w A env h₀ L m news b (JoinP J R) → Ex prog w A env h₀ L m news b (Seq prog w A env h₀ L ss R) := fun b x h g d tk os Q E hE F N q => x h g d tk os Q E hE F N fun f m' n' h' tk' p F' N' => by
    cases f with
    | next => exact q .next m' n' h' tk' (tail m' n' p) F' N'
    | ret v => exact q _ _ _ _ _ p F' N'
    | brk => exact q _ _ _ _ _ p F' N'
    | cont => exact q _ _ _ _ _ p F' N'
  exact Ex.ite hc (fun e => key _ (ht e)) fun e => key _ (hf e)
/-- rows[i] = e -/
def SetP (prog : Program) (w : World) (A : Around) (env : Env) (h₀ : Heap) (L : Addr) (m : Fm) (K : Led → Prop) (o i : Expr) (r : Value) (tl : Led) : Prop :=
  ∃ (D : Addr) (z : Int) (k : Nat) (vs vs' : List Value) (rest : Led), Pv prog w A env h₀ L m tl o (.ref D) ∧ Pi prog w A env h₀ L m tl i z ∧ (D, listOf vs.toArray k) ∈ tl ∧ 0 ≤ z ∧ z < 2 ^ 63 ∧ z.toNat < vs.length ∧ vs.set z.toNat r = vs' ∧ (∀ p ∈ rest, p ∈ tl) ∧ (∀ p ∈ rest, p.1 ≠ D) ∧ K ((D, listOf vs'.toArray k) :: rest)
theorem SetP.mk {K : Led → Prop} {o i : Expr} {r : Value} {tl : Led} {D : Addr} {z : Int} {k : Nat} {vs vs' : List Value} (rest : Led) (ho : Pv prog w A env h₀ L m tl o (.ref D)) (hi : Pi prog w A env h₀ L m tl i z) (hm : (D, listOf vs.toArray k) ∈ tl) (h0 : 0 ≤ z) (h1 : z < 2 ^ 63) (hlt : z.toNat < vs.length) (e : vs.set z.toNat r = vs') (hr : ∀ p ∈ rest, p ∈ tl) (hne : ∀ p ∈ rest, p.1 ≠ D) (x : K ((D, listOf vs'.toArray k) :: rest)) :
    SetP prog w A env h₀ L m K o i r tl := ⟨D, z, k, vs, vs', rest, ho, hi, hm, h0, h1, hlt, e, hr, hne, x⟩
theorem SetP.run {K : Led → Prop} {o i : Expr} {r : Value} {tl : Led} {h' : Heap} {g : Array GenState} {d : Drawn} {tk : Nat} {os : OsState} {Q : Unit → Shared → Prop} {E : Value → Shared → Prop} (p : SetP prog w A env h₀ L m K o i r tl) (F' : Fr h₀ L h' m) (N' : News h₀ L h' tl) (q : ∀ n h'' tk', K n → Fr h₀ L h'' m → News h₀ L h'' n → Q () ⟨h'', g, d, tk', os⟩) :
    wpAny (model prog w) A (eval o env) (fun ov s₂ => wpAny (model prog w) A (eval i env) (fun iv s₃ => wpAny (model prog w) A (setItem ov iv r) Q E s₃) E s₂) E ⟨h', g, d, tk, os⟩ := by
  obtain ⟨D, z, k, vs, vs', rest, ho, hi, hm, h0, h1, hlt, rfl, hr, hne, x⟩ := p
  refine ho h' g d tk os _ _ F' N' fun tk2 => hi h' g d tk2 os _ _ F' N' fun t tk3 => ?_
  have y := N' _ hm
  refine ki_setAt y.1 h0 h1 (by simp; omega) ?_
  refine q _ _ _ x (F'.change (Heap.SameBut.update ..) y.2.1 y.2.2) (news_put N' hm (Heap.SameBut.update ..) ?_ hr hne)
  rw [Heap.get?_update_self _ y.1 rfl]
  simp [W.listOf, Obj.mapSeq]
theorem Ex.setItem {o i e : Expr} {p1 pos : Pos} (he : Pc prog w A env h₀ L m news e (SetP prog w A env h₀ L m (fun n => Ex prog w A env h₀ L m n ss R) o i))
    (hs : swapsWith e (some (.Subscript o i p1)) pos.line env = pure false := by rfl) : Ex prog w A env h₀ L m news (.Assign [.Subscript o i p1] e pos :: ss) R :=
  Ex.one fun h g d tk os Q E hE F N q => wpAny_Assign_Subscript (he h g d tk os _ _ F N fun r tl h' tk' p F' N' => p.run F' N' fun n h'' tk'' x F2 N2 => q .next _ _ _ _ x F2 N2) hs
/-- a[i], b[j] = e, the value a tuple of two -/
def SwapP (prog : Program) (w : World) (A : Around) (env : Env) (h₀ : Heap) (L : Addr) (m : Fm) (K : Led → Prop) (o i o2 i2 : Expr) (r : Value) (tl : Led) : Prop :=
  ∃ (D : Addr) (v1 v2 : Value), r = .ref D ∧ (D, ({ cls := .type "tuple", data := .seq #[v1, v2] } : Obj)) ∈ tl ∧ SetP prog w A env h₀ L m (SetP prog w A env h₀ L m K o2 i2 v2) o i v1 tl
theorem SwapP.mk {K : Led → Prop} {o i o2 i2 : Expr} {D : Addr} {v1 v2 : Value} {tl : Led} (hm : (D, ({ cls := .type "tuple", data := .seq #[v1, v2] } : Obj)) ∈ tl) (k : SetP prog w A env h₀ L m (SetP prog w A env h₀ L m K o2 i2 v2) o i v1 tl) : SwapP prog w A env h₀ L m K o i o2 i2 (.ref D) tl := ⟨D, v1, v2, rfl, hm, k⟩
theorem Ex.swap {o i o2 i2 e : Expr} {k : Nat} {p1 p2 tpos pos : Pos} (he : Pc prog w A env h₀ L m news e (SwapP prog w A env h₀ L m (fun n => Ex prog w A env h₀ L m n ss R) o i o2 i2)) (hh : A.handled = none := by assumption)
    (hs : swapsWithSole [.Tuple [.Subscript o i p1, .Subscript o2 i2 p2] k tpos] e pos.line env = pure false := by rfl) (hw : swappedStores [.Tuple [.Subscript o i p1, .Subscript o2 i2 p2] k tpos] e env = pure none := by rfl)
    (ha : (assignEach [.Subscript o i p1, .Subscript o2 i2 p2] env) = [(false, assign (.Subscript o i p1) env), (false, assign (.Subscript o2 i2 p2) env)] := by rfl) :
    Ex prog w A env h₀ L m news (.Assign [.Tuple [.Subscript o i p1, .Subscript o2 i2 p2] k tpos] e pos :: ss) R :=
  Ex.one fun h g d tk os Q E hE F N q => Assign_Tuple (he h g d tk os _ _ F N fun r tl h' tk' p F' N' => by
    obtain ⟨D, v1, v2, rfl, hm, p⟩ := p
    refine unpackN_ (s := ⟨h', g, d, tk', os⟩) F' N' (News.isTup N' hm) hh (by rw [ha]; rfl) (by rw [ha]; rfl) fun h'' F2 N2 => ?_
    rw [ha]
    refine assignInOrder_cons (kas_sub (p.run F2 N2 fun n h3 tk3 x F3 N3 => ?_))
    exact assignInOrder_cons (kas_sub (x.run F3 N3 fun n h4 tk4 x F4 N4 => assignInOrder_nil (q .next _ _ _ _ x F4 N4)))) hs hw
/-- x, y = e (both local), the value a tuple of two -/
def Tup2P (prog : Program) (w : World) (A : Around) (env : Env) (h₀ : Heap) (L : Addr) (f : Value → Value → Fm) (ss : List Stmt) (R : Flow → Fm → Led → Prop) (r : Value) (tl : Led) : Prop :=
  ∃ (D : Addr) (v1 v2 : Value), r = .ref D ∧ (D, ({ cls := .type "tuple", data := .seq #[v1, v2] } : Obj)) ∈ tl ∧ Ex prog w A env h₀ L (f v1 v2) tl ss R
theorem Tup2P.mk {f : Value → Value → Fm} {D : Addr} {v1 v2 : Value} {tl : Led} (hm : (D, ({ cls := .type "tuple", data := .seq #[v1, v2] } : Obj)) ∈ tl) (k : Ex prog w A env h₀ L (f v1 v2) tl ss R) : Tup2P prog w A env h₀ L f ss R (.ref D) tl := ⟨D, v1, v2, rfl, hm, k⟩
theorem unp2 {D : Addr} {v1 v2 : Value} {h : Heap} {g : Array GenState} {d : Drawn} {tk : Nat} {os : OsState} {Q : List Value → Shared → Prop} {E : Value → Shared → Prop} (hh : A.handled = none) (F : Fr h₀ L h m) (N : News h₀ L h news) (hm : (D, ({ cls := .type "tuple", data := .seq #[v1, v2] } : Obj)) ∈ news)
    (q : ∀ h', Fr h₀ L h' m → News h₀ L h' news → Q [v1, v2] ⟨h', g, d, tk, os⟩) : wpAny (model prog w) A (unpackItems (.ref D) 2 none) Q E ⟨h, g, d, tk, os⟩ := by
  refine unpackItemsN_ (s := ⟨h, g, d, tk, os⟩) F N (News.isTup N hm) hh rfl ?_
  exact fun h' F' N' => q h' F' N'
theorem Ex.tup2s {x y : Str} {k : Nat} {px py tpos pos : Pos} {e : Expr} (he : Pc prog w A env h₀ L m news e (Tup2P prog w A env h₀ L (fun v1 v2 => put x v1 (put y v2 m)) ss R)) (hh : A.handled = none := by assumption) (hl : env.locals = L := by rfl) (hx : env.kindOf x = some .local := by rfl) (hy : env.kindOf y = some .local := by rfl)
    (hp : (env.scope.kind == .class || (env.scope.kind == .module && env.locals != env.globals)) = false := by rfl) (hs : swapsWithSole [.Tuple [.Name x px, .Name y py] k tpos] e pos.line env = pure false := by rfl) (hw : swappedStores [.Tuple [.Name x px, .Name y py] k tpos] e env = pure (some [x, y]) := by rfl) :
    Ex prog w A env h₀ L m news (.Assign [.Tuple [.Name x px, .Name y py] k tpos] e pos :: ss) R :=
  Ex.one fun h g d tk os Q E hE F N q => Assign_Tuple_swapped (he h g d tk os _ _ F N fun r tl h' tk' p F' N' => by
    obtain ⟨D, v1, v2, rfl, hm, k⟩ := p
    refine unp2 hh F' N' hm fun h' F' N' => ?_
    refine assignInOrder_cons (bindName_ (wpAny_storeName_local hy (hl ▸ F'.ns) (fun h'' hn hs' => ?_) hp))
    have F2 := F'.set (hl ▸ hn) (hl ▸ hs')
    have N2 := N'.set (hl ▸ hs')
    refine assignInOrder_cons (bindName_ (wpAny_storeName_local hx (hl ▸ F2.ns) (fun h3 hn3 hs3 => ?_) hp))
    exact assignInOrder_nil (q .next _ _ _ _ k (F2.set (hl ▸ hn3) (hl ▸ hs3)) (N2.set (hl ▸ hs3)))) hs hw
/-- the expression gives a new range -/
def Pr (prog : Program) (w : World) (A : Around) (env : Env) (h₀ : Heap) (L : Addr) (m : Fm) (news : Led) (e : Expr) (a b : Int) : Prop :=
  ∀ h g d tk os (Q E : Value → Shared → Prop), Fr h₀ L h m → News h₀ L h news → (∀ r t u v h' tk', IsRange h' r a b 1 t u v → Fr h₀ L h' m → News h₀ L h' news → Q (.ref r) ⟨h', g, d, tk', os⟩) → wpAny (model prog w) A (eval e env) Q E ⟨h, g, d, tk, os⟩
theorem Pr.one {f e : Expr} {pos : Pos} {b : Int} (hf : Pv prog w A env h₀ L m news f (.type "range")) (hb : Pi prog w A env h₀ L m news e b)
    (he : eval (.Call f [e] [] pos) env = (do callWith pos (← eval f env) [] (backTo pos (starEach [e] env)) (backToKw pos (keywordEach [] env))) := by rfl) (hc : starEach [e] env = [(false, eval e env)] := by rfl) : Pr prog w A env h₀ L m news (.Call f [e] [] pos) 0 b := fun h g d tk os Q E F N q =>
  Call_ (hf h g d tk os _ _ F N fun tk => PyProof.Rows.callWith_type1 (args_cons (hb h g d tk os _ _ F N fun t tk => args_nil (range1_rows (s := ⟨h, g, d, tk, os⟩) F N fun h' tk' t₁ u₁ v₁ r F' N' _ => q _ _ _ _ _ _ r F' N')) hc) hc rfl) he
theorem Pr.two {f e e2 : Expr} {pos : Pos} {a b : Int} (hf : Pv prog w A env h₀ L m news f (.type "range")) (ha : Pi prog w A env h₀ L m news e a) (hb : Pi prog w A env h₀ L m news e2 b)
    (he : eval (.Call f [e, e2] [] pos) env = (do callWith pos (← eval f env) [] (backTo pos (starEach [e, e2] env)) (backToKw pos (keywordEach [] env))) := by rfl) (hc : starEach [e, e2] env = (false, eval e env) :: starEach [e2] env := by rfl) (hc2 : starEach [e2] env = [(false, eval e2 env)] := by rfl) : Pr prog w A env h₀ L m news (.Call f [e, e2] [] pos) a b := fun h g d tk os Q E F N q =>
  Call_ (hf h g d tk os _ _ F N fun tk => PyProof.Rows.callWith_type1 (args_cons (ha h g d tk os _ _ F N fun t tk => args_cons (hb h g d tk os _ _ F N fun u tk => args_nil (range2_rows (s := ⟨h, g, d, tk, os⟩) F N fun h' tk' t₁ u₁ v₁ r F' N' _ => q _ _ _ _ _ _ r F' N')) hc2) hc) hc (by rw [hc2]; rfl)) he
theorem Pi.len {f e : Expr} {pos : Pos} {D : Addr} {its : Array Value} {c n : Nat} (hf : Pv prog w A env h₀ L m news f (.builtin "len")) (he : Pv prog w A env h₀ L m news e (.ref D)) (hm : (D, W.listOf its c) ∈ news) (hn : its.size = n) (hs : n < 2 ^ 62)
    (h1 : eval (.Call f [e] [] pos) env = (do callWith pos (← eval f env) [] (backTo pos (starEach [e] env)) (backToKw pos (keywordEach [] env))) := by rfl) (hc : starEach [e] env = [(false, eval e env)] := by rfl) : Pi prog w A env h₀ L m news (.Call f [e] [] pos) (n : Int) := fun h g d tk os Q E F N q =>
  Call_ (hf h g d tk os _ _ F N fun tk => callWith_builtin1 (args_cons (he h g d tk os _ _ F N fun tk => args_nil (Calls.call_len_list (s := ⟨h, g, d, tk, os⟩) (News.isList N hm) (by omega) (hn ▸ q _ _))) hc) hc rfl) h1
/-- a for loop over a range, by an invariant -/
theorem Ex.forR {x : Str} {px pos : Pos} {iter : Expr} {body : List Stmt} {a b : Int} {n : Nat} (J : Nat → Fm → Led → Prop) (hr : Pr prog w A env h₀ L m news iter a b) (hsm : Builtin.Range.small a b 1 = true) (hn : Builtin.Range.rangeSize a b 1 = (n : Int)) (h0 : J 0 m news)
    (turn : ∀ (i : Nat) (m1 : Fm) (n1 : Led) (I : Addr) (t : Tok), i < n → J i m1 n1 → (∀ p ∈ n1, p.1 ≠ I) → Ex prog w A env h₀ L (put x (.int (a + (i : Int)) t) m1) ((I, itR (a + ((i + 1 : Nat) : Int)) ((n : Int) - ((i + 1 : Nat) : Int))) :: n1) body (fun f m' n' => match f with
      | .next => ∃ n2, (∀ p ∈ (I, itR (a + ((i + 1 : Nat) : Int)) ((n : Int) - ((i + 1 : Nat) : Int))) :: n2, p ∈ n') ∧ (∀ p ∈ n2, p.1 ≠ I) ∧ J (i + 1) m' n2
      | .ret v => R (.ret v) m' n'
      | _ => False))
    (done : ∀ m1 n1, J n m1 n1 → Ex prog w A env h₀ L m1 n1 ss R) (hl : env.locals = L := by rfl) (hh : A.handled = none := by assumption) (hx : env.kindOf x = some .local := by rfl) (hp : (env.scope.kind == .class || (env.scope.kind == .module && env.locals != env.globals)) = false := by rfl) (hs : ∀ x, foldedSetIterable iter env x = pure x := by intro _; rfl) :
    Ex prog w A env h₀ L m news (.For (.Name x px) iter body [] pos :: ss) R := by
  subst hl
  refine Ex.one fun h g d tk os Q E hE F N q => ?_
  refine For_invVF (s := ⟨h, g, d, tk, os⟩) F hx hp (hr h g d tk os _ _ F N fun r t u v h' tk' hR F' N' => ?_) hs hE
  refine iter_rangeUnr (s := ⟨h', g, d, tk', os⟩) hh hR hsm hn F' N' fun I hI => ?_
  refine range_inv (s := ⟨h', g, d, tk', os⟩) J ?_ ?_ h0 fun p hp => Nat.ne_of_lt (hI p hp)
  · intro i m1 n1 t1 h1 tk1 hi hJ hoff F1 N1
    refine turn i m1 n1 I t1 hi hJ hoff h1 g d tk1 os _ E hE F1 N1 fun f m' n' h2 tk2 hf F2 N2 => ?_
    cases f with
    | ret v => exact q _ _ _ _ _ hf F2 N2
    | brk => exact hf.elim
    | cont => exact hf.elim
    | next =>
      obtain ⟨n2, hs2, ho2, hJ2⟩ := hf
      exact ⟨h2, tk2, m', n2, rfl, F2, fun p hp => N2 p (hs2 p hp), ho2, hJ2⟩
  · intro m1 n1 h1 tk1 hJ F1 N1
    exact q .next m1 n1 h1 tk1 (done m1 n1 hJ) F1 N1
end
end Mine
end
section
open PySem PySem.W PyProof.Rows PySem.Calls
set_option linter.unusedVariables false
namespace Mine
section
variable {prog : Program} {w : World} {A : Around} {env : Env} {h₀ : Heap} {L : Addr} {m : Fm} {news : Led}
/-- the end of a comprehension's turn -/
def CendP (J : List Value → Led → Prop) (I : Addr) (oI : Obj) (C : Addr) (oC : Obj) (D : Addr) (ys : List Value) (y : Value) (tl : Led) : Prop :=
  ∃ n2 : Led, (∀ p ∈ (I, oI) :: (C, oC) :: (D, LCg.lst ys) :: n2, p ∈ tl) ∧ LCg.Off3 I C D n2 ∧ J (ys ++ [y]) n2
theorem CendP.mk {J : List Value → Led → Prop} {I C D : Addr} {oI oC : Obj} {ys : List Value} {y : Value} {tl : Led} (n2 : Led) (hs : ∀ p ∈ (I, oI) :: (C, oC) :: (D, LCg.lst ys) :: n2, p ∈ tl) (ho : LCg.Off3 I C D n2) (hJ : J (ys ++ [y]) n2) : CendP J I oI C oC D ys y tl := ⟨n2, hs, ho, hJ⟩
/-- the expression gives a new range, the ledger as the post tells -/
def PrP (prog : Program) (w : World) (A : Around) (env : Env) (h₀ : Heap) (L : Addr) (m : Fm) (news : Led) (e : Expr) (a b : Int) (post : Led → Prop) : Prop :=
  ∀ h g d tk os (Q E : Value → Shared → Prop), Fr h₀ L h m → News h₀ L h news → (∀ r t u v tl h' tk', IsRange h' r a b 1 t u v → post tl → Fr h₀ L h' m → News h₀ L h' tl → Q (.ref r) ⟨h', g, d, tk', os⟩) → wpAny (model prog w) A (eval e env) Q E ⟨h, g, d, tk, os⟩
theorem PrP.of {e : Expr} {a b : Int} {post : Led → Prop} (hr : Pr prog w A env h₀ L m news e a b) (h : post news) : PrP prog w A env h₀ L m news e a b post := fun h' g d tk os Q E F N q => hr h' g d tk os Q E F N fun r t u v h'' tk' hR F' N' => q r t u v _ h'' tk' hR h F' N'
theorem PrP.one {f e : Expr} {pos : Pos} {b : Int} {post : Led → Prop} (hf : Pv prog w A env h₀ L m news f (.type "range")) (hb : Pc prog w A env h₀ L m news e (fun r tl => ∃ t, r = .int b t ∧ post tl))
    (he : eval (.Call f [e] [] pos) env = (do callWith pos (← eval f env) [] (backTo pos (starEach [e] env)) (backToKw pos (keywordEach [] env))) := by rfl) (hc : starEach [e] env = [(false, eval e env)] := by rfl) : PrP prog w A env h₀ L m news (.Call f [e] [] pos) 0 b post := fun h g d tk os Q E F N q =>
  Call_ (hf h g d tk os _ _ F N fun tk => PyProof.Rows.callWith_type1 (args_cons (hb h g d tk os _ _ F N fun r tl h2 tk2 p F2 N2 => args_nil (by
    obtain ⟨t, rfl, p⟩ := p
    exact range1_rows (s := ⟨h2, g, d, tk2, os⟩) F2 N2 fun h' tk' t₁ u₁ v₁ r F' N' _ => q _ _ _ _ _ _ _ r p F' N')) hc) hc rfl) he
theorem Pc.compR {elt iter : Expr} {x : Str} {px pos : Pos} {scope : Scope} {cl : List (Str × Addr)} {a b : Int} {n : Nat} {post : Value → Led → Prop} (J : Nat → List Value → Led → Prop) (hr : PrP prog w A env h₀ L m news iter a b (J 0 [])) (hsm : Builtin.Range.small a b 1 = true) (hn : Builtin.Range.rangeSize a b 1 = (n : Int)) (hz : n ≤ sizeLine)
    (step : ∀ (i : Nat) (ys : List Value) (n1 : Led) I oI C oC D m₂ t, i < n → J i ys n1 → LCg.NsObj oC m₂ → m₂ x = some (.int (a + (i : Int)) t) → LCg.Off3 I C D n1 → ((@Ne Nat I C) ∧ (@Ne Nat I D) ∧ (@Ne Nat C D)) →
      Pc prog w A (compEnvC scope cl C env) h₀ L m ((I, oI) :: (C, oC) :: (D, LCg.lst ys) :: n1) elt (CendP (J (i + 1)) I oI C oC D ys))
    (fin : ∀ ys n1 D, J n ys n1 → LCg.Off1 D n1 → Uniq ((D, LCg.lst ys) :: n1) → post (.ref D) ((D, LCg.lst ys) :: n1)) (hh : A.handled = none := by assumption)
    (hclos : closureFor scope env = pure cl := by with_unfolding_all rfl) (hcell : ∀ y ∈ scope.names, y.2 ≠ .cell := by decide) (hkind : scope.kind = .function := by rfl) (hnames : ∀ y ∈ scope.names, y.2 = .local → scope.names.lookup y.1 = some .local := by decide) (hx : scope.names.lookup x = some .local := by rfl) (hs : ∀ x, foldedSetIterable iter env x = pure x := by intro _; rfl) :
    Pc prog w A env h₀ L m news (.ListComp elt [⟨.Name x px, iter, [], 0⟩] scope pos) post := fun h g d tk os Q E F N q => by
  refine LCg.ListComp_U (s := ⟨h, g, d, tk, os⟩) F hclos hcell hkind hnames hx (hr h g d tk os _ _ F N fun r t u v tl h' tk' hR h0 F' N' => ?_) hs
  refine LCg.CompSrc.range hh F' N' hR hsm hn hz fun g' => ?_
  refine compInv J ?_ ?_ h0
  · intro i ys n1 v I oI C oC D m₂ h1 tk1 E' hi hJ hv hC hx1 F1 N1 hoff hne
    obtain ⟨t, rfl⟩ := hv
    refine step i ys n1 I oI C oC D m₂ t hi hJ hC hx1 hoff hne h1 g d tk1 os _ E' F1 N1 fun y tl h2 tk2 p F2 N2 => ?_
    obtain ⟨n2, hs2, ho2, hJ2⟩ := p
    exact LCg.CompEnd.intro F2 N2 n2 hs2 ho2 trivial hJ2
  · intro ys n1 hJ D h2 tk2 F2 N2 ho
    exact q _ _ _ _ (fin ys n1 D hJ ho (News.uniq N2)) F2 N2
theorem Pc.compL {elt iter : Expr} {x : Str} {px pos : Pos} {scope : Scope} {cl : List (Str × Addr)} {ax : Addr} {its : Array Value} {k : Nat} {post : Value → Led → Prop} (J : Nat → List Value → Led → Prop) (hi : Pv prog w A env h₀ L m news iter (.ref ax)) (hm : ∀ i ys n1, J i ys n1 → (ax, W.listOf its k) ∈ n1) (hz : its.size ≤ sizeLine) (h0 : J 0 [] news)
    (step : ∀ (i : Nat) (ys : List Value) (n1 : Led) I oI C oC D m₂ v, its[i]? = some v → J i ys n1 → LCg.NsObj oC m₂ → m₂ x = some v → LCg.Off3 I C D n1 → ((@Ne Nat I C) ∧ (@Ne Nat I D) ∧ (@Ne Nat C D)) →
      Pc prog w A (compEnvC scope cl C env) h₀ L m ((I, oI) :: (C, oC) :: (D, LCg.lst ys) :: n1) elt (CendP (J (i + 1)) I oI C oC D ys))
    (fin : ∀ ys n1 D, J its.size ys n1 → LCg.Off1 D n1 → Uniq ((D, LCg.lst ys) :: n1) → post (.ref D) ((D, LCg.lst ys) :: n1)) (hh : A.handled = none := by assumption)
    (hclos : closureFor scope env = pure cl := by with_unfolding_all rfl) (hcell : ∀ y ∈ scope.names, y.2 ≠ .cell := by decide) (hkind : scope.kind = .function := by rfl) (hnames : ∀ y ∈ scope.names, y.2 = .local → scope.names.lookup y.1 = some .local := by decide) (hx : scope.names.lookup x = some .local := by rfl) (hs : ∀ x, foldedSetIterable iter env x = pure x := by intro _; rfl) :
    Pc prog w A env h₀ L m news (.ListComp elt [⟨.Name x px, iter, [], 0⟩] scope pos) post := fun h g d tk os Q E F N q => by
  refine LCg.ListComp_U (s := ⟨h, g, d, tk, os⟩) F hclos hcell hkind hnames hx (hi h g d tk os _ _ F N fun tk' => ?_) hs
  refine LCg.CompSrc.ledger hh F N (hm _ _ _ h0) hz fun g' => ?_
  refine compInv J ?_ ?_ h0
  · intro i ys n1 v I oI C oC D m₂ h1 tk1 E' hi hJ hv hC hx1 F1 N1 hoff hne
    refine step i ys n1 I oI C oC D m₂ v hv hJ hC hx1 hoff hne h1 g d tk1 os _ E' F1 N1 fun y tl h2 tk2 p F2 N2 => ?_
    obtain ⟨n2, hs2, ho2, hJ2⟩ := p
    exact LCg.CompEnd.intro F2 N2 n2 hs2 ho2 (.inr ⟨_, hm _ _ _ hJ2, rfl, _, rfl⟩) hJ2
  · intro ys n1 hJ D h2 tk2 F2 N2 ho
    exact q _ _ _ _ (fin ys n1 D hJ ho (News.uniq N2)) F2 N2
end
/-- what a function's body may use -/
structure Site (w : World) (A : Around) (h₀ : Heap) (L : Addr) (k : Nat) : Prop where
  hh : A.handled = none
  X : (hd.heap_39 w.params).In h₀
  T : ∃ p loose mean mg mb, Top p loose mean mg mb h₀
  raw : ∃ (dp un : Nat) (gd : Option (List Code)) (cn : Str) (cs : Scope) (aa : Addr) (ccd : Value) (cl : List (Str × Addr)) (outer : List Env) (A₀ : Around) (base : Heap), A = ktrTop dp un gd cn cs L aa ccd cl outer ∧ Below A₀ base outer h₀ ∧ cs.kind = .function ∧ dp + k ≤ recursionLimit ∧ un + 8 * k ≤ cLine + 2
theorem Site.call {w : World} {A : Around} {h₀ : Heap} {L : Addr} {k : Nat} {m : Fm} {f : Addr} {vs : List Value} {news : Led} {k' : Nat} {post : Value → Led → Prop} (S : Site w A h₀ L k) (C : Con w f vs news k' post) (hc : k' + 1 ≤ k) : Ok PySem.Challenge.rw_tk0004_01.row.prog w A h₀ L m (.ref f) vs news post := by
  obtain ⟨p, loose, mean, mg, mb, T⟩ := S.T
  obtain ⟨dp, un, gd, cn, cs, aa, ccd, cl, outer, A₀, base, rfl, B, hk, h1, h2⟩ := S.raw
  exact Ok.con B S.X T hk (by omega) (by omega) C
theorem Site.glob {w : World} {A A' : Around} {h₀ : Heap} {L L' : Addr} {k : Nat} {env : Env} {m : Fm} {news : Led} {x : Str} {pos : Pos} {v : Value} {prog : Program} (S : Site w A h₀ L k) (e : nsIn (hd.heap_39 w.params) mainGlobals x = some (some v)) (hg : env.globals = mainGlobals := by rfl) (hx : env.kindOf x = some .globalImplicit := by rfl) (hk : env.scope.kind = .function := by rfl) (hd : (x == ("__debug__" : Str)) = false := by decide) :
    Pv prog w A' env h₀ L' m news (.Name x pos) v := by
  obtain ⟨p, loose, mean, mg, mb, T⟩ := S.T
  exact Pv.glob S.X (topRead_of T) e hg hx hk hd
theorem Site.built {w : World} {A A' : Around} {h₀ : Heap} {L L' : Addr} {k : Nat} {env : Env} {m : Fm} {news : Led} {x : Str} {pos : Pos} {v : Value} {prog : Program} (S : Site w A h₀ L k) (e : nsIn (hd.heap_39 w.params) mainGlobals x = some none) (hv : bootBuiltins x = some v := by rfl) (hn : x ≠ "__name__" := by decide) (hg : env.globals = mainGlobals := by rfl) (hb : env.builtins = builtinsNs := by rfl) (hx : env.kindOf x = some .globalImplicit := by rfl) (hk : env.scope.kind = .function := by rfl) (hd : (x == ("__debug__" : Str)) = false := by decide) :
    Pv prog w A' env h₀ L' m news (.Name x pos) v := by
  obtain ⟨p, loose, mean, mg, mb, T⟩ := S.T
  exact Pv.built S.X (topRead_of T) e hv hn hg hb hx hk hd
def RetP (post : Value → Led → Prop) (fl : Flow) (n' : Led) : Prop := ∃ r tl, fl = .ret r ∧ (∀ p ∈ tl, p ∈ n') ∧ post r tl
theorem RetP.mk {post : Value → Led → Prop} {r : Value} {n' : Led} (tl : Led) (hs : ∀ p ∈ tl, p ∈ n') (h : post r tl) : RetP post (.ret r) n' := ⟨r, tl, rfl, hs, h⟩
/-- a contract by its body -/
theorem con_enter {w : World} {f : Addr} {vs : List Value} {news : Led} {k : Nat} {post : Value → Led → Prop} {name qual : Str} {params : Arguments} {body : List Stmt} {scope : Scope} {dV kV doc pm cdv ct oc : Value} {an od : Option Addr} {osl : Array (Option Value)} {binds : List (Str × Value)}
    (ho : (hd.heap_39 w.params).lookup f = some ⟨oc, od, .func (fnOf name qual params body scope dV kV doc pm an cdv ct), osl⟩) (hcd : codeIn (hd.heap_39 w.params) cdv qual = true)
    (hbind : ∀ s, BindsTo s (fnOf name qual params body scope dV kV doc pm an cdv ct) ⟨vs, []⟩ binds) (hkind : (binds.all fun y => scope.names.lookup y.1 == some .local || scope.names.lookup y.1 == some .cell) = true)
    (hnd : ((cellsFrom 0 scope.names []).map (·.1)).Nodup) (hco : scope.isCoroutine = false) (hgen : scope.isGenerator = false) (hkf : scope.kind = .function) (hk0 : 0 < k)
    (x : ∀ (A : Around) (h₀ : Heap) (L : Addr) (cells : Led), Site w A h₀ L k → CellsAre (bindC (envOfC qual scope L f cdv).kindOf binds fun _ => none) (cellsFrom (L + 1) scope.names []) cells → (∀ p ∈ news, p.1 < L) →
      Ex PySem.Challenge.rw_tk0004_01.row.prog w A (envOfC qual scope L f cdv) h₀ L (bindL (envOfC qual scope L f cdv).kindOf binds fun _ => none) (cells ++ news) body (fun fl _ n' => RetP post fl n')) :
    Con w f vs news k post := by
  intro p loose mean mg mb dp un gd cn cs aa ccd cl outer A₀ base h₀ L m s Q E B F X N T hk hd hu hret
  refine wpAny_call ?_
  refine code_defC B F X N T rfl rfl hk ho hcd (by dsimp only [ktrTop]; omega) (hbind _) hkind hnd ?_ hco hgen hkf
  intro g L' h₁ tk cells FG F' N' Y B' X' T' l
  refine x _ g L' cells ⟨rfl, X', ⟨_, _, _, _, _, T'⟩, dp + 1, _, gd, qual, scope, f, cdv, cellsFrom (L' + 1) scope.names [], _, _, _, rfl, B', hkf, by omega, ?_⟩ Y l h₁ s.gens s.drawn tk s.os _ _ (by passes_own) F' N' ?_
  · show un + 3 + 8 * k ≤ cLine + 2
    omega
  · intro fl m' n' h' tk' hR F2 N2
    obtain ⟨r, tl, rfl, hs, hP⟩ := hR
    exact leaveK_ (s' := ⟨h', s.gens, s.drawn, tk', s.os⟩) F2 N2 fun F3 N3 => hret r tl h' tk' F3 (fun p hp => N3 p (hs p hp)) hP
section
variable {w : World} {f : Addr} {vs : List Value} {news : Led} {k : Nat} {post : Value → Led → Prop} {name qual : Str} {params : Arguments} {body : List Stmt} {scope : Scope} {dV kV doc pm cdv ct oc : Value} {an od : Option Addr} {osl : Array (Option Value)}
theorem con_enter0 (binds : List (Str × Value)) (m0 : Fm)
    (ho : (hd.heap_39 w.params).lookup f = some ⟨oc, od, .func (fnOf name qual params body scope dV kV doc pm an cdv ct), osl⟩) (hcd : codeIn (hd.heap_39 w.params) cdv qual = true)
    (hbind : ∀ s, BindsTo s (fnOf name qual params body scope dV kV doc pm an cdv ct) ⟨vs, []⟩ binds) (hkind : (binds.all fun y => scope.names.lookup y.1 == some .local || scope.names.lookup y.1 == some .cell) = true)
    (hm : ∀ L, bindL (envOfC qual scope L f cdv).kindOf binds (fun _ => none) = m0) (hcl : ∀ L : Addr, cellsFrom L scope.names [] = []) (hco : scope.isCoroutine = false) (hgen : scope.isGenerator = false) (hkf : scope.kind = .function) (hk0 : 0 < k)
    (x : ∀ (A : Around) (h₀ : Heap) (L : Addr), Site w A h₀ L k → AllLt L news → Ex PySem.Challenge.rw_tk0004_01.row.prog w A (envOfC qual scope L f cdv) h₀ L m0 news body (fun fl _ n' => RetP post fl n')) : Con w f vs news k post :=
  con_enter ho hcd hbind hkind (by rw [hcl]; decide) hco hgen hkf hk0 fun A h₀ L cells S Y l => by
    rw [hcl] at Y
    cases Y
    rw [hm]
    exact x A h₀ L S (allLt_of l)
theorem con_enter1 (binds : List (Str × Value)) (m0 : Fm) (n : Str) (v0 : Option Value)
    (ho : (hd.heap_39 w.params).lookup f = some ⟨oc, od, .func (fnOf name qual params body scope dV kV doc pm an cdv ct), osl⟩) (hcd : codeIn (hd.heap_39 w.params) cdv qual = true)
    (hbind : ∀ s, BindsTo s (fnOf name qual params body scope dV kV doc pm an cdv ct) ⟨vs, []⟩ binds) (hkind : (binds.all fun y => scope.names.lookup y.1 == some .local || scope.names.lookup y.1 == some .cell) = true)
    (hm : ∀ L, bindL (envOfC qual scope L f cdv).kindOf binds (fun _ => none) = m0) (hcm : ∀ L, bindC (envOfC qual scope L f cdv).kindOf binds (fun _ => none) n = v0) (hcl : ∀ L : Addr, cellsFrom L scope.names [] = [(n, L)]) (hco : scope.isCoroutine = false) (hgen : scope.isGenerator = false) (hkf : scope.kind = .function) (hk0 : 0 < k)
    (x : ∀ (A : Around) (h₀ : Heap) (L : Addr) (o : Obj), Site w A h₀ L k → o.data = .cell v0 → AllLt L news → Ex PySem.Challenge.rw_tk0004_01.row.prog w A (envOfC qual scope L f cdv) h₀ L m0 ((L + 1, o) :: news) body (fun fl _ n' => RetP post fl n')) : Con w f vs news k post :=
  con_enter ho hcd hbind hkind (by rw [hcl]; simp) hco hgen hkf hk0 fun A h₀ L cells S Y l => by
    rw [hcl] at Y
    obtain ⟨o, rfl, ho⟩ := Y.one
    rw [hm]
    exact x A h₀ L o S (by rw [← hcm L]; exact ho) (allLt_of l)
theorem con_enterK (binds : List (Str × Value)) (m0 : Fm) (cm : Str → Option Value) (cl : Addr → List (Str × Addr))
    (ho : (hd.heap_39 w.params).lookup f = some ⟨oc, od, .func (fnOf name qual params body scope dV kV doc pm an cdv ct), osl⟩) (hcd : codeIn (hd.heap_39 w.params) cdv qual = true)
    (hbind : ∀ s, BindsTo s (fnOf name qual params body scope dV kV doc pm an cdv ct) ⟨vs, []⟩ binds) (hkind : (binds.all fun y => scope.names.lookup y.1 == some .local || scope.names.lookup y.1 == some .cell) = true)
    (hm : ∀ L, bindL (envOfC qual scope L f cdv).kindOf binds (fun _ => none) = m0) (hcm : ∀ L, bindC (envOfC qual scope L f cdv).kindOf binds (fun _ => none) = cm) (hcl : ∀ L : Addr, cellsFrom L scope.names [] = cl L) (hnd : ((cl 0).map (·.1)).Nodup) (hco : scope.isCoroutine = false) (hgen : scope.isGenerator = false) (hkf : scope.kind = .function) (hk0 : 0 < k)
    (x : ∀ (A : Around) (h₀ : Heap) (L : Addr) (cells : Led), Site w A h₀ L k → CellsAre cm (cl (L + 1)) cells → AllLt L news → Ex PySem.Challenge.rw_tk0004_01.row.prog w A (envOfC qual scope L f cdv) h₀ L m0 (cells ++ news) body (fun fl _ n' => RetP post fl n')) : Con w f vs news k post :=
  con_enter ho hcd hbind hkind (by rw [hcl]; exact hnd) hco hgen hkf hk0 fun A h₀ L cells S Y l => by
    rw [hcl, hcm] at Y
    rw [hm]
    exact x A h₀ L cells S Y (allLt_of l)
end
/-- names whose values are known, set upon the map -/
theorem Ex.known {prog : Program} {w : World} {A : Around} {env : Env} {h₀ : Heap} {L : Addr} {m : Fm} {news : Led} {ss : List Stmt} {R : Flow → Fm → Led → Prop} (ps : List (Str × Value)) (hm : ∀ p ∈ ps, m p.1 = some p.2) (x : Ex prog w A env h₀ L (setAll ps m) news ss R) : Ex prog w A env h₀ L m news ss R := by
  rw [setAll_eq hm] at x; exact x
/-- the same after one more store -/
theorem Ex.known1 {prog : Program} {w : World} {A : Around} {env : Env} {h₀ : Heap} {L : Addr} {m : Fm} {y : Str} {v : Value} {news : Led} {ss : List Stmt} {R : Flow → Fm → Led → Prop} (ps : List (Str × Value)) (hm : ∀ p ∈ ps, m p.1 = some p.2) (x : Ex prog w A env h₀ L (put y v (setAll ps m)) news ss R) : Ex prog w A env h₀ L (put y v m) news ss R := by
  rw [setAll_eq hm] at x; exact x
end Mine
end
section
open PySem PySem.W PyProof.Rows PySem.Calls
set_option linter.all false
namespace Mine
def off (c : Addr) (led : Led) : Led := led.filter fun p => Nat.beq p.1 c == false
theorem off_sub {c : Addr} {led : Led} : ∀ p ∈ off c led, p ∈ led := fun p hp => (List.mem_filter.mp hp).1
theorem off_ne {c : Addr} {led : Led} : ∀ p ∈ off c led, p.1 ≠ c := fun p hp e => by
  have := (List.mem_filter.mp hp).2
  rw [e] at this
  simp at this
theorem off_mem {c a : Addr} {o : Obj} {led : Led} (hm : (a, o) ∈ led) (hne : a ≠ c) : (a, o) ∈ off c led := List.mem_filter.mpr ⟨hm, by
  have : Nat.beq a c = false := by
    cases e : Nat.beq a c with
    | false => rfl
    | true => exact absurd (Nat.eq_of_beq_eq_true e) hne
  simp [this]⟩
theorem off_keep {c a : Addr} {o oc : Obj} {led : Led} (U : Uniq led) (hc : (c, oc) ∈ led) (hm : (a, o) ∈ led) (hne : o ≠ oc) : (a, o) ∈ off c led := off_mem hm fun e => hne (U _ hm _ hc e)
section
variable {prog : Program} {w : World} {A : Around} {env : Env} {h₀ : Heap} {L : Addr} {m : Fm} {news : Led} {ss : List Stmt} {R : Flow → Fm → Led → Prop}
theorem Ex.uniq (x : Uniq news → Ex prog w A env h₀ L m news ss R) : Ex prog w A env h₀ L m news ss R := fun h g d tk os Q E hE F N q => x (News.uniq N) h g d tk os Q E hE F N q
def ZendP (J : List Value → Led → Prop) (own : Led) (WR : List Addr) (ys : List Value) (y : Value) (tl : Led) : Prop := ∃ n2 : Led, (∀ p ∈ own ++ n2, p ∈ tl) ∧ (∀ p ∈ n2, p.1 ∉ WR) ∧ J (ys ++ [y]) n2
theorem ZendP.mk {J : List Value → Led → Prop} {own : Led} {WR : List Addr} {ys : List Value} {y : Value} {tl : Led} (n2 : Led) (hs : ∀ p ∈ own ++ n2, p ∈ tl) (ho : ∀ p ∈ n2, p.1 ∉ WR) (hJ : J (ys ++ [y]) n2) : ZendP J own WR ys y tl := ⟨n2, hs, ho, hJ⟩
theorem zInv {elt : Expr} {x x₂ : Str} {scope : Scope} {cl : List (Str × Addr)} {s : Shared} {vs : List (Value × Value)} {Fin : List Value → Led → Prop} (J : Nat → List Value → Led → Prop)
    (step : ∀ (i : Nat) (ys : List Value) (n1 own : Led) (WR : List Addr) C oC m₂ p, vs[i]? = some p → J i ys n1 → (∀ b ∈ WR, ∃ o, (b, o) ∈ own) → (C, oC) ∈ own → LCg.NsObj oC m₂ → m₂ x = some p.1 → m₂ x₂ = some p.2 → (∀ p ∈ n1, p.1 ∉ WR) →
      Pc prog w A (compEnvC scope cl C env) h₀ L m (own ++ n1) elt (ZendP (J (i + 1)) own WR ys))
    (fin : ∀ ys n1, J vs.length ys n1 → Fin ys n1) : ∀ (r : List (Value × Value)) (i : Nat) (ys : List Value) (n1 : Led), r = vs.drop i → i ≤ vs.length → J i ys n1 → RestZ prog w A h₀ L m env elt x x₂ scope cl s Fin r ys n1
  | [], i, ys, n1, e, hi, hJ => by
    have : i = vs.length := by
      have := List.drop_eq_nil_iff.mp e.symm
      omega
    subst this
    exact fin ys n1 hJ
  | p :: r, i, ys, n1, e, hi, hJ => by
    intro own WR C oC m₂ h tk E' hW hC hns hx1 hx2 hoff F N
    have hlt : i < vs.length := by
      rcases Nat.lt_or_ge i vs.length with h | h
      · exact h
      · rw [List.drop_eq_nil_of_le h] at e; cases e
    rw [List.drop_eq_getElem_cons hlt] at e
    injection e with e1 e2
    refine step i ys n1 own WR C oC m₂ p (by rw [List.getElem?_eq_getElem hlt, e1]) hJ hW hC hns hx1 hx2 hoff h s.gens s.drawn tk s.os _ E' F N fun y tl h2 tk2 hP F2 N2 => ?_
    obtain ⟨n2, hs2, ho2, hJ2⟩ := hP
    exact ⟨h2, tk2, n2, rfl, F2, fun q hq => N2 q (hs2 q hq), ho2, zInv J step fin r (i + 1) _ n2 e2 hlt hJ2⟩
theorem Pc.compZ {elt f e1 e2 : Expr} {x x₂ : Str} {px px₂ tp cpos pos : Pos} {tkk : Nat} {scope : Scope} {cl : List (Str × Addr)} {l1 l2 : Addr} {k1 k2 : Nat} {xs zs : List Value} {post : Value → Led → Prop} (J : Nat → List Value → Led → Prop)
    (hf : Pv prog w A env h₀ L m news f (.type "zip")) (he1 : Pv prog w A env h₀ L m news e1 (.ref l1)) (he2 : Pv prog w A env h₀ L m news e2 (.ref l2)) (hm1 : (l1, W.listOf xs.toArray k1) ∈ news) (hm2 : (l2, W.listOf zs.toArray k2) ∈ news) (hz : xs.length ≤ sizeLine) (h0 : J 0 [] news)
    (step : ∀ (i : Nat) (ys : List Value) (n1 own : Led) (WR : List Addr) C oC m₂ p, (xs.zip zs)[i]? = some p → J i ys n1 → (∀ b ∈ WR, ∃ o, (b, o) ∈ own) → (C, oC) ∈ own → LCg.NsObj oC m₂ → m₂ x = some p.1 → m₂ x₂ = some p.2 → (∀ p ∈ n1, p.1 ∉ WR) →
      Pc prog w A (compEnvC scope cl C env) h₀ L m (own ++ n1) elt (ZendP (J (i + 1)) own WR ys))
    (fin : ∀ ys n1 D, J (xs.zip zs).length ys n1 → LCg.Off1 D n1 → Uniq ((D, LCg.lst ys) :: n1) → post (.ref D) ((D, LCg.lst ys) :: n1)) (hh : A.handled = none := by assumption)
    (hclos : closureFor scope env = pure cl := by with_unfolding_all rfl) (hcell : ∀ y ∈ scope.names, y.2 ≠ .cell := by decide) (hkind : scope.kind = .function := by rfl) (hnames : ∀ y ∈ scope.names, y.2 = .local → scope.names.lookup y.1 = some .local := by decide) (hx : scope.names.lookup x = some .local := by rfl) (hx₂ : scope.names.lookup x₂ = some .local := by rfl) (hxx : ¬ x = x₂ := by decide)
    (hs : ∀ z, foldedSetIterable (.Call f [e1, e2] [] cpos) env z = pure z := by intro _; rfl)
    (he : eval (.Call f [e1, e2] [] cpos) env = (do callWith cpos (← eval f env) [] (backTo cpos (starEach [e1, e2] env)) (backToKw cpos (keywordEach [] env))) := by rfl) (hc : starEach [e1, e2] env = (false, eval e1 env) :: starEach [e2] env := by rfl) (hc2 : starEach [e2] env = [(false, eval e2 env)] := by rfl) :
    Pc prog w A env h₀ L m news (.ListComp elt [⟨.Tuple [.Name x px, .Name x₂ px₂] tkk tp, .Call f [e1, e2] [] cpos, [], 0⟩] scope pos) post := fun h g d tk os Q E F N q => by
  refine ListComp_Z (s := ⟨h, g, d, tk, os⟩) F hclos hcell hkind hnames hx hx₂ hxx ?_ hs
  refine Call_ (hf h g d tk os _ _ F N fun tk => PyProof.Rows.callWith_type1 (args_cons (he1 h g d tk os _ _ F N fun tk => args_cons (he2 h g d tk os _ _ F N fun tk => args_nil ?_) hc2) hc) hc (by rw [hc2]; rfl)) he
  refine zip_src (s := ⟨h, g, d, tk, os⟩) hh F N hm1 hm2 hz ?_
  rintro s3 ⟨h3, tk3, rfl⟩
  refine zInv J step ?_ _ 0 [] news rfl (Nat.zero_le _) h0
  intro ys n1 hJ D h2 tk2 F2 N2 ho
  exact q _ _ _ _ (fin ys n1 D hJ ho (News.uniq N2)) F2 N2
end
theorem itR_cls {a b : Int} : (itR a b).cls = .type "range_iterator" := rfl
section
variable {prog : Program} {w : World} {A : Around} {env : Env} {h₀ : Heap} {L : Addr} {m : Fm} {news : Led} {ss : List Stmt} {R : Flow → Fm → Led → Prop}
def TurnP (J : Fm → Led → Prop) (R : Flow → Fm → Led → Prop) (I : Addr) (it : Obj) (f : Flow) (m' : Fm) (n' : Led) : Prop := match f with
  | .next => ∃ n2, (∀ p ∈ (I, it) :: n2, p ∈ n') ∧ (∀ p ∈ n2, p.1 ≠ I) ∧ J m' n2
  | .ret v => R (.ret v) m' n'
  | _ => False
theorem TurnP.next {J : Fm → Led → Prop} {I : Addr} {it : Obj} {m' : Fm} {n' : Led} (hI : (I, it) ∈ n') (hJ : J m' (off I n')) : TurnP J R I it .next m' n' := ⟨off I n', fun p hp => by
  rcases List.mem_cons.mp hp with rfl | hp
  · exact hI
  · exact off_sub p hp, off_ne, hJ⟩
theorem Ex.turn {J : Fm → Led → Prop} {I : Addr} {it : Obj} (hI : (I, it) ∈ news) (hJ : Uniq news → J m (off I news)) : Ex prog w A env h₀ L m news [] (TurnP J R I it) := Ex.uniq fun U => Ex.nil (TurnP.next hI (hJ U))
/-- for x in range(n) -/
theorem Ex.forR0 {x : Str} {px pos : Pos} {iter : Expr} {body : List Stmt} {n : Nat} (J : Nat → Fm → Led → Prop) (hr : Pr prog w A env h₀ L m news iter 0 (n : Int)) (hn : n < 2 ^ 62) (h0 : J 0 m news)
    (turn : ∀ (i : Nat) (m1 : Fm) (n1 : Led) (I : Addr) (it : Obj) (t : Tok), i < n → it.cls = .type "range_iterator" → J i m1 n1 → (∀ p ∈ n1, p.1 ≠ I) → Ex prog w A env h₀ L (put x (.int (i : Int) t) m1) ((I, it) :: n1) body (TurnP (J (i + 1)) R I it))
    (done : ∀ m1 n1, J n m1 n1 → Ex prog w A env h₀ L m1 n1 ss R) (hl : env.locals = L := by rfl) (hh : A.handled = none := by assumption) (hx : env.kindOf x = some .local := by rfl) (hp : (env.scope.kind == .class || (env.scope.kind == .module && env.locals != env.globals)) = false := by rfl) (hs : ∀ x, foldedSetIterable iter env x = pure x := by intro _; rfl) :
    Ex prog w A env h₀ L m news (.For (.Name x px) iter body [] pos :: ss) R :=
  Ex.forR J hr (small_one (by omega) (by omega) (by omega) (by omega)) (by rw [rangeSize_one]; split <;> omega) h0 (fun i m1 n1 I t hi hJ hoff => by
    rw [Int.zero_add (i : Int)]
    exact turn i m1 n1 I (itR (0 + ((i + 1 : Nat) : Int)) ((n : Int) - ((i + 1 : Nat) : Int))) t hi itR_cls hJ hoff) done hl hh hx hp hs
theorem Pc.typ {f e : Expr} {es : List Expr} {pos : Pos} {T : String} {post : Value → Led → Prop} (hf : Pv prog w A env h₀ L m news f (.type T)) (ha : Pl prog w A env h₀ L m pos news (e :: es) (fun vs tl => Ok prog w A h₀ L m (.type T) vs tl post))
    (he : eval (.Call f (e :: es) [] pos) env = (do callWith pos (← eval f env) [] (backTo pos (starEach (e :: es) env)) (backToKw pos (keywordEach [] env))) := by rfl) (hc : starEach (e :: es) env = (false, eval e env) :: starEach es env := by rfl) (hp : (backTo pos (starEach es env)).any (·.1) = false := by rfl) :
    Pc prog w A env h₀ L m news (.Call f (e :: es) [] pos) post := fun h g d tk os Q E F N q =>
  Call_ (hf h g d tk os _ _ F N fun tk => PyProof.Rows.callWith_type1 (ha h g d tk os _ _ F N fun vs tl h' tk' o F' N' => o h' g d tk' os _ _ F' N' q) hc hp) he
theorem Ok.list {b : Addr} {zs : List Value} {k : Nat} {post : Value → Led → Prop} (hm : (b, W.listOf zs.toArray k) ∈ news) (hz : zs.length ≤ sizeLine) (h : ∀ D c, (∀ p ∈ news, p.1 < D) → post (.ref D) ((D, W.listOf zs.toArray c) :: news)) : Ok prog w A h₀ L m (.type "list") [.ref b] news post := fun h' g d tk os Q E F N q =>
  kup_listOf (s := ⟨h', g, d, tk, os⟩) F N hm rfl (fun D c h'' F' N' l => q _ _ _ _ (h D c l) F' N') hz
theorem Pb.isNone {a b : Expr} {pos p' : Pos} {k : Nat} (ha : Pv prog w A env h₀ L m news a .none) (hb : b = .Constant .none k p' := by rfl) (hm : behindInMarks .Is b = false := by with_unfolding_all rfl) : Pb prog w A env h₀ L m news (.Compare a [.Is] [b] pos) true := Pb.none ha hb hm
theorem Pb.notNone {a b : Expr} {pos p' : Pos} {k : Nat} {z : Int} {t : Tok} (ha : Pv prog w A env h₀ L m news a (.int z t)) (hb : b = .Constant .none k p' := by rfl) (hm : behindInMarks .Is b = false := by with_unfolding_all rfl) : Pb prog w A env h₀ L m news (.Compare a [.Is] [b] pos) false := by
  have := Pb.none (pos := pos) ha hb hm
  have e : (Value.int z t == Value.none) = false := rfl
  rw [e] at this
  exact this
theorem Ex.ifT {test : Expr} {body orelse : List Stmt} {pos : Pos} (hc : Pb prog w A env h₀ L m news test true) (x : Ex prog w A env h₀ L m news body (Seq prog w A env h₀ L ss R)) : Ex prog w A env h₀ L m news (.If test body orelse pos :: ss) R := Ex.ite hc (fun _ => x) (fun e => nomatch e)
theorem Ex.ifF {test : Expr} {body : List Stmt} {pos : Pos} (hc : Pb prog w A env h₀ L m news test false) (x : Ex prog w A env h₀ L m news ss R) : Ex prog w A env h₀ L m news (.If test body [] pos :: ss) R := Ex.ite hc (fun e => nomatch e) (fun _ => Seq.nil x)
end
end Mine
end
section
open PySem PySem.W PyProof.Rows PySem.Calls
set_option linter.all false
namespace Mine
section
variable {prog : Program} {w : World} {A : Around} {env : Env} {h₀ : Heap} {L : Addr} {m : Fm} {news : Led} {ss : List Stmt} {R : Flow → Fm → Led → Prop}
theorem Pb.gt {a b : Expr} {pos : Pos} {x y : Int} (ha : Pi prog w A env h₀ L m news a x) (hb : Pi prog w A env h₀ L m news b y) (hm : behindInMarks .Gt b = false := by with_unfolding_all rfl) : Pb prog w A env h₀ L m news (.Compare a [.Gt] [b] pos) (decide (x > y)) := fun h g d tk os Q E F N q =>
  wpAny_isTrue_Compare1 (ha h g d tk os _ _ F N fun _ tk => hb h g d tk os _ _ F N fun _ _ => P.gt_int (wpAny_truthy_bool (q _))) hm
theorem Pb.eq {a b : Expr} {pos : Pos} {x y : Int} (ha : Pi prog w A env h₀ L m news a x) (hb : Pi prog w A env h₀ L m news b y) (hm : behindInMarks .Eq b = false := by with_unfolding_all rfl) : Pb prog w A env h₀ L m news (.Compare a [.Eq] [b] pos) (x == y) := fun h g d tk os Q E F N q =>
  wpAny_isTrue_Compare1 (ha h g d tk os _ _ F N fun _ tk => hb h g d tk os _ _ F N fun _ _ => P.eq_int (wpAny_truthy_bool (q _))) hm
theorem Pb.or {a b : Expr} {pos : Pos} {x y : Bool} (ha : Pb prog w A env h₀ L m news a x) (hb : x = false → Pb prog w A env h₀ L m news b y) : Pb prog w A env h₀ L m news (.BoolOp .Or [a, b] pos) (x || y) := fun h g d tk os Q E F N q =>
  isTrue_or (ha h g d tk os _ _ F N fun tk => by
    cases x with
    | true => exact q tk
    | false => exact isTrue_or (hb rfl h g d tk os _ _ F N fun tk => by
      cases y with
      | true => exact q tk
      | false => exact isTrue_or_nil (q tk)))
theorem Pb.of {e : Expr} {x y : Bool} (h : Pb prog w A env h₀ L m news e x) (q : x = y) : Pb prog w A env h₀ L m news e y := q ▸ h
theorem Pi.ofEq {e : Expr} {x y : Int} (h : Pi prog w A env h₀ L m news e x) (q : x = y) : Pi prog w A env h₀ L m news e y := q ▸ h
theorem Pi.ifT {t a b : Expr} {pos : Pos} {z : Int} (ht : Pb prog w A env h₀ L m news t true) (ha : Pi prog w A env h₀ L m news a z) : Pi prog w A env h₀ L m news (.IfExp t a b pos) z := fun h g d tk os Q E F N q =>
  IfExp_ (ht h g d tk os _ _ F N fun tk => ha h g d tk os _ _ F N q)
/-- x, y = e (both local), e no display -/
theorem Ex.tup2 {x y : Str} {k : Nat} {px py tpos pos : Pos} {e : Expr} (he : Pc prog w A env h₀ L m news e (Tup2P prog w A env h₀ L (fun v1 v2 => put y v2 (put x v1 m)) ss R)) (hh : A.handled = none := by assumption) (hl : env.locals = L := by rfl) (hx : env.kindOf x = some .local := by rfl) (hy : env.kindOf y = some .local := by rfl)
    (hp : (env.scope.kind == .class || (env.scope.kind == .module && env.locals != env.globals)) = false := by rfl) (hs : swapsWithSole [.Tuple [.Name x px, .Name y py] k tpos] e pos.line env = pure false := by rfl) (hw : swappedStores [.Tuple [.Name x px, .Name y py] k tpos] e env = pure none := by rfl)
    (ha : (assignEach [.Name x px, .Name y py] env) = [(false, assign (.Name x px) env), (false, assign (.Name y py) env)] := by rfl) :
    Ex prog w A env h₀ L m news (.Assign [.Tuple [.Name x px, .Name y py] k tpos] e pos :: ss) R :=
  Ex.one fun h g d tk os Q E hE F N q => Assign_Tuple (he h g d tk os _ _ F N fun r tl h' tk' p F' N' => by
    obtain ⟨D, v1, v2, rfl, hm, k⟩ := p
    refine unpackN_ (s := ⟨h', g, d, tk', os⟩) F' N' (News.isTup N' hm) hh (by rw [ha]; rfl) (by rw [ha]; rfl) fun h'' F2 N2 => ?_
    rw [ha]
    refine assignInOrder_cons (assign_Name (wpAny_storeName_local hx (hl ▸ F2.ns) (fun h3 hn hs' => ?_) hp))
    have F3 := F2.set (hl ▸ hn) (hl ▸ hs')
    have N3 := N2.set (hl ▸ hs')
    refine assignInOrder_cons (assign_Name (wpAny_storeName_local hy (hl ▸ F3.ns) (fun h4 hn4 hs4 => ?_) hp))
    exact assignInOrder_nil (q .next _ _ _ _ k (F3.set (hl ▸ hn4) (hl ▸ hs4)) (N3.set (hl ▸ hs4)))) hs hw
/-- a tuple's item, of an expression that stores -/
def TitP (j : Int) (post : Value → Led → Prop) (r : Value) (tl : Led) : Prop := ∃ (D : Addr) (vs : List Value) (q : Nat) (v : Value), r = .ref D ∧ (D, ({ cls := .type "tuple", data := .seq vs.toArray } : Obj)) ∈ tl ∧ -(2 ^ 63) ≤ j ∧ j < 2 ^ 63 ∧ seqIndex? j vs.length = some q ∧ vs[q]? = some v ∧ post v tl
theorem Pc.titem {e i : Expr} {pos : Pos} {z : Int} {post : Value → Led → Prop} (he : Pc prog w A env h₀ L m news e (TitP z post)) (hi : ∀ {news}, Pi prog w A env h₀ L m news i z) (hs : ∀ l u, subscripted i false (.ref l) (.int z u) = operate [.ref l, .int z u] (getItem (.ref l) (.int z u)) := by intro _ _; rfl) :
    Pc prog w A env h₀ L m news (.Subscript e i pos) post := fun h g d tk os Q E F N q =>
  Subscript_ (he h g d tk os _ _ F N fun r tl h' tk' p F' N' => by
    obtain ⟨D, vs, j, v, rfl, hm, h0, h1, hj, hv, hp⟩ := p
    exact hi h' g d tk' os _ _ F' N' fun u tk => item_tupleT (News.isTup N' hm) h0 h1 hj hv (q _ _ _ _ hp F' N') (hs D u))
theorem Pl.cs {pos : Pos} {e : Expr} {es : List Expr} {P1 : Value → Led → Prop} {S : List Value → Led → Prop} (he : Pc prog w A env h₀ L m news e P1) (h : ∀ r tl, P1 r tl → Pl prog w A env h₀ L m pos tl es (fun vs tl' => S (r :: vs) tl')) (hc : starEach (e :: es) env = (false, eval e env) :: starEach es env := by rfl) : Pl prog w A env h₀ L m pos news (e :: es) S := Pl.c he h hc
end
/-- a list of n values, of each of which P tells -/
def LV (led : Led) (l : Addr) (n : Nat) (P : Nat → Value → Prop) : Prop := ∃ (vs : List Value) (k : Nat), vs.length = n ∧ (l, W.listOf vs.toArray k) ∈ led ∧ ∀ c v, vs[c]? = some v → P c v
theorem LV.mono {led led' : Led} {l : Addr} {n : Nat} {P P' : Nat → Value → Prop} (h : LV led l n P) (hs : ∀ p ∈ led, p ∈ led') (hP : ∀ c v, P c v → P' c v) : LV led' l n P' := let ⟨vs, k, a, b, c⟩ := h; ⟨vs, k, a, hs _ b, fun i v e => hP i v (c i v e)⟩
theorem LV.item {led : Led} {l : Addr} {n : Nat} {P : Nat → Value → Prop} (h : LV led l n P) {i : Nat} (hi : i < n) {C : Prop} (k : ∀ (vs : List Value) (kk : Nat) (v : Value), (l, W.listOf vs.toArray kk) ∈ led → vs.length = n → vs[((i : Nat) : Int).toNat]? = some v → P i v → C) : C := by
  obtain ⟨vs, kk, hl, hm, hP⟩ := h
  have hlt : i < vs.length := by omega
  have ha : vs[i]? = some vs[i] := List.getElem?_eq_getElem hlt
  exact k vs kk vs[i] hm hl (by simpa using ha) (hP i _ ha)
/-- a comprehension's list so far -/
def AccG (base : Led) (P : Led → Nat → Value → Prop) (i : Nat) (ys : List Value) (n1 : Led) : Prop := ys.length = i ∧ (∀ p ∈ base, p ∈ n1) ∧ ∀ c v, ys[c]? = some v → P n1 c v
theorem AccG.nil {base : Led} {P : Led → Nat → Value → Prop} : AccG base P 0 [] base := ⟨rfl, fun _ h => h, fun c v e => by simp at e⟩
theorem AccG.snoc {base : Led} {P : Led → Nat → Value → Prop} {i : Nat} {ys : List Value} {n1 n2 : Led} {v : Value} (h : AccG base P i ys n1) (hs : ∀ p ∈ base, p ∈ n2) (hk : ∀ c v, P n1 c v → P n2 c v) (hv : P n2 i v) : AccG base P (i + 1) (ys ++ [v]) n2 := by
  obtain ⟨hl, hb, hc⟩ := h
  refine ⟨by simp [hl], hs, fun c b e => ?_⟩
  rcases Nat.lt_trichotomy c ys.length with h | h | h
  · rw [List.getElem?_append_left h] at e
    exact hk c b (hc c b e)
  · subst h
    rw [List.getElem?_append_right (Nat.le_refl _)] at e
    have : v = b := by simpa using e
    subst this
    rw [hl]; exact hv
  · rw [List.getElem?_eq_none (by simp; omega)] at e
    cases e
abbrev IMx := Nat → Nat → Int
def IRow (led : Led) (r : Addr) (n : Nat) (x : Nat → Int) : Prop := LV led r n fun c v => ∃ t, v = .int (x c) t
def IGrid (led : Led) (g : Addr) (n c : Nat) (x : IMx) : Prop := LV led g n fun j v => ∃ r, v = .ref r ∧ IRow led r c (x j)
theorem IRow.mono {led led' : Led} {r : Addr} {n : Nat} {x : Nat → Int} (h : IRow led r n x) (hs : ∀ p ∈ led, p ∈ led') : IRow led' r n x := LV.mono h hs fun _ _ h => h
theorem IGrid.mono {led led' : Led} {g : Addr} {n c : Nat} {x : IMx} (h : IGrid led g n c x) (hs : ∀ p ∈ led, p ∈ led') : IGrid led' g n c x := LV.mono h hs fun _ _ ⟨r, e, q⟩ => ⟨r, e, q.mono hs⟩
theorem IRow.at_ {led : Led} {r : Addr} {n : Nat} {x : Nat → Int} (h : IRow led r n x) {i : Nat} (hi : i < n) {C : Prop} (k : ∀ (vs : List Value) (kk : Nat) (t : Tok), (r, W.listOf vs.toArray kk) ∈ led → vs.length = n → vs[((i : Nat) : Int).toNat]? = some (.int (x i) t) → C) : C :=
  LV.item h hi fun vs kk v hm hl hv hP => by obtain ⟨t, rfl⟩ := hP; exact k vs kk t hm hl hv
theorem IGrid.row {led : Led} {g : Addr} {n c : Nat} {x : IMx} (h : IGrid led g n c x) {i : Nat} (hi : i < n) {C : Prop} (k : ∀ (vs : List Value) (kk : Nat) (r : Addr), (g, W.listOf vs.toArray kk) ∈ led → vs.length = n → vs[((i : Nat) : Int).toNat]? = some (.ref r) → IRow led r c (x i) → C) : C :=
  LV.item h hi fun vs kk v hm hl hv hP => by obtain ⟨r, rfl, q⟩ := hP; exact k vs kk r hm hl hv q
/-- a list of refs is a list of addresses -/
theorem refs_of {Q : Nat → Addr → Prop} : ∀ {ys : List Value}, (∀ c v, ys[c]? = some v → ∃ a, v = .ref a ∧ Q c a) → ∃ as : List Addr, ys = as.map Value.ref ∧ ∀ c a, as[c]? = some a → Q c a := fun {ys} h => by
  refine ⟨ys.map fun v => match v with | .ref a => a | _ => 0, ?_, fun c a e => ?_⟩
  · refine List.ext_getElem? fun c => ?_
    rw [List.map_map, List.getElem?_map]
    cases e : ys[c]? with
    | none => rfl
    | some v => obtain ⟨a, rfl, _⟩ := h c v e; rfl
  · rw [List.getElem?_map] at e
    cases e' : ys[c]? with
    | none => rw [e'] at e; cases e
    | some v => obtain ⟨b, rfl, q⟩ := h c v e'; rw [e'] at e; cases e; exact q
theorem nn (i : Nat) : (0 : Int) ≤ (i : Int) := Int.natCast_nonneg i
theorem lt63 {i n : Nat} (hi : i < n) (hn : n < 100) : (i : Int) < 2 ^ 63 := Int.lt_trans (Int.ofNat_lt.mpr (Nat.lt_trans hi hn)) (by decide)
theorem lt62 {n : Nat} (hn : n < 100) : n < 2 ^ 62 := Nat.lt_trans hn (by decide)
theorem leSz {n : Nat} (hn : n < 100) : n ≤ sizeLine := Nat.le_trans (Nat.le_of_lt hn) (by decide)
theorem len2 {a b : Value} : [a, b].length ≤ sizeLine := Nat.le_of_ble_eq_true rfl
theorem len3 {a b c : Value} : [a, b, c].length ≤ sizeLine := Nat.le_of_ble_eq_true rfl
theorem tl {a : Addr × Obj} {l : Led} : ∀ p ∈ l, p ∈ a :: l := fun _ hp => .tail _ hp
end Mine
end
section
open PySem PySem.W PyProof.Rows PySem.Calls
set_option linter.all false
namespace Mine
section
variable {prog : Program} {w : World} {A : Around} {env : Env} {h₀ : Heap} {L : Addr} {m : Fm} {news : Led} {ss : List Stmt} {R : Flow → Fm → Led → Prop}
theorem Pc.blt {f e : Expr} {es : List Expr} {pos : Pos} {T : String} {post : Value → Led → Prop} (hf : Pv prog w A env h₀ L m news f (.builtin T)) (ha : Pl prog w A env h₀ L m pos news (e :: es) (fun vs tl => Ok prog w A h₀ L m (.builtin T) vs tl post))
    (he : eval (.Call f (e :: es) [] pos) env = (do callWith pos (← eval f env) [] (backTo pos (starEach (e :: es) env)) (backToKw pos (keywordEach [] env))) := by rfl) (hc : starEach (e :: es) env = (false, eval e env) :: starEach es env := by rfl) (hp : (backTo pos (starEach es env)).any (·.1) = false := by rfl) :
    Pc prog w A env h₀ L m news (.Call f (e :: es) [] pos) post := fun h g d tk os Q E F N q =>
  Call_ (hf h g d tk os _ _ F N fun tk => callWith_builtin1 (ha h g d tk os _ _ F N fun vs tl h' tk' o F' N' => o h' g d tk' os _ _ F' N' q) hc hp) he
theorem Ok.sum {l : Addr} {vs : List Value} {k : Nat} {ns : List Int} {post : Value → Led → Prop} (hh : A.handled = none) (hm : (l, W.listOf vs.toArray k) ∈ news) (hi : IntsAre vs ns) (h : ∀ t, post (.int ns.sum t) news) : Ok prog w A h₀ L m (.builtin "sum") [.ref l] news post := fun h' g d tk os Q E F N q =>
  sumK (s := ⟨h', g, d, tk, os⟩) hh F N ⟨_, (N _ hm).1, rfl, _, rfl⟩ hi fun h'' tk' t' F' N' => q _ _ _ _ (h t') F' N'
/-- a call of a function at hand -/
theorem Pc.lam {f e : Expr} {es : List Expr} {pos : Pos} {q0 : Addr} {post : Value → Led → Prop} (hf : Pv prog w A env h₀ L m news f (.ref q0)) (ha : Pl prog w A env h₀ L m pos news (e :: es) (fun vs tl => (∃ oc od fd sl, (q0, (⟨oc, od, .func fd, sl⟩ : Obj)) ∈ news ∧ (q0, (⟨oc, od, .func fd, sl⟩ : Obj)) ∈ tl) ∧ Ok prog w A h₀ L m (.ref q0) vs tl post))
    (hq : ∃ oc od fd sl, (q0, (⟨oc, od, .func fd, sl⟩ : Obj)) ∈ news)
    (he : eval (.Call f (e :: es) [] pos) env = (do callWith pos (← eval f env) [] (backTo pos (starEach (e :: es) env)) (backToKw pos (keywordEach [] env))) := by rfl) (hc : starEach (e :: es) env = (false, eval e env) :: starEach es env := by rfl) (hp : (backTo pos (starEach es env)).any (·.1) = false := by rfl) :
    Pc prog w A env h₀ L m news (.Call f (e :: es) [] pos) post := fun h g d tk os Q E F N q =>
  Call_ (hf h g d tk os _ _ F N fun tk => callWith_F (let ⟨_, _, _, _, b⟩ := hq; FnAt.of N b) (ha h g d tk os _ _ F N fun vs tl h' tk' ⟨⟨_, _, _, _, _, b⟩, o⟩ F' N' => ⟨FnAt.of N' b, o h' g d tk' os _ _ F' N' q⟩) hc hp) he
/-- a list display -/
theorem Pc.list {es : List Expr} {pos : Pos} {post : Value → Led → Prop} (ha : Pl prog w A env h₀ L m pos news es (fun vs tl => vs.length ≤ sizeLine ∧ ∀ D, (∀ p ∈ tl, p.1 < D) → post (.ref D) ((D, W.listOf vs.toArray 0) :: tl))) :
    Pc prog w A env h₀ L m news (.List es pos) post := fun h g d tk os Q E F N q =>
  List_ (ha h g d tk os _ _ F N fun vs tl h' tk' o F' N' => newList_K F' N' (fun D h'' F'' N'' l => q _ _ _ _ (o.2 D l) F'' N'') o.1)
/-- o.append(e) -/
def AppP (prog : Program) (w : World) (A : Around) (env : Env) (h₀ : Heap) (L : Addr) (m : Fm) (ss : List Stmt) (R : Flow → Fm → Led → Prop) (D : Addr) (r : Value) (tl : Led) : Prop := ∃ (vs : List Value) (k : Nat) (rest : Led), (D, W.listOf vs.toArray k) ∈ tl ∧ vs.length ≤ sizeLine ∧ (∀ p ∈ rest, p ∈ tl) ∧ (∀ p ∈ rest, p.1 ≠ D) ∧ Ex prog w A env h₀ L m ((D, W.listOf (vs ++ [r]).toArray (k + 1)) :: rest) ss R
theorem AppP.mk {D : Addr} {r : Value} {tl : Led} {vs : List Value} {k : Nat} (rest : Led) (hm : (D, W.listOf vs.toArray k) ∈ tl) (hz : vs.length ≤ sizeLine) (hr : ∀ p ∈ rest, p ∈ tl) (hne : ∀ p ∈ rest, p.1 ≠ D) (x : Ex prog w A env h₀ L m ((D, W.listOf (vs ++ [r]).toArray (k + 1)) :: rest) ss R) : AppP prog w A env h₀ L m ss R D r tl := ⟨vs, k, rest, hm, hz, hr, hne, x⟩
theorem Ex.append {o e : Expr} {apos pos epos : Pos} {D : Addr} {vs : List Value} {k : Nat} {pl : Sem Bool} (ho : Pv prog w A env h₀ L m news o (.ref D)) (hm : (D, W.listOf vs.toArray k) ∈ news) (he : Pc prog w A env h₀ L m news e (AppP prog w A env h₀ L m ss R D))
    (hi : interactive env = false := by rfl) (hs : swapsWith (.Call (.Attribute o (Str.ofString "append") apos) [e] [] pos) none epos.line env = pure false := by rfl) (hc : starEach [e] env = [(false, eval e env)] := by rfl)
    (h1 : eval (.Call (.Attribute o (Str.ofString "append") apos) [e] [] pos) env = (do
      let ov ← eval o env
      standAt apos.atName
      let (f, first) ← holding [ov] (getMethod ov (Str.ofString "append") pl)
      callWith pos f first (backTo pos (starEach [e] env)) []) := by rfl) :
    Ex prog w A env h₀ L m news (.Expr (.Call (.Attribute o (Str.ofString "append") apos) [e] [] pos) epos :: ss) R :=
  Ex.one fun h g d tk os Q E hE F N q => wpAny_Expr_any (MethodCall_ (ho h g d tk os _ _ F N fun tk => getMethod_append_N N hm (callWith_method1 (args_cons (he h g d tk os _ _ F N fun r tl h' tk' p F' N' => args_nil (by
    obtain ⟨vs, k, rest, hm, hz, hr, hne, x⟩ := p
    have y := N' _ hm
    refine append_at (s := ⟨h', g, d, tk', os⟩) y.1 (fun h'' hs' ho' => ?_) (by simpa using hz)
    refine q .next _ _ _ _ x (F'.change hs' y.2.1 y.2.2) (news_put N' hm hs' ?_ hr hne)
    rw [ho']; simp [W.listOf])) hc) hc rfl)) h1) hi hs
theorem Pc.compX {elt iter : Expr} {x : Str} {px pos : Pos} {scope : Scope} {cl : List (Str × Addr)} {ax : Addr} {its : List Value} {k : Nat} {post : Value → Led → Prop} (J : Nat → List Value → Led → Prop) (hi : Pv prog w A env h₀ L m news iter (.ref ax)) (hm : (ax, W.listOf its.toArray k) ∈ news) (hz : its.length ≤ sizeLine) (h0 : J 0 [] news)
    (step : ∀ (i : Nat) (ys : List Value) (n1 own : Led) (WR : List Addr) C c oc v, its[i]? = some v → J i ys n1 → (∀ b ∈ WR, ∃ o, (b, o) ∈ own) → (c, oc) ∈ own → oc.data = .cell (some v) → (∀ p ∈ n1, p.1 ∉ WR) →
      Pc prog w A (compEnvC scope ((x, c) :: cl) C env) h₀ L m (own ++ n1) elt (ZendP (J (i + 1)) own WR ys))
    (fin : ∀ ys n1 D, J its.length ys n1 → LCg.Off1 D n1 → Uniq ((D, LCg.lst ys) :: n1) → post (.ref D) ((D, LCg.lst ys) :: n1)) (hh : A.handled = none := by assumption)
    (hclos : closureFor scope env = pure cl := by with_unfolding_all rfl) (hcf : ∀ n acc, cellsFrom n scope.names acc = (x, n) :: acc := by intro n acc; rfl) (hpc : ∀ h, pushCells h scope.names = h.push { cls := .type "cell", data := .cell none } := by intro h; rfl) (hkind : scope.kind = .function := by rfl) (hnames : ∀ y ∈ scope.names, y.2 = .local → scope.names.lookup y.1 = some .local := by decide) (hx : scope.names.lookup x = some .cell := by rfl) (hs : ∀ x, foldedSetIterable iter env x = pure x := by intro _; rfl) :
    Pc prog w A env h₀ L m news (.ListComp elt [⟨.Name x px, iter, [], 0⟩] scope pos) post := fun h g d tk os Q E F N q => by
  refine ListComp_X (s := ⟨h, g, d, tk, os⟩) F hclos hcf hpc hkind hnames hx (hi h g d tk os _ _ F N fun tk' => ?_) hs
  refine SrcX.intro hh F N hm hz ?_
  rintro s3 ⟨h3, tk3, rfl⟩
  have key : ∀ (r : List Value) (i : Nat) (ys : List Value) (n1 : Led), r = its.drop i → i ≤ its.length → J i ys n1 → RestX prog w A h₀ L m env elt x scope cl ⟨h3, g, d, tk3, os⟩ (LCg.FinE h₀ L m ⟨h3, g, d, tk3, os⟩ Q) r ys n1 := by
    intro r
    induction r with
    | nil =>
      intro i ys n1 e hi hJ
      have : i = its.length := by
        have := List.drop_eq_nil_iff.mp e.symm
        omega
      subst this
      intro D h2 tk2 F2 N2 ho
      exact q _ _ _ _ (fin ys n1 D hJ ho (News.uniq N2)) F2 N2
    | cons p r ih =>
      intro i ys n1 e hi hJ own WR C c oc h' tk E' hW hc hoc hoff F' N'
      have hlt : i < its.length := by
        rcases Nat.lt_or_ge i its.length with h | h
        · exact h
        · rw [List.drop_eq_nil_of_le h] at e; cases e
      rw [List.drop_eq_getElem_cons hlt] at e
      injection e with e1 e2
      refine step i ys n1 own WR C c oc p (by rw [List.getElem?_eq_getElem hlt, e1]) hJ hW hc hoc hoff h' g d tk os _ E' F' N' fun y tl h2 tk2 hP F2 N2 => ?_
      obtain ⟨n2, hs2, ho2, hJ2⟩ := hP
      exact ⟨h2, tk2, n2, rfl, F2, fun q hq => N2 q (hs2 q hq), ho2, ih (i + 1) _ n2 e2 hlt hJ2⟩
  exact key _ 0 [] news rfl (Nat.zero_le _) h0
/-- a for loop over a list whose name is a cell or not: the store is told by To -/
def To (prog : Program) (w : World) (A : Around) (env : Env) (h₀ : Heap) (L : Addr) (m : Fm) (news : Led) (t : Expr) (v : Value) (K : Fm → Led → Prop) : Prop :=
  ∀ h g d tk os (Q : Unit → Shared → Prop) (E : Value → Shared → Prop), Fr h₀ L h m → News h₀ L h news → (∀ m' n' h' tk', K m' n' → Fr h₀ L h' m' → News h₀ L h' n' → Q () ⟨h', g, d, tk', os⟩) → wpAny (model prog w) A (assign t env v) Q E ⟨h, g, d, tk, os⟩
theorem To.cell {x : Str} {pos : Pos} {v : Value} {c : Addr} {o : Obj} {v₀ : Option Value} {K : Fm → Led → Prop} (rest : Led) (hm : (c, o) ∈ news) (ho : o.data = .cell v₀) (hr : ∀ p ∈ rest, p ∈ news) (hne : ∀ p ∈ rest, p.1 ≠ c) (k : ∀ o' : Obj, o'.data = .cell (some v) → K m ((c, o') :: rest)) (hc : env.cells.lookup x = some c := by rfl) (hx : env.kindOf x = some .cell := by rfl) (hk : env.scope.kind = .function := by rfl) : To prog w A env h₀ L m news (.Name x pos) v K :=
  fun h g d tk os Q E F N q => assign_Name (by
    have z := N _ hm
    refine wpAny_storeName_cell hk hx hc ⟨o, z.1, ho⟩ fun h'' hv hs' => ?_
    obtain ⟨o', ho', hd'⟩ := hv
    exact q _ _ _ _ (k o' hd') (F.change hs' z.2.1 z.2.2) (news_put N hm hs' ho' hr hne))
theorem Ex.forL {t iter : Expr} {pos : Pos} {body : List Stmt} {ax : Addr} {vs : List Value} {k : Nat} (J : Nat → Fm → Led → Prop) (hi : Pv prog w A env h₀ L m news iter (.ref ax)) (hm : ∀ i m1 n1, J i m1 n1 → (ax, W.listOf vs.toArray k) ∈ n1) (h0 : J 0 m news)
    (turn : ∀ (i : Nat) (m1 : Fm) (n1 : Led) (I : Addr) (it : Obj) (v : Value), vs[i]? = some v → it.cls = .type "list_iterator" → J i m1 n1 → (∀ p ∈ n1, p.1 ≠ I) → To prog w A env h₀ L m1 ((I, it) :: n1) t v fun m2 n2 => Ex prog w A env h₀ L m2 n2 body (TurnP (J (i + 1)) R I it))
    (done : ∀ m1 n1, J vs.length m1 n1 → Ex prog w A env h₀ L m1 n1 ss R) (hl : env.locals = L := by rfl) (hh : A.handled = none := by assumption) (hs : ∀ x, foldedSetIterable iter env x = pure x := by intro _; rfl) :
    Ex prog w A env h₀ L m news (.For t iter body [] pos :: ss) R := by
  subst hl
  refine Ex.one fun h g d tk os Q E hE F N q => ?_
  refine For_turns (s := ⟨h, g, d, tk, os⟩) F (hi h g d tk os _ _ F N fun tk' => ?_) hs hE
  refine iter_listTurns (s := ⟨h, g, d, tk', os⟩) (lo := W.listOf vs.toArray k) hh F N (hm _ _ _ h0) rfl rfl fun I hI => ?_
  have key : ∀ (r : List Value) (i : Nat) (m1 : Fm) (n1 : Led), r = vs.drop i → i ≤ vs.length → J i m1 n1 → (∀ p ∈ n1, p.1 ≠ I) → ItemsRest prog w A E h₀ env t body Q ⟨h, g, d, tk', os⟩ [(I, "list_iterator")] [(ax, W.listOf vs.toArray k)] (r.map .val) m1 n1 := by
    intro r
    induction r with
    | nil =>
      intro i m1 n1 e hi hJ _ h1 tk1 F1 N1
      have : i = vs.length := by
        have := List.drop_eq_nil_iff.mp e.symm
        omega
      subst this
      exact q .next m1 n1 h1 tk1 (done m1 n1 hJ) F1 N1
    | cons p r ih =>
      intro i m1 n1 e hi hJ hoff
      have hlt : i < vs.length := by
        rcases Nat.lt_or_ge i vs.length with h | h
        · exact h
        · rw [List.drop_eq_nil_of_le h] at e; cases e
      rw [List.drop_eq_getElem_cons hlt] at e
      injection e with e1 e2
      refine ItemsRest.val fun h1 tk1 F1 it hit N1 => ?_
      refine turn i m1 n1 I it p (by rw [List.getElem?_eq_getElem hlt, e1]) hit hJ hoff h1 g d tk1 os _ E F1 N1 fun m2 n2 h2 tk2 x F2 N2 => ?_
      refine x h2 g d tk2 os _ E hE F2 N2 fun f m3 n3 h3 tk3 hf F3 N3 => ?_
      cases f with
      | ret v => exact q _ _ _ _ _ hf F3 N3
      | brk => exact hf.elim
      | cont => exact hf.elim
      | next =>
        obtain ⟨n4, hs4, ho4, hJ4⟩ := hf
        exact ⟨h3, tk3, m3, n4, rfl, F3, fun p hp => N3 p (hs4 p hp), fun p hp q hq => by rw [List.mem_singleton.mp hq]; exact ho4 p hp, ⟨hm _ _ _ hJ4, trivial⟩, ih (i + 1) m3 n4 e2 hlt hJ4 ho4⟩
  exact key _ 0 m news rfl (Nat.zero_le _) h0 fun p hp => Nat.ne_of_lt (hI p hp)
/-- for i, x in enumerate(list), both names local -/
def TurnE (J : Fm → Led → Prop) (R : Flow → Fm → Led → Prop) (I : Addr) (i1 i2 : Obj) (f : Flow) (m' : Fm) (n' : Led) : Prop := match f with
  | .next => ∃ n2, (∀ p ∈ (I + 1, i1) :: (I, i2) :: n2, p ∈ n') ∧ (∀ p ∈ n2, p.1 ≠ I + 1 ∧ p.1 ≠ I) ∧ J m' n2
  | .ret v => R (.ret v) m' n'
  | _ => False
theorem Ex.forE {x y : Str} {kk : Nat} {px py tpos pos cpos : Pos} {f e : Expr} {body : List Stmt} {ax : Addr} {vs : List Value} {k : Nat} (J : Nat → Fm → Led → Prop) (hf : Pv prog w A env h₀ L m news f (.type "enumerate")) (hi : Pv prog w A env h₀ L m news e (.ref ax)) (hm : ∀ i m1 n1, J i m1 n1 → (ax, W.listOf vs.toArray k) ∈ n1) (h0 : J 0 m news)
    (turn : ∀ (i : Nat) (m1 : Fm) (n1 : Led) (I : Addr) (i1 i2 : Obj) (v : Value) (t : Tok), vs[i]? = some v → J i m1 n1 → (∀ p ∈ n1, p.1 ≠ I + 1 ∧ p.1 ≠ I) → Ex prog w A env h₀ L (put y v (put x (.int (i : Int) t) m1)) ((I + 1, i1) :: (I, i2) :: n1) body (TurnE (J (i + 1)) R I i1 i2))
    (done : ∀ m1 n1, J vs.length m1 n1 → Ex prog w A env h₀ L m1 n1 ss R) (hl : env.locals = L := by rfl) (hh : A.handled = none := by assumption) (hx : env.kindOf x = some .local := by rfl) (hy : env.kindOf y = some .local := by rfl) (hp : (env.scope.kind == .class || (env.scope.kind == .module && env.locals != env.globals)) = false := by rfl)
    (ha : (assignEach [.Name x px, .Name y py] env) = [(false, assign (.Name x px) env), (false, assign (.Name y py) env)] := by rfl) (hs : ∀ z, foldedSetIterable (.Call f [e] [] cpos) env z = pure z := by intro _; rfl)
    (he : eval (.Call f [e] [] cpos) env = (do callWith cpos (← eval f env) [] (backTo cpos (starEach [e] env)) (backToKw cpos (keywordEach [] env))) := by rfl) (hc : starEach [e] env = [(false, eval e env)] := by rfl) :
    Ex prog w A env h₀ L m news (.For (.Tuple [.Name x px, .Name y py] kk tpos) (.Call f [e] [] cpos) body [] pos :: ss) R := by
  subst hl
  refine Ex.one fun h g d tk os Q E hE F N q => ?_
  refine For_turns (s := ⟨h, g, d, tk, os⟩) F ?_ hs hE
  refine Call_ (hf h g d tk os _ _ F N fun tk => PyProof.Rows.callWith_type1 (args_cons (hi h g d tk os _ _ F N fun tk' => args_nil ?_) hc) hc rfl) he
  refine ktu_enum (s := ⟨h, g, d, tk', os⟩) (lo := W.listOf vs.toArray k) hh F N (hm _ _ _ h0) rfl rfl rfl fun I hI => ?_
  have key : ∀ (r : List Value) (i : Nat) (m1 : Fm) (n1 : Led), r = vs.drop i → i ≤ vs.length → J i m1 n1 → (∀ p ∈ n1, p.1 ≠ I + 1 ∧ p.1 ≠ I) → ItemsRest prog w A E h₀ env (.Tuple [.Name x px, .Name y py] kk tpos) body Q ⟨h, g, d, tk', os⟩ [(I + 1, "enumerate"), (I, "list_iterator")] [(ax, W.listOf vs.toArray k)] (enumItems i r) m1 n1 := by
    intro r
    induction r with
    | nil =>
      intro i m1 n1 e hi hJ _ h1 tk1 F1 N1
      have : i = vs.length := by
        have := List.drop_eq_nil_iff.mp e.symm
        omega
      subst this
      exact q .next m1 n1 h1 tk1 (done m1 n1 hJ) F1 N1
    | cons p r ih =>
      intro i m1 n1 e hi hJ hoff
      have hlt : i < vs.length := by
        rcases Nat.lt_or_ge i vs.length with h | h
        · exact h
        · rw [List.drop_eq_nil_of_le h] at e; cases e
      rw [List.drop_eq_getElem_cons hlt] at e
      injection e with e1 e2
      refine ItemsRest.pair fun T t h1 tk1 hT F1 i1 _ i2 _ N1 => ?_
      refine unpackN_ (s := ⟨h1, g, d, tk1, os⟩) F1 N1 hT hh (by rw [ha]; rfl) (by rw [ha]; rfl) fun h2 F2 N2 => ?_
      rw [ha]
      refine assignInOrder_cons (assign_Name (wpAny_storeName_local hx F2.ns (fun h3 hn hs' => ?_) hp))
      have F3 := F2.set hn hs'
      have N3 := N2.set hs'
      refine assignInOrder_cons (assign_Name (wpAny_storeName_local hy F3.ns (fun h4 hn4 hs4 => ?_) hp))
      have F4 := F3.set hn4 hs4
      have N4 := N3.set hs4
      refine assignInOrder_nil ?_
      refine turn i m1 n1 I i1 i2 p t (by rw [List.getElem?_eq_getElem hlt, e1]) hJ hoff h4 g d _ os _ E hE F4 N4 fun f m5 n5 h5 tk5 hf F5 N5 => ?_
      cases f with
      | ret v => exact q _ _ _ _ _ hf F5 N5
      | brk => exact hf.elim
      | cont => exact hf.elim
      | next =>
        obtain ⟨n6, hs6, ho6, hJ6⟩ := hf
        exact ⟨h5, tk5, m5, n6, rfl, F5, fun p hp => N5 p (hs6 p hp), fun p hp q hq => by
          rcases List.mem_cons.mp hq with rfl | hq
          · exact (ho6 p hp).1
          · rw [List.mem_singleton.mp hq]; exact (ho6 p hp).2, ⟨hm _ _ _ hJ6, trivial⟩, ih (i + 1) m5 n6 e2 hlt hJ6 ho6⟩
  exact key _ 0 m news rfl (Nat.zero_le _) h0 fun p hp => ⟨Nat.ne_of_lt (Nat.lt_succ_of_lt (hI p hp)), Nat.ne_of_lt (hI p hp)⟩
/-- a test that stores -/
def Pt (prog : Program) (w : World) (A : Around) (env : Env) (h₀ : Heap) (L : Addr) (m : Fm) (news : Led) (e : Expr) (post : Bool → Led → Prop) : Prop :=
  ∀ h g d tk os (Q : Bool → Shared → Prop) (E : Value → Shared → Prop), Fr h₀ L h m → News h₀ L h news → (∀ b tl h' tk', post b tl → Fr h₀ L h' m → News h₀ L h' tl → Q b ⟨h', g, d, tk', os⟩) → wpAny (model prog w) A (isTrue e env (eval e env)) Q E ⟨h, g, d, tk, os⟩
theorem Pt.ne {a b : Expr} {pos : Pos} {x : Int} {post : Bool → Led → Prop} (ha : Pi prog w A env h₀ L m news a x) (hb : Pc prog w A env h₀ L m news b (fun r tl => ∃ y t, r = .int y t ∧ post (x != y) tl)) (hm : behindInMarks .NotEq b = false := by with_unfolding_all rfl) : Pt prog w A env h₀ L m news (.Compare a [.NotEq] [b] pos) post := fun h g d tk os Q E F N q =>
  wpAny_isTrue_Compare1 (ha h g d tk os _ _ F N fun _ tk => hb h g d tk os _ _ F N fun r tl h' tk' p F' N' => by
    obtain ⟨y, t, rfl, p⟩ := p
    exact P.ne_int (wpAny_truthy_bool (q _ _ _ _ p F' N'))) hm
theorem Ex.ifFt {test : Expr} {body : List Stmt} {pos : Pos} (hc : Pt prog w A env h₀ L m news test (fun b tl => b = false ∧ Ex prog w A env h₀ L m tl ss R)) : Ex prog w A env h₀ L m news (.If test body [] pos :: ss) R :=
  Ex.one fun h g d tk os Q E hE F N q => wpAny_If (hc h g d tk os _ _ F N fun b tl h' tk' p F' N' => by
    obtain ⟨rfl, x⟩ := p
    exact wpAny_execs_nil (q .next m tl h' tk' x F' N'))
end
end Mine
end
section
namespace Mine
theorem swap2_01 {D0 d x00 x01 x10 x11 : Rat} (h : d * (x00 * x11 - x01 * x10) = D0) : (-d) * (x10 * x01 - x11 * x00) = D0 := by rw [← h]; grind
theorem none2_0 {D0 d x00 x01 x10 x11 : Rat} (h : d * (x00 * x11 - x01 * x10) = D0) (z0 : x00 = 0) (z1 : x10 = 0) : D0 = 0 := by rw [← h]; grind
theorem norm2_0 {D0 d x00 x01 x10 x11 : Rat} (h0 : x00 ≠ 0) (h : d * (x00 * x11 - x01 * x10) = D0) : (d * x00) * ((x00 / x00) * x11 - (x01 / x00) * x10) = D0 := by rw [← h]; grind
theorem clear2_01 {D0 d x00 x01 x10 x11 : Rat} (h : d * (x00 * x11 - x01 * x10) = D0) : d * (x00 * (x11 - x10 * x01) - x01 * (x10 - x10 * x00)) = D0 := by rw [← h]; grind
theorem none2_1 {D0 d x00 x01 x10 x11 : Rat} (h : d * (x00 * x11 - x01 * x10) = D0) (e00 : x00 = 1) (e10 : x10 = 0) (z1 : x11 = 0) : D0 = 0 := by rw [← h]; grind
theorem norm2_1 {D0 d x00 x01 x10 x11 : Rat} (h0 : x11 ≠ 0) (h : d * (x00 * x11 - x01 * x10) = D0) : (d * x11) * (x00 * (x11 / x11) - x01 * (x10 / x11)) = D0 := by rw [← h]; grind
theorem clear2_10 {D0 d x00 x01 x10 x11 : Rat} (h : d * (x00 * x11 - x01 * x10) = D0) : d * ((x00 - x01 * x10) * x11 - (x01 - x01 * x11) * x10) = D0 := by rw [← h]; grind
theorem swap3_01 {D0 d x00 x01 x02 x10 x11 x12 x20 x21 x22 : Rat} (h : d * (x00 * (x11 * x22 - x12 * x21) - x01 * (x10 * x22 - x12 * x20) + x02 * (x10 * x21 - x11 * x20)) = D0) : (-d) * (x10 * (x01 * x22 - x02 * x21) - x11 * (x00 * x22 - x02 * x20) + x12 * (x00 * x21 - x01 * x20)) = D0 := by rw [← h]; grind
theorem swap3_02 {D0 d x00 x01 x02 x10 x11 x12 x20 x21 x22 : Rat} (h : d * (x00 * (x11 * x22 - x12 * x21) - x01 * (x10 * x22 - x12 * x20) + x02 * (x10 * x21 - x11 * x20)) = D0) : (-d) * (x20 * (x11 * x02 - x12 * x01) - x21 * (x10 * x02 - x12 * x00) + x22 * (x10 * x01 - x11 * x00)) = D0 := by rw [← h]; grind
theorem none3_0 {D0 d x00 x01 x02 x10 x11 x12 x20 x21 x22 : Rat} (h : d * (x00 * (x11 * x22 - x12 * x21) - x01 * (x10 * x22 - x12 * x20) + x02 * (x10 * x21 - x11 * x20)) = D0) (z0 : x00 = 0) (z1 : x10 = 0) (z2 : x20 = 0) : D0 = 0 := by rw [← h]; grind
theorem norm3_0 {D0 d x00 x01 x02 x10 x11 x12 x20 x21 x22 : Rat} (h0 : x00 ≠ 0) (h : d * (x00 * (x11 * x22 - x12 * x21) - x01 * (x10 * x22 - x12 * x20) + x02 * (x10 * x21 - x11 * x20)) = D0) : (d * x00) * ((x00 / x00) * (x11 * x22 - x12 * x21) - (x01 / x00) * (x10 * x22 - x12 * x20) + (x02 / x00) * (x10 * x21 - x11 * x20)) = D0 := by rw [← h]; grind
theorem clear3_01 {D0 d x00 x01 x02 x10 x11 x12 x20 x21 x22 : Rat} (h : d * (x00 * (x11 * x22 - x12 * x21) - x01 * (x10 * x22 - x12 * x20) + x02 * (x10 * x21 - x11 * x20)) = D0) : d * (x00 * ((x11 - x10 * x01) * x22 - (x12 - x10 * x02) * x21) - x01 * ((x10 - x10 * x00) * x22 - (x12 - x10 * x02) * x20) + x02 * ((x10 - x10 * x00) * x21 - (x11 - x10 * x01) * x20)) = D0 := by rw [← h]; grind
theorem clear3_02 {D0 d x00 x01 x02 x10 x11 x12 x20 x21 x22 : Rat} (h : d * (x00 * (x11 * x22 - x12 * x21) - x01 * (x10 * x22 - x12 * x20) + x02 * (x10 * x21 - x11 * x20)) = D0) : d * (x00 * (x11 * (x22 - x20 * x02) - x12 * (x21 - x20 * x01)) - x01 * (x10 * (x22 - x20 * x02) - x12 * (x20 - x20 * x00)) + x02 * (x10 * (x21 - x20 * x01) - x11 * (x20 - x20 * x00))) = D0 := by rw [← h]; grind
theorem swap3_12 {D0 d x00 x01 x02 x10 x11 x12 x20 x21 x22 : Rat} (h : d * (x00 * (x11 * x22 - x12 * x21) - x01 * (x10 * x22 - x12 * x20) + x02 * (x10 * x21 - x11 * x20)) = D0) : (-d) * (x00 * (x21 * x12 - x22 * x11) - x01 * (x20 * x12 - x22 * x10) + x02 * (x20 * x11 - x21 * x10)) = D0 := by rw [← h]; grind
theorem none3_1 {D0 d x00 x01 x02 x10 x11 x12 x20 x21 x22 : Rat} (h : d * (x00 * (x11 * x22 - x12 * x21) - x01 * (x10 * x22 - x12 * x20) + x02 * (x10 * x21 - x11 * x20)) = D0) (e00 : x00 = 1) (e10 : x10 = 0) (e20 : x20 = 0) (z1 : x11 = 0) (z2 : x21 = 0) : D0 = 0 := by rw [← h]; grind
theorem norm3_1 {D0 d x00 x01 x02 x10 x11 x12 x20 x21 x22 : Rat} (h0 : x11 ≠ 0) (h : d * (x00 * (x11 * x22 - x12 * x21) - x01 * (x10 * x22 - x12 * x20) + x02 * (x10 * x21 - x11 * x20)) = D0) : (d * x11) * (x00 * ((x11 / x11) * x22 - (x12 / x11) * x21) - x01 * ((x10 / x11) * x22 - (x12 / x11) * x20) + x02 * ((x10 / x11) * x21 - (x11 / x11) * x20)) = D0 := by rw [← h]; grind
theorem clear3_10 {D0 d x00 x01 x02 x10 x11 x12 x20 x21 x22 : Rat} (h : d * (x00 * (x11 * x22 - x12 * x21) - x01 * (x10 * x22 - x12 * x20) + x02 * (x10 * x21 - x11 * x20)) = D0) : d * ((x00 - x01 * x10) * (x11 * x22 - x12 * x21) - (x01 - x01 * x11) * (x10 * x22 - x12 * x20) + (x02 - x01 * x12) * (x10 * x21 - x11 * x20)) = D0 := by rw [← h]; grind
theorem clear3_12 {D0 d x00 x01 x02 x10 x11 x12 x20 x21 x22 : Rat} (h : d * (x00 * (x11 * x22 - x12 * x21) - x01 * (x10 * x22 - x12 * x20) + x02 * (x10 * x21 - x11 * x20)) = D0) : d * (x00 * (x11 * (x22 - x21 * x12) - x12 * (x21 - x21 * x11)) - x01 * (x10 * (x22 - x21 * x12) - x12 * (x20 - x21 * x10)) + x02 * (x10 * (x21 - x21 * x11) - x11 * (x20 - x21 * x10))) = D0 := by rw [← h]; grind
theorem none3_2 {D0 d x00 x01 x02 x10 x11 x12 x20 x21 x22 : Rat} (h : d * (x00 * (x11 * x22 - x12 * x21) - x01 * (x10 * x22 - x12 * x20) + x02 * (x10 * x21 - x11 * x20)) = D0) (e00 : x00 = 1) (e10 : x10 = 0) (e20 : x20 = 0) (e01 : x01 = 0) (e11 : x11 = 1) (e21 : x21 = 0) (z2 : x22 = 0) : D0 = 0 := by rw [← h]; grind
theorem norm3_2 {D0 d x00 x01 x02 x10 x11 x12 x20 x21 x22 : Rat} (h0 : x22 ≠ 0) (h : d * (x00 * (x11 * x22 - x12 * x21) - x01 * (x10 * x22 - x12 * x20) + x02 * (x10 * x21 - x11 * x20)) = D0) : (d * x22) * (x00 * (x11 * (x22 / x22) - x12 * (x21 / x22)) - x01 * (x10 * (x22 / x22) - x12 * (x20 / x22)) + x02 * (x10 * (x21 / x22) - x11 * (x20 / x22))) = D0 := by rw [← h]; grind
theorem clear3_20 {D0 d x00 x01 x02 x10 x11 x12 x20 x21 x22 : Rat} (h : d * (x00 * (x11 * x22 - x12 * x21) - x01 * (x10 * x22 - x12 * x20) + x02 * (x10 * x21 - x11 * x20)) = D0) : d * ((x00 - x02 * x20) * (x11 * x22 - x12 * x21) - (x01 - x02 * x21) * (x10 * x22 - x12 * x20) + (x02 - x02 * x22) * (x10 * x21 - x11 * x20)) = D0 := by rw [← h]; grind
theorem clear3_21 {D0 d x00 x01 x02 x10 x11 x12 x20 x21 x22 : Rat} (h : d * (x00 * (x11 * x22 - x12 * x21) - x01 * (x10 * x22 - x12 * x20) + x02 * (x10 * x21 - x11 * x20)) = D0) : d * (x00 * ((x11 - x12 * x21) * x22 - (x12 - x12 * x22) * x21) - x01 * ((x10 - x12 * x20) * x22 - (x12 - x12 * x22) * x20) + x02 * ((x10 - x12 * x20) * x21 - (x11 - x12 * x21) * x20)) = D0 := by rw [← h]; grind
theorem end2 {D0 d x00 x01 x10 x11 : Rat} (h : d * (x00 * x11 - x01 * x10) = D0) (e00 : x00 = 1) (e10 : x10 = 0) (e01 : x01 = 0) (e11 : x11 = 1) : d = D0 := by rw [← h]; grind
theorem end3 {D0 d x00 x01 x02 x10 x11 x12 x20 x21 x22 : Rat} (h : d * (x00 * (x11 * x22 - x12 * x21) - x01 * (x10 * x22 - x12 * x20) + x02 * (x10 * x21 - x11 * x20)) = D0) (e00 : x00 = 1) (e10 : x10 = 0) (e20 : x20 = 0) (e01 : x01 = 0) (e11 : x11 = 1) (e21 : x21 = 0) (e02 : x02 = 0) (e12 : x12 = 0) (e22 : x22 = 1) : d = D0 := by rw [← h]; grind
theorem div_self' {a : Rat} (h : a ≠ 0) : a / a = 1 := by grind
theorem zero_div' {a b : Rat} (h : a = 0) : a / b = 0 := by subst h; grind
theorem clr_self {a b : Rat} (h : b = 1) : a - a * b = 0 := by subst h; grind
theorem clr_zero {a b c : Rat} (h : a = 0) (h2 : c = 0) : a - b * c = 0 := by subst h h2; grind
theorem clr_keep {a b c : Rat} (h : a = 1) (h2 : c = 0) : a - b * c = 1 := by subst h h2; grind
end Mine
end
section
open PySem PySem.W PyProof.Rows PySem.Calls
set_option linter.all false
namespace Mine
section
variable {prog : Program} {w : World} {A : Around} {env : Env} {h₀ : Heap} {L : Addr} {m : Fm} {news : Led} {ss : List Stmt} {R : Flow → Fm → Led → Prop}
theorem Pb.lt {a b : Expr} {pos : Pos} {x y : Int} (ha : Pi prog w A env h₀ L m news a x) (hb : Pi prog w A env h₀ L m news b y) (hm : behindInMarks .Lt b = false := by with_unfolding_all rfl) : Pb prog w A env h₀ L m news (.Compare a [.Lt] [b] pos) (decide (x < y)) := fun h g d tk os Q E F N q =>
  wpAny_isTrue_Compare1 (ha h g d tk os _ _ F N fun _ tk => hb h g d tk os _ _ F N fun _ _ => P.lt_int (wpAny_truthy_bool (q _))) hm
theorem Pb.le {a b : Expr} {pos : Pos} {x y : Int} (ha : Pi prog w A env h₀ L m news a x) (hb : Pi prog w A env h₀ L m news b y) (hm : behindInMarks .LtE b = false := by with_unfolding_all rfl) : Pb prog w A env h₀ L m news (.Compare a [.LtE] [b] pos) (decide (x ≤ y)) := fun h g d tk os Q E F N q =>
  wpAny_isTrue_Compare1 (ha h g d tk os _ _ F N fun _ tk => hb h g d tk os _ _ F N fun _ _ => P.le_int (wpAny_truthy_bool (q _))) hm
theorem Pi.mod {a b : Expr} {pos : Pos} {x y : Int} (ha : Pi prog w A env h₀ L m news a x) (hb : Pi prog w A env h₀ L m news b y) (h0 : y ≠ 0) : Pi prog w A env h₀ L m news (.BinOp a .Mod b pos) (x.fmod y) := fun h g d tk os Q E F N q =>
  wpAny_BinOp (ha h g d tk os _ _ F N fun _ tk => hb h g d tk os _ _ F N fun _ _ => mod_int h0 (q _ _))
theorem Pi.fdiv {a b : Expr} {pos : Pos} {x y : Int} (ha : Pi prog w A env h₀ L m news a x) (hb : Pi prog w A env h₀ L m news b y) (h0 : y ≠ 0) (hl : y.natAbs.log2 < 9000) : Pi prog w A env h₀ L m news (.BinOp a .FloorDiv b pos) (x.fdiv y) := fun h g d tk os Q E F N q =>
  wpAny_BinOp (ha h g d tk os _ _ F N fun _ tk => hb h g d tk os _ _ F N fun _ _ => floordiv_int h0 (q _ _) (Or.inl (PyProof.noPylong_of_log2 hl)))
theorem Pi.pow {a b : Expr} {pos : Pos} {x y : Int} (ha : Pi prog w A env h₀ L m news a x) (hb : Pi prog w A env h₀ L m news b y) (h0 : 0 ≤ y) (h1 : y ≤ 1000000) (hx : x.natAbs < 2 ^ 64) : Pi prog w A env h₀ L m news (.BinOp a .Pow b pos) (x ^ y.toNat) := fun h g d tk os Q E F N q =>
  wpAny_BinOp (ha h g d tk os _ _ F N fun _ tk => hb h g d tk os _ _ F N fun _ _ => pow_int_small h0 h1 hx (q _ _))
theorem Pi.ifb {t a b : Expr} {pos : Pos} {z : Int} {c : Bool} (ht : Pb prog w A env h₀ L m news t c) (ha : c = true → Pi prog w A env h₀ L m news a z) (hb : c = false → Pi prog w A env h₀ L m news b z) : Pi prog w A env h₀ L m news (.IfExp t a b pos) z := fun h g d tk os Q E F N q =>
  IfExp_ (ht h g d tk os _ _ F N fun tk => by
    cases c with
    | true => exact ha rfl h g d tk os _ _ F N q
    | false => exact hb rfl h g d tk os _ _ F N q)
theorem Pi.abs {f e : Expr} {pos : Pos} {x : Int} (hf : Pv prog w A env h₀ L m news f (.builtin "abs")) (hb : Pi prog w A env h₀ L m news e x)
    (he : eval (.Call f [e] [] pos) env = (do callWith pos (← eval f env) [] (backTo pos (starEach [e] env)) (backToKw pos (keywordEach [] env))) := by rfl) (hc : starEach [e] env = [(false, eval e env)] := by rfl) : Pi prog w A env h₀ L m news (.Call f [e] [] pos) (if x < 0 then -x else x) := fun h g d tk os Q E F N q =>
  Call_ (hf h g d tk os _ _ F N fun tk => callWith_builtin1 (args_cons (hb h g d tk os _ _ F N fun t tk => args_nil (call_abs_int (s := ⟨h, g, d, tk, os⟩) fun u tk => q u tk)) hc) hc rfl) he
/-- the expression gives this int, the ledger stays -/
def Pn (prog : Program) (w : World) (A : Around) (env : Env) (h₀ : Heap) (L : Addr) (m : Fm) (news : Led) (e : Expr) (z : Int) : Prop :=
  ∀ h g d tk os (Q E : Value → Shared → Prop), Fr h₀ L h m → News h₀ L h news → (∀ t h' tk', Fr h₀ L h' m → News h₀ L h' news → Q (.int z t) ⟨h', g, d, tk', os⟩) → wpAny (model prog w) A (eval e env) Q E ⟨h, g, d, tk, os⟩
theorem Pn.of {e : Expr} {z : Int} (x : Pi prog w A env h₀ L m news e z) : Pn prog w A env h₀ L m news e z := fun h g d tk os Q E F N q => x h g d tk os Q E F N fun t tk' => q t h tk' F N
theorem Pn.pc {e : Expr} {z : Int} (x : Pc prog w A env h₀ L m news e (fun r tl => news = tl ∧ ∃ t, r = .int z t)) : Pn prog w A env h₀ L m news e z := fun h g d tk os Q E F N q => x h g d tk os Q E F N fun r tl h' tk' p F' N' => by
  obtain ⟨rfl, t, rfl⟩ := p
  exact q t h' tk' F' N'
theorem Pn.ofEq {e : Expr} {x y : Int} (h : Pn prog w A env h₀ L m news e x) (q : x = y) : Pn prog w A env h₀ L m news e y := q ▸ h
theorem Pn.add {a b : Expr} {pos : Pos} {x y : Int} (ha : Pn prog w A env h₀ L m news a x) (hb : Pn prog w A env h₀ L m news b y) : Pn prog w A env h₀ L m news (.BinOp a .Add b pos) (x + y) := fun h g d tk os Q E F N q =>
  wpAny_BinOp (ha h g d tk os _ _ F N fun _ h1 tk1 F1 N1 => hb h1 g d tk1 os _ _ F1 N1 fun _ h2 _ F2 N2 => P.add_int (q _ _ _ F2 N2))
theorem Pn.sub {a b : Expr} {pos : Pos} {x y : Int} (ha : Pn prog w A env h₀ L m news a x) (hb : Pn prog w A env h₀ L m news b y) : Pn prog w A env h₀ L m news (.BinOp a .Sub b pos) (x - y) := fun h g d tk os Q E F N q =>
  wpAny_BinOp (ha h g d tk os _ _ F N fun _ h1 tk1 F1 N1 => hb h1 g d tk1 os _ _ F1 N1 fun _ h2 _ F2 N2 => P.sub_int (q _ _ _ F2 N2))
theorem Pc.n {e : Expr} {z : Int} {post : Value → Led → Prop} (x : Pn prog w A env h₀ L m news e z) (k : ∀ t, post (.int z t) news) : Pc prog w A env h₀ L m news e post := fun h g d tk os Q E F N q => x h g d tk os _ _ F N fun t h' tk' F' N' => q _ _ _ _ (k t) F' N'
theorem Pt.gtN {a b : Expr} {pos : Pos} {x y : Int} {post : Bool → Led → Prop} (ha : Pi prog w A env h₀ L m news a x) (hb : Pn prog w A env h₀ L m news b y) (p : post (decide (x > y)) news) (hm : behindInMarks .Gt b = false := by with_unfolding_all rfl) : Pt prog w A env h₀ L m news (.Compare a [.Gt] [b] pos) post := fun h g d tk os Q E F N q =>
  wpAny_isTrue_Compare1 (ha h g d tk os _ _ F N fun _ tk => hb h g d tk os _ _ F N fun _ h1 tk1 F1 N1 => P.gt_int (wpAny_truthy_bool (q _ _ _ _ p F1 N1))) hm
theorem Ex.ifSame {test : Expr} {body : List Stmt} {pos : Pos} (x : Ex prog w A env h₀ L m news ss R) (hc : Pt prog w A env h₀ L m news test (fun b tl => b = false ∧ news = tl)) : Ex prog w A env h₀ L m news (.If test body [] pos :: ss) R :=
  Ex.one fun h g d tk os Q E hE F N q => wpAny_If (hc h g d tk os _ _ F N fun b tl h' tk' p F' N' => by
    obtain ⟨rfl, rfl⟩ := p
    exact wpAny_execs_nil (q .next m _ h' tk' x F' N'))
/-- a while loop -/
def WhP (J : Nat → Fm → Led → Prop) (n : Nat) (f : Flow) (m' : Fm) (n' : Led) : Prop := match f with
  | .next => ∃ k, k < n ∧ J k m' n'
  | _ => False
theorem Ex.while {test : Expr} {body : List Stmt} {pos : Pos} {n₀ : Nat} (J : Nat → Fm → Led → Prop) (h0 : J n₀ m news)
    (turn : ∀ n m1 n1, J n m1 n1 → ∃ b, Pb prog w A env h₀ L m1 n1 test b ∧ (b = true → Ex prog w A env h₀ L m1 n1 body (WhP J n)) ∧ (b = false → Ex prog w A env h₀ L m1 n1 ss R)) : Ex prog w A env h₀ L m news (.While test body [] pos :: ss) R :=
  Ex.one fun h g d tk os Q E hE F N q => While_inv (s := ⟨h, g, d, tk, os⟩) J F N h0 (fun n m1 n1 h1 tk1 F1 N1 j => by
    obtain ⟨b, hb, ht, hf⟩ := turn n m1 n1 j
    refine hb h1 g d tk1 os _ E F1 N1 fun tk2 => ?_
    cases b with
    | false => exact q .next m1 n1 h1 tk2 (hf rfl) F1 N1
    | true =>
      refine ht rfl h1 g d tk2 os _ E hE F1 N1 fun f m' n' h' tk' p F' N' => ?_
      cases f with
      | next => obtain ⟨k, hk, hj⟩ := p; exact WhileStep.intro (s := ⟨h, g, d, tk, os⟩) F' N' hk hj
      | ret v => exact p.elim
      | brk => exact p.elim
      | cont => exact p.elim) hE
theorem Ex.augAdd {x : Str} {px pos : Pos} {e : Expr} {a b : Int} {t : Tok} (hm : m x = some (.int a t)) (he : Pi prog w A env h₀ L m news e b) (k : ∀ t', Ex prog w A env h₀ L (put x (.int (a + b) t') m) news ss R) (hl : env.locals = L := by rfl) (hx : env.kindOf x = some .local := by rfl) (hk : env.scope.kind = .function := by rfl)
    (hp : (env.scope.kind == .class || (env.scope.kind == .module && env.locals != env.globals)) = false := by rfl) : Ex prog w A env h₀ L m news (.AugAssign (.Name x px) .Add e pos :: ss) R :=
  Ex.one fun h g d tk os Q E hE F N q => wpAny_AugAssign_Name (wpAny_loadName_local hk hx (hl ▸ F.ns) hm (he h g d tk os _ _ F N fun u tk' => P.iadd_int (wpAny_storeName_local hx (hl ▸ F.ns) (fun h'' hn hs' => q .next _ _ _ _ (k _) (F.set (hl ▸ hn) (hl ▸ hs')) (N.set (hl ▸ hs'))) hp)))
theorem Ex.augMul {x : Str} {px pos : Pos} {e : Expr} {a b : Int} {t : Tok} (hm : m x = some (.int a t)) (he : Pi prog w A env h₀ L m news e b) (hmul : IntMulOk a b) (k : ∀ t', Ex prog w A env h₀ L (put x (.int (a * b) t') m) news ss R) (hl : env.locals = L := by rfl) (hx : env.kindOf x = some .local := by rfl) (hk : env.scope.kind = .function := by rfl)
    (hp : (env.scope.kind == .class || (env.scope.kind == .module && env.locals != env.globals)) = false := by rfl) : Ex prog w A env h₀ L m news (.AugAssign (.Name x px) .Mult e pos :: ss) R :=
  Ex.one fun h g d tk os Q E hE F N q => wpAny_AugAssign_Name (wpAny_loadName_local hk hx (hl ▸ F.ns) hm (he h g d tk os _ _ F N fun u tk' => P.imul_int (wpAny_storeName_local hx (hl ▸ F.ns) (fun h'' hn hs' => q .next _ _ _ _ (k _) (F.set (hl ▸ hn) (hl ▸ hs')) (N.set (hl ▸ hs'))) hp) hmul))
end
theorem Ok.int {prog : Program} {w : World} {A : Around} {h₀ : Heap} {L : Addr} {m : Fm} {news : Led} {fv : Value} {vs : List Value} {z : Int} {post : Value → Led → Prop} (o : Ok prog w A h₀ L m fv vs news (fun r tl => news = tl ∧ ∃ t, r = .int z t)) (k : ∀ t, post (.int z t) news) : Ok prog w A h₀ L m fv vs news post := Ok.mono o (by rintro r tl ⟨rfl, t, rfl⟩; exact k t)
theorem Pl.k {prog : Program} {w : World} {A : Around} {env : Env} {h₀ : Heap} {L : Addr} {m : Fm} {news : Led} {pos : Pos} {e : Expr} {es : List Expr} {S : List Value → Led → Prop} (he : Pc prog w A env h₀ L m news e (fun r tl => Pl prog w A env h₀ L m pos tl es (fun vs tl' => S (r :: vs) tl'))) (hc : starEach (e :: es) env = (false, eval e env) :: starEach es env := by rfl) : Pl prog w A env h₀ L m pos news (e :: es) S := Pl.c he (fun _ _ h => h) hc
theorem put_ne {x y : Str} {v r : Value} {m : Fm} (h : ¬ y = x) (e : m y = some r) : put x v m y = some r := (if_neg h).trans e
theorem put_eq {x : Str} {v : Value} {m : Fm} : put x v m x = some v := if_pos rfl
end Mine
end
section
open PySem PySem.W PyProof.Rows PySem.Calls
set_option linter.all false
namespace Mine
theorem gcd_start {x y : Int} : 0 ≤ (if x < 0 then -x else x) ∧ 0 ≤ (if y < 0 then -y else y) ∧ (Int.gcd (if x < 0 then -x else x) (if y < 0 then -y else y) : Int) = Int.gcd x y := by
  refine ⟨by split <;> omega, by split <;> omega, ?_⟩
  split <;> split <;> simp
theorem gcd_less {a b : Int} (hb : 0 < b) : (a.fmod b).toNat < b.toNat := by
  have := Int.fmod_lt_of_pos a hb
  have := Int.fmod_nonneg_of_pos a hb
  omega
theorem gcd_done {a b x y : Int} (hb : ¬ 0 < b) (h2 : 0 ≤ b) (h1 : 0 ≤ a) (h3 : (Int.gcd a b : Int) = Int.gcd x y) : a = (Int.gcd x y : Int) := by
  have e : b = 0 := by omega
  subst e
  rw [← h3, Int.gcd_zero_right]; omega
/-- the loop of common_divisor -/
def GcJ (x y : Int) (news : Led) (n : Nat) (m : Fm) (n1 : Led) : Prop := (∀ p ∈ news, p ∈ n1) ∧ ∃ (a b : Int) (t u : Tok), m (Str.ofString "one") = some (.int a t) ∧ m (Str.ofString "other") = some (.int b u) ∧ 0 ≤ a ∧ 0 ≤ b ∧ (Int.gcd a b : Int) = Int.gcd x y ∧ b.toNat = n
theorem c_gcd (w : World) (x y : Int) (tx ty : Tok) (news : Led) :
    Con w 84 [.int x tx, .int y ty] news 3 (fun r tl => news = tl ∧ ∃ t, r = .int (Int.gcd x y) t) := by
  have hr0 : PySem.Challenge.rw_tk0004_01 = PySem.Challenge.rw_tk0004_01 ∨ hd.heap_39 w.params = [] := by k_fill; exact rowK w
  clear hr0
  refine con_enter0 [((Str.ofString "one"), .int x tx), ((Str.ofString "other"), .int y ty)] (put (Str.ofString "other") (.int y ty) (put (Str.ofString "one") (.int x tx) fun _ => none)) (by k_is) (by k_is) (fun s => BindsTo.of_eq rfl) (by rfl) (by intro _; rfl) (by intro _; rfl) rfl rfl rfl (by decide) ?_
  intro A h₀ L S l
  have hh := S.hh
  refine Ex.tup2s (Pc.tuple (Pl.i (Pi.abs (S.built (by k_is)) (Pi.of (Pv.loc (by with_unfolding_all rfl)))) fun t1 => Pl.i (Pi.abs (S.built (by k_is)) (Pi.of (Pv.loc (by with_unfolding_all rfl)))) fun t2 => Pl.nil ⟨len2, fun D hD => Tup2P.mk (.head _) ?_⟩))
  obtain ⟨g1, g2, g3⟩ := gcd_start (x := x) (y := y)
  refine Ex.while (GcJ x y news) ⟨tl, _, _, t1, t2, put_eq, put_ne (by decide) put_eq, g1, g2, g3, rfl⟩ ?_
  intro n m1 n1 hJ
  obtain ⟨hs, a, b, t, u, h1, h2, h3, h4, h5, hn⟩ := hJ
  refine ⟨_, Pb.gt (Pi.of (Pv.loc h2)) Pi.const, fun hb => ?_, fun hb => ?_⟩
  · have hb' : 0 < b := of_decide_eq_true hb
    refine Ex.tup2s (Pc.tuple (Pl.v (Pv.loc h2) (Pl.i (Pi.mod (Pi.of (Pv.loc h1)) (Pi.of (Pv.loc h2)) (Int.ne_of_gt hb')) fun t3 => Pl.nil ⟨len2, fun D2 hD2 => Tup2P.mk (.head _) (Ex.nil ?_)⟩)))
    exact ⟨_, hn ▸ gcd_less hb', fun p hp => .tail _ (hs p hp), b, _, u, t3, put_eq, put_ne (by decide) put_eq, h4, Int.fmod_nonneg_of_pos a hb', by rw [gcd_fmod h3 hb']; exact h5, rfl⟩
  · exact Ex.ret (Pc.v (Pv.loc h1) (RetP.mk news hs ⟨rfl, t, congrArg (fun z => Value.int z t) (gcd_done (of_decide_eq_false hb) h4 h3 h5)⟩))
abbrev tq (x : Rat) (t u : Tok) : Obj := { cls := .type "tuple", data := .seq #[.int x.num t, .int (x.den : Int) u] }
theorem c_fraction (w : World) (x y : Int) (tx ty : Tok) (news : Led) (hy : y ≠ 0) (hs : Sm 2000 y) :
    Con w 91 [.int x tx, .int y ty] news 5 (fun r tl => ∃ a t u, r = .ref a ∧ (a, tq (Rat.divInt x y) t u) :: news = tl ∧ ∀ p ∈ news, p.1 < a) := by
  have hr0 : PySem.Challenge.rw_tk0004_01 = PySem.Challenge.rw_tk0004_01 ∨ hd.heap_39 w.params = [] := by k_fill; exact rowK w
  clear hr0
  refine con_enter0 [((Str.ofString "above"), .int x tx), ((Str.ofString "below"), .int y ty)] (put (Str.ofString "below") (.int y ty) (put (Str.ofString "above") (.int x tx) fun _ => none)) (by k_is) (by k_is) (fun s => BindsTo.of_eq rfl) (by rfl) (by intro _; rfl) (by intro _; rfl) rfl rfl rfl (by decide) ?_
  intro A h₀ L S l
  have hh := S.hh
  refine Ex.asg (Pc.fn S.X (S.glob (by k_is)) (by k_is) (Pl.v (Pv.loc (by with_unfolding_all rfl)) (Pl.v (Pv.loc (by with_unfolding_all rfl)) (Pl.nil (Ok.mono (S.call (c_gcd w x y tx ty _) (by decide)) ?_)))))
  rintro r tl ⟨rfl, t, rfl⟩
  refine Ex.asg (Pc.i (Pi.ifb (z := if y > 0 then (Int.gcd x y : Int) else -(Int.gcd x y : Int)) (Pb.gt (Pi.of (Pv.loc (by with_unfolding_all rfl))) Pi.const) (fun h => Pi.ofEq (Pi.of (Pv.loc (by with_unfolding_all rfl))) (if_pos (of_decide_eq_true h)).symm) fun h => Pi.ofEq (Pi.neg (Pi.of (Pv.loc (by with_unfolding_all rfl)))) (if_neg (of_decide_eq_false h)).symm) fun t2 => ?_)
  exact Ex.ret (Pc.tuple (Pl.i (Pi.ofEq (Pi.fdiv (Pi.of (Pv.loc (by with_unfolding_all rfl))) (Pi.of (Pv.loc (by with_unfolding_all rfl))) (fr_part_ne hy) (fr_part_log hy hs.lt)) (fr_num hy)) fun t3 => Pl.i (Pi.ofEq (Pi.fdiv (Pi.of (Pv.loc (by with_unfolding_all rfl))) (Pi.of (Pv.loc (by with_unfolding_all rfl))) (fr_part_ne hy) (fr_part_log hy hs.lt)) (fr_den hy)) fun t4 => Pl.nil ⟨len2, fun D hD => RetP.mk _ (fun p hp => hp) ⟨D, t3, t4, rfl, rfl, hD⟩⟩))
theorem mok {a b : Int} (ha : a.natAbs < 2 ^ 900) (hb : b.natAbs < 2 ^ 900) : IntMulOk a b :=
  mulOk_of_bits (PySem.intBits_le_iff.mpr ha) (PySem.intBits_le_iff.mpr hb) (by decide)
/-- a fraction's part -/
theorem Pi.num {prog : Program} {w : World} {A : Around} {env : Env} {h₀ : Heap} {L : Addr} {m : Fm} {news : Led} {e : Expr} {k : Nat} {p1 pos : Pos} {a : Addr} {x : Rat} {t u : Tok} (he : Pv prog w A env h₀ L m news e (.ref a)) (hm : (a, tq x t u) ∈ news) : Pi prog w A env h₀ L m news (.Subscript e (.Constant (.int 0) k p1) pos) x.num :=
  Pi.of (Pv.titem (vs := [.int x.num t, .int (x.den : Int) u]) (j := 0) he Pi.const hm (by decide) (by decide) rfl rfl)
theorem Pi.den {prog : Program} {w : World} {A : Around} {env : Env} {h₀ : Heap} {L : Addr} {m : Fm} {news : Led} {e : Expr} {k : Nat} {p1 pos : Pos} {a : Addr} {x : Rat} {t u : Tok} (he : Pv prog w A env h₀ L m news e (.ref a)) (hm : (a, tq x t u) ∈ news) : Pi prog w A env h₀ L m news (.Subscript e (.Constant (.int 1) k p1) pos) (x.den : Int) :=
  Pi.of (Pv.titem (vs := [.int x.num t, .int (x.den : Int) u]) (j := 1) he Pi.const hm (by decide) (by decide) rfl rfl)
theorem c_times (w : World) (x y : Rat) (a b : Addr) (tx ux ty uy : Tok) (news : Led) (ha : (a, tq x tx ux) ∈ news) (hb : (b, tq y ty uy) ∈ news) (hx : Sz 900 x) (hy : Sz 900 y) :
    Con w 105 [.ref a, .ref b] news 7 (fun r tl => ∃ a t u, r = .ref a ∧ (a, tq (x * y) t u) :: news = tl ∧ ∀ p ∈ news, p.1 < a) := by
  have hr0 : PySem.Challenge.rw_tk0004_01 = PySem.Challenge.rw_tk0004_01 ∨ hd.heap_39 w.params = [] := by k_fill; exact rowK w
  clear hr0
  refine con_enter0 [((Str.ofString "one"), .ref a), ((Str.ofString "other"), .ref b)] (put (Str.ofString "other") (.ref b) (put (Str.ofString "one") (.ref a) fun _ => none)) (by k_is) (by k_is) (fun s => BindsTo.of_eq rfl) (by rfl) (by intro _; rfl) (by intro _; rfl) rfl rfl rfl (by decide) ?_
  intro A h₀ L S l
  have hh := S.hh
  refine Ex.ret (Pc.fn S.X (S.glob (by k_is)) (by k_is) (Pl.i (Pi.mul (Pi.num (Pv.loc (by with_unfolding_all rfl)) ha) (Pi.num (Pv.loc (by with_unfolding_all rfl)) hb) (mok hx.left hy.left)) fun t => Pl.i (Pi.mul (Pi.den (Pv.loc (by with_unfolding_all rfl)) ha) (Pi.den (Pv.loc (by with_unfolding_all rfl)) hb) (mok hx.right hy.right)) fun u => Pl.nil (Ok.mono (S.call (c_fraction w _ _ t u _ (dd_ne x y) (dd_lt hx hy)) (by decide)) ?_)))
  rintro r tl ⟨a', t', u', rfl, rfl, hl⟩
  exact RetP.mk _ (fun p hp => hp) ⟨a', t', u', rfl, by rw [ti_mul], hl⟩
theorem c_less (w : World) (x y : Rat) (a b : Addr) (tx ux ty uy : Tok) (news : Led) (ha : (a, tq x tx ux) ∈ news) (hb : (b, tq y ty uy) ∈ news) (hx : Sz 900 x) (hy : Sz 900 y) :
    Con w 112 [.ref a, .ref b] news 7 (fun r tl => ∃ a t u, r = .ref a ∧ (a, tq (x - y) t u) :: news = tl ∧ ∀ p ∈ news, p.1 < a) := by
  have hr0 : PySem.Challenge.rw_tk0004_01 = PySem.Challenge.rw_tk0004_01 ∨ hd.heap_39 w.params = [] := by k_fill; exact rowK w
  clear hr0
  refine con_enter0 [((Str.ofString "one"), .ref a), ((Str.ofString "other"), .ref b)] (put (Str.ofString "other") (.ref b) (put (Str.ofString "one") (.ref a) fun _ => none)) (by k_is) (by k_is) (fun s => BindsTo.of_eq rfl) (by rfl) (by intro _; rfl) (by intro _; rfl) rfl rfl rfl (by decide) ?_
  intro A h₀ L S l
  have hh := S.hh
  refine Ex.ret (Pc.fn S.X (S.glob (by k_is)) (by k_is) (Pl.i (Pi.sub (Pi.mul (Pi.num (Pv.loc (by with_unfolding_all rfl)) ha) (Pi.den (Pv.loc (by with_unfolding_all rfl)) hb) (mok hx.left hy.right)) (Pi.mul (Pi.num (Pv.loc (by with_unfolding_all rfl)) hb) (Pi.den (Pv.loc (by with_unfolding_all rfl)) ha) (mok hy.left hx.right))) fun t => Pl.i (Pi.mul (Pi.den (Pv.loc (by with_unfolding_all rfl)) ha) (Pi.den (Pv.loc (by with_unfolding_all rfl)) hb) (mok hx.right hy.right)) fun u => Pl.nil (Ok.mono (S.call (c_fraction w _ _ t u _ (dd_ne x y) (dd_lt hx hy)) (by decide)) ?_)))
  rintro r tl ⟨a', t', u', rfl, rfl, hl⟩
  exact RetP.mk _ (fun p hp => hp) ⟨a', t', u', rfl, by rw [ti_sub], hl⟩
theorem c_by (w : World) (x y : Rat) (a b : Addr) (tx ux ty uy : Tok) (news : Led) (ha : (a, tq x tx ux) ∈ news) (hb : (b, tq y ty uy) ∈ news) (hx : Sz 900 x) (hy : Sz 900 y) (h0 : y ≠ 0) :
    Con w 119 [.ref a, .ref b] news 7 (fun r tl => ∃ a t u, r = .ref a ∧ (a, tq (x / y) t u) :: news = tl ∧ ∀ p ∈ news, p.1 < a) := by
  have hr0 : PySem.Challenge.rw_tk0004_01 = PySem.Challenge.rw_tk0004_01 ∨ hd.heap_39 w.params = [] := by k_fill; exact rowK w
  clear hr0
  refine con_enter0 [((Str.ofString "one"), .ref a), ((Str.ofString "other"), .ref b)] (put (Str.ofString "other") (.ref b) (put (Str.ofString "one") (.ref a) fun _ => none)) (by k_is) (by k_is) (fun s => BindsTo.of_eq rfl) (by rfl) (by intro _; rfl) (by intro _; rfl) rfl rfl rfl (by decide) ?_
  intro A h₀ L S l
  have hh := S.hh
  refine Ex.ret (Pc.fn S.X (S.glob (by k_is)) (by k_is) (Pl.i (Pi.mul (Pi.num (Pv.loc (by with_unfolding_all rfl)) ha) (Pi.den (Pv.loc (by with_unfolding_all rfl)) hb) (mok hx.left hy.right)) fun t => Pl.i (Pi.mul (Pi.den (Pv.loc (by with_unfolding_all rfl)) ha) (Pi.num (Pv.loc (by with_unfolding_all rfl)) hb) (mok hx.right hy.left)) fun u => Pl.nil (Ok.mono (S.call (c_fraction w _ _ t u _ (dn_ne h0) (dn_lt hx hy)) (by decide)) ?_)))
  rintro r tl ⟨a', t', u', rfl, rfl, hl⟩
  exact RetP.mk _ (fun p hp => hp) ⟨a', t', u', rfl, by rw [ti_div], hl⟩
end Mine
end
section
open PySem PySem.W PyProof.Rows PySem.Calls
set_option linter.unusedVariables false
namespace Mine
def RowN (led : Led) (r : Addr) (n : Nat) (x : Nat → Rat) : Prop := ∃ (cs : List Addr) (k : Nat), cs.length = n ∧ (r, W.listOf (cs.map Value.ref).toArray k) ∈ led ∧ ∀ c a, cs[c]? = some a → CellAt led a (x c)
theorem RowN.item {led : Led} {r : Addr} {n : Nat} {x : Nat → Rat} (h : RowN led r n x) {i : Nat} (hi : i < n) {C : Prop} (k : ∀ (cs : List Addr) (kk : Nat) (a : Addr) (t u : Tok), (r, W.listOf (cs.map Value.ref).toArray kk) ∈ led → (cs.map Value.ref)[((i : Nat) : Int).toNat]? = some (.ref a) → (a, tq (x i) t u) ∈ led → C) : C := by
  obtain ⟨cs, kk, hl, hm, hc⟩ := h
  have hlt : i < cs.length := by omega
  have ha : cs[i]? = some cs[i] := List.getElem?_eq_getElem hlt
  obtain ⟨t, u, q⟩ := hc i _ ha
  exact k cs kk cs[i] t u hm (by rw [List.getElem?_map]; simp [ha]) q
theorem rows_item {rs : List Addr} {n i : Nat} (hn : rs.length = n) (hi : i < n) {C : Prop} (k : ∀ r, rs[i]? = some r → (rs.map Value.ref)[((i : Nat) : Int).toNat]? = some (.ref r) → C) : C := by
  have hlt : i < rs.length := by omega
  have ha : rs[i]? = some rs[i] := List.getElem?_eq_getElem hlt
  exact k rs[i] ha (by rw [List.getElem?_map]; simp [ha])
theorem num_zero {x : Rat} (h : (x.num != 0) = false) : x = 0 := by
  have : x.num = 0 := by simpa using h
  exact Rat.num_eq_zero.mp this
theorem num_nz {x : Rat} (h : (x.num != 0) = true) : x ≠ 0 := by
  intro e
  subst e
  exact absurd h (by decide)
theorem c_pivot (w : World) (g : Addr) (i n : Nat) (ti : Tok) (kg : Nat) (rs : List Addr) (x : Nat → Nat → Rat) (news : Led) (hg : (g, W.listOf (rs.map Value.ref).toArray kg) ∈ news) (hn : rs.length = n) (hnn : n < 100) (hrow : ∀ j r, rs[j]? = some r → RowN news r n (x j)) (hi : i < n) :
    Con w 133 [.ref g, .int (i : Int) ti] news 3 (fun r tl => news = tl ∧ ((r = .none ∧ ∀ j, i ≤ j → j < n → x j i = 0) ∨ ∃ (k : Nat) (t : Tok), r = .int (k : Int) t ∧ i ≤ k ∧ k < n ∧ x k i ≠ 0)) := by
  have hr0 : PySem.Challenge.rw_tk0004_01 = PySem.Challenge.rw_tk0004_01 ∨ hd.heap_39 w.params = [] := by k_fill; exact rowK w
  clear hr0
  refine con_enter0 [(Str.ofString "rows", .ref g), (Str.ofString "at", .int (i : Int) ti)] (put (Str.ofString "at") (.int (i : Int) ti) (put (Str.ofString "rows") (.ref g) fun _ => none)) (by k_is) (by k_is) (fun s => BindsTo.of_eq rfl) (by rfl) (by intro _; rfl) (by intro _; rfl) rfl rfl rfl (by decide) ?_
  intro A h₀ L S l
  have hh := S.hh
  refine Ex.forR (n := n - i) (fun j m1 n1 => n1 = news ∧ (∀ p ∈ [(Str.ofString "rows", Value.ref g), (Str.ofString "at", .int (i : Int) ti)], m1 p.1 = some p.2) ∧ ∀ q, i ≤ q → q < i + j → x q i = 0) (Pr.two (S.built (by k_is)) (Pi.of (Pv.loc (by with_unfolding_all rfl))) (Pi.len (S.built (by k_is)) (Pv.loc (by with_unfolding_all rfl)) hg (by simpa using hn) (by omega))) ?_ ?_ ⟨rfl, ?_, fun q h1 h2 => absurd h2 (by omega)⟩ ?_ ?_
  · exact small_one (by omega) (by omega) (by omega) (by omega)
  · rw [rangeSize_one]; split <;> omega
  · exact List.forall_mem_cons.mpr ⟨by with_unfolding_all rfl, List.forall_mem_cons.mpr ⟨by with_unfolding_all rfl, List.forall_mem_nil _⟩⟩
  · intro j m1 n1 I t hj hJ hoff
    obtain ⟨rfl, hm1, hz⟩ := hJ
    refine Ex.known1 _ hm1 ?_
    refine rows_item hn (show i + j < n by omega) fun r hr hr' => ?_
    refine RowN.item (hrow _ _ hr) hi fun cs kk a ta tb hrl hcs hta => ?_
    refine Ex.ite (c := (x (i + j) i).num != 0) (Pb.ne (Pi.of (Pv.titem (Pv.item (Pv.item (Pv.loc (by with_unfolding_all rfl)) (Pi.of (Pv.loc (by with_unfolding_all rfl))) (.tail _ hg) (by omega) (by omega) ?_) (Pi.of (Pv.loc (by with_unfolding_all rfl))) (.tail _ hrl) (by omega) (by omega) hcs) Pi.const (.tail _ hta) (by decide) (by decide) rfl rfl)) Pi.const) ?_ ?_
    · simpa using hr'
    · intro hc
      exact Ex.ret (Pc.v (Pv.loc (by with_unfolding_all rfl)) (RetP.mk n1 (fun p hp => .tail _ hp) ⟨rfl, .inr ⟨i + j, t, by simp, by omega, by omega, num_nz hc⟩⟩))
    · intro hc
      refine Seq.nil (Ex.nil ⟨n1, fun p hp => hp, hoff, rfl, ?_, ?_⟩)
      · exact List.forall_mem_cons.mpr ⟨by with_unfolding_all rfl, List.forall_mem_cons.mpr ⟨by with_unfolding_all rfl, List.forall_mem_nil _⟩⟩
      · intro q h1 h2
        by_cases e : q = i + j
        · subst e; exact num_zero hc
        · exact hz q h1 (by omega)
  · intro m1 n1 hJ
    obtain ⟨rfl, hm1, hz⟩ := hJ
    exact Ex.ret (Pc.v Pv.none (RetP.mk _ (fun p hp => hp) ⟨rfl, .inl ⟨rfl, fun j h1 h2 => hz j h1 (by omega)⟩⟩))
/-- a comprehension that makes cells -/
def Acc (base : Led) (z : Nat → Rat) (i : Nat) (ys : List Value) (n1 : Led) : Prop := ∃ as : List Addr, ys = as.map Value.ref ∧ as.length = i ∧ (∀ p ∈ base, p ∈ n1) ∧ ∀ c a, as[c]? = some a → CellAt n1 a (z c)
theorem Acc.nil {base : Led} {z : Nat → Rat} {n1 : Led} (h : ∀ p ∈ base, p ∈ n1) : Acc base z 0 [] n1 := ⟨[], rfl, rfl, h, fun c a e => by simp at e⟩
theorem Acc.sub {base : Led} {z : Nat → Rat} {i : Nat} {ys : List Value} {n1 : Led} (h : Acc base z i ys n1) : ∀ p ∈ base, p ∈ n1 := let ⟨_, _, _, q, _⟩ := h; q
theorem Acc.snoc {base : Led} {z : Nat → Rat} {i : Nat} {ys : List Value} {n1 n2 : Led} {a : Addr} {t u : Tok} (h : Acc base z i ys n1) (hs : ∀ p ∈ n1, p ∈ n2) (hm : (a, tq (z i) t u) ∈ n2) : Acc base z (i + 1) (ys ++ [.ref a]) n2 := by
  obtain ⟨as, rfl, rfl, hb, hc⟩ := h
  refine ⟨as ++ [a], by simp, by simp, fun p hp => hs p (hb p hp), fun c b e => ?_⟩
  rcases Nat.lt_trichotomy c as.length with h | h | h
  · rw [List.getElem?_append_left h] at e
    exact (hc c b e).mono hs
  · subst h
    rw [List.getElem?_append_right (Nat.le_refl _)] at e
    have : a = b := by simpa using e
    subst this
    exact ⟨t, u, hm⟩
  · rw [List.getElem?_eq_none (by simp; omega)] at e
    cases e
theorem Acc.row {base : Led} {z : Nat → Rat} {n : Nat} {ys : List Value} {n1 : Led} {D : Addr} (h : Acc base z n ys n1) : RowN ((D, LCg.lst ys) :: n1) D n z := by
  obtain ⟨as, rfl, hl, hb, hc⟩ := h
  exact ⟨as, _, hl, .head _, fun c a e => (hc c a e).mono fun p hp => .tail _ hp⟩
theorem RowN.mono {led led' : Led} {r : Addr} {n : Nat} {x : Nat → Rat} (h : RowN led r n x) (hs : ∀ p ∈ led, p ∈ led') : RowN led' r n x := by
  obtain ⟨cs, k, hl, hm, hc⟩ := h
  exact ⟨cs, k, hl, hs _ hm, fun c a e => (hc c a e).mono hs⟩
theorem c_clear (w : World) (f : Rat) (x y : Nat → Rat) (af a b : Addr) (tf uf : Tok) (n : Nat) (news : Led) (hf : (af, tq f tf uf) ∈ news) (ha : RowN news a n x) (hb : RowN news b n y) (hn : n < 100) (sf : Sz 400 f) (sx : ∀ c, c < n → Sz 400 (x c)) (sy : ∀ c, c < n → Sz 400 (y c)) :
    Con w 138 [.ref a, .ref b, .ref af] news 10 (fun r tl => ∃ a' : Addr, r = .ref a' ∧ RowN tl a' n (fun c => x c - f * y c) ∧ ∀ p ∈ news, p ∈ tl) := by
  have hr0 : PySem.Challenge.rw_tk0004_01 = PySem.Challenge.rw_tk0004_01 ∨ hd.heap_39 w.params = [] := by k_fill; exact rowK w
  clear hr0
  refine con_enter1 [(Str.ofString "row", .ref a), (Str.ofString "by", .ref b), (Str.ofString "factor", .ref af)] (put (Str.ofString "by") (.ref b) (put (Str.ofString "row") (.ref a) fun _ => none)) (Str.ofString "factor") (some (.ref af)) (by k_is) (by k_is) (fun s => BindsTo.of_eq rfl) (by rfl) (by intro _; rfl) (by intro _; rfl) (by intro _; rfl) rfl rfl rfl (by decide) ?_
  intro A h₀ L o S ho l
  have hh := S.hh
  obtain ⟨cs1, k1, hl1, hm1, hc1⟩ := ha
  obtain ⟨cs2, k2, hl2, hm2, hc2⟩ := hb
  refine Ex.ret (Pc.compZ (Acc ((L + 1, o) :: news) (fun c => x c - f * y c)) (S.built (by k_is)) (Pv.loc (by with_unfolding_all rfl)) (Pv.loc (by with_unfolding_all rfl)) (.tail _ hm1) (.tail _ hm2) ?_ (Acc.nil fun p hp => hp) ?_ ?_)
  · simp only [List.length_map, hl1]; exact Nat.le_trans (Nat.le_of_lt hn) (by decide)
  · intro i ys n1 own WR C oC m₂ p hp hJ hW hC hns hx1 hx2 hoff
    obtain ⟨q1, q2⟩ := List.getElem?_zip_eq_some.mp hp
    rw [List.getElem?_map] at q1 q2
    obtain ⟨a1, e1, f1⟩ := Option.map_eq_some_iff.mp q1
    obtain ⟨a2, e2, f2⟩ := Option.map_eq_some_iff.mp q2
    have hi : i < n := hl1 ▸ (List.getElem?_eq_some_iff.mp e1).1
    obtain ⟨t1, u1, hx⟩ := hc1 i a1 e1
    obtain ⟨t2, u2, hy⟩ := hc2 i a2 e2
    rw [← f1] at hx1
    rw [← f2] at hx2
    have hb := hJ.sub
    have mem : ∀ p ∈ (L + 1, o) :: news, p ∈ own ++ n1 := fun p hp => List.mem_append_right _ (hb p hp)
    refine Pc.fn S.X (S.glob (by k_is)) (by k_is) (Pl.v (Pv.own (List.mem_append_left _ hC) hns hx1) (Pl.c (Pc.fn S.X (S.glob (by k_is)) (by k_is) (Pl.v (Pv.cell (mem _ (.head _)) ho) (Pl.v (Pv.own (List.mem_append_left _ hC) hns hx2) (Pl.nil (S.call (c_times w f (y i) af a2 tf uf t2 u2 _ (mem _ (.tail _ hf)) (mem _ (.tail _ hy)) (sf.mono (by decide)) ((sy i hi).mono (by decide))) (by decide)))))) ?_))
    rintro r tl ⟨a3, t3, u3, rfl, rfl, l3⟩
    refine Pl.nil (Ok.mono (S.call (c_less w (x i) (f * y i) a1 a3 t1 u1 t3 u3 _ (.tail _ (mem _ (.tail _ hx))) (.head _) ((sx i hi).mono (by decide)) ((sf.mul (sy i hi)).mono (by decide))) (by decide)) ?_)
    rintro r tl ⟨a4, t4, u4, rfl, rfl, l4⟩
    refine ZendP.mk ((a4, tq (x i - f * y i) t4 u4) :: n1) ?_ ?_ (hJ.snoc (fun p hp => .tail _ hp) (.head _))
    · intro p hp
      rcases List.mem_append.mp hp with hp | hp
      · exact .tail _ (.tail _ (List.mem_append_left _ hp))
      · rcases List.mem_cons.mp hp with rfl | hp
        · exact .head _
        · exact .tail _ (.tail _ (List.mem_append_right _ hp))
    · intro p hp
      rcases List.mem_cons.mp hp with rfl | hp
      · intro hw
        obtain ⟨ob, hob⟩ := hW _ hw
        exact Nat.lt_irrefl _ (l4 _ (.tail _ (List.mem_append_left _ hob)))
      · exact hoff p hp
  · intro ys n1 D hJ _ _
    have e : ((cs1.map Value.ref).zip (cs2.map Value.ref)).length = n := by simp [hl1, hl2]
    rw [e] at hJ
    exact RetP.mk _ (fun p hp => hp) ⟨D, rfl, hJ.row, fun p hp => .tail _ (hJ.sub p (.tail _ hp))⟩
end Mine
end
section
open PySem PySem.W PyProof.Rows PySem.Calls
set_option linter.all false
namespace Mine
abbrev Mx := Nat → Nat → Rat
def upR (x : Mx) (j : Nat) (y : Nat → Rat) : Mx := fun a => if a = j then y else x a
def swR (x : Mx) (i k : Nat) : Mx := fun a => if a = i then x k else if a = k then x i else x a
/-- an elimination: O ahead of a column, U with its pivot in place, N in the inner loop -/
structure Elim (n : Nat) (D0 : Rat) (O U : Nat → Rat → Mx → Prop) (N : Nat → Nat → Rat → Mx → Prop) : Prop where
  none : ∀ i d x, i < n → O i d x → (∀ j, i ≤ j → j < n → x j i = 0) → D0 = 0
  keep : ∀ i d x, i < n → O i d x → x i i ≠ 0 → U i d x
  swap : ∀ i k d x, i < n → O i d x → i < k → k < n → x k i ≠ 0 → U i (-d) (swR x i k)
  norm : ∀ i d x, i < n → U i d x → N i 0 (d * x i i) (upR x i fun c => x i c / x i i)
  piv : ∀ i d x, i < n → U i d x → x i i ≠ 0
  sizeU : ∀ i d x, i < n → U i d x → Sz 900 d ∧ ∀ c, c < n → Sz 900 (x i c)
  skip : ∀ i j d x, i < n → j < n → N i j d x → j = i ∨ x j i = 0 → N i (j + 1) d x
  clear : ∀ i j d x, i < n → j < n → N i j d x → j ≠ i → N i (j + 1) d (upR x j fun c => x j c - x j i * x i c)
  sizeN : ∀ i j d x, i < n → j < n → N i j d x → ∀ a c, a < n → c < n → Sz 400 (x a c)
  next : ∀ i d x, i < n → N i n d x → O (i + 1) d x
  done : ∀ d x, O n d x → d = D0
/-- the state of solved_rows -/
structure Sl (news : Led) (R P : Addr) (n : Nat) (rs : List Addr) (td : Addr) (d : Rat) (x : Mx) (led : Led) : Prop where
  len : rs.length = n
  list : ∃ k, (R, W.listOf (rs.map Value.ref).toArray k) ∈ led
  cell : ∃ o v, (P, o) ∈ led ∧ o.data = .cell v
  rows : ∀ j r, rs[j]? = some r → RowN led r n (x j)
  told : CellAt led td d
  base : ∀ p ∈ news, p ∈ led
theorem lst_tq {its : Array Value} {k : Nat} {x : Rat} {t u : Tok} : W.listOf its k ≠ tq x t u := fun e => by
  have := congrArg Obj.cls e
  simp [W.listOf, tq] at this
theorem listOf_inj {a b : List Addr} {k l : Nat} (e : W.listOf (a.map Value.ref).toArray k = W.listOf (b.map Value.ref).toArray l) : a = b := by
  have := congrArg Obj.data e
  simp only [W.listOf, Data.seq.injEq] at this
  have h := congrArg Array.toList this.1
  simp only at h
  exact (List.map_inj_right (fun x y e => Value.ref.inj e)).mp h
theorem RowN.off {led : Led} {r : Addr} {n : Nat} {x : Nat → Rat} {c : Addr} {oc : Obj} (h : RowN led r n x) (U : Uniq led) (hc : (c, oc) ∈ led) (hr : r ≠ c) (ht : ∀ x t u, tq x t u ≠ oc) : RowN (off c led) r n x := by
  obtain ⟨cs, k, hl, hm, hcs⟩ := h
  refine ⟨cs, k, hl, off_mem hm hr, fun q a e => ?_⟩
  obtain ⟨t, u, hq⟩ := hcs q a e
  exact ⟨t, u, off_keep U hc hq (ht _ _ _)⟩
theorem CellAt.off {led : Led} {a : Addr} {x : Rat} {c : Addr} {oc : Obj} (h : CellAt led a x) (U : Uniq led) (hc : (c, oc) ∈ led) (ht : ∀ x t u, tq x t u ≠ oc) : CellAt (off c led) a x := by
  obtain ⟨t, u, hq⟩ := h
  exact ⟨t, u, off_keep U hc hq (ht _ _ _)⟩
section
variable {news : Led} {R P : Addr} {n : Nat} {rs : List Addr} {td : Addr} {d : Rat} {x : Mx} {led : Led}
theorem Sl.mono {led' : Led} (h : Sl news R P n rs td d x led) (hs : ∀ p ∈ led, p ∈ led') : Sl news R P n rs td d x led' :=
  ⟨h.len, let ⟨k, q⟩ := h.list; ⟨k, hs _ q⟩, let ⟨o, v, q, e⟩ := h.cell; ⟨o, v, hs _ q, e⟩, fun j r e => (h.rows j r e).mono hs, h.told.mono hs, fun p hp => hs p (h.base p hp)⟩
/-- no row is the list of the rows -/
theorem Sl.rowR (h : Sl news R P n rs td d x led) (U : Uniq led) (hn : 0 < n) {j : Nat} {r : Addr} (hr : rs[j]? = some r) : r ≠ R := by
  rintro rfl
  obtain ⟨k, hk⟩ := h.list
  obtain ⟨cs, l, hl, hm, hc⟩ := h.rows j r hr
  have e := listOf_inj (U _ hk _ hm rfl)
  subst e
  have h0 : rs[0]? = some (rs[0]'(by rw [hl]; exact hn)) := List.getElem?_eq_getElem _
  obtain ⟨cs', l', _, hm', _⟩ := h.rows 0 _ h0
  obtain ⟨t, u, hq⟩ := hc 0 _ h0
  exact lst_tq (U _ hm' _ hq rfl)
/-- a thing that is no list, no tuple and no cell goes -/
theorem Sl.offI (h : Sl news R P n rs td d x led) (U : Uniq led) {I : Addr} {it : Obj} (hI : (I, it) ∈ led) (hit : it.cls = .type "range_iterator") (hb : ∀ p ∈ news, p.1 ≠ I) (hP : P ≠ I) : Sl news R P n rs td d x (off I led) := by
  have ht : ∀ x t u, tq x t u ≠ it := fun x t u e => by rw [← e] at hit; simp [tq] at hit
  have hl : ∀ a k, W.listOf a k ≠ it := fun a k e => by rw [← e] at hit; simp [W.listOf] at hit
  refine ⟨h.len, let ⟨k, q⟩ := h.list; ⟨k, off_keep U hI q (hl _ _)⟩, let ⟨o, v, q, e⟩ := h.cell; ⟨o, v, off_mem q hP, e⟩, fun j r e => ?_, h.told.off U hI ht, fun p hp => off_mem (h.base p hp) (hb p hp)⟩
  refine (h.rows j r e).off U hI ?_ ht
  rintro rfl
  obtain ⟨cs, k, _, hm, _⟩ := h.rows j r e
  exact hl _ _ (U _ hm _ hI rfl)
/-- the pivot's cell is set -/
theorem Sl.setP (h : Sl news R P n rs td d x led) (U : Uniq led) (hb : ∀ p ∈ news, p.1 ≠ P) {o' : Obj} {v' : Option Value} (ho : o'.data = .cell v') : Sl news R P n rs td d x ((P, o') :: off P led) := by
  obtain ⟨o, v, hP, hd⟩ := h.cell
  have ht : ∀ x t u, tq x t u ≠ o := fun x t u e => by rw [← e] at hd; simp [tq] at hd
  have hl : ∀ a k, W.listOf a k ≠ o := fun a k e => by rw [← e] at hd; simp [W.listOf] at hd
  refine ⟨h.len, let ⟨k, q⟩ := h.list; ⟨k, .tail _ (off_keep U hP q (hl _ _))⟩, ⟨o', v', .head _, ho⟩, fun j r e => RowN.mono ?_ fun p hp => .tail _ hp, (h.told.off U hP ht).mono fun p hp => .tail _ hp, fun p hp => .tail _ (off_mem (h.base p hp) (hb p hp))⟩
  refine (h.rows j r e).off U hP ?_ ht
  rintro rfl
  obtain ⟨cs, k, _, hm, _⟩ := h.rows j r e
  exact hl _ _ (U _ hm _ hP rfl)
/-- the rows' list is set -/
theorem Sl.setR (h : Sl news R P n rs td d x led) (U : Uniq led) (hn : 0 < n) (hb : ∀ p ∈ news, p.1 ≠ R) {rs' : List Addr} {x' : Mx} {k' : Nat} (hlen : rs'.length = n) (hr : ∀ j r, rs'[j]? = some r → RowN led r n (x' j) ∧ r ≠ R) :
    Sl news R P n rs' td d x' ((R, W.listOf (rs'.map Value.ref).toArray k') :: off R led) := by
  obtain ⟨k, hk⟩ := h.list
  have ht : ∀ x t u, tq x t u ≠ W.listOf (rs.map Value.ref).toArray k := fun x t u e => lst_tq e.symm
  obtain ⟨o, v, hP, hd⟩ := h.cell
  refine ⟨hlen, ⟨k', .head _⟩, ⟨o, v, .tail _ (off_keep U hk hP fun e => ?_), hd⟩, fun j r e => ?_, (h.told.off U hk ht).mono fun p hp => .tail _ hp, fun p hp => .tail _ (off_mem (h.base p hp) (hb p hp))⟩
  · rw [e] at hd; simp [W.listOf] at hd
  · exact ((hr j r e).1.off U hk (hr j r e).2 ht).mono fun p hp => .tail _ hp
/-- a new row, no list of the rows -/
theorem Sl.rowNew (h : Sl news R P n rs td d x led) (U : Uniq led) (hn : 0 < n) {a : Addr} {y : Nat → Rat} (ha : RowN led a n y) : a ≠ R := by
  rintro rfl
  obtain ⟨k, hk⟩ := h.list
  obtain ⟨cs, l, hl, hm, hc⟩ := ha
  have e := listOf_inj (U _ hk _ hm rfl)
  subst e
  have h0 : rs[0]? = some (rs[0]'(by rw [hl]; exact hn)) := List.getElem?_eq_getElem _
  obtain ⟨cs', l', _, hm', _⟩ := h.rows 0 _ h0
  obtain ⟨t, u, hq⟩ := hc 0 _ h0
  exact lst_tq (U _ hm' _ hq rfl)
theorem Sl.setRow (h : Sl news R P n rs td d x led) (U : Uniq led) (hn : 0 < n) (hb : ∀ p ∈ news, p.1 ≠ R) {j : Nat} {a : Addr} {y : Nat → Rat} {k' : Nat} (ha : RowN led a n y) :
    Sl news R P n (rs.set j a) td d (upR x j y) ((R, W.listOf ((rs.set j a).map Value.ref).toArray k') :: off R led) := by
  refine h.setR U hn hb (by rw [List.length_set, h.len]) fun q r e => ?_
  rw [List.getElem?_set] at e
  unfold upR
  by_cases hq : j = q
  · subst hq
    rw [if_pos rfl] at e
    split at e
    · cases e; rw [if_pos rfl]; exact ⟨ha, h.rowNew U hn ha⟩
    · cases e
  · rw [if_neg hq] at e
    rw [if_neg (Ne.symm hq)]
    exact ⟨h.rows q r e, h.rowR U hn e⟩
end
end Mine
end
section
open PySem PySem.W PyProof.Rows PySem.Calls
set_option linter.all false
namespace Mine
theorem tq_neg {d : Rat} {t u : Tok} : ({ cls := .type "tuple", data := .seq #[.int (-d.num) t, .int (d.den : Int) u] } : Obj) = tq (-d) t u := by
  unfold tq; rw [Rat.neg_num, Rat.neg_den]
/-- the state in a loop of solved_rows -/
inductive Jo (news : Led) (R P : Addr) (n : Nat) (ps : List (Str × Value)) (Inv : Rat → Mx → Prop) (m : Fm) (led : Led) : Prop
  | mk' (rs : List Addr) (td : Addr) (d : Rat) (x : Mx) (h1 : Sl news R P n rs td d x led) (h2 : ∀ p ∈ (Str.ofString "told", Value.ref td) :: ps, m p.1 = some p.2) (h3 : Inv d x) : Jo news R P n ps Inv m led
theorem Jo.mk {news : Led} {R P : Addr} {n : Nat} {ps : List (Str × Value)} {Inv : Rat → Mx → Prop} {m : Fm} {led : Led} {rs : List Addr} {td : Addr} {d : Rat} {x : Mx} (h : Sl news R P n rs td d x led) (hm : ∀ p ∈ (Str.ofString "told", Value.ref td) :: ps, m p.1 = some p.2) (hI : Inv d x) : Jo news R P n ps Inv m led := ⟨rs, td, d, x, h, hm, hI⟩
theorem Sl.row {news : Led} {R P : Addr} {n : Nat} {rs : List Addr} {td : Addr} {d : Rat} {x : Mx} {led : Led} (h : Sl news R P n rs td d x led) {j : Nat} (hj : j < n) {C : Prop} (k : ∀ (r : Addr) (cs : List Addr) (kk : Nat), rs[j]? = some r → (rs.map Value.ref)[((j : Nat) : Int).toNat]? = some (.ref r) → cs.length = n → (r, W.listOf (cs.map Value.ref).toArray kk) ∈ led → (∀ c a, cs[c]? = some a → CellAt led a (x j c)) → C) : C :=
  rows_item h.len hj fun r hr hr' => by
    obtain ⟨cs, kk, hl, hm, hc⟩ := h.rows j r hr
    exact k r cs kk hr hr' hl hm hc
theorem cell_item {cs : List Addr} {n i : Nat} {led : Led} {y : Nat → Rat} (hn : cs.length = n) (hi : i < n) (hc : ∀ c a, cs[c]? = some a → CellAt led a (y c)) {C : Prop} (k : ∀ a t u, (cs.map Value.ref)[((i : Nat) : Int).toNat]? = some (.ref a) → (a, tq (y i) t u) ∈ led → C) : C :=
  rows_item hn hi fun a ha ha' => by
    obtain ⟨t, u, q⟩ := hc i a ha
    exact k a t u ha' q
theorem Sl.setCell {news : Led} {R P : Addr} {n : Nat} {rs : List Addr} {td td' : Addr} {d d' : Rat} {x : Mx} {led : Led} (h : Sl news R P n rs td d x led) {t u : Tok} : Sl news R P n rs td' d' x ((td', tq d' t u) :: led) :=
  have h' := h.mono (led' := (td', tq d' t u) :: led) tl
  ⟨h'.len, h'.list, h'.cell, h'.rows, ⟨t, u, .head _⟩, h'.base⟩
theorem Sl.swap {news : Led} {R P : Addr} {n : Nat} {rs : List Addr} {td : Addr} {d : Rat} {x : Mx} {led : Led} (h : Sl news R P n rs td d x led) (U : Uniq led) (hn : 0 < n) (hb : ∀ p ∈ news, p.1 ≠ R) {i k : Nat} {ri rk : Addr} {k' : Nat} (hi : rs[i]? = some ri) (hk : rs[k]? = some rk) :
    Sl news R P n ((rs.set i rk).set k ri) td d (swR x i k) ((R, W.listOf (((rs.set i rk).set k ri).map Value.ref).toArray k') :: off R led) := by
  refine h.setR U hn hb (by simp [h.len]) fun q r e => ?_
  rw [List.getElem?_set, List.getElem?_set] at e
  unfold swR
  by_cases hq : k = q
  · subst hq
    rw [if_pos rfl] at e
    simp only [List.length_set] at e
    split at e
    · cases e
      by_cases hik : k = i
      · subst hik
        rw [if_pos rfl]
        rw [hi] at hk; cases hk
        exact ⟨h.rows k ri hi, h.rowR U hn hi⟩
      · rw [if_neg hik, if_pos rfl]; exact ⟨h.rows i ri hi, h.rowR U hn hi⟩
    · cases e
  · rw [if_neg hq] at e
    by_cases hq2 : i = q
    · subst hq2
      rw [if_pos rfl] at e
      split at e
      · cases e; rw [if_pos rfl]; exact ⟨h.rows k rk hk, h.rowR U hn hk⟩
      · cases e
    · rw [if_neg hq2] at e
      rw [if_neg (Ne.symm hq2), if_neg (Ne.symm hq)]
      exact ⟨h.rows q r e, h.rowR U hn e⟩
theorem map_set2 {rs : List Addr} {i k : Nat} {a b : Addr} : (((rs.map Value.ref).set ((i : Int).toNat) (.ref a)).set ((k : Int).toNat) (.ref b)) = (((rs.set i a).set k b).map Value.ref) := by simp [List.map_set]
theorem c_solve (w : World) (n : Nat) (D0 : Rat) (O U : Nat → Rat → Mx → Prop) (NN : Nat → Nat → Rat → Mx → Prop) (H : Elim n D0 O U NN) (x0 : Mx) (g : Addr) (rs0 : List Addr) (kg : Nat) (news : Led) (hg : (g, W.listOf (rs0.map Value.ref).toArray kg) ∈ news) (hlen : rs0.length = n) (hrow : ∀ j r, rs0[j]? = some r → RowN news r n (x0 j)) (hO0 : O 0 1 x0) (hn : 0 < n) (hnn : n < 100) :
    Con w 143 [.ref g] news 20 (fun r tl => ∃ t R d t1 u1, r = .ref t ∧ (t, ({ cls := .type "tuple", data := .seq #[.ref R, .ref d] } : Obj)) :: (d, tq D0 t1 u1) :: news = tl) := by
  have hr0 : PySem.Challenge.rw_tk0004_01 = PySem.Challenge.rw_tk0004_01 ∨ hd.heap_39 w.params = [] := by k_fill; exact rowK w
  clear hr0
  refine con_enter1 [((Str.ofString "rows"), .ref g)] (put (Str.ofString "rows") (.ref g) fun _ => none) (Str.ofString "pivot") none (by k_is) (by k_is) (fun s => BindsTo.of_eq rfl) (by rfl) (by intro _; rfl) (by intro _; rfl) (by intro _; rfl) rfl rfl rfl (by decide) ?_
  intro A h₀ L o S ho l
  have hh := S.hh
  have hsz : (rs0.map Value.ref).length ≤ sizeLine := by rw [List.length_map, hlen]; exact Nat.le_trans (Nat.le_of_lt hnn) (by decide)
  refine Ex.tup2s (Pc.tuple (Pl.c (P1 := fun r tl => ∃ td t u, r = .ref td ∧ tl = (td, tq 1 t u) :: (L + 1, o) :: news) (Pc.tuple (Pl.i Pi.const fun t => Pl.i Pi.const fun u => Pl.nil ⟨len2, fun td _ => ⟨td, t, u, rfl, rfl⟩⟩)) ?_))
  rintro r tl ⟨td, t0, u0, rfl, rfl⟩
  refine Pl.i (Pi.len (n := n) (S.built (by k_is)) (Pv.loc (by with_unfolding_all rfl)) (.tail _ (.tail _ hg)) (by simpa using hlen) (by omega)) fun ts => Pl.nil ⟨len2, fun D _ => Tup2P.mk (.head _) ?_⟩
  refine Ex.asg (Pc.typ (S.built (by k_is)) (Pl.v (Pv.loc (by with_unfolding_all rfl)) (Pl.nil (Ok.list (.tail _ (.tail _ (.tail _ hg))) hsz fun R kR hR => ?_))))
  have hbR : ∀ p ∈ news, p.1 ≠ R := fun p hp => Nat.ne_of_lt (hR p (.tail _ (.tail _ (.tail _ hp))))
  have hbP : ∀ p ∈ news, p.1 ≠ L + 1 := fun p hp => Nat.ne_of_lt (Nat.lt_succ_of_lt (ltM3 (o := p.2) l hp))
  refine Ex.forR0 (Jo news R (L + 1) n [((Str.ofString "rows"), .ref R), ((Str.ofString "size"), .int (n : Int) ts)] ∘ O) (Pr.one (S.built (by k_is)) (Pi.of (Pv.loc (by with_unfolding_all rfl)))) (by omega) ?start ?turn ?done
  case start =>
    refine Jo.mk (rs := rs0) (td := td) (d := 1) (x := x0) ⟨hlen, ⟨kR, .head _⟩, ⟨o, _, .tail _ (.tail _ (.tail _ (.head _))), ho⟩, fun j r e => (hrow j r e).mono fun p hp => .tail _ (.tail _ (.tail _ (.tail _ hp))), ⟨t0, u0, .tail _ (.tail _ (.head _))⟩, fun p hp => .tail _ (.tail _ (.tail _ (.tail _ hp)))⟩ (List.forall_mem_cons.mpr ⟨by with_unfolding_all rfl, List.forall_mem_cons.mpr ⟨by with_unfolding_all rfl, List.forall_mem_cons.mpr ⟨by with_unfolding_all rfl, List.forall_mem_nil _⟩⟩⟩) hO0
  case done =>
    rintro m1 n1 ⟨rs, td, d, x, hs, hm, hO⟩
    refine Ex.known _ hm ?_
    obtain ⟨k, hk⟩ := hs.list
    obtain ⟨t1, u1, htd⟩ := hs.told
    have e := H.done d x hO
    subst e
    exact Ex.ret (Pc.tuple (Pl.v (Pv.loc (by with_unfolding_all rfl)) (Pl.v (Pv.loc (by with_unfolding_all rfl)) (Pl.nil ⟨len2, fun t _ => RetP.mk ((t, _) :: (td, tq d t1 u1) :: news) (List.forall_mem_cons.mpr ⟨.head _, List.forall_mem_cons.mpr ⟨.tail _ htd, fun p hp => .tail _ (hs.base p hp)⟩⟩) ⟨t, R, td, t1, u1, rfl, rfl⟩⟩))))
  case turn =>
    clear hg hlen hrow hO0 hsz ho l
    rintro i m1 n1 I it t hi hit ⟨rs, td, d, x, hs, hm, hO⟩ hoff
    refine Ex.known1 _ hm ?_
    have hbI : ∀ p ∈ news, p.1 ≠ I := fun p hp => hoff p (hs.base p hp)
    have hPI : L + 1 ≠ I := by obtain ⟨oP, v, hP, _⟩ := hs.cell; exact hoff _ hP
    replace hs := hs.mono (led' := (I, it) :: n1) tl
    have hI : (I, it) ∈ (I, it) :: n1 := .head _
    clear hoff hm
    generalize (I, it) :: n1 = led at hs hI
    obtain ⟨k, hk⟩ := hs.list
    refine Ex.asg (Pc.fn S.X (S.glob (by k_is)) (by k_is) (Pl.v (Pv.loc (by with_unfolding_all rfl)) (Pl.v (Pv.loc (by with_unfolding_all rfl)) (Pl.nil (Ok.mono (S.call (c_pivot w R i n t k rs x _ hk hs.len hnn hs.rows hi) (by decide)) ?_)))))
    rintro r tl ⟨rfl, h⟩
    rcases h with ⟨rfl, hz⟩ | ⟨q, t2, rfl, hiq, hqn, hne⟩
    · have e := H.none i d x hi hO hz
      subst e
      refine Ex.ifT (Pb.isNone (Pv.loc (by with_unfolding_all rfl))) (Ex.ret (Pc.tuple (Pl.v (Pv.loc (by with_unfolding_all rfl)) (Pl.c (P1 := fun r tl => ∃ td t u, r = .ref td ∧ tl = (td, tq 0 t u) :: led) (Pc.tuple (Pl.i Pi.const fun t => Pl.i Pi.const fun u => Pl.nil ⟨len2, fun td _ => ⟨td, t, u, rfl, rfl⟩⟩)) ?_))))
      rintro r tl ⟨td, t3, u3, rfl, rfl⟩
      exact Pl.nil ⟨len2, fun t _ => RetP.mk ((t, _) :: (td, tq 0 t3 u3) :: news) (List.forall_mem_cons.mpr ⟨.head _, List.forall_mem_cons.mpr ⟨.tail _ (.head _), fun p hp => .tail _ (.tail _ (hs.base p hp))⟩⟩) ⟨t, R, td, t3, u3, rfl, rfl⟩⟩
    refine Ex.ifF (Pb.notNone (Pv.loc (by with_unfolding_all rfl))) ?_
    refine Ex.iteJ (c := ((q : Int) != (i : Int))) (fun m led => Jo news R (L + 1) n [((Str.ofString "rows"), .ref R), ((Str.ofString "size"), .int (n : Int) ts), ((Str.ofString "at"), .int (i : Int) t)] (U i) m led ∧ (I, it) ∈ led) ?tail (Pb.ne (Pi.of (Pv.loc (by with_unfolding_all rfl))) (Pi.of (Pv.loc (by with_unfolding_all rfl)))) ?sw ?ns
    case ns =>
      intro hc
      have hqi : q = i := by
        have : (q : Int) = (i : Int) := by simpa using hc
        omega
      subst hqi
      exact Ex.nil ⟨Jo.mk hs (List.forall_mem_cons.mpr ⟨by with_unfolding_all rfl, List.forall_mem_cons.mpr ⟨by with_unfolding_all rfl, List.forall_mem_cons.mpr ⟨by with_unfolding_all rfl, List.forall_mem_cons.mpr ⟨by with_unfolding_all rfl, List.forall_mem_nil _⟩⟩⟩⟩) (H.keep q d x hi hO hne), hI⟩
    case sw =>
      intro hc
      have hqi : i < q := by
        rcases Nat.lt_or_ge i q with h | h
        · exact h
        · have : q = i := by omega
          subst this
          simp at hc
      refine Ex.uniq fun Un => ?_
      refine rows_item hs.len hi fun ri hri hri' => rows_item hs.len hqn fun rq hrq hrq' => ?_
      have hlt : ∀ j : Nat, j < n → ((j : Nat) : Int).toNat < (rs.map Value.ref).length := fun j hj => by simpa [hs.len] using hj
      refine Ex.swap (Pc.tuple (Pl.v (Pv.item (Pv.loc (by with_unfolding_all rfl)) (Pi.of (Pv.loc (by with_unfolding_all rfl))) hk (nn q) (lt63 hqn hnn) hrq') (Pl.v (Pv.item (Pv.loc (by with_unfolding_all rfl)) (Pi.of (Pv.loc (by with_unfolding_all rfl))) hk (nn i) (lt63 hi hnn) hri') (Pl.nil ⟨len2, fun D hD => SwapP.mk (.head _) (SetP.mk (off R led) (Pv.loc (by with_unfolding_all rfl)) (Pi.of (Pv.loc (by with_unfolding_all rfl))) (.tail _ hk) (nn i) (lt63 hi hnn) (hlt i hi) rfl (fun p hp => .tail _ (off_sub p hp)) off_ne (SetP.mk (off R led) (Pv.loc (by with_unfolding_all rfl)) (Pi.of (Pv.loc (by with_unfolding_all rfl))) (.head _) (nn q) (lt63 hqn hnn) (by rw [List.length_set]; exact hlt q hqn) map_set2 (fun p hp => .tail _ hp) off_ne ?_))⟩))))
      have hs2 := hs.swap Un hn hbR (k' := k) hri hrq
      obtain ⟨t3, u3, htd⟩ := hs2.told
      refine Ex.asg (Pc.tuple (Pl.i (Pi.neg (Pi.of (Pv.titem (Pv.loc (by with_unfolding_all rfl)) Pi.const htd (by decide) (by decide) rfl rfl))) fun t4 => Pl.v (Pv.titem (Pv.loc (by with_unfolding_all rfl)) Pi.const htd (by decide) (by decide) rfl rfl) (Pl.nil ⟨len2, fun D hD => ?_⟩)))
      refine Ex.nil ⟨Jo.mk (rs := (rs.set i rq).set q ri) (td := D) (d := -d) (x := swR x i q) ?_ (List.forall_mem_cons.mpr ⟨by with_unfolding_all rfl, List.forall_mem_cons.mpr ⟨by with_unfolding_all rfl, List.forall_mem_cons.mpr ⟨by with_unfolding_all rfl, List.forall_mem_cons.mpr ⟨by with_unfolding_all rfl, List.forall_mem_nil _⟩⟩⟩⟩) (H.swap i q d x hi hO hqi hqn hne), .tail _ (.tail _ (off_keep Un hk hI fun e => ?_))⟩
      · rw [tq_neg]
        exact hs2.setCell
      · rw [e] at hit; simp [W.listOf] at hit
    case tail =>
      clear hO hs hI hk hne hiq hqn
      rintro m1 led ⟨⟨rs, td, d, x, hs, hm, hO⟩, hI⟩
      refine Ex.known _ hm ?_
      clear hm
      refine Ex.uniq fun Un => ?_
      obtain ⟨k, hk⟩ := hs.list
      obtain ⟨oP, vP, hP, hdP⟩ := hs.cell
      refine hs.row hi fun r cs kk hr hr' hl hrl hc => cell_item hl hi hc fun a ta ua ha' ha => ?_
      refine Ex.asgCell (Pc.v (Pv.item (Pv.item (Pv.loc (by with_unfolding_all rfl)) (Pi.of (Pv.loc (by with_unfolding_all rfl))) hk (nn i) (lt63 hi hnn) hr') (Pi.of (Pv.loc (by with_unfolding_all rfl))) hrl (nn i) (lt63 hi hnn) ha') (CellP.mk (off (L + 1) led) hP hdP off_sub off_ne fun o' ho' => ?_))
      have hs2 := hs.setP Un hbP ho'
      have hI2 : (I, it) ∈ (L + 1, o') :: off (L + 1) led := .tail _ (off_mem hI (Ne.symm hPI))
      have ne1 : ∀ x t u, tq x t u ≠ oP := fun x t u e => by rw [← e] at hdP; simp [tq] at hdP
      have ha2 : (a, tq (x i i) ta ua) ∈ (L + 1, o') :: off (L + 1) led := .tail _ (off_keep Un hP ha (ne1 _ _ _))
      have hP2 : (L + 1, o') ∈ (L + 1, o') :: off (L + 1) led := .head _
      clear hk hrl hc ha Un hP hs hI
      generalize (L + 1, o') :: off (L + 1) led = led2 at hs2 hI2 ha2 hP2
      obtain ⟨t3, u3, htd⟩ := hs2.told
      obtain ⟨sd, sx⟩ := H.sizeU i d x hi hO
      refine Ex.asg (Pc.fn S.X (S.glob (by k_is)) (by k_is) (Pl.v (Pv.loc (by with_unfolding_all rfl)) (Pl.v (Pv.cell hP2 ho') (Pl.nil (Ok.mono (S.call (c_times w d (x i i) td a t3 u3 ta ua _ htd ha2 sd (sx i hi)) (by decide)) ?_)))))
      rintro rv tl ⟨td2, t4, u4, rfl, rfl, _⟩
      have hs3 : Sl news R (L + 1) n rs td2 (d * x i i) x ((td2, tq (d * x i i) t4 u4) :: led2) := hs2.setCell
      replace hI2 : (I, it) ∈ (td2, tq (d * x i i) t4 u4) :: led2 := .tail _ hI2
      replace ha2 : (a, tq (x i i) ta ua) ∈ (td2, tq (d * x i i) t4 u4) :: led2 := .tail _ ha2
      replace hP2 : (L + 1, o') ∈ (td2, tq (d * x i i) t4 u4) :: led2 := .tail _ hP2
      clear htd hs2
      generalize (td2, tq (d * x i i) t4 u4) :: led2 = led3 at hs3 hI2 ha2 hP2
      clear hr hr' hl ha' cs kk
      obtain ⟨k, hk⟩ := hs3.list
      refine hs3.row hi fun r cs kk hr hr' hl hrl hc => ?_
      refine Ex.setItem (Pc.compL (Acc led3 fun c => x i c / x i i) (Pv.item (Pv.loc (by with_unfolding_all rfl)) (Pi.of (Pv.loc (by with_unfolding_all rfl))) hk (nn i) (lt63 hi hnn) hr') (fun i ys n1 hJ => hJ.sub _ hrl) (by simp only [List.size_toArray, List.length_map, hl]; exact Nat.le_trans (Nat.le_of_lt hnn) (by decide)) (Acc.nil fun p hp => hp) ?step ?fin)
      case step =>
        intro c ys n1 Ia oI C oC Da m₂ v hv hJ hC hx1 hoff hne
        simp only [List.getElem?_toArray, List.getElem?_map] at hv
        obtain ⟨b, hb, rfl⟩ := Option.map_eq_some_iff.mp hv
        obtain ⟨tb, ub, hbm⟩ := hc c b hb
        have hcn : c < n := hl ▸ (List.getElem?_eq_some_iff.mp hb).1
        have mem : ∀ p ∈ led3, p ∈ (Ia, oI) :: (C, oC) :: (Da, LCg.lst ys) :: n1 := fun p hp => .tail _ (.tail _ (.tail _ (hJ.sub p hp)))
        refine Pc.fn S.X (S.glob (by k_is)) (by k_is) (Pl.v (Pv.own (.tail _ (.head _)) hC hx1) (Pl.v (Pv.cell (mem _ hP2) ho') (Pl.nil (Ok.mono (S.call (c_by w (x i c) (x i i) b a tb ub ta ua _ (mem _ hbm) (mem _ ha2) (sx c hcn) (sx i hi) (H.piv i d x hi hO)) (by decide)) ?_))))
        rintro rv tl ⟨a4, t5, u5, rfl, rfl, l4⟩
        refine CendP.mk ((a4, tq (x i c / x i i) t5 u5) :: n1) ?_ ⟨⟨Ne.symm (Nat.ne_of_lt (l4 _ (.head _))), Ne.symm (Nat.ne_of_lt (l4 _ (.tail _ (.head _)))), Ne.symm (Nat.ne_of_lt (l4 _ (.tail _ (.tail _ (.head _)))))⟩, hoff⟩ (hJ.snoc tl (.head _))
        exact List.forall_mem_cons.mpr ⟨.tail _ (.head _), List.forall_mem_cons.mpr ⟨.tail _ (.tail _ (.head _)), List.forall_mem_cons.mpr ⟨.tail _ (.tail _ (.tail _ (.head _))), List.forall_mem_cons.mpr ⟨.head _, fun p hp => .tail _ (.tail _ (.tail _ (.tail _ hp)))⟩⟩⟩⟩
      case fin =>
        intro ys n1 Da hJ _ Un
        have e : ((cs.map Value.ref).toArray).size = n := by simp [hl]
        rw [e] at hJ
        have hs4 := hs3.mono (led' := (Da, LCg.lst ys) :: n1) fun p hp => .tail _ (hJ.sub p hp)
        have hk4 : (R, W.listOf (rs.map Value.ref).toArray k) ∈ (Da, LCg.lst ys) :: n1 := .tail _ (hJ.sub _ hk)
        refine SetP.mk (vs' := (rs.set i Da).map Value.ref) (off R ((Da, LCg.lst ys) :: n1)) (Pv.loc (by with_unfolding_all rfl)) (Pi.of (Pv.loc (by with_unfolding_all rfl))) hk4 (nn i) (lt63 hi hnn) (by simpa [hs3.len] using hi) (by simp [List.map_set]) off_sub off_ne ?_
        have hs5 := hs4.setRow Un hn hbR (j := i) (k' := k) hJ.row
        have hI5 : (I, it) ∈ (R, W.listOf ((rs.set i Da).map Value.ref).toArray k) :: off R ((Da, LCg.lst ys) :: n1) := .tail _ (off_keep Un hk4 (.tail _ (hJ.sub _ hI2)) fun e => by rw [e] at hit; simp [W.listOf] at hit)
        have hN := H.norm i d x hi hO
        clear hs4 hk4 Un hJ hs3 hI2 ha2 hP2 hk hrl hc sd sx hO ho' e
        generalize (R, W.listOf ((rs.set i Da).map Value.ref).toArray k) :: off R ((Da, LCg.lst ys) :: n1) = led4 at hs5 hI5
        refine Ex.forR0 (fun j m led => Jo news R (L + 1) n [((Str.ofString "rows"), .ref R), ((Str.ofString "size"), .int (n : Int) ts), ((Str.ofString "at"), .int (i : Int) t)] (NN i j) m led ∧ (I, it) ∈ led) (Pr.one (S.built (by k_is)) (Pi.of (Pv.loc (by with_unfolding_all rfl)))) (by omega) ⟨Jo.mk hs5 (List.forall_mem_cons.mpr ⟨by with_unfolding_all rfl, List.forall_mem_cons.mpr ⟨by with_unfolding_all rfl, List.forall_mem_cons.mpr ⟨by with_unfolding_all rfl, List.forall_mem_cons.mpr ⟨by with_unfolding_all rfl, List.forall_mem_nil _⟩⟩⟩⟩) hN, hI5⟩ ?turn ?done
        case done =>
          rintro m1 n1 ⟨⟨rs, td, d, x, hs, hm, hO⟩, hI⟩
          refine Ex.turn hI fun Un => Jo.mk (hs.offI Un hI hit hbI hPI) (fun p hp => hm p ?_) (H.next i d x hi hO)
          exact (by simp only [List.mem_cons, List.not_mem_nil, or_false] at hp ⊢; rcases hp with h | h | h <;> simp [h])
        case turn =>
          clear hs5 hI5 hN
          rintro j m1 n1 I2 it2 t2 hj hit2 ⟨⟨rs, td, d, x, hs, hm, hN⟩, hI⟩ hoff2
          refine Ex.known1 _ hm ?_
          have hbI2 : ∀ p ∈ news, p.1 ≠ I2 := fun p hp => hoff2 p (hs.base p hp)
          have hPI2 : L + 1 ≠ I2 := by obtain ⟨oP, v, hP, _⟩ := hs.cell; exact hoff2 _ hP
          have hII : I ≠ I2 := hoff2 _ hI
          replace hs := hs.mono (led' := (I2, it2) :: n1) tl
          replace hI : (I, it) ∈ (I2, it2) :: n1 := .tail _ hI
          have hI2 : (I2, it2) ∈ (I2, it2) :: n1 := .head _
          clear hoff2 hm
          generalize (I2, it2) :: n1 = led at hs hI hI2
          obtain ⟨k, hk⟩ := hs.list
          refine hs.row hj fun r cs kk hr hr' hl hrl hc => cell_item hl hi hc fun a ta ua ha' ha => ?_
          refine Ex.ite (c := ((j : Int) != (i : Int)) && ((x j i).num != 0)) (Pb.and (Pb.ne (Pi.of (Pv.loc (by with_unfolding_all rfl))) (Pi.of (Pv.loc (by with_unfolding_all rfl)))) fun _ => Pb.ne (Pi.of (Pv.titem (Pv.item (Pv.item (Pv.loc (by with_unfolding_all rfl)) (Pi.of (Pv.loc (by with_unfolding_all rfl))) hk (nn j) (lt63 hj hnn) hr') (Pi.of (Pv.loc (by with_unfolding_all rfl))) hrl (nn i) (lt63 hi hnn) ha') Pi.const ha (by decide) (by decide) rfl rfl)) Pi.const) ?yes ?no
          case no =>
            intro hcf
            refine Seq.nil (Ex.turn hI2 fun Un => ⟨Jo.mk (hs.offI Un hI2 hit2 hbI2 hPI2) (List.forall_mem_cons.mpr ⟨by with_unfolding_all rfl, List.forall_mem_cons.mpr ⟨by with_unfolding_all rfl, List.forall_mem_cons.mpr ⟨by with_unfolding_all rfl, List.forall_mem_cons.mpr ⟨by with_unfolding_all rfl, List.forall_mem_nil _⟩⟩⟩⟩) (H.skip i j d x hi hj hN ?_), off_mem hI hII⟩)
            rcases Bool.and_eq_false_iff.mp hcf with h | h
            · exact .inl (by have : (j : Int) = (i : Int) := by simpa using h
                             omega)
            · exact .inr (num_zero h)
          case yes =>
            intro hct
            obtain ⟨h1, h2⟩ := Bool.and_eq_true_iff.mp hct
            have hji : j ≠ i := fun e => by subst e; simp at h1
            refine hs.row hi fun r2 cs2 kk2 hr2 hr2' hl2 hrl2 hc2 => ?_
            have sN := H.sizeN i j d x hi hj hN
            refine Ex.setItem (Pc.fn S.X (S.glob (by k_is)) (by k_is) (Pl.v (Pv.item (Pv.loc (by with_unfolding_all rfl)) (Pi.of (Pv.loc (by with_unfolding_all rfl))) hk (nn j) (lt63 hj hnn) hr') (Pl.v (Pv.item (Pv.loc (by with_unfolding_all rfl)) (Pi.of (Pv.loc (by with_unfolding_all rfl))) hk (nn i) (lt63 hi hnn) hr2') (Pl.v (Pv.item (Pv.item (Pv.loc (by with_unfolding_all rfl)) (Pi.of (Pv.loc (by with_unfolding_all rfl))) hk (nn j) (lt63 hj hnn) hr') (Pi.of (Pv.loc (by with_unfolding_all rfl))) hrl (nn i) (lt63 hi hnn) ha') (Pl.nil (Ok.monoU (S.call (c_clear w (x j i) (x j) (x i) a r r2 ta ua n _ ha (hs.rows j r hr) (hs.rows i r2 hr2) hnn (sN j i hj hi) (fun c hc => sN j c hj hc) (fun c hc => sN i c hi hc)) (by decide)) ?_))))))
            rintro rv tl Un ⟨a', rfl, hra, hsub⟩
            have hs2 := hs.mono hsub
            refine SetP.mk (vs' := (rs.set j a').map Value.ref) (off R tl) (Pv.loc (by with_unfolding_all rfl)) (Pi.of (Pv.loc (by with_unfolding_all rfl))) (hsub _ hk) (nn j) (lt63 hj hnn) (by simpa [hs.len] using hj) (by simp [List.map_set]) off_sub off_ne ?_
            have hs3 := hs2.setRow Un hn hbR (j := j) (k' := k) hra
            have nl : ∀ it : Obj, it.cls = .type "range_iterator" → it ≠ W.listOf (rs.map Value.ref).toArray k := fun it h e => by rw [e] at h; simp [W.listOf] at h
            have hI3 : (I, it) ∈ (R, W.listOf ((rs.set j a').map Value.ref).toArray k) :: off R tl := .tail _ (off_keep Un (hsub _ hk) (hsub _ hI) (nl it hit))
            have hI4 : (I2, it2) ∈ (R, W.listOf ((rs.set j a').map Value.ref).toArray k) :: off R tl := .tail _ (off_keep Un (hsub _ hk) (hsub _ hI2) (nl it2 hit2))
            exact Seq.nil (Ex.turn hI4 fun Un => ⟨Jo.mk (hs3.offI Un hI4 hit2 hbI2 hPI2) (List.forall_mem_cons.mpr ⟨by with_unfolding_all rfl, List.forall_mem_cons.mpr ⟨by with_unfolding_all rfl, List.forall_mem_cons.mpr ⟨by with_unfolding_all rfl, List.forall_mem_cons.mpr ⟨by with_unfolding_all rfl, List.forall_mem_nil _⟩⟩⟩⟩) (H.clear i j d x hi hj hN hji), off_mem hI3 hII⟩)
end Mine
end
section
open PySem PySem.W PyProof.Rows PySem.Calls
set_option linter.all false
namespace Mine
structure Pw (m b : Int) : Prop where
  intro ::
  pos : 1 ≤ m
  eq : b = 10 ^ m.toNat
theorem Pw.one : Pw 1 10 := ⟨by decide, rfl⟩
theorem Pw.step {m b : Int} (h : Pw m b) : Pw (m + 1) (b * 10) := by
  refine ⟨by have := h.pos; omega, ?_⟩
  have e : (m + 1).toNat = m.toNat + 1 := by have := h.pos; omega
  rw [e, Int.pow_succ, ← h.eq]
theorem Pw.lt {m b : Int} (h : Pw m b) {k : Nat} (hb : b < 10 ^ k) : m < k := by
  apply Classical.byContradiction
  intro hn
  have h1 : k ≤ m.toNat := by omega
  have h2 : (10 : Nat) ^ k ≤ 10 ^ m.toNat := Nat.pow_le_pow_right (by decide) h1
  have h3 : (10 : Int) ^ k ≤ 10 ^ m.toNat := by exact_mod_cast h2
  have h4 := h.eq
  omega
theorem Pw.gt {m b : Int} (h : Pw m b) {k : Nat} (hb : 10 ^ k < b) : k < m := by
  apply Classical.byContradiction
  intro hn
  have h1 : m.toNat ≤ k := by omega
  have h2 : (10 : Nat) ^ m.toNat ≤ 10 ^ k := Nat.pow_le_pow_right (by decide) h1
  have h3 : (10 : Int) ^ m.toNat ≤ 10 ^ k := by exact_mod_cast h2
  have h4 := h.eq
  omega
theorem fg_mul {n b : Int} (h : b ≤ n) (h2 : n < 100000000000000000000) (h0 : 10 ≤ b) : IntMulOk b 10 :=
  mulOk_of_bits (m := 80) (n := 4) (PySem.intBits_le_iff.mpr (by omega)) (PySem.intBits_le_iff.mpr (by decide)) (by decide)
theorem fg_meas {n b : Int} (h : b ≤ n) (h0 : 10 ≤ b) : (n + 1 - b * 10).toNat < (n + 1 - b).toNat := by omega
/-- the loop of figures_of -/
def FgJ (v : Int) (tn : Tok) (news : Led) (n : Nat) (m : Fm) (n1 : Led) : Prop := (∀ p ∈ news, p ∈ n1) ∧ m (Str.ofString "number") = some (.int v tn) ∧ ∃ (a b : Int) (t u : Tok), m (Str.ofString "many") = some (.int a t) ∧ m (Str.ofString "bound") = some (.int b u) ∧ Pw a b ∧ 10 ≤ b ∧ (a = 1 ∨ b ≤ 10 * v) ∧ (v + 1 - b).toNat = n
theorem fg_or {a b n : Int} (h : b ≤ n) : a + 1 = 1 ∨ b * 10 ≤ 10 * n := Or.inr (by omega)
theorem fg_ten {b : Int} (h : 10 ≤ b) : 10 ≤ b * 10 := by omega
theorem c_figures (w : World) (n : Int) (tn : Tok) (news : Led) (hn : n < 100000000000000000000) :
    Con w 44 [.int n tn] news 3 (fun r tl => news = tl ∧ ∃ m b t, r = .int m t ∧ Pw m b ∧ 10 ≤ b ∧ (m = 1 ∨ b ≤ 10 * n) ∧ n < b) := by
  have hr0 : PySem.Challenge.rw_tk0004_01 = PySem.Challenge.rw_tk0004_01 ∨ hd.heap_39 w.params = [] := by k_fill; exact rowK w
  clear hr0
  refine con_enter0 [((Str.ofString "number"), .int n tn)] (put (Str.ofString "number") (.int n tn) fun _ => none) (by k_is) (by k_is) (fun s => BindsTo.of_eq rfl) (by rfl) (by intro _; rfl) (by intro _; rfl) rfl rfl rfl (by decide) ?_
  intro A h₀ L S l
  have hh := S.hh
  refine Ex.tup2 (Pc.tuple (Pl.i Pi.const fun t1 => Pl.i Pi.const fun t2 => Pl.nil ⟨len2, fun D hD => Tup2P.mk (.head _) ?_⟩))
  refine Ex.while (FgJ n tn news) ⟨tl, put_ne (by decide) (put_ne (by decide) put_eq), 1, 10, t1, t2, put_ne (by decide) put_eq, put_eq, Pw.one, by decide, Or.inl rfl, rfl⟩ ?_
  intro k m1 n1 hJ
  obtain ⟨hs, h0, a, b, t, u, h1, h2, h3, h4, h5, hk⟩ := hJ
  refine ⟨_, Pb.le (Pi.of (Pv.loc h2)) (Pi.of (Pv.loc h0)), fun hb => ?_, fun hb => ?_⟩
  · have hb' : b ≤ n := of_decide_eq_true hb
    refine Ex.augMul h2 Pi.const (fg_mul hb' hn h4) fun u2 => Ex.augAdd (put_ne (by decide) h1) Pi.const fun t3 => Ex.nil ?_
    exact ⟨_, hk ▸ fg_meas hb' h4, hs, put_ne (by decide) (put_ne (by decide) h0), a + 1, b * 10, t3, u2, put_eq, put_ne (by decide) put_eq, h3.step, fg_ten h4, fg_or hb', rfl⟩
  · exact Ex.ret (Pc.v (Pv.loc h1) (RetP.mk news hs ⟨rfl, a, b, t, rfl, h3, h4, h5, Int.lt_of_not_ge (of_decide_eq_false hb)⟩))
theorem Con.mono {w : World} {f : Addr} {vs : List Value} {news : List (Addr × Obj)} {k : Nat} {post post' : Value → List (Addr × Obj) → Prop} (C : Con w f vs news k post) (h : ∀ r tl, post r tl → post' r tl) : Con w f vs news k post' := by
  unfold Con at C ⊢
  intro p loose mean mg mb dp un gd cn cs a ccd cl outer A₀ base h₀ L m s Q E B F X N T hk hd hu hret
  exact C _ _ _ _ _ _ _ _ _ _ _ _ _ _ _ _ _ _ _ _ _ _ B F X N T hk hd hu fun r tl h' tk' F N P => hret r tl h' tk' F N (h _ _ P)
theorem c_fig14 (w : World) (n : Int) (tn : Tok) (news : List (Addr × Obj)) (h1 : 10000000000000 ≤ n) (h2 : n < 100000000000000) :
    Con w 44 [.int n tn] news 3 (fun r tl => news = tl ∧ ∃ t, r = .int 14 t) := by
  refine (c_figures w n tn news (by omega)).mono ?_
  rintro r tl ⟨rfl, m, b, t, rfl, h, h10, h3, h4⟩
  refine ⟨rfl, t, ?_⟩
  have a1 := h.gt (k := 13) (by show (10000000000000 : Int) < b; omega)
  have a2 := h.lt (k := 15) (by
    show b < (1000000000000000 : Int)
    rcases h3 with rfl | h3
    · omega
    · omega)
  have : m = 14 := by omega
  subst this; rfl
def FigS (n m : Int) : Prop := (m = 1 ∧ n < 10) ∨ (m = 2 ∧ 10 ≤ n ∧ n < 100) ∨ (m = 3 ∧ 100 ≤ n ∧ n < 1000)
theorem c_figS (w : World) (n : Int) (tn : Tok) (news : List (Addr × Obj)) (h2 : n < 1000) :
    Con w 44 [.int n tn] news 3 (fun r tl => news = tl ∧ ∃ m t, r = .int m t ∧ FigS n m) := by
  refine (c_figures w n tn news (by omega)).mono ?_
  rintro r tl ⟨rfl, m, b, t, rfl, h, h10, h3, h4⟩
  refine ⟨rfl, m, t, rfl, ?_⟩
  have a2 := h.lt (k := 4) (by show b < (10000 : Int); rcases h3 with rfl | h3 <;> first | omega | (have := h.eq; subst this; decide))
  have hp := h.pos
  have he := h.eq
  have : m = 1 ∨ m = 2 ∨ m = 3 := by omega
  rcases this with rfl | rfl | rfl
  · left; refine ⟨rfl, ?_⟩; have : b = 10 := he; omega
  · right; left; have : b = 100 := he; refine ⟨rfl, ?_, ?_⟩ <;> omega
  · right; right; have : b = 1000 := he; refine ⟨rfl, ?_, ?_⟩ <;> omega
theorem fmod5 {n m : Int} (h : n = 100000 * m) : n.fmod 100000 = 0 := by subst h; simp
theorem fdiv5 {n m : Int} (h : n = 100000 * m) : n.fdiv 100000 = m := by subst h; simp
def figN (n : Int) : Int := if n < 10 then 1 else if n < 100 then 2 else 3
theorem figS_N {n : Int} (h : n < 1000) : FigS n (figN n) := by
  unfold FigS figN
  by_cases h1 : n < 10
  · rw [if_pos h1]; exact .inl ⟨rfl, h1⟩
  rw [if_neg h1]
  by_cases h2 : n < 100
  · rw [if_pos h2]; exact .inr (.inl ⟨rfl, by omega, h2⟩)
  · rw [if_neg h2]; exact .inr (.inr ⟨rfl, by omega, h⟩)
theorem figS_eq {n m : Int} (h : FigS n m) : m = figN n := by
  unfold FigS at h
  unfold figN
  rcases h with ⟨rfl, h⟩ | ⟨rfl, h1, h2⟩ | ⟨rfl, h1, h2⟩
  · rw [if_pos h]
  · rw [if_neg (by omega), if_pos h2]
  · rw [if_neg (by omega), if_neg (by omega)]
theorem c_figN (w : World) (n : Int) (tn : Tok) (news : Led) (h2 : n < 1000) :
    Con w 44 [.int n tn] news 3 (fun r tl => news = tl ∧ ∃ t, r = .int (figN n) t) := by
  refine (c_figS w n tn news h2).mono ?_
  rintro r tl ⟨rfl, m, t, rfl, h⟩
  exact ⟨rfl, t, by rw [figS_eq h]⟩
theorem mok2 {b : Int} (hb : b.natAbs < 2 ^ 64) : IntMulOk 2 b := mulOk_of_bits (m := 10) (n := 64) (PySem.intBits_le_iff.mpr (by decide)) (PySem.intBits_le_iff.mpr hb) (by decide)
theorem c_rounded (w : World) (n m : Int) (tn t5 : Tok) (news : Led) (h1 : 10000000000000 ≤ n) (h2 : n < 100000000000000) (he : n = 100000 * m) :
    Con w 51 [.int n tn, .int 5 t5] news 5 (fun r tl => news = tl ∧ ∃ t, r = .int m t) := by
  have hr0 : PySem.Challenge.rw_tk0004_01 = PySem.Challenge.rw_tk0004_01 ∨ hd.heap_39 w.params = [] := by k_fill; exact rowK w
  clear hr0
  refine con_enter0 [((Str.ofString "number"), .int n tn), ((Str.ofString "places"), .int 5 t5)] (put (Str.ofString "places") (.int 5 t5) (put (Str.ofString "number") (.int n tn) fun _ => none)) (by k_is) (by k_is) (fun s => BindsTo.of_eq rfl) (by rfl) (by intro _; rfl) (by intro _; rfl) rfl rfl rfl (by decide) ?_
  intro A h₀ L S l
  have hh := S.hh
  refine Ex.ifF (Pb.of (Pb.le (Pi.of (Pv.loc (by with_unfolding_all rfl))) Pi.const) (by decide)) ?_
  refine Ex.ifSame ?_ (Pt.gtN (Pi.of (Pv.loc (by with_unfolding_all rfl))) (Pn.add (Pn.pc (Pc.fn S.X (S.glob (by k_is)) (by k_is) (Pl.v (Pv.loc (by with_unfolding_all rfl)) (Pl.nil (S.call (c_fig14 w n tn _ h1 h2) (by decide)))))) (Pn.of Pi.const)) ⟨by decide, rfl⟩)
  refine Ex.asg (Pc.i (Pi.ofEq (y := 100000) (Pi.pow Pi.const (Pi.of (Pv.loc (by with_unfolding_all rfl))) (by decide) (by decide) (by decide)) (by decide)) fun t1 => ?_)
  refine Ex.tup2s (Pc.tuple (Pl.i (Pi.ofEq (Pi.fdiv (Pi.of (Pv.loc (by with_unfolding_all rfl))) (Pi.of (Pv.loc (by with_unfolding_all rfl))) (by decide) (by decide)) (fdiv5 he)) fun t2 => Pl.i (Pi.ofEq (Pi.mod (Pi.of (Pv.loc (by with_unfolding_all rfl))) (Pi.of (Pv.loc (by with_unfolding_all rfl))) (by decide)) (fmod5 he)) fun t3 => Pl.nil ⟨len2, fun D hD => Tup2P.mk (.head _) ?_⟩))
  refine Ex.ifF (Pb.of (Pb.or (Pb.gt (Pi.mul Pi.const (Pi.of (Pv.loc (by with_unfolding_all rfl))) (mok2 (by decide))) (Pi.of (Pv.loc (by with_unfolding_all rfl)))) fun _ => Pb.and (y := false) (Pb.eq (Pi.mul Pi.const (Pi.of (Pv.loc (by with_unfolding_all rfl))) (mok2 (by decide))) (Pi.of (Pv.loc (by with_unfolding_all rfl)))) fun h => absurd h (by decide)) (by decide)) ?_
  exact Ex.ret (Pc.v (Pv.loc (by with_unfolding_all rfl)) (RetP.mk news tl ⟨rfl, t2, rfl⟩))
structure Iv (D s e : Int) : Prop where
  intro ::
  pos : 0 < s
  or : (0 ≤ e ∧ s * 10 ^ e.toNat = D) ∨ (e < 0 ∧ s = D * 10 ^ (-e).toNat)
theorem Iv.step {D s e : Int} (h : Iv D s e) (h0 : s.fmod 10 = 0) : Iv D (s.fdiv 10) (e + 1) := by
  have hp := h.pos
  rw [Int.fmod_eq_emod_of_nonneg _ (by decide)] at h0
  rw [Int.fdiv_eq_ediv_of_nonneg _ (by decide)]
  obtain ⟨q, hq⟩ : ∃ q, s = 10 * q := ⟨s / 10, by omega⟩
  have e1 : s / 10 = q := by omega
  rw [e1]
  refine ⟨by omega, ?_⟩
  rcases h.or with ⟨he, hs⟩ | ⟨he, hs⟩
  · left
    refine ⟨by omega, ?_⟩
    have : (e + 1).toNat = e.toNat + 1 := by omega
    rw [this, Int.pow_succ, ← hs, hq]; grind
  · have e2 : (-e).toNat = (-(e+1)).toNat + 1 := by omega
    rw [e2, Int.pow_succ] at hs
    by_cases hz : e + 1 = 0
    · left
      refine ⟨by omega, ?_⟩
      rw [hz] at hs ⊢
      simp at hs ⊢
      omega
    · right
      refine ⟨by omega, ?_⟩
      have : 10 * q = 10 * (D * 10 ^ (-(e+1)).toNat) := by rw [← hq, hs]; grind
      omega
theorem Iv.done {D s e : Int} (h : Iv D s e) (h0 : s.fmod 10 ≠ 0) : 0 ≤ e ∧ s * 10 ^ e.toNat = D := by
  rcases h.or with h' | ⟨he, hs⟩
  · exact h'
  · exfalso
    apply h0
    have e2 : (-e).toNat = (-(e+1)).toNat + 1 := by omega
    rw [e2, Int.pow_succ] at hs
    rw [Int.fmod_eq_emod_of_nonneg _ (by decide)]
    have : s = 10 * (D * 10 ^ (-(e+1)).toNat) := by rw [hs]; grind
    omega
theorem Iv.less {s : Int} (h : 0 < s) : (s.fdiv 10).toNat < s.toNat := by
  rw [Int.fdiv_eq_ediv_of_nonneg _ (by decide)]; omega
theorem Iv.small {D s e : Int} (h : Iv D s e) (h0 : s.fmod 10 ≠ 0) (hD : D < 1000) : s < 1000 ∧ e < 3 := by
  obtain ⟨he, hs⟩ := h.done h0
  have hp := h.pos
  have h1 : (1 : Int) ≤ 10 ^ e.toNat := by have : 0 < 10 ^ e.toNat := Nat.pow_pos (n := e.toNat) (by decide : 0 < 10); exact_mod_cast this
  have h3 : (10 : Int) ^ e.toNat ≤ D := by rw [← hs]; have := Int.mul_le_mul_of_nonneg_right (show 1 ≤ s by omega) (show (0:Int) ≤ 10 ^ e.toNat by omega); omega
  refine ⟨?_, ?_⟩
  · have := Int.mul_le_mul_of_nonneg_left h1 (show 0 ≤ s by omega); omega
  · apply Classical.byContradiction
    intro hn
    have h2 : (10 : Nat) ^ 3 ≤ 10 ^ e.toNat := Nat.pow_le_pow_right (by decide) (by omega)
    have h4 : (10 : Int) ^ 3 ≤ 10 ^ e.toNat := by exact_mod_cast h2
    omega
def Dec (d : Int) (r : Value) (news tl : List (Addr × Obj)) : Prop := ∃ a s x t u, r = .ref a ∧ (a, ({ cls := .type "tuple", data := .seq #[.int s t, .int x u] } : Obj)) :: news = tl ∧ 0 ≤ x ∧ x < 3 ∧ s * 10 ^ x.toNat = d ∧ (∀ p ∈ news, p.1 < a)
theorem mq {D Q e : Int} (h : Iv D Q e) (h0 : Q = 0) : False := by have := h.pos; omega
theorem mup {D s e m : Int} (h : Iv D s e) (h0 : s.fmod 10 ≠ 0) (hD : D < 1000) (hf : FigS s m) : ¬ (99 < e + m - 1) := by
  have := (h.small h0 hD).2; unfold FigS at hf; omega
theorem mlo {D s e m : Int} (h : Iv D s e) (h0 : s.fmod 10 ≠ 0) (hf : FigS s m) : ¬ (e + m - 1 < -99) := by
  have := (h.done h0).1; unfold FigS at hf; omega
theorem dec_v {D s e c : Int} (h : Iv D s e) (h0 : s.fmod 10 ≠ 0) : (if c < 0 then -s else s) * 10 ^ e.toNat = (if c < 0 then -D else D) := by
  split
  · rw [Int.neg_mul, (h.done h0).2]
  · rw [(h.done h0).2]
/-- the loop of made -/
def MdJ (c : Int) (tc : Tok) (D : Int) (news : Led) (n : Nat) (m : Fm) (n1 : Led) : Prop := (∀ p ∈ news, p ∈ n1) ∧ m (Str.ofString "coefficient") = some (.int c tc) ∧ ∃ (a b : Int) (t u : Tok), m (Str.ofString "size") = some (.int a t) ∧ m (Str.ofString "exponent") = some (.int b u) ∧ Iv D a b ∧ a.toNat = n
theorem c_made (w : World) (c e D Q : Int) (tc te t9 : Tok) (news : Led) (h1 : 10000000000000 ≤ (if c < 0 then -c else c)) (h2 : (if c < 0 then -c else c) < 100000000000000) (he : (if c < 0 then -c else c) = 100000 * Q) (hI : Iv D Q (e + (14 - 9))) (hD : D < 1000) :
    Con w 58 [.int c tc, .int e te, .int 9 t9] news 9 (fun r tl => Dec (if c < 0 then -D else D) r news tl) := by
  have hr0 : PySem.Challenge.rw_tk0004_01 = PySem.Challenge.rw_tk0004_01 ∨ hd.heap_39 w.params = [] := by k_fill; exact rowK w
  clear hr0
  refine con_enter0 [((Str.ofString "coefficient"), .int c tc), ((Str.ofString "exponent"), .int e te), ((Str.ofString "digits"), .int 9 t9)] (put (Str.ofString "digits") (.int 9 t9) (put (Str.ofString "exponent") (.int e te) (put (Str.ofString "coefficient") (.int c tc) fun _ => none))) (by k_is) (by k_is) (fun s => BindsTo.of_eq rfl) (by rfl) (by intro _; rfl) (by intro _; rfl) rfl rfl rfl (by decide) ?_
  intro A h₀ L S l
  have hh := S.hh
  refine Ex.asg (Pc.i (Pi.abs (S.built (by k_is)) (Pi.of (Pv.loc (by with_unfolding_all rfl)))) fun t1 => ?_)
  refine Ex.asg (Pc.n (Pn.ofEq (y := 5) (Pn.sub (Pn.pc (Pc.fn S.X (S.glob (by k_is)) (by k_is) (Pl.v (Pv.loc (by with_unfolding_all rfl)) (Pl.nil (S.call (c_fig14 w _ t1 _ h1 h2) (by decide)))))) (Pn.of (Pi.of (Pv.loc (by with_unfolding_all rfl))))) (by decide)) fun t2 => ?_)
  refine Ex.ifT (Pb.of (Pb.gt (Pi.of (Pv.loc (by with_unfolding_all rfl))) Pi.const) (by decide)) ?_
  refine Ex.tup2s (Pc.tuple (Pl.k (Pc.fn S.X (S.glob (by k_is)) (by k_is) (Pl.v (Pv.loc (by with_unfolding_all rfl)) (Pl.v (Pv.loc (by with_unfolding_all rfl)) (Pl.nil (Ok.mono (S.call (c_rounded w _ Q t1 t2 _ h1 h2 he) (by decide)) ?_)))))))
  rintro r0 tl0 ⟨rfl, t3, rfl⟩
  refine Pl.i (Pi.add (Pi.of (Pv.loc (by with_unfolding_all rfl))) (Pi.of (Pv.loc (by with_unfolding_all rfl)))) fun t4 => Pl.nil ⟨len2, fun D1 hD1 => Tup2P.mk (.head _) (Seq.nil ?_)⟩
  refine Ex.ifF (Pb.of (Pb.eq (Pi.of (Pv.loc (by with_unfolding_all rfl))) Pi.const) (beq_false_of_ne fun h => mq hI h)) ?_
  refine Ex.while (MdJ c tc D news) ⟨tl, put_ne (by decide) (put_ne (by decide) (put_ne (by decide) (put_ne (by decide) (put_ne (by decide) (put_ne (by decide) put_eq))))), Q, _, t3, t4, put_eq, put_ne (by decide) put_eq, hI, rfl⟩ ?_
  intro n m1 n1 hJ
  obtain ⟨hs, hc, a, b, t, u, ha, hb, h3, hk⟩ := hJ
  refine ⟨_, Pb.eq (Pi.mod (Pi.of (Pv.loc ha)) Pi.const (by decide)) Pi.const, fun hq => ?_, fun hq => ?_⟩
  · have hq' : a.fmod 10 = 0 := eq_of_beq hq
    refine Ex.tup2s (Pc.tuple (Pl.i (Pi.fdiv (Pi.of (Pv.loc ha)) Pi.const (by decide) (by decide)) fun t5 => Pl.i (Pi.add (Pi.of (Pv.loc hb)) Pi.const) fun t6 => Pl.nil ⟨len2, fun D2 hD2 => Tup2P.mk (.head _) (Ex.nil ?_)⟩))
    exact ⟨_, hk ▸ Iv.less h3.pos, fun p hp => .tail _ (hs p hp), put_ne (by decide) (put_ne (by decide) hc), _, _, t5, t6, put_eq, put_ne (by decide) put_eq, h3.step hq', rfl⟩
  · have hq' : a.fmod 10 ≠ 0 := fun e => by rw [e] at hq; cases hq
    have hsm := h3.small hq' hD
    have hF := figS_N hsm.1
    refine Ex.asg (Pc.n (Pn.sub (Pn.add (Pn.of (Pi.of (Pv.loc hb))) (Pn.pc (Pc.fn S.X (S.glob (by k_is)) (by k_is) (Pl.v (Pv.loc ha) (Pl.nil (S.call (c_figN w a t _ hsm.1) (by decide))))))) (Pn.of Pi.const)) fun t5 => ?_)
    refine Ex.ifF (Pb.of (Pb.gt (Pi.of (Pv.loc (by with_unfolding_all rfl))) (Pi.of (S.glob (by k_is)))) (decide_eq_false (mup h3 hq' hD hF))) ?_
    refine Ex.ifF (Pb.of (Pb.lt (Pi.of (Pv.loc (by with_unfolding_all rfl))) (Pi.neg (Pi.of (S.glob (by k_is))))) (decide_eq_false (mlo h3 hq' hF))) ?_
    refine Ex.ret (Pc.tuple (Pl.i (Pi.ifb (z := if c < 0 then -a else a) (Pb.lt (Pi.of (Pv.loc (put_ne (by decide) hc))) Pi.const) (fun h => Pi.ofEq (Pi.neg (Pi.of (Pv.loc (put_ne (by decide) ha)))) (if_pos (of_decide_eq_true h)).symm) fun h => Pi.ofEq (Pi.of (Pv.loc (put_ne (by decide) ha))) (if_neg (of_decide_eq_false h)).symm) fun t6 => Pl.v (Pv.loc (put_ne (by decide) hb)) (Pl.nil ⟨len2, fun D2 hD2 => ?_⟩)))
    exact RetP.mk ((D2, ({ cls := .type "tuple", data := .seq #[.int (if c < 0 then -a else a) t6, .int b u] } : Obj)) :: news) (List.forall_mem_cons.mpr ⟨.head _, fun p hp => .tail _ (hs p hp)⟩) ⟨D2, _, _, t6, u, rfl, rfl, (h3.done hq').1, hsm.2, dec_v h3 hq', fun p hp => hD2 p (hs p hp)⟩
theorem c_made0 (w : World) (e : Int) (tc te t9 : Tok) (news : Led) :
    Con w 58 [.int 0 tc, .int e te, .int 9 t9] news 9 (fun r tl => Dec 0 r news tl) := by
  have hr0 : PySem.Challenge.rw_tk0004_01 = PySem.Challenge.rw_tk0004_01 ∨ hd.heap_39 w.params = [] := by k_fill; exact rowK w
  clear hr0
  refine con_enter0 [((Str.ofString "coefficient"), .int 0 tc), ((Str.ofString "exponent"), .int e te), ((Str.ofString "digits"), .int 9 t9)] (put (Str.ofString "digits") (.int 9 t9) (put (Str.ofString "exponent") (.int e te) (put (Str.ofString "coefficient") (.int 0 tc) fun _ => none))) (by k_is) (by k_is) (fun s => BindsTo.of_eq rfl) (by rfl) (by intro _; rfl) (by intro _; rfl) rfl rfl rfl (by decide) ?_
  intro A h₀ L S l
  have hh := S.hh
  refine Ex.asg (Pc.i (Pi.ofEq (y := 0) (Pi.abs (S.built (by k_is)) (Pi.of (Pv.loc (by with_unfolding_all rfl)))) (by decide)) fun t1 => ?_)
  refine Ex.asg (Pc.n (Pn.ofEq (y := -8) (Pn.sub (Pn.pc (Pc.fn S.X (S.glob (by k_is)) (by k_is) (Pl.v (Pv.loc (by with_unfolding_all rfl)) (Pl.nil (S.call (c_figN w 0 t1 _ (by decide)) (by decide)))))) (Pn.of (Pi.of (Pv.loc (by with_unfolding_all rfl))))) (by decide)) fun t2 => ?_)
  refine Ex.ifF (Pb.of (Pb.gt (Pi.of (Pv.loc (by with_unfolding_all rfl))) Pi.const) (by decide)) ?_
  refine Ex.ifT (Pb.of (Pb.eq (Pi.of (Pv.loc (by with_unfolding_all rfl))) Pi.const) (by decide)) ?_
  exact Ex.ret (Pc.tuple (Pl.i Pi.const fun t3 => Pl.i Pi.const fun t4 => Pl.nil ⟨len2, fun D hD => RetP.mk _ (fun p hp => hp) ⟨D, _, _, t3, t4, rfl, rfl, by decide, by decide, by decide, hD⟩⟩))
theorem ab_mul {A B : Int} (h : A < 1000) (h0 : 0 ≤ A) (hB : B.natAbs < 2 ^ 64) : IntMulOk A B :=
  mulOk_of_bits (m := 10) (n := 64) (PySem.intBits_le_iff.mpr (by omega)) (PySem.intBits_le_iff.mpr hB) (by decide)
theorem ab0 {d : Int} : 0 ≤ (if d < 0 then -d else d) := by split <;> omega
theorem c_madeD (w : World) (d c e x : Int) (tc te t9 : Tok) (news : List (Addr × Obj)) (h0 : d ≠ 0) (hc : c = d * 10 ^ (x.toNat + 1)) (he : e = -x - 1) (hf : FigS (if d < 0 then -d else d) (13 - x)) :
    Con w 58 [.int c tc, .int e te, .int 9 t9] news 9 (fun r tl => Dec d r news tl) := by
  have hx : x = 12 ∨ x = 11 ∨ x = 10 := by unfold FigS at hf; omega
  have key : ∀ P : Int, (10 : Int) ^ (x.toNat + 1) = 100000 * P → P = 10 ^ (-(e + (14 - 9))).toNat → e + (14 - 9) < 0 → (10000000000000 ≤ (if d < 0 then -d else d) * (100000 * P)) → ((if d < 0 then -d else d) * (100000 * P) < 100000000000000) → Con w 58 [.int c tc, .int e te, .int 9 t9] news 9 (fun r tl => Dec d r news tl) := by
    intro P hP hP2 he2 b1 b2
    have hpp : 0 < 100000 * P := by rw [← hP]; have : 0 < 10 ^ (x.toNat + 1) := Nat.pow_pos (n := x.toNat + 1) (by decide : 0 < 10); exact_mod_cast this
    have hcc : (if c < 0 then -c else c) = (if d < 0 then -d else d) * (100000 * P) ∧ (c < 0 ↔ d < 0) := by
      rw [hc, hP]
      by_cases hd : d < 0
      · have : d * (100000 * P) < 0 := Int.mul_neg_of_neg_of_pos hd hpp
        rw [if_pos this, if_pos hd]
        exact ⟨by grind, by simp [this, hd]⟩
      · have : ¬ d * (100000 * P) < 0 := by have := Int.mul_nonneg (show 0 ≤ d by omega) (show 0 ≤ 100000 * P by omega); omega
        rw [if_neg this, if_neg hd]
        exact ⟨rfl, by simp [this, hd]⟩
    refine (c_made w c e (if d < 0 then -d else d) ((if d < 0 then -d else d) * P) tc te t9 news (by rw [hcc.1]; exact b1) (by rw [hcc.1]; exact b2) (by rw [hcc.1]; grind) ⟨?_, Or.inr ⟨he2, by rw [← hP2]⟩⟩ (by unfold FigS at hf; omega)).mono ?_
    · exact Int.mul_pos (by split <;> omega) (by omega)
    · intro r tl h
      have e1 : (if c < 0 then -(if d < 0 then -d else d) else (if d < 0 then -d else d)) = d := by
        by_cases hd : d < 0
        · rw [if_pos (hcc.2.mpr hd), if_pos hd]; omega
        · rw [if_neg (fun q => hd (hcc.2.mp q)), if_neg hd]
      rw [e1] at h
      exact h
  subst he
  rcases hx with rfl | rfl | rfl
  · exact key 100000000 rfl rfl (by decide) (by unfold FigS at hf; omega) (by unfold FigS at hf; omega)
  · exact key 10000000 rfl rfl (by decide) (by unfold FigS at hf; omega) (by unfold FigS at hf; omega)
  · exact key 1000000 rfl rfl (by decide) (by unfold FigS at hf; omega) (by unfold FigS at hf; omega)
/-- all that made is asked -/
theorem c_madeA (w : World) (d x : Int) (tc te t9 : Tok) (news : Led) (h1 : (if d < 0 then -d else d) < 1000) (hx : x = 13 - figN (if d < 0 then -d else d)) :
    Con w 58 [.int (d * 10 ^ (x.toNat + 1)) tc, .int (-x - 1) te, .int 9 t9] news 9 (fun r tl => Dec d r news tl) := by
  by_cases h0 : d = 0
  · subst h0
    rw [Int.zero_mul]
    exact c_made0 w _ tc te t9 news
  · exact c_madeD w d _ _ x tc te t9 news h0 rfl rfl (by
      have e : 13 - x = figN (if d < 0 then -d else d) := by omega
      rw [e]
      exact figS_N h1)
theorem figN_b (n : Int) : 1 ≤ figN n ∧ figN n ≤ 3 := by
  unfold figN
  split
  · decide
  split <;> decide
theorem ten_b {x : Int} (h : x ≤ 12) : ((10 : Int) ^ x.toNat).natAbs ≤ 10 ^ 12 := by
  rw [Int.natAbs_pow]
  exact Nat.pow_le_pow_right (by decide) (by omega)
theorem big_b {A x : Int} (h : A < 1000) (h0 : 0 ≤ A) (hx : x ≤ 12) : (A * 10 ^ x.toNat).natAbs < 2 ^ 64 := by
  rw [Int.natAbs_mul]
  exact Nat.lt_of_le_of_lt (Nat.mul_le_mul (show A.natAbs ≤ 1000 by omega) (ten_b hx)) (by decide)
theorem h10 {d : Int} (x : Int) : 10 * ((if d < 0 then -d else d) * 10 ^ x.toNat) + 0 = (if d < 0 then -d else d) * 10 ^ (x.toNat + 1) := by rw [Int.pow_succ]; grind
theorem hsg {d : Int} (P : Int) (h : d < 0) : -((if d < 0 then -d else d) * P) = d * P := by rw [if_pos h, Int.neg_mul, Int.neg_neg]
theorem hsp {d : Int} (P : Int) (h : ¬ d < 0) : (if d < 0 then -d else d) * P = d * P := by rw [if_neg h]
theorem c_decimal (w : World) (d : Int) (a : Addr) (t u t9 : Tok) (news : Led) (ha : (a, ({ cls := .type "tuple", data := .seq #[.int d t, .int 1 u] } : Obj)) ∈ news) (h1 : (if d < 0 then -d else d) < 1000) :
    Con w 126 [.ref a, .int 9 t9] news 12 (fun r tl => Dec d r news tl) := by
  have hr0 : PySem.Challenge.rw_tk0004_01 = PySem.Challenge.rw_tk0004_01 ∨ hd.heap_39 w.params = [] := by k_fill; exact rowK w
  clear hr0
  refine con_enter0 [((Str.ofString "one"), .ref a), ((Str.ofString "digits"), .int 9 t9)] (put (Str.ofString "digits") (.int 9 t9) (put (Str.ofString "one") (.ref a) fun _ => none)) (by k_is) (by k_is) (fun s => BindsTo.of_eq rfl) (by rfl) (by intro _; rfl) (by intro _; rfl) rfl rfl rfl (by decide) ?_
  intro A h₀ L S l
  have hh := S.hh
  have hb := figN_b (if d < 0 then -d else d)
  have h0 : 0 ≤ (if d < 0 then -d else d) := ab0
  refine Ex.tup2 (Pc.v (Pv.loc (by with_unfolding_all rfl)) (Tup2P.mk ha ?_))
  refine Ex.asg (Pc.n (Pn.ofEq (y := 13 - figN (if d < 0 then -d else d)) (Pn.sub (Pn.add (Pn.of (Pi.add (Pi.of (Pv.loc (by with_unfolding_all rfl))) Pi.const)) (Pn.pc (Pc.fn S.X (S.glob (by k_is)) (by k_is) (Pl.v (Pv.loc (by with_unfolding_all rfl)) (Pl.nil (S.call (c_figN w 1 u _ (by decide)) (by decide))))))) (Pn.pc (Pc.fn S.X (S.glob (by k_is)) (by k_is) (Pl.i (Pi.abs (S.built (by k_is)) (Pi.of (Pv.loc (by with_unfolding_all rfl)))) fun t1 => Pl.nil (S.call (c_figN w _ t1 _ h1) (by decide)))))) ?eq) fun t2 => ?_)
  case eq => rfl
  generalize hx : 13 - figN (if d < 0 then -d else d) = x
  have hx0 : 0 ≤ x := by omega
  have hx1 : x ≤ 12 := by omega
  have hpw : ((10 : Int) ^ x.toNat).natAbs < 2 ^ 64 := Nat.lt_of_le_of_lt (ten_b hx1) (by decide)
  refine Ex.ifF (Pb.of (Pb.lt (Pi.of (Pv.loc (by with_unfolding_all rfl))) Pi.const) (decide_eq_false (by omega))) ?_
  refine Ex.tup2s (Pc.tuple (Pl.i (Pi.ofEq (Pi.fdiv (Pi.mul (Pi.abs (S.built (by k_is)) (Pi.of (Pv.loc (by with_unfolding_all rfl)))) (Pi.pow Pi.const (Pi.of (Pv.loc (by with_unfolding_all rfl))) hx0 (by omega) (by decide)) (ab_mul h1 h0 hpw)) (Pi.of (Pv.loc (by with_unfolding_all rfl))) (by decide) (by decide)) (Int.fdiv_one _)) fun t3 => Pl.i (Pi.ofEq (y := 0) (Pi.mod (Pi.mul (Pi.abs (S.built (by k_is)) (Pi.of (Pv.loc (by with_unfolding_all rfl)))) (Pi.pow Pi.const (Pi.of (Pv.loc (by with_unfolding_all rfl))) hx0 (by omega) (by decide)) (ab_mul h1 h0 hpw)) (Pi.of (Pv.loc (by with_unfolding_all rfl))) (by decide)) (Int.fmod_one _)) fun t4 => Pl.nil ⟨len2, fun D hD => Tup2P.mk (.head _) ?_⟩))
  refine Ex.asg (Pc.i (Pi.ofEq (Pi.add (Pi.mul Pi.const (Pi.of (Pv.loc (by with_unfolding_all rfl))) (ab_mul (by decide) (by decide) (big_b h1 h0 hx1))) (Pi.ifb (z := 0) (Pb.gt (Pi.of (Pv.loc (by with_unfolding_all rfl))) Pi.const) (fun h => absurd h (by decide)) fun _ => Pi.const)) (h10 x)) fun t5 => ?_)
  refine Ex.ret (Pc.fn S.X (S.glob (by k_is)) (by k_is) (Pl.i (Pi.ifb (z := d * 10 ^ (x.toNat + 1)) (Pb.lt (Pi.of (Pv.loc (by with_unfolding_all rfl))) Pi.const) (fun h => Pi.ofEq (Pi.neg (Pi.of (Pv.loc (by with_unfolding_all rfl)))) (hsg _ (of_decide_eq_true h))) fun h => Pi.ofEq (Pi.of (Pv.loc (by with_unfolding_all rfl))) (hsp _ (of_decide_eq_false h))) fun t6 => Pl.i (Pi.sub (Pi.neg (Pi.of (Pv.loc (by with_unfolding_all rfl)))) Pi.const) fun t7 => Pl.v (Pv.loc (by with_unfolding_all rfl)) (Pl.nil (Ok.mono (S.call (c_madeA w d x t6 t7 t9 _ h1 hx.symm) (by decide)) ?_))))
  rintro r tl' ⟨D2, s, e, q1, q2, rfl, rfl, e0, e3, e5, hl⟩
  exact RetP.mk ((D2, ({ cls := .type "tuple", data := .seq #[.int s q1, .int e q2] } : Obj)) :: news) (List.forall_mem_cons.mpr ⟨.head _, fun p hp => .tail _ (.tail _ hp)⟩) ⟨D2, s, e, q1, q2, rfl, rfl, e0, e3, e5, fun p hp => hl p (.tail _ hp)⟩
end Mine
end
section
open PySem PySem.W PyProof.Rows PySem.Calls
set_option linter.all false
namespace Mine
theorem c_of (w : World) (v : Int) (t : Tok) (news : List (Addr × Obj)) :
    Con w 98 [.int v t] news 3 (fun r tl => ∃ a u, r = .ref a ∧ (a, ({ cls := .type "tuple", data := .seq #[.int v t, .int 1 u] } : Obj)) :: news = tl ∧ ∀ p ∈ news, p.1 < a) := by
  have hrow := rowK w
  unfold Con
  k_fill
  clear hrow
  intro p loose mean mg mb dp un gd cn cs aa ccd cl outer A₀ base h₀ L m s Q E B F X N T hk hd hu hret
  refine wpAny_call ?_
  k_dflt ktr_enter
  k_with_none
  k_steps
  exact hret _ _ _ _ (by k_asm) (by k_asm) ⟨_, _, rfl, rfl, by assumption⟩
theorem c_shp (w : World) (g : Addr) (n c : Nat) (x : IMx) (news : Led) (h : IGrid news g n c x) (hn : 0 < n) (hnn : n < 100) (hc : c < 100) :
    Con w 65 [.ref g] news 3 (fun r tl => ∃ D t u, r = .ref D ∧ (D, ({ cls := .type "tuple", data := .seq #[.int (n : Int) t, .int (c : Int) u] } : Obj)) :: news = tl) := by
  have hr0 : PySem.Challenge.rw_tk0004_01 = PySem.Challenge.rw_tk0004_01 ∨ hd.heap_39 w.params = [] := by k_fill; exact rowK w
  clear hr0
  refine con_enter0 [((Str.ofString "grid"), .ref g)] (put (Str.ofString "grid") (.ref g) fun _ => none) (by k_is) (by k_is) (fun s => BindsTo.of_eq rfl) (by rfl) (by intro _; rfl) (by intro _; rfl) rfl rfl rfl (by decide) ?_
  intro A h₀ L S l
  have hh := S.hh
  refine h.row hn fun vs kk r hm hl hv hr => ?_
  obtain ⟨us, k2, hl2, hm2, _⟩ := hr
  refine Ex.ret (Pc.tuple (Pl.i (Pi.len (n := n) (S.built (by k_is)) (Pv.loc (by with_unfolding_all rfl)) hm (by simpa using hl) (lt62 hnn)) fun t => Pl.i (Pi.ifT (Pb.of (Pb.gt (Pi.len (n := n) (S.built (by k_is)) (Pv.loc (by with_unfolding_all rfl)) hm (by simpa using hl) (lt62 hnn)) Pi.const) (by simpa using hn)) (Pi.len (n := c) (S.built (by k_is)) (Pv.item (Pv.loc (by with_unfolding_all rfl)) Pi.const hm (by decide) (by decide) hv) hm2 (by simpa using hl2) (lt62 hc))) fun u => Pl.nil ⟨len2, fun D hD => RetP.mk _ (fun p hp => hp) ⟨D, t, u, rfl, rfl⟩⟩))
def off3 (I C D : Addr) (led : Led) : Led := off I (off C (off D led))
theorem off3_mem {I C D a : Addr} {o : Obj} {led : Led} (hm : (a, o) ∈ led) (h1 : a ≠ I) (h2 : a ≠ C) (h3 : a ≠ D) : (a, o) ∈ off3 I C D led := off_mem (off_mem (off_mem hm h3) h2) h1
theorem off3_sub {I C D : Addr} {led : Led} : ∀ p ∈ off3 I C D led, p ∈ led := fun p hp => off_sub p (off_sub p (off_sub p hp))
theorem off3_off {I C D : Addr} {led : Led} : LCg.Off3 I C D (off3 I C D led) := LCg.Off3.of fun p hp => ⟨off_ne p hp, off_ne p (off_sub p hp), off_ne p (off_sub p (off_sub p hp))⟩
theorem off3_keep {I C D : Addr} {n1 led : Led} (ho : LCg.Off3 I C D n1) (hs : ∀ p ∈ n1, p ∈ led) : ∀ p ∈ n1, p ∈ off3 I C D led := fun p hp => off3_mem (hs p hp) (ho.mem p hp).1 (ho.mem p hp).2.1 (ho.mem p hp).2.2
theorem cend_sub {I C D : Addr} {oI oC oD : Obj} {n1 n2 led : Led} (h : ∀ p ∈ (I, oI) :: (C, oC) :: (D, oD) :: n1, p ∈ led) (h2 : ∀ p ∈ n2, p ∈ led) : ∀ p ∈ (I, oI) :: (C, oC) :: (D, oD) :: n2, p ∈ led := List.forall_mem_cons.mpr ⟨h _ (.head _), List.forall_mem_cons.mpr ⟨h _ (.tail _ (.head _)), List.forall_mem_cons.mpr ⟨h _ (.tail _ (.tail _ (.head _))), h2⟩⟩⟩
/-- the row that a comprehension of cells made inside another -/
theorem row_inner {base n1 : Led} {z : Nat → Rat} {n : Nat} {ys : List Value} {I C D D' : Addr} {oI oC oD : Obj} (h : AccG base (fun n1 c v => ∃ a, v = .ref a ∧ (∃ t u, (a, tq (z c) t u) ∈ n1) ∧ ∀ q ∈ base, q.1 ≠ a) n ys n1) (hb : ∀ p ∈ [(I, oI), (C, oC), (D, oD)], p ∈ base) (ho : LCg.Off1 D' n1) :
    RowN (off3 I C D ((D', LCg.lst ys) :: n1)) D' n z := by
  obtain ⟨hl, hs, hc⟩ := h
  obtain ⟨as, rfl, ha⟩ := refs_of (Q := fun c a => (∃ t u, (a, tq (z c) t u) ∈ n1) ∧ ∀ q ∈ base, q.1 ≠ a) hc
  have bI := hb _ (.head _)
  have bC := hb _ (.tail _ (.head _))
  have bD := hb _ (.tail _ (.tail _ (.head _)))
  refine ⟨as, _, by simpa using hl, off3_mem (.head _) (Ne.symm (off1N ho (hs _ bI))) (Ne.symm (off1N ho (hs _ bC))) (Ne.symm (off1N ho (hs _ bD))), fun c a e => ?_⟩
  obtain ⟨⟨t, u, q⟩, f⟩ := ha c a e
  exact ⟨t, u, off3_mem (.tail _ q) (Ne.symm (f _ bI)) (Ne.symm (f _ bC)) (Ne.symm (f _ bD))⟩
theorem c_sq (w : World) (g : Addr) (n : Nat) (x : IMx) (news : Led) (h : IGrid news g n n x) (hn : 0 < n) (hnn : n < 100) :
    Con w 148 [.ref g] news 6 (fun r tl => ∃ (G : Addr) (rs : List Addr) (k : Nat), r = .ref G ∧ (G, W.listOf (rs.map Value.ref).toArray k) ∈ tl ∧ rs.length = n ∧ (∀ j r, rs[j]? = some r → RowN tl r n fun c => ((x j c : Int) : Rat)) ∧ ∀ p ∈ news, p ∈ tl) := by
  have hr0 : PySem.Challenge.rw_tk0004_01 = PySem.Challenge.rw_tk0004_01 ∨ hd.heap_39 w.params = [] := by k_fill; exact rowK w
  clear hr0
  refine con_enter0 [((Str.ofString "grid"), .ref g)] (put (Str.ofString "grid") (.ref g) fun _ => none) (by k_is) (by k_is) (fun s => BindsTo.of_eq rfl) (by rfl) (by intro _; rfl) (by intro _; rfl) rfl rfl rfl (by decide) ?_
  intro A h₀ L S l
  have hh := S.hh
  refine Ex.tup2 (Pc.fn S.X (S.glob (by k_is)) (by k_is) (Pl.v (Pv.loc (by with_unfolding_all rfl)) (Pl.nil (Ok.mono (S.call (c_shp w g n n x news h hn hnn hnn) (by decide)) ?_))))
  rintro r tl ⟨D0, t0, u0, rfl, rfl⟩
  refine Tup2P.mk (.head _) (Ex.ifF (Pb.of (Pb.or (Pb.ne (Pi.of (Pv.loc (by with_unfolding_all rfl))) (Pi.of (Pv.loc (by with_unfolding_all rfl)))) fun _ => Pb.eq (Pi.of (Pv.loc (by with_unfolding_all rfl))) Pi.const) ?_) ?_)
  · have e : ((n : Int) == 0) = false := beq_eq_false_iff_ne.mpr (by omega)
    rw [e]; simp
  generalize hB : (D0, ({ cls := .type "tuple", data := .seq #[.int (n : Int) t0, .int (n : Int) u0] } : Obj)) :: news = B
  have hsB : ∀ p ∈ news, p ∈ B := hB ▸ tl
  clear hB
  obtain ⟨vs, kk, hl, hm, hv⟩ := h
  refine Ex.ret (Pc.compL (AccG B fun n1 j v => ∃ r, v = .ref r ∧ RowN n1 r n fun c => ((x j c : Int) : Rat)) (Pv.loc (by with_unfolding_all rfl)) (fun i ys n1 hJ => hJ.2.1 _ (hsB _ hm)) (by simpa [hl] using leSz hnn) AccG.nil ?_ ?_)
  · intro i ys n1 I oI C oC D m₂ v hvi hJ hC hx hoff hne
    obtain ⟨r, rfl, us, k2, hl2, hm2, hu⟩ := hv i v (by simpa using hvi)
    have hbase := hJ.2.1
    refine Pc.compL (AccG ((I, oI) :: (C, oC) :: (D, LCg.lst ys) :: n1) fun n2 c v => ∃ a, v = .ref a ∧ (∃ t u, (a, tq ((x i c : Int) : Rat) t u) ∈ n2) ∧ ∀ q ∈ (I, oI) :: (C, oC) :: (D, LCg.lst ys) :: n1, q.1 ≠ a) (Pv.own (.tail _ (.head _)) hC hx) (fun i' ys' n' hJ' => hJ'.2.1 _ (.tail _ (.tail _ (.tail _ (hbase _ (hsB _ hm2)))))) (by simpa [hl2] using leSz hnn) AccG.nil ?_ ?_
    · intro c ys2 n2 I2 oI2 C2 oC2 D2 m₃ v2 hv2 hJ2 hC2 hx2 hoff2 hne2
      have hcn : c < n := by
        have := (Array.getElem?_eq_some_iff.mp hv2).1
        simpa [hl2] using this
      obtain ⟨t, rfl⟩ := hu c v2 (by simpa using hv2)
      refine Pc.fn S.X (S.glob (by k_is)) (by k_is) (Pl.v (Pv.own (.tail _ (.head _)) hC2 hx2) (Pl.nil (Ok.mono (S.call (c_of w (x i c) t _) (by decide)) ?_)))
      rintro rv tl' ⟨a, u, rfl, rfl, la⟩
      have hb2 := hJ2.2.1
      refine CendP.mk ((a, tq ((x i c : Int) : Rat) t u) :: n2) (cend_sub (fun p hp => .tail _ hp) (List.forall_mem_cons.mpr ⟨.head _, fun p hp => .tail _ (.tail _ (.tail _ (.tail _ hp)))⟩)) ⟨⟨Ne.symm (Nat.ne_of_lt (la _ (.head _))), Ne.symm (Nat.ne_of_lt (la _ (.tail _ (.head _)))), Ne.symm (Nat.ne_of_lt (la _ (.tail _ (.tail _ (.head _)))))⟩, hoff2⟩ (hJ2.snoc (fun p hp => .tail _ (hb2 p hp)) (fun c v ⟨a, e, ⟨t, u, q⟩, f⟩ => ⟨a, e, ⟨t, u, .tail _ q⟩, f⟩) ⟨a, rfl, ⟨t, u, .head _⟩, fun q hq => Nat.ne_of_lt (la _ (.tail _ (.tail _ (.tail _ (hb2 q hq)))))⟩)
    · intro ys2 n2 D' hJ2 hoD' Un
      have e2 : us.toArray.size = n := by simpa using hl2
      rw [e2] at hJ2
      have hb2 := hJ2.2.1
      have hn1 : ∀ p ∈ n1, p ∈ off3 I C D ((D', LCg.lst ys2) :: n2) := off3_keep hoff fun p hp => .tail _ (hb2 _ (.tail _ (.tail _ (.tail _ hp))))
      exact CendP.mk (off3 I C D ((D', LCg.lst ys2) :: n2)) (cend_sub (n1 := n1) (fun p hp => .tail _ (hb2 p hp)) off3_sub) off3_off (hJ.snoc (fun p hp => hn1 p (hbase p hp)) (fun c v ⟨r, e, q⟩ => ⟨r, e, q.mono hn1⟩) ⟨D', rfl, row_inner hJ2 (List.forall_mem_cons.mpr ⟨.head _, List.forall_mem_cons.mpr ⟨.tail _ (.head _), List.forall_mem_cons.mpr ⟨.tail _ (.tail _ (.head _)), List.forall_mem_nil _⟩⟩⟩) hoD'⟩)
  · intro ys n1 Dg hJ _ _
    have e2 : vs.toArray.size = n := by simpa using hl
    rw [e2] at hJ
    obtain ⟨hly, hsy, hcy⟩ := hJ
    obtain ⟨rs, rfl, hr⟩ := refs_of (Q := fun j r => RowN n1 r n fun c => ((x j c : Int) : Rat)) hcy
    exact RetP.mk _ (fun p hp => hp) ⟨Dg, rs, _, rfl, .head _, by simpa using hly, fun j r e => (hr j r e).mono tl, fun p hp => .tail _ (hsy p (hsB p hp))⟩
theorem c_detg (w : World) (g : Addr) (n : Nat) (x : IMx) (d : Int) (t9 : Tok) (news : Led) (h : IGrid news g n n x) (hn : 0 < n) (hnn : n < 100) (O U : Nat → Rat → Mx → Prop) (NN : Nat → Nat → Rat → Mx → Prop) (H : Elim n ((d : Int) : Rat) O U NN) (h0 : O 0 1 fun j c => ((x j c : Int) : Rat)) (hb : (if d < 0 then -d else d) < 1000) :
    Con w 155 [.ref g, .int 9 t9] news 25 (fun r tl => Dec d r news tl) := by
  have hr0 : PySem.Challenge.rw_tk0004_01 = PySem.Challenge.rw_tk0004_01 ∨ hd.heap_39 w.params = [] := by k_fill; exact rowK w
  clear hr0
  refine con_enter0 [((Str.ofString "grid"), .ref g), ((Str.ofString "digits"), .int 9 t9)] (put (Str.ofString "digits") (.int 9 t9) (put (Str.ofString "grid") (.ref g) fun _ => none)) (by k_is) (by k_is) (fun s => BindsTo.of_eq rfl) (by rfl) (by intro _; rfl) (by intro _; rfl) rfl rfl rfl (by decide) ?_
  intro A h₀ L S l
  have hh := S.hh
  refine Ex.ret (Pc.fn S.X (S.glob (by k_is)) (by k_is) (Pl.cs (P1 := fun v tl => ∃ D t1 u1, v = .ref D ∧ (D, tq ((d : Int) : Rat) t1 u1) ∈ tl ∧ ∀ p ∈ news, p ∈ tl) (Pc.titem (Pc.fn S.X (S.glob (by k_is)) (by k_is) (Pl.cs (P1 := fun r tl => ∃ (G : Addr) (rs : List Addr) (k : Nat), r = .ref G ∧ (G, W.listOf (rs.map Value.ref).toArray k) ∈ tl ∧ rs.length = n ∧ (∀ j r, rs[j]? = some r → RowN tl r n fun c => ((x j c : Int) : Rat)) ∧ ∀ p ∈ news, p ∈ tl) (Pc.fn S.X (S.glob (by k_is)) (by k_is) (Pl.v (Pv.loc (by with_unfolding_all rfl)) (Pl.nil (S.call (c_sq w g n x news h hn hnn) (by decide))))) ?_)) Pi.const) ?_))
  · rintro r tl ⟨G, rs, k, rfl, hG, hl, hr, hs⟩
    refine Pl.nil (Ok.mono (S.call (c_solve w n _ O U NN H _ G rs k tl hG hl hr h0 hn hnn) (by decide)) ?_)
    rintro r tl ⟨t, R, D, t1, u1, rfl, rfl⟩
    exact ⟨t, #[.ref R, .ref D].toList, 1, .ref D, rfl, .head _, by decide, by decide, rfl, rfl, D, t1, u1, rfl, .tail _ (.head _), fun p hp => .tail _ (.tail _ (hs p hp))⟩
  · rintro v tl ⟨D, t1, u1, rfl, hD, hs⟩
    refine Pl.v (Pv.loc (by with_unfolding_all rfl)) (Pl.nil (Ok.mono (S.call (c_decimal w d D t1 u1 t9 tl hD hb) (by decide)) ?_))
    rintro r tl' ⟨a, s, y, t, u, rfl, rfl, h1, h2, h3, h4⟩
    exact RetP.mk ((a, _) :: news) (List.forall_mem_cons.mpr ⟨.head _, fun p hp => .tail _ (hs p hp)⟩) ⟨a, s, y, t, u, rfl, rfl, h1, h2, h3, fun p hp => h4 p (hs p hp)⟩
end Mine
end
section
open PySem PySem.W PyProof.Rows PySem.Calls
set_option linter.all false
namespace Mine
def O2 (D0 : Rat) (i : Nat) (d : Rat) (x : Mx) : Prop :=
  match i with
  | 0 => d * (x 0 0 * x 1 1 - x 0 1 * x 1 0) = D0 ∧ Sz 1 d ∧ Sz 4 (x 0 0) ∧ Sz 4 (x 0 1) ∧ Sz 4 (x 1 0) ∧ Sz 4 (x 1 1)
  | 1 => d * (x 0 0 * x 1 1 - x 0 1 * x 1 0) = D0 ∧ x 0 0 = 1 ∧ x 1 0 = 0 ∧ Sz 5 d ∧ Sz 17 (x 0 0) ∧ Sz 17 (x 0 1) ∧ Sz 17 (x 1 0) ∧ Sz 17 (x 1 1)
  | _ => d * (x 0 0 * x 1 1 - x 0 1 * x 1 0) = D0 ∧ x 0 0 = 1 ∧ x 1 0 = 0 ∧ x 0 1 = 0 ∧ x 1 1 = 1 ∧ Sz 22 d ∧ Sz 69 (x 0 0) ∧ Sz 69 (x 0 1) ∧ Sz 69 (x 1 0) ∧ Sz 69 (x 1 1)
def U2 (D0 : Rat) (i : Nat) (d : Rat) (x : Mx) : Prop :=
  match i with
  | 0 => d * (x 0 0 * x 1 1 - x 0 1 * x 1 0) = D0 ∧ x 0 0 ≠ 0 ∧ Sz 1 d ∧ Sz 4 (x 0 0) ∧ Sz 4 (x 0 1) ∧ Sz 4 (x 1 0) ∧ Sz 4 (x 1 1)
  | _ => d * (x 0 0 * x 1 1 - x 0 1 * x 1 0) = D0 ∧ x 0 0 = 1 ∧ x 1 0 = 0 ∧ x 1 1 ≠ 0 ∧ Sz 5 d ∧ Sz 17 (x 0 0) ∧ Sz 17 (x 0 1) ∧ Sz 17 (x 1 0) ∧ Sz 17 (x 1 1)
def N2 (D0 : Rat) (i j : Nat) (d : Rat) (x : Mx) : Prop :=
  match i, j with
  | 0, 0 => d * (x 0 0 * x 1 1 - x 0 1 * x 1 0) = D0 ∧ x 0 0 = 1 ∧ Sz 5 d ∧ Sz 8 (x 0 0) ∧ Sz 8 (x 0 1) ∧ Sz 4 (x 1 0) ∧ Sz 4 (x 1 1)
  | 0, 1 => d * (x 0 0 * x 1 1 - x 0 1 * x 1 0) = D0 ∧ x 0 0 = 1 ∧ Sz 5 d ∧ Sz 8 (x 0 0) ∧ Sz 8 (x 0 1) ∧ Sz 4 (x 1 0) ∧ Sz 4 (x 1 1)
  | 0, _ => d * (x 0 0 * x 1 1 - x 0 1 * x 1 0) = D0 ∧ x 0 0 = 1 ∧ x 1 0 = 0 ∧ Sz 5 d ∧ Sz 8 (x 0 0) ∧ Sz 8 (x 0 1) ∧ Sz 17 (x 1 0) ∧ Sz 17 (x 1 1)
  | _, 0 => d * (x 0 0 * x 1 1 - x 0 1 * x 1 0) = D0 ∧ x 0 0 = 1 ∧ x 1 0 = 0 ∧ x 1 1 = 1 ∧ Sz 22 d ∧ Sz 17 (x 0 0) ∧ Sz 17 (x 0 1) ∧ Sz 34 (x 1 0) ∧ Sz 34 (x 1 1)
  | _, 1 => d * (x 0 0 * x 1 1 - x 0 1 * x 1 0) = D0 ∧ x 0 0 = 1 ∧ x 1 0 = 0 ∧ x 1 1 = 1 ∧ x 0 1 = 0 ∧ Sz 22 d ∧ Sz 69 (x 0 0) ∧ Sz 69 (x 0 1) ∧ Sz 34 (x 1 0) ∧ Sz 34 (x 1 1)
  | _, _ => d * (x 0 0 * x 1 1 - x 0 1 * x 1 0) = D0 ∧ x 0 0 = 1 ∧ x 1 0 = 0 ∧ x 1 1 = 1 ∧ x 0 1 = 0 ∧ Sz 22 d ∧ Sz 69 (x 0 0) ∧ Sz 69 (x 0 1) ∧ Sz 34 (x 1 0) ∧ Sz 34 (x 1 1)
theorem one2 {P : Nat → Prop} (h0 : P 0) (h1 : P 1) : ∀ c, c < 2 → P c := fun c hc => match c, hc with
  | 0, _ => h0
  | 1, _ => h1
  | c + 2, h => absurd h (by omega)
theorem all2 {P : Nat → Nat → Prop} (h00 : P 0 0) (h01 : P 0 1) (h10 : P 1 0) (h11 : P 1 1) : ∀ a c, a < 2 → c < 2 → P a c := fun a c ha hc => one2 (P := fun a => ∀ c, c < 2 → P a c) (one2 h00 h01) (one2 h10 h11) a ha c hc
theorem el2_none {D0 : Rat} : ∀ i d x, i < 2 → O2 D0 i d x → (∀ j, i ≤ j → j < 2 → x j i = 0) → D0 = 0 := by
  intro i d x hi h hz
  rcases i with _ | i
  · obtain ⟨hd, sd, s00, s01, s10, s11⟩ := h; exact none2_0 hd  (hz 0 (by decide) (by decide)) (hz 1 (by decide) (by decide))
  rcases i with _ | i
  · obtain ⟨hd, e00, e10, sd, s00, s01, s10, s11⟩ := h; exact none2_1 hd e00 e10 (hz 1 (by decide) (by decide))
  exact absurd hi (by omega)
theorem el2_keep {D0 : Rat} : ∀ i d x, i < 2 → O2 D0 i d x → x i i ≠ 0 → U2 D0 i d x := by
  intro i d x hi h hp
  rcases i with _ | i
  · obtain ⟨hd, sd, s00, s01, s10, s11⟩ := h; exact ⟨hd, hp, sd, s00, s01, s10, s11⟩
  rcases i with _ | i
  · obtain ⟨hd, e00, e10, sd, s00, s01, s10, s11⟩ := h; exact ⟨hd, e00, e10, hp, sd, s00, s01, s10, s11⟩
  exact absurd hi (by omega)
theorem el2_swap {D0 : Rat} : ∀ i k d x, i < 2 → O2 D0 i d x → i < k → k < 2 → x k i ≠ 0 → U2 D0 i (-d) (swR x i k) := by
  intro i k d x hi h hik hk hp
  rcases i with _ | i
  · rcases k with _ | k
    · exact absurd hik (by omega)
    rcases k with _ | k
    · obtain ⟨hd, sd, s00, s01, s10, s11⟩ := h; exact ⟨swap2_01 hd, hp, sd.neg, s10, s11, s00, s01⟩
    exact absurd hk (by omega)
  rcases i with _ | i
  · rcases k with _ | k
    · exact absurd hik (by omega)
    rcases k with _ | k
    · exact absurd hik (by omega)
    exact absurd hk (by omega)
  exact absurd hi (by omega)
theorem el2_norm {D0 : Rat} : ∀ i d x, i < 2 → U2 D0 i d x → N2 D0 i 0 (d * x i i) (upR x i fun c => x i c / x i i) := by
  intro i d x hi h
  rcases i with _ | i
  · obtain ⟨hd, hp, sd, s00, s01, s10, s11⟩ := h; exact ⟨norm2_0 hp hd, div_self' hp, (sd.mul s00).mono (by decide), (s00.div s00 hp).mono (by decide), (s01.div s00 hp).mono (by decide), s10.mono (by decide), s11.mono (by decide)⟩
  rcases i with _ | i
  · obtain ⟨hd, e00, e10, hp, sd, s00, s01, s10, s11⟩ := h; exact ⟨norm2_1 hp hd, e00, zero_div' e10, div_self' hp, (sd.mul s11).mono (by decide), s00.mono (by decide), s01.mono (by decide), (s10.div s11 hp).mono (by decide), (s11.div s11 hp).mono (by decide)⟩
  exact absurd hi (by omega)
theorem el2_piv {D0 : Rat} : ∀ i d x, i < 2 → U2 D0 i d x → x i i ≠ 0 := by
  intro i d x hi h
  rcases i with _ | i
  · obtain ⟨hd, hp, sd, s00, s01, s10, s11⟩ := h; exact hp
  rcases i with _ | i
  · obtain ⟨hd, e00, e10, hp, sd, s00, s01, s10, s11⟩ := h; exact hp
  exact absurd hi (by omega)
theorem el2_sizeU {D0 : Rat} : ∀ i d x, i < 2 → U2 D0 i d x → Sz 900 d ∧ ∀ c, c < 2 → Sz 900 (x i c) := by
  intro i d x hi h
  rcases i with _ | i
  · obtain ⟨hd, hp, sd, s00, s01, s10, s11⟩ := h; exact ⟨sd.mono (by decide), one2 (P := fun c => Sz 900 (x 0 c)) (s00.mono (by decide)) (s01.mono (by decide))⟩
  rcases i with _ | i
  · obtain ⟨hd, e00, e10, hp, sd, s00, s01, s10, s11⟩ := h; exact ⟨sd.mono (by decide), one2 (P := fun c => Sz 900 (x 1 c)) (s10.mono (by decide)) (s11.mono (by decide))⟩
  exact absurd hi (by omega)
theorem el2_skip {D0 : Rat} : ∀ i j d x, i < 2 → j < 2 → N2 D0 i j d x → j = i ∨ x j i = 0 → N2 D0 i (j + 1) d x := by
  intro i j d x hi hj h hor
  rcases i with _ | i
  · rcases j with _ | j
    · obtain ⟨hd, ho, sd, s00, s01, s10, s11⟩ := h; exact ⟨hd, ho, sd, s00.mono (by decide), s01.mono (by decide), s10.mono (by decide), s11.mono (by decide)⟩
    rcases j with _ | j
    · obtain ⟨hd, ho, sd, s00, s01, s10, s11⟩ := h; have hz : x 1 0 = 0 := hor.resolve_left (by decide); exact ⟨hd, ho, hz, sd, s00.mono (by decide), s01.mono (by decide), s10.mono (by decide), s11.mono (by decide)⟩
    exact absurd hj (by omega)
  rcases i with _ | i
  · rcases j with _ | j
    · obtain ⟨hd, e00, e10, ho, sd, s00, s01, s10, s11⟩ := h; have hz : x 0 1 = 0 := hor.resolve_left (by decide); exact ⟨hd, e00, e10, ho, hz, sd, s00.mono (by decide), s01.mono (by decide), s10.mono (by decide), s11.mono (by decide)⟩
    rcases j with _ | j
    · obtain ⟨hd, e00, e10, ho, z0, sd, s00, s01, s10, s11⟩ := h; exact ⟨hd, e00, e10, ho, z0, sd, s00.mono (by decide), s01.mono (by decide), s10.mono (by decide), s11.mono (by decide)⟩
    exact absurd hj (by omega)
  exact absurd hi (by omega)
theorem el2_clear {D0 : Rat} : ∀ i j d x, i < 2 → j < 2 → N2 D0 i j d x → j ≠ i → N2 D0 i (j + 1) d (upR x j fun c => x j c - x j i * x i c) := by
  intro i j d x hi hj h hne
  rcases i with _ | i
  · rcases j with _ | j
    · exact absurd rfl hne
    rcases j with _ | j
    · obtain ⟨hd, ho, sd, s00, s01, s10, s11⟩ := h; exact ⟨clear2_01 hd, ho, clr_self ho, sd, s00.mono (by decide), s01.mono (by decide), (s10.sub (s10.mul s00)).mono (by decide), (s11.sub (s10.mul s01)).mono (by decide)⟩
    exact absurd hj (by omega)
  rcases i with _ | i
  · rcases j with _ | j
    · obtain ⟨hd, e00, e10, ho, sd, s00, s01, s10, s11⟩ := h; exact ⟨clear2_10 hd, clr_keep e00 e10, e10, ho, clr_self ho, sd, (s00.sub (s01.mul s10)).mono (by decide), (s01.sub (s01.mul s11)).mono (by decide), s10.mono (by decide), s11.mono (by decide)⟩
    rcases j with _ | j
    · exact absurd rfl hne
    exact absurd hj (by omega)
  exact absurd hi (by omega)
theorem el2_sizeN {D0 : Rat} : ∀ i j d x, i < 2 → j < 2 → N2 D0 i j d x → ∀ a c, a < 2 → c < 2 → Sz 400 (x a c) := by
  intro i j d x hi hj h
  rcases i with _ | i
  · rcases j with _ | j
    · obtain ⟨hd, ho, sd, s00, s01, s10, s11⟩ := h; exact all2 (P := fun a c => Sz 400 (x a c)) (s00.mono (by decide)) (s01.mono (by decide)) (s10.mono (by decide)) (s11.mono (by decide))
    rcases j with _ | j
    · obtain ⟨hd, ho, sd, s00, s01, s10, s11⟩ := h; exact all2 (P := fun a c => Sz 400 (x a c)) (s00.mono (by decide)) (s01.mono (by decide)) (s10.mono (by decide)) (s11.mono (by decide))
    exact absurd hj (by omega)
  rcases i with _ | i
  · rcases j with _ | j
    · obtain ⟨hd, e00, e10, ho, sd, s00, s01, s10, s11⟩ := h; exact all2 (P := fun a c => Sz 400 (x a c)) (s00.mono (by decide)) (s01.mono (by decide)) (s10.mono (by decide)) (s11.mono (by decide))
    rcases j with _ | j
    · obtain ⟨hd, e00, e10, ho, z0, sd, s00, s01, s10, s11⟩ := h; exact all2 (P := fun a c => Sz 400 (x a c)) (s00.mono (by decide)) (s01.mono (by decide)) (s10.mono (by decide)) (s11.mono (by decide))
    exact absurd hj (by omega)
  exact absurd hi (by omega)
theorem el2_next {D0 : Rat} : ∀ i d x, i < 2 → N2 D0 i 2 d x → O2 D0 (i + 1) d x := by
  intro i d x hi h
  rcases i with _ | i
  · obtain ⟨hd, ho, z1, sd, s00, s01, s10, s11⟩ := h; exact ⟨hd, ho, z1, sd, s00.mono (by decide), s01.mono (by decide), s10.mono (by decide), s11.mono (by decide)⟩
  rcases i with _ | i
  · obtain ⟨hd, e00, e10, ho, z0, sd, s00, s01, s10, s11⟩ := h; exact ⟨hd, e00, e10, z0, ho, sd, s00.mono (by decide), s01.mono (by decide), s10.mono (by decide), s11.mono (by decide)⟩
  exact absurd hi (by omega)
theorem el2_done {D0 : Rat} : ∀ d x, O2 D0 2 d x → d = D0 := by
  intro d x h
  obtain ⟨hd, e00, e10, e01, e11, sd, s00, s01, s10, s11⟩ := h
  exact end2 hd e00 e10 e01 e11
theorem elim2 (D0 : Rat) : Elim 2 D0 (O2 D0) (U2 D0) (N2 D0) := ⟨el2_none, el2_keep, el2_swap, el2_norm, el2_piv, el2_sizeU, el2_skip, el2_clear, el2_sizeN, el2_next, el2_done⟩
theorem det0_2 {x : IMx} {d : Int} (h : (x 0 0 * x 1 1 - x 0 1 * x 1 0) = d) (hs : ∀ a c, a < 2 → c < 2 → (x a c).natAbs < 16) : O2 ((d : Int) : Rat) 0 1 fun j c => ((x j c : Int) : Rat) := by
  have s : ∀ a c, a < 2 → c < 2 → Sz 4 ((x a c : Int) : Rat) := fun a c ha hc => ⟨hs a c ha hc, (by decide : 1 < 2 ^ 4)⟩
  refine ⟨?_, sz_one, s 0 0 (by decide) (by decide), s 0 1 (by decide) (by decide), s 1 0 (by decide) (by decide), s 1 1 (by decide) (by decide)⟩
  subst h; rw [Rat.one_mul]; simp only [Rat.intCast_sub, Rat.intCast_add, Rat.intCast_mul]
def O3 (D0 : Rat) (i : Nat) (d : Rat) (x : Mx) : Prop :=
  match i with
  | 0 => d * (x 0 0 * (x 1 1 * x 2 2 - x 1 2 * x 2 1) - x 0 1 * (x 1 0 * x 2 2 - x 1 2 * x 2 0) + x 0 2 * (x 1 0 * x 2 1 - x 1 1 * x 2 0)) = D0 ∧ Sz 1 d ∧ Sz 4 (x 0 0) ∧ Sz 4 (x 0 1) ∧ Sz 4 (x 0 2) ∧ Sz 4 (x 1 0) ∧ Sz 4 (x 1 1) ∧ Sz 4 (x 1 2) ∧ Sz 4 (x 2 0) ∧ Sz 4 (x 2 1) ∧ Sz 4 (x 2 2)
  | 1 => d * (x 0 0 * (x 1 1 * x 2 2 - x 1 2 * x 2 1) - x 0 1 * (x 1 0 * x 2 2 - x 1 2 * x 2 0) + x 0 2 * (x 1 0 * x 2 1 - x 1 1 * x 2 0)) = D0 ∧ x 0 0 = 1 ∧ x 1 0 = 0 ∧ x 2 0 = 0 ∧ Sz 5 d ∧ Sz 17 (x 0 0) ∧ Sz 17 (x 0 1) ∧ Sz 17 (x 0 2) ∧ Sz 17 (x 1 0) ∧ Sz 17 (x 1 1) ∧ Sz 17 (x 1 2) ∧ Sz 17 (x 2 0) ∧ Sz 17 (x 2 1) ∧ Sz 17 (x 2 2)
  | 2 => d * (x 0 0 * (x 1 1 * x 2 2 - x 1 2 * x 2 1) - x 0 1 * (x 1 0 * x 2 2 - x 1 2 * x 2 0) + x 0 2 * (x 1 0 * x 2 1 - x 1 1 * x 2 0)) = D0 ∧ x 0 0 = 1 ∧ x 1 0 = 0 ∧ x 2 0 = 0 ∧ x 0 1 = 0 ∧ x 1 1 = 1 ∧ x 2 1 = 0 ∧ Sz 22 d ∧ Sz 69 (x 0 0) ∧ Sz 69 (x 0 1) ∧ Sz 69 (x 0 2) ∧ Sz 69 (x 1 0) ∧ Sz 69 (x 1 1) ∧ Sz 69 (x 1 2) ∧ Sz 69 (x 2 0) ∧ Sz 69 (x 2 1) ∧ Sz 69 (x 2 2)
  | _ => d * (x 0 0 * (x 1 1 * x 2 2 - x 1 2 * x 2 1) - x 0 1 * (x 1 0 * x 2 2 - x 1 2 * x 2 0) + x 0 2 * (x 1 0 * x 2 1 - x 1 1 * x 2 0)) = D0 ∧ x 0 0 = 1 ∧ x 1 0 = 0 ∧ x 2 0 = 0 ∧ x 0 1 = 0 ∧ x 1 1 = 1 ∧ x 2 1 = 0 ∧ x 0 2 = 0 ∧ x 1 2 = 0 ∧ x 2 2 = 1 ∧ Sz 91 d ∧ Sz 277 (x 0 0) ∧ Sz 277 (x 0 1) ∧ Sz 277 (x 0 2) ∧ Sz 277 (x 1 0) ∧ Sz 277 (x 1 1) ∧ Sz 277 (x 1 2) ∧ Sz 277 (x 2 0) ∧ Sz 277 (x 2 1) ∧ Sz 277 (x 2 2)
def U3 (D0 : Rat) (i : Nat) (d : Rat) (x : Mx) : Prop :=
  match i with
  | 0 => d * (x 0 0 * (x 1 1 * x 2 2 - x 1 2 * x 2 1) - x 0 1 * (x 1 0 * x 2 2 - x 1 2 * x 2 0) + x 0 2 * (x 1 0 * x 2 1 - x 1 1 * x 2 0)) = D0 ∧ x 0 0 ≠ 0 ∧ Sz 1 d ∧ Sz 4 (x 0 0) ∧ Sz 4 (x 0 1) ∧ Sz 4 (x 0 2) ∧ Sz 4 (x 1 0) ∧ Sz 4 (x 1 1) ∧ Sz 4 (x 1 2) ∧ Sz 4 (x 2 0) ∧ Sz 4 (x 2 1) ∧ Sz 4 (x 2 2)
  | 1 => d * (x 0 0 * (x 1 1 * x 2 2 - x 1 2 * x 2 1) - x 0 1 * (x 1 0 * x 2 2 - x 1 2 * x 2 0) + x 0 2 * (x 1 0 * x 2 1 - x 1 1 * x 2 0)) = D0 ∧ x 0 0 = 1 ∧ x 1 0 = 0 ∧ x 2 0 = 0 ∧ x 1 1 ≠ 0 ∧ Sz 5 d ∧ Sz 17 (x 0 0) ∧ Sz 17 (x 0 1) ∧ Sz 17 (x 0 2) ∧ Sz 17 (x 1 0) ∧ Sz 17 (x 1 1) ∧ Sz 17 (x 1 2) ∧ Sz 17 (x 2 0) ∧ Sz 17 (x 2 1) ∧ Sz 17 (x 2 2)
  | _ => d * (x 0 0 * (x 1 1 * x 2 2 - x 1 2 * x 2 1) - x 0 1 * (x 1 0 * x 2 2 - x 1 2 * x 2 0) + x 0 2 * (x 1 0 * x 2 1 - x 1 1 * x 2 0)) = D0 ∧ x 0 0 = 1 ∧ x 1 0 = 0 ∧ x 2 0 = 0 ∧ x 0 1 = 0 ∧ x 1 1 = 1 ∧ x 2 1 = 0 ∧ x 2 2 ≠ 0 ∧ Sz 22 d ∧ Sz 69 (x 0 0) ∧ Sz 69 (x 0 1) ∧ Sz 69 (x 0 2) ∧ Sz 69 (x 1 0) ∧ Sz 69 (x 1 1) ∧ Sz 69 (x 1 2) ∧ Sz 69 (x 2 0) ∧ Sz 69 (x 2 1) ∧ Sz 69 (x 2 2)
def N3 (D0 : Rat) (i j : Nat) (d : Rat) (x : Mx) : Prop :=
  match i, j with
  | 0, 0 => d * (x 0 0 * (x 1 1 * x 2 2 - x 1 2 * x 2 1) - x 0 1 * (x 1 0 * x 2 2 - x 1 2 * x 2 0) + x 0 2 * (x 1 0 * x 2 1 - x 1 1 * x 2 0)) = D0 ∧ x 0 0 = 1 ∧ Sz 5 d ∧ Sz 8 (x 0 0) ∧ Sz 8 (x 0 1) ∧ Sz 8 (x 0 2) ∧ Sz 4 (x 1 0) ∧ Sz 4 (x 1 1) ∧ Sz 4 (x 1 2) ∧ Sz 4 (x 2 0) ∧ Sz 4 (x 2 1) ∧ Sz 4 (x 2 2)
  | 0, 1 => d * (x 0 0 * (x 1 1 * x 2 2 - x 1 2 * x 2 1) - x 0 1 * (x 1 0 * x 2 2 - x 1 2 * x 2 0) + x 0 2 * (x 1 0 * x 2 1 - x 1 1 * x 2 0)) = D0 ∧ x 0 0 = 1 ∧ Sz 5 d ∧ Sz 8 (x 0 0) ∧ Sz 8 (x 0 1) ∧ Sz 8 (x 0 2) ∧ Sz 4 (x 1 0) ∧ Sz 4 (x 1 1) ∧ Sz 4 (x 1 2) ∧ Sz 4 (x 2 0) ∧ Sz 4 (x 2 1) ∧ Sz 4 (x 2 2)
  | 0, 2 => d * (x 0 0 * (x 1 1 * x 2 2 - x 1 2 * x 2 1) - x 0 1 * (x 1 0 * x 2 2 - x 1 2 * x 2 0) + x 0 2 * (x 1 0 * x 2 1 - x 1 1 * x 2 0)) = D0 ∧ x 0 0 = 1 ∧ x 1 0 = 0 ∧ Sz 5 d ∧ Sz 8 (x 0 0) ∧ Sz 8 (x 0 1) ∧ Sz 8 (x 0 2) ∧ Sz 17 (x 1 0) ∧ Sz 17 (x 1 1) ∧ Sz 17 (x 1 2) ∧ Sz 4 (x 2 0) ∧ Sz 4 (x 2 1) ∧ Sz 4 (x 2 2)
  | 0, _ => d * (x 0 0 * (x 1 1 * x 2 2 - x 1 2 * x 2 1) - x 0 1 * (x 1 0 * x 2 2 - x 1 2 * x 2 0) + x 0 2 * (x 1 0 * x 2 1 - x 1 1 * x 2 0)) = D0 ∧ x 0 0 = 1 ∧ x 1 0 = 0 ∧ x 2 0 = 0 ∧ Sz 5 d ∧ Sz 8 (x 0 0) ∧ Sz 8 (x 0 1) ∧ Sz 8 (x 0 2) ∧ Sz 17 (x 1 0) ∧ Sz 17 (x 1 1) ∧ Sz 17 (x 1 2) ∧ Sz 17 (x 2 0) ∧ Sz 17 (x 2 1) ∧ Sz 17 (x 2 2)
  | 1, 0 => d * (x 0 0 * (x 1 1 * x 2 2 - x 1 2 * x 2 1) - x 0 1 * (x 1 0 * x 2 2 - x 1 2 * x 2 0) + x 0 2 * (x 1 0 * x 2 1 - x 1 1 * x 2 0)) = D0 ∧ x 0 0 = 1 ∧ x 1 0 = 0 ∧ x 2 0 = 0 ∧ x 1 1 = 1 ∧ Sz 22 d ∧ Sz 17 (x 0 0) ∧ Sz 17 (x 0 1) ∧ Sz 17 (x 0 2) ∧ Sz 34 (x 1 0) ∧ Sz 34 (x 1 1) ∧ Sz 34 (x 1 2) ∧ Sz 17 (x 2 0) ∧ Sz 17 (x 2 1) ∧ Sz 17 (x 2 2)
  | 1, 1 => d * (x 0 0 * (x 1 1 * x 2 2 - x 1 2 * x 2 1) - x 0 1 * (x 1 0 * x 2 2 - x 1 2 * x 2 0) + x 0 2 * (x 1 0 * x 2 1 - x 1 1 * x 2 0)) = D0 ∧ x 0 0 = 1 ∧ x 1 0 = 0 ∧ x 2 0 = 0 ∧ x 1 1 = 1 ∧ x 0 1 = 0 ∧ Sz 22 d ∧ Sz 69 (x 0 0) ∧ Sz 69 (x 0 1) ∧ Sz 69 (x 0 2) ∧ Sz 34 (x 1 0) ∧ Sz 34 (x 1 1) ∧ Sz 34 (x 1 2) ∧ Sz 17 (x 2 0) ∧ Sz 17 (x 2 1) ∧ Sz 17 (x 2 2)
  | 1, 2 => d * (x 0 0 * (x 1 1 * x 2 2 - x 1 2 * x 2 1) - x 0 1 * (x 1 0 * x 2 2 - x 1 2 * x 2 0) + x 0 2 * (x 1 0 * x 2 1 - x 1 1 * x 2 0)) = D0 ∧ x 0 0 = 1 ∧ x 1 0 = 0 ∧ x 2 0 = 0 ∧ x 1 1 = 1 ∧ x 0 1 = 0 ∧ Sz 22 d ∧ Sz 69 (x 0 0) ∧ Sz 69 (x 0 1) ∧ Sz 69 (x 0 2) ∧ Sz 34 (x 1 0) ∧ Sz 34 (x 1 1) ∧ Sz 34 (x 1 2) ∧ Sz 17 (x 2 0) ∧ Sz 17 (x 2 1) ∧ Sz 17 (x 2 2)
  | 1, _ => d * (x 0 0 * (x 1 1 * x 2 2 - x 1 2 * x 2 1) - x 0 1 * (x 1 0 * x 2 2 - x 1 2 * x 2 0) + x 0 2 * (x 1 0 * x 2 1 - x 1 1 * x 2 0)) = D0 ∧ x 0 0 = 1 ∧ x 1 0 = 0 ∧ x 2 0 = 0 ∧ x 1 1 = 1 ∧ x 0 1 = 0 ∧ x 2 1 = 0 ∧ Sz 22 d ∧ Sz 69 (x 0 0) ∧ Sz 69 (x 0 1) ∧ Sz 69 (x 0 2) ∧ Sz 34 (x 1 0) ∧ Sz 34 (x 1 1) ∧ Sz 34 (x 1 2) ∧ Sz 69 (x 2 0) ∧ Sz 69 (x 2 1) ∧ Sz 69 (x 2 2)
  | _, 0 => d * (x 0 0 * (x 1 1 * x 2 2 - x 1 2 * x 2 1) - x 0 1 * (x 1 0 * x 2 2 - x 1 2 * x 2 0) + x 0 2 * (x 1 0 * x 2 1 - x 1 1 * x 2 0)) = D0 ∧ x 0 0 = 1 ∧ x 1 0 = 0 ∧ x 2 0 = 0 ∧ x 0 1 = 0 ∧ x 1 1 = 1 ∧ x 2 1 = 0 ∧ x 2 2 = 1 ∧ Sz 91 d ∧ Sz 69 (x 0 0) ∧ Sz 69 (x 0 1) ∧ Sz 69 (x 0 2) ∧ Sz 69 (x 1 0) ∧ Sz 69 (x 1 1) ∧ Sz 69 (x 1 2) ∧ Sz 138 (x 2 0) ∧ Sz 138 (x 2 1) ∧ Sz 138 (x 2 2)
  | _, 1 => d * (x 0 0 * (x 1 1 * x 2 2 - x 1 2 * x 2 1) - x 0 1 * (x 1 0 * x 2 2 - x 1 2 * x 2 0) + x 0 2 * (x 1 0 * x 2 1 - x 1 1 * x 2 0)) = D0 ∧ x 0 0 = 1 ∧ x 1 0 = 0 ∧ x 2 0 = 0 ∧ x 0 1 = 0 ∧ x 1 1 = 1 ∧ x 2 1 = 0 ∧ x 2 2 = 1 ∧ x 0 2 = 0 ∧ Sz 91 d ∧ Sz 277 (x 0 0) ∧ Sz 277 (x 0 1) ∧ Sz 277 (x 0 2) ∧ Sz 69 (x 1 0) ∧ Sz 69 (x 1 1) ∧ Sz 69 (x 1 2) ∧ Sz 138 (x 2 0) ∧ Sz 138 (x 2 1) ∧ Sz 138 (x 2 2)
  | _, 2 => d * (x 0 0 * (x 1 1 * x 2 2 - x 1 2 * x 2 1) - x 0 1 * (x 1 0 * x 2 2 - x 1 2 * x 2 0) + x 0 2 * (x 1 0 * x 2 1 - x 1 1 * x 2 0)) = D0 ∧ x 0 0 = 1 ∧ x 1 0 = 0 ∧ x 2 0 = 0 ∧ x 0 1 = 0 ∧ x 1 1 = 1 ∧ x 2 1 = 0 ∧ x 2 2 = 1 ∧ x 0 2 = 0 ∧ x 1 2 = 0 ∧ Sz 91 d ∧ Sz 277 (x 0 0) ∧ Sz 277 (x 0 1) ∧ Sz 277 (x 0 2) ∧ Sz 277 (x 1 0) ∧ Sz 277 (x 1 1) ∧ Sz 277 (x 1 2) ∧ Sz 138 (x 2 0) ∧ Sz 138 (x 2 1) ∧ Sz 138 (x 2 2)
  | _, _ => d * (x 0 0 * (x 1 1 * x 2 2 - x 1 2 * x 2 1) - x 0 1 * (x 1 0 * x 2 2 - x 1 2 * x 2 0) + x 0 2 * (x 1 0 * x 2 1 - x 1 1 * x 2 0)) = D0 ∧ x 0 0 = 1 ∧ x 1 0 = 0 ∧ x 2 0 = 0 ∧ x 0 1 = 0 ∧ x 1 1 = 1 ∧ x 2 1 = 0 ∧ x 2 2 = 1 ∧ x 0 2 = 0 ∧ x 1 2 = 0 ∧ Sz 91 d ∧ Sz 277 (x 0 0) ∧ Sz 277 (x 0 1) ∧ Sz 277 (x 0 2) ∧ Sz 277 (x 1 0) ∧ Sz 277 (x 1 1) ∧ Sz 277 (x 1 2) ∧ Sz 138 (x 2 0) ∧ Sz 138 (x 2 1) ∧ Sz 138 (x 2 2)
theorem one3 {P : Nat → Prop} (h0 : P 0) (h1 : P 1) (h2 : P 2) : ∀ c, c < 3 → P c := fun c hc => match c, hc with
  | 0, _ => h0
  | 1, _ => h1
  | 2, _ => h2
  | c + 3, h => absurd h (by omega)
theorem all3 {P : Nat → Nat → Prop} (h00 : P 0 0) (h01 : P 0 1) (h02 : P 0 2) (h10 : P 1 0) (h11 : P 1 1) (h12 : P 1 2) (h20 : P 2 0) (h21 : P 2 1) (h22 : P 2 2) : ∀ a c, a < 3 → c < 3 → P a c := fun a c ha hc => one3 (P := fun a => ∀ c, c < 3 → P a c) (one3 h00 h01 h02) (one3 h10 h11 h12) (one3 h20 h21 h22) a ha c hc
theorem el3_none {D0 : Rat} : ∀ i d x, i < 3 → O3 D0 i d x → (∀ j, i ≤ j → j < 3 → x j i = 0) → D0 = 0 := by
  intro i d x hi h hz
  rcases i with _ | i
  · obtain ⟨hd, sd, s00, s01, s02, s10, s11, s12, s20, s21, s22⟩ := h; exact none3_0 hd  (hz 0 (by decide) (by decide)) (hz 1 (by decide) (by decide)) (hz 2 (by decide) (by decide))
  rcases i with _ | i
  · obtain ⟨hd, e00, e10, e20, sd, s00, s01, s02, s10, s11, s12, s20, s21, s22⟩ := h; exact none3_1 hd e00 e10 e20 (hz 1 (by decide) (by decide)) (hz 2 (by decide) (by decide))
  rcases i with _ | i
  · obtain ⟨hd, e00, e10, e20, e01, e11, e21, sd, s00, s01, s02, s10, s11, s12, s20, s21, s22⟩ := h; exact none3_2 hd e00 e10 e20 e01 e11 e21 (hz 2 (by decide) (by decide))
  exact absurd hi (by omega)
theorem el3_keep {D0 : Rat} : ∀ i d x, i < 3 → O3 D0 i d x → x i i ≠ 0 → U3 D0 i d x := by
  intro i d x hi h hp
  rcases i with _ | i
  · obtain ⟨hd, sd, s00, s01, s02, s10, s11, s12, s20, s21, s22⟩ := h; exact ⟨hd, hp, sd, s00, s01, s02, s10, s11, s12, s20, s21, s22⟩
  rcases i with _ | i
  · obtain ⟨hd, e00, e10, e20, sd, s00, s01, s02, s10, s11, s12, s20, s21, s22⟩ := h; exact ⟨hd, e00, e10, e20, hp, sd, s00, s01, s02, s10, s11, s12, s20, s21, s22⟩
  rcases i with _ | i
  · obtain ⟨hd, e00, e10, e20, e01, e11, e21, sd, s00, s01, s02, s10, s11, s12, s20, s21, s22⟩ := h; exact ⟨hd, e00, e10, e20, e01, e11, e21, hp, sd, s00, s01, s02, s10, s11, s12, s20, s21, s22⟩
  exact absurd hi (by omega)
theorem el3_swap {D0 : Rat} : ∀ i k d x, i < 3 → O3 D0 i d x → i < k → k < 3 → x k i ≠ 0 → U3 D0 i (-d) (swR x i k) := by
  intro i k d x hi h hik hk hp
  rcases i with _ | i
  · rcases k with _ | k
    · exact absurd hik (by omega)
    rcases k with _ | k
    · obtain ⟨hd, sd, s00, s01, s02, s10, s11, s12, s20, s21, s22⟩ := h; exact ⟨swap3_01 hd, hp, sd.neg, s10, s11, s12, s00, s01, s02, s20, s21, s22⟩
    rcases k with _ | k
    · obtain ⟨hd, sd, s00, s01, s02, s10, s11, s12, s20, s21, s22⟩ := h; exact ⟨swap3_02 hd, hp, sd.neg, s20, s21, s22, s10, s11, s12, s00, s01, s02⟩
    exact absurd hk (by omega)
  rcases i with _ | i
  · rcases k with _ | k
    · exact absurd hik (by omega)
    rcases k with _ | k
    · exact absurd hik (by omega)
    rcases k with _ | k
    · obtain ⟨hd, e00, e10, e20, sd, s00, s01, s02, s10, s11, s12, s20, s21, s22⟩ := h; exact ⟨swap3_12 hd, e00, e20, e10, hp, sd.neg, s00, s01, s02, s20, s21, s22, s10, s11, s12⟩
    exact absurd hk (by omega)
  rcases i with _ | i
  · rcases k with _ | k
    · exact absurd hik (by omega)
    rcases k with _ | k
    · exact absurd hik (by omega)
    rcases k with _ | k
    · exact absurd hik (by omega)
    exact absurd hk (by omega)
  exact absurd hi (by omega)
theorem el3_norm {D0 : Rat} : ∀ i d x, i < 3 → U3 D0 i d x → N3 D0 i 0 (d * x i i) (upR x i fun c => x i c / x i i) := by
  intro i d x hi h
  rcases i with _ | i
  · obtain ⟨hd, hp, sd, s00, s01, s02, s10, s11, s12, s20, s21, s22⟩ := h; exact ⟨norm3_0 hp hd, div_self' hp, (sd.mul s00).mono (by decide), (s00.div s00 hp).mono (by decide), (s01.div s00 hp).mono (by decide), (s02.div s00 hp).mono (by decide), s10.mono (by decide), s11.mono (by decide), s12.mono (by decide), s20.mono (by decide), s21.mono (by decide), s22.mono (by decide)⟩
  rcases i with _ | i
  · obtain ⟨hd, e00, e10, e20, hp, sd, s00, s01, s02, s10, s11, s12, s20, s21, s22⟩ := h; exact ⟨norm3_1 hp hd, e00, zero_div' e10, e20, div_self' hp, (sd.mul s11).mono (by decide), s00.mono (by decide), s01.mono (by decide), s02.mono (by decide), (s10.div s11 hp).mono (by decide), (s11.div s11 hp).mono (by decide), (s12.div s11 hp).mono (by decide), s20.mono (by decide), s21.mono (by decide), s22.mono (by decide)⟩
  rcases i with _ | i
  · obtain ⟨hd, e00, e10, e20, e01, e11, e21, hp, sd, s00, s01, s02, s10, s11, s12, s20, s21, s22⟩ := h; exact ⟨norm3_2 hp hd, e00, e10, zero_div' e20, e01, e11, zero_div' e21, div_self' hp, (sd.mul s22).mono (by decide), s00.mono (by decide), s01.mono (by decide), s02.mono (by decide), s10.mono (by decide), s11.mono (by decide), s12.mono (by decide), (s20.div s22 hp).mono (by decide), (s21.div s22 hp).mono (by decide), (s22.div s22 hp).mono (by decide)⟩
  exact absurd hi (by omega)
theorem el3_piv {D0 : Rat} : ∀ i d x, i < 3 → U3 D0 i d x → x i i ≠ 0 := by
  intro i d x hi h
  rcases i with _ | i
  · obtain ⟨hd, hp, sd, s00, s01, s02, s10, s11, s12, s20, s21, s22⟩ := h; exact hp
  rcases i with _ | i
  · obtain ⟨hd, e00, e10, e20, hp, sd, s00, s01, s02, s10, s11, s12, s20, s21, s22⟩ := h; exact hp
  rcases i with _ | i
  · obtain ⟨hd, e00, e10, e20, e01, e11, e21, hp, sd, s00, s01, s02, s10, s11, s12, s20, s21, s22⟩ := h; exact hp
  exact absurd hi (by omega)
theorem el3_sizeU {D0 : Rat} : ∀ i d x, i < 3 → U3 D0 i d x → Sz 900 d ∧ ∀ c, c < 3 → Sz 900 (x i c) := by
  intro i d x hi h
  rcases i with _ | i
  · obtain ⟨hd, hp, sd, s00, s01, s02, s10, s11, s12, s20, s21, s22⟩ := h; exact ⟨sd.mono (by decide), one3 (P := fun c => Sz 900 (x 0 c)) (s00.mono (by decide)) (s01.mono (by decide)) (s02.mono (by decide))⟩
  rcases i with _ | i
  · obtain ⟨hd, e00, e10, e20, hp, sd, s00, s01, s02, s10, s11, s12, s20, s21, s22⟩ := h; exact ⟨sd.mono (by decide), one3 (P := fun c => Sz 900 (x 1 c)) (s10.mono (by decide)) (s11.mono (by decide)) (s12.mono (by decide))⟩
  rcases i with _ | i
  · obtain ⟨hd, e00, e10, e20, e01, e11, e21, hp, sd, s00, s01, s02, s10, s11, s12, s20, s21, s22⟩ := h; exact ⟨sd.mono (by decide), one3 (P := fun c => Sz 900 (x 2 c)) (s20.mono (by decide)) (s21.mono (by decide)) (s22.mono (by decide))⟩
  exact absurd hi (by omega)
theorem el3_skip {D0 : Rat} : ∀ i j d x, i < 3 → j < 3 → N3 D0 i j d x → j = i ∨ x j i = 0 → N3 D0 i (j + 1) d x := by
  intro i j d x hi hj h hor
  rcases i with _ | i
  · rcases j with _ | j
    · obtain ⟨hd, ho, sd, s00, s01, s02, s10, s11, s12, s20, s21, s22⟩ := h; exact ⟨hd, ho, sd, s00.mono (by decide), s01.mono (by decide), s02.mono (by decide), s10.mono (by decide), s11.mono (by decide), s12.mono (by decide), s20.mono (by decide), s21.mono (by decide), s22.mono (by decide)⟩
    rcases j with _ | j
    · obtain ⟨hd, ho, sd, s00, s01, s02, s10, s11, s12, s20, s21, s22⟩ := h; have hz : x 1 0 = 0 := hor.resolve_left (by decide); exact ⟨hd, ho, hz, sd, s00.mono (by decide), s01.mono (by decide), s02.mono (by decide), s10.mono (by decide), s11.mono (by decide), s12.mono (by decide), s20.mono (by decide), s21.mono (by decide), s22.mono (by decide)⟩
    rcases j with _ | j
    · obtain ⟨hd, ho, z1, sd, s00, s01, s02, s10, s11, s12, s20, s21, s22⟩ := h; have hz : x 2 0 = 0 := hor.resolve_left (by decide); exact ⟨hd, ho, z1, hz, sd, s00.mono (by decide), s01.mono (by decide), s02.mono (by decide), s10.mono (by decide), s11.mono (by decide), s12.mono (by decide), s20.mono (by decide), s21.mono (by decide), s22.mono (by decide)⟩
    exact absurd hj (by omega)
  rcases i with _ | i
  · rcases j with _ | j
    · obtain ⟨hd, e00, e10, e20, ho, sd, s00, s01, s02, s10, s11, s12, s20, s21, s22⟩ := h; have hz : x 0 1 = 0 := hor.resolve_left (by decide); exact ⟨hd, e00, e10, e20, ho, hz, sd, s00.mono (by decide), s01.mono (by decide), s02.mono (by decide), s10.mono (by decide), s11.mono (by decide), s12.mono (by decide), s20.mono (by decide), s21.mono (by decide), s22.mono (by decide)⟩
    rcases j with _ | j
    · obtain ⟨hd, e00, e10, e20, ho, z0, sd, s00, s01, s02, s10, s11, s12, s20, s21, s22⟩ := h; exact ⟨hd, e00, e10, e20, ho, z0, sd, s00.mono (by decide), s01.mono (by decide), s02.mono (by decide), s10.mono (by decide), s11.mono (by decide), s12.mono (by decide), s20.mono (by decide), s21.mono (by decide), s22.mono (by decide)⟩
    rcases j with _ | j
    · obtain ⟨hd, e00, e10, e20, ho, z0, sd, s00, s01, s02, s10, s11, s12, s20, s21, s22⟩ := h; have hz : x 2 1 = 0 := hor.resolve_left (by decide); exact ⟨hd, e00, e10, e20, ho, z0, hz, sd, s00.mono (by decide), s01.mono (by decide), s02.mono (by decide), s10.mono (by decide), s11.mono (by decide), s12.mono (by decide), s20.mono (by decide), s21.mono (by decide), s22.mono (by decide)⟩
    exact absurd hj (by omega)
  rcases i with _ | i
  · rcases j with _ | j
    · obtain ⟨hd, e00, e10, e20, e01, e11, e21, ho, sd, s00, s01, s02, s10, s11, s12, s20, s21, s22⟩ := h; have hz : x 0 2 = 0 := hor.resolve_left (by decide); exact ⟨hd, e00, e10, e20, e01, e11, e21, ho, hz, sd, s00.mono (by decide), s01.mono (by decide), s02.mono (by decide), s10.mono (by decide), s11.mono (by decide), s12.mono (by decide), s20.mono (by decide), s21.mono (by decide), s22.mono (by decide)⟩
    rcases j with _ | j
    · obtain ⟨hd, e00, e10, e20, e01, e11, e21, ho, z0, sd, s00, s01, s02, s10, s11, s12, s20, s21, s22⟩ := h; have hz : x 1 2 = 0 := hor.resolve_left (by decide); exact ⟨hd, e00, e10, e20, e01, e11, e21, ho, z0, hz, sd, s00.mono (by decide), s01.mono (by decide), s02.mono (by decide), s10.mono (by decide), s11.mono (by decide), s12.mono (by decide), s20.mono (by decide), s21.mono (by decide), s22.mono (by decide)⟩
    rcases j with _ | j
    · obtain ⟨hd, e00, e10, e20, e01, e11, e21, ho, z0, z1, sd, s00, s01, s02, s10, s11, s12, s20, s21, s22⟩ := h; exact ⟨hd, e00, e10, e20, e01, e11, e21, ho, z0, z1, sd, s00.mono (by decide), s01.mono (by decide), s02.mono (by decide), s10.mono (by decide), s11.mono (by decide), s12.mono (by decide), s20.mono (by decide), s21.mono (by decide), s22.mono (by decide)⟩
    exact absurd hj (by omega)
  exact absurd hi (by omega)
theorem el3_clear {D0 : Rat} : ∀ i j d x, i < 3 → j < 3 → N3 D0 i j d x → j ≠ i → N3 D0 i (j + 1) d (upR x j fun c => x j c - x j i * x i c) := by
  intro i j d x hi hj h hne
  rcases i with _ | i
  · rcases j with _ | j
    · exact absurd rfl hne
    rcases j with _ | j
    · obtain ⟨hd, ho, sd, s00, s01, s02, s10, s11, s12, s20, s21, s22⟩ := h; exact ⟨clear3_01 hd, ho, clr_self ho, sd, s00.mono (by decide), s01.mono (by decide), s02.mono (by decide), (s10.sub (s10.mul s00)).mono (by decide), (s11.sub (s10.mul s01)).mono (by decide), (s12.sub (s10.mul s02)).mono (by decide), s20.mono (by decide), s21.mono (by decide), s22.mono (by decide)⟩
    rcases j with _ | j
    · obtain ⟨hd, ho, z1, sd, s00, s01, s02, s10, s11, s12, s20, s21, s22⟩ := h; exact ⟨clear3_02 hd, ho, z1, clr_self ho, sd, s00.mono (by decide), s01.mono (by decide), s02.mono (by decide), s10.mono (by decide), s11.mono (by decide), s12.mono (by decide), (s20.sub (s20.mul s00)).mono (by decide), (s21.sub (s20.mul s01)).mono (by decide), (s22.sub (s20.mul s02)).mono (by decide)⟩
    exact absurd hj (by omega)
  rcases i with _ | i
  · rcases j with _ | j
    · obtain ⟨hd, e00, e10, e20, ho, sd, s00, s01, s02, s10, s11, s12, s20, s21, s22⟩ := h; exact ⟨clear3_10 hd, clr_keep e00 e10, e10, e20, ho, clr_self ho, sd, (s00.sub (s01.mul s10)).mono (by decide), (s01.sub (s01.mul s11)).mono (by decide), (s02.sub (s01.mul s12)).mono (by decide), s10.mono (by decide), s11.mono (by decide), s12.mono (by decide), s20.mono (by decide), s21.mono (by decide), s22.mono (by decide)⟩
    rcases j with _ | j
    · exact absurd rfl hne
    rcases j with _ | j
    · obtain ⟨hd, e00, e10, e20, ho, z0, sd, s00, s01, s02, s10, s11, s12, s20, s21, s22⟩ := h; exact ⟨clear3_12 hd, e00, e10, clr_zero e20 e10, ho, z0, clr_self ho, sd, s00.mono (by decide), s01.mono (by decide), s02.mono (by decide), s10.mono (by decide), s11.mono (by decide), s12.mono (by decide), (s20.sub (s21.mul s10)).mono (by decide), (s21.sub (s21.mul s11)).mono (by decide), (s22.sub (s21.mul s12)).mono (by decide)⟩
    exact absurd hj (by omega)
  rcases i with _ | i
  · rcases j with _ | j
    · obtain ⟨hd, e00, e10, e20, e01, e11, e21, ho, sd, s00, s01, s02, s10, s11, s12, s20, s21, s22⟩ := h; exact ⟨clear3_20 hd, clr_keep e00 e20, e10, e20, clr_zero e01 e21, e11, e21, ho, clr_self ho, sd, (s00.sub (s02.mul s20)).mono (by decide), (s01.sub (s02.mul s21)).mono (by decide), (s02.sub (s02.mul s22)).mono (by decide), s10.mono (by decide), s11.mono (by decide), s12.mono (by decide), s20.mono (by decide), s21.mono (by decide), s22.mono (by decide)⟩
    rcases j with _ | j
    · obtain ⟨hd, e00, e10, e20, e01, e11, e21, ho, z0, sd, s00, s01, s02, s10, s11, s12, s20, s21, s22⟩ := h; exact ⟨clear3_21 hd, e00, clr_zero e10 e20, e20, e01, clr_keep e11 e21, e21, ho, z0, clr_self ho, sd, s00.mono (by decide), s01.mono (by decide), s02.mono (by decide), (s10.sub (s12.mul s20)).mono (by decide), (s11.sub (s12.mul s21)).mono (by decide), (s12.sub (s12.mul s22)).mono (by decide), s20.mono (by decide), s21.mono (by decide), s22.mono (by decide)⟩
    rcases j with _ | j
    · exact absurd rfl hne
    exact absurd hj (by omega)
  exact absurd hi (by omega)
theorem el3_sizeN {D0 : Rat} : ∀ i j d x, i < 3 → j < 3 → N3 D0 i j d x → ∀ a c, a < 3 → c < 3 → Sz 400 (x a c) := by
  intro i j d x hi hj h
  rcases i with _ | i
  · rcases j with _ | j
    · obtain ⟨hd, ho, sd, s00, s01, s02, s10, s11, s12, s20, s21, s22⟩ := h; exact all3 (P := fun a c => Sz 400 (x a c)) (s00.mono (by decide)) (s01.mono (by decide)) (s02.mono (by decide)) (s10.mono (by decide)) (s11.mono (by decide)) (s12.mono (by decide)) (s20.mono (by decide)) (s21.mono (by decide)) (s22.mono (by decide))
    rcases j with _ | j
    · obtain ⟨hd, ho, sd, s00, s01, s02, s10, s11, s12, s20, s21, s22⟩ := h; exact all3 (P := fun a c => Sz 400 (x a c)) (s00.mono (by decide)) (s01.mono (by decide)) (s02.mono (by decide)) (s10.mono (by decide)) (s11.mono (by decide)) (s12.mono (by decide)) (s20.mono (by decide)) (s21.mono (by decide)) (s22.mono (by decide))
    rcases j with _ | j
    · obtain ⟨hd, ho, z1, sd, s00, s01, s02, s10, s11, s12, s20, s21, s22⟩ := h; exact all3 (P := fun a c => Sz 400 (x a c)) (s00.mono (by decide)) (s01.mono (by decide)) (s02.mono (by decide)) (s10.mono (by decide)) (s11.mono (by decide)) (s12.mono (by decide)) (s20.mono (by decide)) (s21.mono (by decide)) (s22.mono (by decide))
    exact absurd hj (by omega)
  rcases i with _ | i
  · rcases j with _ | j
    · obtain ⟨hd, e00, e10, e20, ho, sd, s00, s01, s02, s10, s11, s12, s20, s21, s22⟩ := h; exact all3 (P := fun a c => Sz 400 (x a c)) (s00.mono (by decide)) (s01.mono (by decide)) (s02.mono (by decide)) (s10.mono (by decide)) (s11.mono (by decide)) (s12.mono (by decide)) (s20.mono (by decide)) (s21.mono (by decide)) (s22.mono (by decide))
    rcases j with _ | j
    · obtain ⟨hd, e00, e10, e20, ho, z0, sd, s00, s01, s02, s10, s11, s12, s20, s21, s22⟩ := h; exact all3 (P := fun a c => Sz 400 (x a c)) (s00.mono (by decide)) (s01.mono (by decide)) (s02.mono (by decide)) (s10.mono (by decide)) (s11.mono (by decide)) (s12.mono (by decide)) (s20.mono (by decide)) (s21.mono (by decide)) (s22.mono (by decide))
    rcases j with _ | j
    · obtain ⟨hd, e00, e10, e20, ho, z0, sd, s00, s01, s02, s10, s11, s12, s20, s21, s22⟩ := h; exact all3 (P := fun a c => Sz 400 (x a c)) (s00.mono (by decide)) (s01.mono (by decide)) (s02.mono (by decide)) (s10.mono (by decide)) (s11.mono (by decide)) (s12.mono (by decide)) (s20.mono (by decide)) (s21.mono (by decide)) (s22.mono (by decide))
    exact absurd hj (by omega)
  rcases i with _ | i
  · rcases j with _ | j
    · obtain ⟨hd, e00, e10, e20, e01, e11, e21, ho, sd, s00, s01, s02, s10, s11, s12, s20, s21, s22⟩ := h; exact all3 (P := fun a c => Sz 400 (x a c)) (s00.mono (by decide)) (s01.mono (by decide)) (s02.mono (by decide)) (s10.mono (by decide)) (s11.mono (by decide)) (s12.mono (by decide)) (s20.mono (by decide)) (s21.mono (by decide)) (s22.mono (by decide))
    rcases j with _ | j
    · obtain ⟨hd, e00, e10, e20, e01, e11, e21, ho, z0, sd, s00, s01, s02, s10, s11, s12, s20, s21, s22⟩ := h; exact all3 (P := fun a c => Sz 400 (x a c)) (s00.mono (by decide)) (s01.mono (by decide)) (s02.mono (by decide)) (s10.mono (by decide)) (s11.mono (by decide)) (s12.mono (by decide)) (s20.mono (by decide)) (s21.mono (by decide)) (s22.mono (by decide))
    rcases j with _ | j
    · obtain ⟨hd, e00, e10, e20, e01, e11, e21, ho, z0, z1, sd, s00, s01, s02, s10, s11, s12, s20, s21, s22⟩ := h; exact all3 (P := fun a c => Sz 400 (x a c)) (s00.mono (by decide)) (s01.mono (by decide)) (s02.mono (by decide)) (s10.mono (by decide)) (s11.mono (by decide)) (s12.mono (by decide)) (s20.mono (by decide)) (s21.mono (by decide)) (s22.mono (by decide))
    exact absurd hj (by omega)
  exact absurd hi (by omega)
theorem el3_next {D0 : Rat} : ∀ i d x, i < 3 → N3 D0 i 3 d x → O3 D0 (i + 1) d x := by
  intro i d x hi h
  rcases i with _ | i
  · obtain ⟨hd, ho, z1, z2, sd, s00, s01, s02, s10, s11, s12, s20, s21, s22⟩ := h; exact ⟨hd, ho, z1, z2, sd, s00.mono (by decide), s01.mono (by decide), s02.mono (by decide), s10.mono (by decide), s11.mono (by decide), s12.mono (by decide), s20.mono (by decide), s21.mono (by decide), s22.mono (by decide)⟩
  rcases i with _ | i
  · obtain ⟨hd, e00, e10, e20, ho, z0, z2, sd, s00, s01, s02, s10, s11, s12, s20, s21, s22⟩ := h; exact ⟨hd, e00, e10, e20, z0, ho, z2, sd, s00.mono (by decide), s01.mono (by decide), s02.mono (by decide), s10.mono (by decide), s11.mono (by decide), s12.mono (by decide), s20.mono (by decide), s21.mono (by decide), s22.mono (by decide)⟩
  rcases i with _ | i
  · obtain ⟨hd, e00, e10, e20, e01, e11, e21, ho, z0, z1, sd, s00, s01, s02, s10, s11, s12, s20, s21, s22⟩ := h; exact ⟨hd, e00, e10, e20, e01, e11, e21, z0, z1, ho, sd, s00.mono (by decide), s01.mono (by decide), s02.mono (by decide), s10.mono (by decide), s11.mono (by decide), s12.mono (by decide), s20.mono (by decide), s21.mono (by decide), s22.mono (by decide)⟩
  exact absurd hi (by omega)
theorem el3_done {D0 : Rat} : ∀ d x, O3 D0 3 d x → d = D0 := by
  intro d x h
  obtain ⟨hd, e00, e10, e20, e01, e11, e21, e02, e12, e22, sd, s00, s01, s02, s10, s11, s12, s20, s21, s22⟩ := h
  exact end3 hd e00 e10 e20 e01 e11 e21 e02 e12 e22
theorem elim3 (D0 : Rat) : Elim 3 D0 (O3 D0) (U3 D0) (N3 D0) := ⟨el3_none, el3_keep, el3_swap, el3_norm, el3_piv, el3_sizeU, el3_skip, el3_clear, el3_sizeN, el3_next, el3_done⟩
theorem det0_3 {x : IMx} {d : Int} (h : (x 0 0 * (x 1 1 * x 2 2 - x 1 2 * x 2 1) - x 0 1 * (x 1 0 * x 2 2 - x 1 2 * x 2 0) + x 0 2 * (x 1 0 * x 2 1 - x 1 1 * x 2 0)) = d) (hs : ∀ a c, a < 3 → c < 3 → (x a c).natAbs < 16) : O3 ((d : Int) : Rat) 0 1 fun j c => ((x j c : Int) : Rat) := by
  have s : ∀ a c, a < 3 → c < 3 → Sz 4 ((x a c : Int) : Rat) := fun a c ha hc => ⟨hs a c ha hc, (by decide : 1 < 2 ^ 4)⟩
  refine ⟨?_, sz_one, s 0 0 (by decide) (by decide), s 0 1 (by decide) (by decide), s 0 2 (by decide) (by decide), s 1 0 (by decide) (by decide), s 1 1 (by decide) (by decide), s 1 2 (by decide) (by decide), s 2 0 (by decide) (by decide), s 2 1 (by decide) (by decide), s 2 2 (by decide) (by decide)⟩
  subst h; rw [Rat.one_mul]; simp only [Rat.intCast_sub, Rat.intCast_add, Rat.intCast_mul]
theorem dec_mok {d s x : Int} (q1 : 0 ≤ x) (q2 : x < 3) (h : s * 10 ^ x.toNat = d) (hb : (if d < 0 then -d else d) < 1000) : IntMulOk s (10 ^ x.toNat) := by
  have : x = 0 ∨ x = 1 ∨ x = 2 := by omega
  have hs : s.natAbs < 1000 := by
    rcases this with rfl | rfl | rfl
    · have : s * 1 = d := h
      omega
    · have : s * 10 = d := h
      omega
    · have : s * 100 = d := h
      omega
  have hp : ((10 : Int) ^ x.toNat).natAbs < 2 ^ 10 := by rcases this with rfl | rfl | rfl <;> decide
  exact mulOk_of_bits (m := 10) (n := 10) (PySem.intBits_le_iff.mpr (by omega)) (PySem.intBits_le_iff.mpr hp) (by decide)
theorem c_toldg (w : World) (g : Addr) (n : Nat) (x : IMx) (d : Int) (news : Led) (h : IGrid news g n n x) (hn : 0 < n) (hnn : n < 100) (O U : Nat → Rat → Mx → Prop) (NN : Nat → Nat → Rat → Mx → Prop) (H : Elim n ((d : Int) : Rat) O U NN) (h0 : O 0 1 fun j c => ((x j c : Int) : Rat)) (hb : (if d < 0 then -d else d) < 1000) :
    Con w 181 [.ref g] news 27 (fun r tl => news = tl ∧ ∃ t, r = .int d t) := by
  have hr0 : PySem.Challenge.rw_tk0004_01 = PySem.Challenge.rw_tk0004_01 ∨ hd.heap_39 w.params = [] := by k_fill; exact rowK w
  clear hr0
  refine con_enter0 [((Str.ofString "grid"), .ref g)] (put (Str.ofString "grid") (.ref g) fun _ => none) (by k_is) (by k_is) (fun s => BindsTo.of_eq rfl) (by rfl) (by intro _; rfl) (by intro _; rfl) rfl rfl rfl (by decide) ?_
  intro A h₀ L S l
  have hh := S.hh
  refine Ex.asg (Pc.fn S.X (S.glob (by k_is)) (by k_is) (Pl.v (Pv.loc (by with_unfolding_all rfl)) (Pl.i Pi.const fun t9 => Pl.nil (Ok.mono (S.call (c_detg w g n x d t9 news h hn hnn O U NN H h0 hb) (by decide)) ?_))))
  rintro r tl ⟨a, s, y, t, u, rfl, rfl, h1, h2, h3, _⟩
  refine Ex.ret (Pc.i (Pi.ofEq (Pi.mul (Pi.of (Pv.titem (Pv.loc (by with_unfolding_all rfl)) Pi.const (.head _) (by decide) (by decide) rfl rfl)) (Pi.pow Pi.const (Pi.of (Pv.titem (Pv.loc (by with_unfolding_all rfl)) Pi.const (.head _) (by decide) (by decide) rfl rfl)) h1 (Int.le_trans (Int.le_of_lt h2) (by decide)) (by decide)) (dec_mok h1 h2 h3 hb)) h3) fun t => RetP.mk news (fun p hp => .tail _ hp) ⟨rfl, t, rfl⟩)
theorem c_toldg2 (w : World) (g : Addr) (x : IMx) (d : Int) (news : Led) (h : IGrid news g 2 2 x) (hs : ∀ a c, a < 2 → c < 2 → (x a c).natAbs < 16) (hd : x 0 0 * x 1 1 - x 0 1 * x 1 0 = d) (hb : (if d < 0 then -d else d) < 1000) : Con w 181 [.ref g] news 27 (fun r tl => news = tl ∧ ∃ t, r = .int d t) :=
  c_toldg w g 2 x d news h (by decide) (by decide) _ _ _ (elim2 _) (det0_2 hd hs) hb
theorem c_toldg3 (w : World) (g : Addr) (x : IMx) (d : Int) (news : Led) (h : IGrid news g 3 3 x) (hs : ∀ a c, a < 3 → c < 3 → (x a c).natAbs < 16) (hd : x 0 0 * (x 1 1 * x 2 2 - x 1 2 * x 2 1) - x 0 1 * (x 1 0 * x 2 2 - x 1 2 * x 2 0) + x 0 2 * (x 1 0 * x 2 1 - x 1 1 * x 2 0) = d) (hb : (if d < 0 then -d else d) < 1000) : Con w 181 [.ref g] news 27 (fun r tl => news = tl ∧ ∃ t, r = .int d t) :=
  c_toldg w g 3 x d news h (by decide) (by decide) _ _ _ (elim3 _) (det0_3 hd hs) hb
end Mine
end
section
open PySem PySem.W PyProof.Rows PySem.Calls
set_option linter.all false
namespace Mine
structure LamP (w : World) (f : Addr) (news : Led) : Prop where
  intro ::
  fn : ∃ oc od fd sl, (f, (⟨oc, od, .func fd, sl⟩ : Obj)) ∈ news
  con : ∀ (a b : Int) (ta tb : Tok) (news' : Led), (∀ p ∈ news, p ∈ news') → Con w f [.int a ta, .int b tb] news' 3 (fun r tl => news' = tl ∧ ∃ t, r = .int (a + b) t)
structure LamT (w : World) (f : Addr) (news : Led) : Prop where
  intro ::
  fn : ∃ oc od fd sl, (f, (⟨oc, od, .func fd, sl⟩ : Obj)) ∈ news
  con : ∀ (a b : Int) (ta tb : Tok) (news' : Led), a.natAbs < 2 ^ 30 → b.natAbs < 2 ^ 30 → (∀ p ∈ news, p ∈ news') → Con w f [.int a ta, .int b tb] news' 3 (fun r tl => news' = tl ∧ ∃ t, r = .int (a * b) t)
def dotI (a b : Nat → Int) : Nat → Int
  | 0 => 0
  | k + 1 => dotI a b k + a k * b k
theorem Ex.known2 {prog : Program} {w : World} {A : Around} {env : Env} {h₀ : Heap} {L : Addr} {m : Fm} {x y : Str} {u v : Value} {news : Led} {ss : List Stmt} {R : Flow → Fm → Led → Prop} (ps : List (Str × Value)) (hm : ∀ p ∈ ps, m p.1 = some p.2) (z : Ex prog w A env h₀ L (put y v (put x u (setAll ps m))) news ss R) : Ex prog w A env h₀ L (put y v (put x u m)) news ss R := by
  rw [setAll_eq hm] at z; exact z
theorem c_rc (w : World) (R G fp ft : Addr) (n c sp : Nat) (ts : Tok) (a : Nat → Int) (b : IMx) (news : Led) (hR : IRow news R n a) (hG : IGrid news G n c b) (hn : n < 100) (hc : c < 100) (hsp : sp < c) (ba : ∀ q, q < n → (a q).natAbs < 2 ^ 30) (bb : ∀ q, q < n → (b q sp).natAbs < 2 ^ 30) (hp : LamP w fp news) (ht : LamT w ft news) :
    Con w 77 [.ref R, .ref G, .int (sp : Int) ts, .ref fp, .ref ft] news 6 (fun r tl => news = tl ∧ ∃ t, r = .int (dotI a (fun q => b q sp) n) t) := by
  have hr0 : PySem.Challenge.rw_tk0004_01 = PySem.Challenge.rw_tk0004_01 ∨ hd.heap_39 w.params = [] := by k_fill; exact rowK w
  clear hr0
  refine con_enter0 [((Str.ofString "row"), .ref R), ((Str.ofString "grid"), .ref G), ((Str.ofString "spot"), .int (sp : Int) ts), ((Str.ofString "plus"), .ref fp), ((Str.ofString "times"), .ref ft)] (put (Str.ofString "times") (.ref ft) (put (Str.ofString "plus") (.ref fp) (put (Str.ofString "spot") (.int (sp : Int) ts) (put (Str.ofString "grid") (.ref G) (put (Str.ofString "row") (.ref R) fun _ => none))))) (by k_is) (by k_is) (fun s => BindsTo.of_eq rfl) (by rfl) (by intro _; rfl) (by intro _; rfl) rfl rfl rfl (by decide) ?_
  intro A h₀ L S l
  have hh := S.hh
  obtain ⟨vs, kk, hl, hm, hv⟩ := hR
  refine Ex.asg (Pc.i Pi.const fun t0 => Ex.forE (vs := vs) (k := kk) (fun i m1 n1 => n1 = news ∧ ∃ t, ∀ p ∈ [((Str.ofString "total"), Value.int (dotI a (fun q => b q sp) i) t), ((Str.ofString "row"), .ref R), ((Str.ofString "grid"), .ref G), ((Str.ofString "spot"), .int (sp : Int) ts), ((Str.ofString "plus"), .ref fp), ((Str.ofString "times"), .ref ft)], m1 p.1 = some p.2) (S.built (by k_is)) (Pv.loc (by with_unfolding_all rfl)) (fun i m1 n1 h => h.1 ▸ hm) ⟨rfl, t0, List.forall_mem_cons.mpr ⟨by with_unfolding_all rfl, List.forall_mem_cons.mpr ⟨by with_unfolding_all rfl, List.forall_mem_cons.mpr ⟨by with_unfolding_all rfl, List.forall_mem_cons.mpr ⟨by with_unfolding_all rfl, List.forall_mem_cons.mpr ⟨by with_unfolding_all rfl, List.forall_mem_cons.mpr ⟨by with_unfolding_all rfl, List.forall_mem_nil _⟩⟩⟩⟩⟩⟩⟩ ?_ ?_)
  · rintro i m1 n1 I i1 i2 v t hv' ⟨rfl, t1, hm1⟩ hoff
    refine Ex.known2 _ hm1 ?_
    have hi : i < n := hl ▸ (List.getElem?_eq_some_iff.mp hv').1
    obtain ⟨ta, rfl⟩ := hv i v hv'
    have s2 : ∀ p ∈ n1, p ∈ (I + 1, i1) :: (I, i2) :: n1 := fun p hp => .tail _ (.tail _ hp)
    refine hG.row hi fun us k2 r2 hm2 hl2 hr2 hrow => hrow.at_ hsp fun ws k3 tb hm3 hl3 hb3 => ?_
    obtain ⟨a1, a2, a3, a4, hfp⟩ := hp.fn
    obtain ⟨b1, b2, b3, b4, hft⟩ := ht.fn
    refine Ex.asg (Pc.lam (Pv.loc (by with_unfolding_all rfl)) (Pl.v (Pv.loc (by with_unfolding_all rfl)) (Pl.c (P1 := fun r tl => tl = (I + 1, i1) :: (I, i2) :: n1 ∧ ∃ t, r = .int (a i * b i sp) t) (Pc.lam (Pv.loc (by with_unfolding_all rfl)) (Pl.v (Pv.loc (by with_unfolding_all rfl)) (Pl.v (Pv.item (Pv.item (Pv.loc (by with_unfolding_all rfl)) (Pi.of (Pv.loc (by with_unfolding_all rfl))) (s2 _ hm2) (nn i) (lt63 hi hn) hr2) (Pi.of (Pv.loc (by with_unfolding_all rfl))) (s2 _ hm3) (nn sp) (lt63 hsp hc) hb3) (Pl.nil ⟨⟨_, _, _, _, s2 _ hft, s2 _ hft⟩, Ok.mono (S.call (ht.con (a i) (b i sp) ta tb _ (ba i hi) (bb i hi) s2) (by decide)) fun r tl h => ⟨h.1.symm, h.2⟩⟩))) ⟨_, _, _, _, s2 _ hft⟩) ?_)) ⟨_, _, _, _, s2 _ hfp⟩)
    rintro r tl ⟨rfl, t2, rfl⟩
    refine Pl.nil ⟨⟨_, _, _, _, s2 _ hfp, s2 _ hfp⟩, Ok.mono (S.call (hp.con (dotI a (fun q => b q sp) i) (a i * b i sp) t1 t2 _ s2) (by decide)) ?_⟩
    rintro r tl ⟨rfl, t3, rfl⟩
    exact Ex.nil ⟨n1, fun p hp => hp, hoff, rfl, t3, List.forall_mem_cons.mpr ⟨by with_unfolding_all rfl, List.forall_mem_cons.mpr ⟨by with_unfolding_all rfl, List.forall_mem_cons.mpr ⟨by with_unfolding_all rfl, List.forall_mem_cons.mpr ⟨by with_unfolding_all rfl, List.forall_mem_cons.mpr ⟨by with_unfolding_all rfl, List.forall_mem_cons.mpr ⟨by with_unfolding_all rfl, List.forall_mem_nil _⟩⟩⟩⟩⟩⟩⟩
  · rintro m1 n1 ⟨rfl, t1, hm1⟩
    refine Ex.known _ hm1 ?_
    rw [hl]
    exact Ex.ret (Pc.v (Pv.loc (by with_unfolding_all rfl)) (RetP.mk n1 (fun p hp => hp) ⟨rfl, t1, rfl⟩))
theorem rg_small {c : Nat} (hc : c < 100) : Builtin.Range.small 0 (c : Int) 1 = true := small_one (by omega) (by omega) (by omega) (by omega)
theorem rg_size {c : Nat} : Builtin.Range.rangeSize 0 (c : Int) 1 = ((c : Nat) : Int) := by rw [rangeSize_one]; split <;> omega
theorem IRow.off {led : Led} {r X : Addr} {n : Nat} {x : Nat → Int} (h : IRow led r n x) (hr : r ≠ X) : IRow (off X led) r n x := let ⟨vs, k, a, b, c⟩ := h; ⟨vs, k, a, off_mem b hr, c⟩
theorem CellE.off {led : Led} {c X : Addr} {v : Option Value} (h : ∃ ob : Obj, (c, ob) ∈ led ∧ ob.data = .cell v) (hc : c ≠ X) : ∃ ob : Obj, (c, ob) ∈ off X led ∧ ob.data = .cell v := let ⟨ob, a, b⟩ := h; ⟨ob, off_mem a hc, b⟩
theorem CellE.mono {led led' : Led} {c : Addr} {v : Option Value} (h : ∃ ob : Obj, (c, ob) ∈ led ∧ ob.data = .cell v) (hs : ∀ p ∈ led, p ∈ led') : ∃ ob : Obj, (c, ob) ∈ led' ∧ ob.data = .cell v := let ⟨ob, a, b⟩ := h; ⟨ob, hs _ a, b⟩
theorem cell_list {ob : Obj} {v : Option Value} (h : ob.data = .cell v) : ∀ a k, W.listOf a k ≠ ob := fun a k e => by rw [← e] at h; simp [W.listOf] at h
theorem iter_list {it : Obj} {s : String} (h : it.cls = .type s) (hs : s ≠ "list") : ∀ a k, W.listOf a k ≠ it := fun a k e => by rw [← e] at h; simp [W.listOf] at h; exact hs h.symm
/-- the state of grid_product's loop -/
structure Gp (news : Led) (c2 c3 c4 : Addr) (q fp ft : Value) (Df : Addr) (c n : Nat) (x y : IMx) (ys : List Value) (k : Nat) (led : Led) : Prop where
  base : ∀ p ∈ news, p ∈ led
  other : ∃ ob : Obj, (c2, ob) ∈ led ∧ ob.data = .cell (some q)
  plus : ∃ ob : Obj, (c3, ob) ∈ led ∧ ob.data = .cell (some fp)
  times : ∃ ob : Obj, (c4, ob) ∈ led ∧ ob.data = .cell (some ft)
  found : (Df, W.listOf ys.toArray k) ∈ led
  rows : ∀ j v, ys[j]? = some v → ∃ r, v = .ref r ∧ r ≠ Df ∧ IRow led r c fun s => dotI (x j) (fun p => y p s) n
section
variable {news : Led} {c2 c3 c4 : Addr} {q fp ft : Value} {Df : Addr} {c n : Nat} {x y : IMx} {ys : List Value} {k : Nat} {led : Led}
theorem Gp.mono {led' : Led} (h : Gp news c2 c3 c4 q fp ft Df c n x y ys k led) (hs : ∀ p ∈ led, p ∈ led') : Gp news c2 c3 c4 q fp ft Df c n x y ys k led' :=
  ⟨fun p hp => hs p (h.base p hp), CellE.mono h.other hs, CellE.mono h.plus hs, CellE.mono h.times hs, hs _ h.found, fun j v e => let ⟨r, a, b, d⟩ := h.rows j v e; ⟨r, a, b, d.mono hs⟩⟩
theorem Gp.drop (h : Gp news c2 c3 c4 q fp ft Df c n x y ys k led) (U : Uniq led) {X : Addr} {oX : Obj} (hX : (X, oX) ∈ led) (hl : ∀ a k, W.listOf a k ≠ oX) (hb : ∀ p ∈ news, p.1 ≠ X) (h2 : c2 ≠ X) (h3 : c3 ≠ X) (h4 : c4 ≠ X) : Gp news c2 c3 c4 q fp ft Df c n x y ys k (off X led) :=
  ⟨fun p hp => off_mem (h.base p hp) (hb p hp), CellE.off h.other h2, CellE.off h.plus h3, CellE.off h.times h4, off_keep U hX h.found (hl _ _), fun j v e => by
    obtain ⟨r, a, b, d⟩ := h.rows j v e
    refine ⟨r, a, b, d.off ?_⟩
    rintro rfl
    obtain ⟨vs, kk, _, hm, _⟩ := d
    exact hl _ _ (U _ hm _ hX rfl)⟩
theorem Gp.app (h : Gp news c2 c3 c4 q fp ft Df c n x y ys k led) (U : Uniq led) (hb : ∀ p ∈ news, p.1 ≠ Df) {D' : Addr} (hD : D' ≠ Df) (hr : IRow led D' c fun s => dotI (x ys.length) (fun p => y p s) n) : Gp news c2 c3 c4 q fp ft Df c n x y (ys ++ [.ref D']) (k + 1) ((Df, W.listOf (ys ++ [Value.ref D']).toArray (k + 1)) :: off Df led) := by
  have ce : ∀ {cc : Addr} {v : Option Value}, (∃ ob : Obj, (cc, ob) ∈ led ∧ ob.data = .cell v) → ∃ ob : Obj, (cc, ob) ∈ (Df, W.listOf (ys ++ [Value.ref D']).toArray (k + 1)) :: Mine.off Df led ∧ ob.data = .cell v := fun ⟨ob, a, b⟩ => ⟨ob, .tail _ (off_keep U h.found a fun e => cell_list b _ _ e.symm), b⟩
  refine ⟨fun p hp => .tail _ (off_mem (h.base p hp) (hb p hp)), ce h.other, ce h.plus, ce h.times, .head _, fun j v e => ?_⟩
  rcases Nat.lt_trichotomy j ys.length with hj | hj | hj
  · rw [List.getElem?_append_left hj] at e
    obtain ⟨r, a, b, d⟩ := h.rows j v e
    exact ⟨r, a, b, (d.off b).mono tl⟩
  · subst hj
    rw [List.getElem?_append_right (Nat.le_refl _)] at e
    have : Value.ref D' = v := by simpa using e
    subst this
    exact ⟨D', rfl, hD, (hr.off hD).mono tl⟩
  · rw [List.getElem?_eq_none (by simp; omega)] at e
    cases e
end
theorem To.uniq {prog : Program} {w : World} {A : Around} {env : Env} {h₀ : Heap} {L : Addr} {m : Fm} {news : Led} {t : Expr} {v : Value} {K : Fm → Led → Prop} (x : Uniq news → To prog w A env h₀ L m news t v K) : To prog w A env h₀ L m news t v K := fun h g d tk os Q E F N q => x (News.uniq N) h g d tk os Q E F N q
theorem c_prodg (w : World) (g o fp ft : Addr) (rn n c : Nat) (x y : IMx) (news : Led) (hg : IGrid news g rn n x) (ho : IGrid news o n c y) (hrn : 0 < rn) (hrn2 : rn < 100) (hn0 : 0 < n) (hn : n < 100) (hc : c < 100) (bx : ∀ i q, i < rn → q < n → (x i q).natAbs < 2 ^ 30) (by_ : ∀ q s, q < n → s < c → (y q s).natAbs < 2 ^ 30) (hp : LamP w fp news) (ht : LamT w ft news) :
    Con w 70 [.ref g, .ref o, .ref fp, .ref ft] news 12 (fun r tl => ∃ G, r = .ref G ∧ IGrid tl G rn c (fun j s => dotI (x j) (fun p => y p s) n) ∧ ∀ p ∈ news, p ∈ tl) := by
  have hr0 : PySem.Challenge.rw_tk0004_01 = PySem.Challenge.rw_tk0004_01 ∨ hd.heap_39 w.params = [] := by k_fill; exact rowK w
  clear hr0
  refine con_enterK [((Str.ofString "one"), .ref g), ((Str.ofString "other"), .ref o), ((Str.ofString "plus"), .ref fp), ((Str.ofString "times"), .ref ft)] (put (Str.ofString "one") (.ref g) fun _ => none) (put (Str.ofString "times") (.ref ft) (put (Str.ofString "plus") (.ref fp) (put (Str.ofString "other") (.ref o) fun _ => none))) (fun L => [((Str.ofString "row"), L + 3), ((Str.ofString "times"), L + 2), ((Str.ofString "plus"), L + 1), ((Str.ofString "other"), L)]) (by k_is) (by k_is) (fun s => BindsTo.of_eq rfl) (by rfl) (by intro _; rfl) (by intro _; rfl) (by intro _; rfl) (by decide) rfl rfl rfl (by decide) ?_
  intro A h₀ L cells S Y l
  have hh := S.hh
  obtain ⟨o1, o2, o3, o4, rfl, d1, d2, d3, d4⟩ := CellsAre.four Y
  clear Y
  have hb : ∀ j : Nat, ∀ p ∈ news, p.1 ≠ L + 1 + j := fun j p hp => Nat.ne_of_lt (Nat.lt_of_lt_of_le (Nat.lt_succ_of_lt (ltM3 (o := p.2) l hp)) (Nat.le_add_right _ _))
  generalize hB : [(L + 1 + 3, o1), (L + 1 + 2, o2), (L + 1 + 1, o3), (L + 1, o4)] ++ news = B
  have sB : ∀ p ∈ news, p ∈ B := fun p hp => hB ▸ List.mem_append_right _ hp
  have m1 : (L + 1 + 3, o1) ∈ B := hB ▸ .head _
  have m2 : (L + 1 + 2, o2) ∈ B := hB ▸ .tail _ (.head _)
  have m3 : (L + 1 + 1, o3) ∈ B := hB ▸ .tail _ (.tail _ (.head _))
  have m4 : (L + 1, o4) ∈ B := hB ▸ .tail _ (.tail _ (.tail _ (.head _)))
  clear hB
  refine Ex.tup2 (Pc.fn S.X (S.glob (by k_is)) (by k_is) (Pl.v (Pv.loc (by with_unfolding_all rfl)) (Pl.nil (Ok.mono (S.call (c_shp w g rn n x B (hg.mono sB) hrn hrn2 hn) (by decide)) ?_))))
  rintro r tl0 ⟨D0, t0, u0, rfl, rfl⟩
  refine Tup2P.mk (.head _) (Ex.ifFt (Pt.ne (Pi.of (Pv.loc (by with_unfolding_all rfl))) (Pc.titem (Pc.fn S.X (S.glob (by k_is)) (by k_is) (Pl.v (Pv.cell (.tail _ m4) d4) (Pl.nil (Ok.mono (S.call (c_shp w o n c y _ (ho.mono fun p hp => .tail _ (sB p hp)) hn0 hn hc) (by decide)) ?_)))) Pi.const)))
  rintro r tl0 ⟨D1, t1, u1, rfl, rfl⟩
  refine ⟨D1, [.int (n : Int) t1, .int (c : Int) u1], 0, .int (n : Int) t1, rfl, .head _, by decide, by decide, rfl, rfl, (n : Int), t1, rfl, bne_self_eq_false _, ?_⟩
  refine Ex.asg (Pc.list (Pl.nil ⟨Nat.le_of_ble_eq_true rfl, fun Df hDf => ?_⟩))
  have hbD : ∀ p ∈ news, p.1 ≠ Df := fun p hp => Nat.ne_of_lt (hDf p (.tail _ (.tail _ (sB p hp))))
  obtain ⟨vs, kk, hl, hgm, hv⟩ := hg
  refine Ex.forL (vs := vs) (k := kk) (fun i m led => ∃ ys k, ys.length = i ∧ Gp news (L + 1) (L + 1 + 1) (L + 1 + 2) (.ref o) (.ref fp) (.ref ft) Df c n x y ys k led ∧ (∃ (ob : Obj) (v : Option Value), (L + 1 + 3, ob) ∈ led ∧ ob.data = .cell v) ∧ ∀ p ∈ [((Str.ofString "found"), Value.ref Df)], m p.1 = some p.2) (Pv.loc (by with_unfolding_all rfl)) (fun i m1 n1 ⟨_, _, _, h, _⟩ => h.base _ hgm) ⟨[], 0, rfl, ⟨fun p hp => .tail _ (.tail _ (.tail _ (sB p hp))), ⟨o4, .tail _ (.tail _ (.tail _ m4)), d4⟩, ⟨o3, .tail _ (.tail _ (.tail _ m3)), d3⟩, ⟨o2, .tail _ (.tail _ (.tail _ m2)), d2⟩, .head _, fun j v e => by simp at e⟩, ⟨o1, _, .tail _ (.tail _ (.tail _ m1)), d1⟩, List.forall_mem_cons.mpr ⟨by with_unfolding_all rfl, List.forall_mem_nil _⟩⟩ ?turn ?done
  case done =>
    rintro m1 led ⟨ys, k, hy, h, _, hm⟩
    refine Ex.known _ hm ?_
    rw [hl] at hy
    exact Ex.ret (Pc.v (Pv.loc (by with_unfolding_all rfl)) (RetP.mk led (fun p hp => hp) ⟨Df, rfl, ⟨ys, k, hy, h.found, fun j v e => let ⟨r, a, _, d⟩ := h.rows j v e; ⟨r, a, d⟩⟩, h.base⟩))
  case turn =>
    clear m1 m2 m3 m4 d1 d2 d3 d4 hDf sB l
    rintro i m1 n1 I it v hvi hit ⟨ys, k, hy, h, ⟨ob, v0, hrow, hd⟩, hm⟩ hoff
    have hin : i < rn := hl ▸ (List.getElem?_eq_some_iff.mp hvi).1
    obtain ⟨r, rfl, hr⟩ := hv i v hvi
    have hbI : ∀ p ∈ news, p.1 ≠ I := fun p hp => hoff p (h.base p hp)
    have e2 : L + 1 ≠ I := let ⟨_, a, _⟩ := h.other; hoff _ a
    have e3 : L + 1 + 1 ≠ I := let ⟨_, a, _⟩ := h.plus; hoff _ a
    have e4 : L + 1 + 2 ≠ I := let ⟨_, a, _⟩ := h.times; hoff _ a
    have e1 : L + 1 + 3 ≠ I := hoff _ hrow
    replace h := h.mono (led' := (I, it) :: n1) tl
    refine To.uniq fun U => To.cell (off (L + 1 + 3) ((I, it) :: n1)) (.tail _ hrow) hd off_sub off_ne fun o' ho' => ?_
    have h5 := (h.drop U (.tail _ hrow) (cell_list hd) (hb 3) (Nat.ne_of_lt (Nat.lt_add_of_pos_right (by decide))) (Nat.ne_of_lt (Nat.add_lt_add_left (by decide) _)) (Nat.ne_of_lt (Nat.add_lt_add_left (by decide) _))).mono (led' := (L + 1 + 3, o') :: off (L + 1 + 3) ((I, it) :: n1)) tl
    have hI5 : (I, it) ∈ (L + 1 + 3, o') :: off (L + 1 + 3) ((I, it) :: n1) := .tail _ (off_mem (.head _) (Ne.symm e1))
    have hc5 : (L + 1 + 3, o') ∈ (L + 1 + 3, o') :: off (L + 1 + 3) ((I, it) :: n1) := .head _
    clear h hoff hrow U
    generalize (L + 1 + 3, o') :: off (L + 1 + 3) ((I, it) :: n1) = led at h5 hI5 hc5
    refine Ex.known _ hm ?_
    clear hm
    obtain ⟨p2, q2, w2⟩ := h5.other
    obtain ⟨p3, q3, w3⟩ := h5.plus
    obtain ⟨p4, q4, w4⟩ := h5.times
    refine Ex.append (Pv.loc (by with_unfolding_all rfl)) h5.found (Pc.compR (n := c) (AccG led fun _ s v => ∃ t, v = .int (dotI (x i) (fun p => y p s) n) t) (PrP.one (S.built (by k_is)) (Pc.titem (Pc.fn S.X (S.glob (by k_is)) (by k_is) (Pl.v (Pv.cell q2 w2) (Pl.nil (Ok.mono (S.call (c_shp w o n c y led (ho.mono h5.base) hn0 hn hc) (by decide)) ?_)))) Pi.const)) (rg_small hc) rg_size (leSz hc) ?step ?fin)
    · rintro rv tl0 ⟨D2, t2, u2, rfl, rfl⟩
      exact ⟨D2, [.int (n : Int) t2, .int (c : Int) u2], 1, .int (c : Int) u2, rfl, .head _, by decide, by decide, rfl, rfl, u2, rfl, rfl, tl, fun c v e => by simp at e⟩
    case step =>
      intro s zs n2 I2 oI C oC D m₂ t hs hJ hC hx hoff hne
      rw [Int.zero_add] at hx
      have hb2 := hJ.2.1
      have mem : ∀ p ∈ led, p ∈ (I2, oI) :: (C, oC) :: (D, LCg.lst zs) :: n2 := fun p hp => .tail _ (.tail _ (.tail _ (hb2 p hp)))
      have memn : ∀ p ∈ news, p ∈ (I2, oI) :: (C, oC) :: (D, LCg.lst zs) :: n2 := fun p hp => mem p (h5.base p hp)
      refine Pc.fn S.X (S.glob (by k_is)) (by k_is) (Pl.v (Pv.cell (mem _ hc5) ho') (Pl.v (Pv.cell (mem _ q2) w2) (Pl.v (Pv.own (.tail _ (.head _)) hC hx) (Pl.v (Pv.cell (mem _ q3) w3) (Pl.v (Pv.cell (mem _ q4) w4) (Pl.nil (Ok.mono (S.call (c_rc w r o fp ft n c s t (x i) y _ (hr.mono memn) (ho.mono memn) hn hc hs (fun q hq => bx i q hin hq) (fun q hq => by_ q s hq hs) ⟨let ⟨a, b, c, d, e⟩ := hp.fn; ⟨a, b, c, d, memn _ e⟩, fun a b ta tb n3 h3 => hp.con a b ta tb n3 fun p hq => h3 p (memn p hq)⟩ ⟨let ⟨a, b, c, d, e⟩ := ht.fn; ⟨a, b, c, d, memn _ e⟩, fun a b ta tb n3 b1 b2 h3 => ht.con a b ta tb n3 b1 b2 fun p hq => h3 p (memn p hq)⟩) (by decide)) ?_)))))))
      rintro rv tl0 ⟨rfl, t3, rfl⟩
      exact CendP.mk n2 (fun p hp => hp) hoff (hJ.snoc hb2 (fun _ _ h => h) ⟨t3, rfl⟩)
    case fin =>
      intro zs n2 D' hJ hoD Un
      have h6 := h5.mono (led' := (D', LCg.lst zs) :: n2) fun p hp => .tail _ (hJ.2.1 p hp)
      have hD' : D' ≠ Df := Ne.symm (off1N hoD (hJ.2.1 _ h5.found))
      have hI6 : (I, it) ∈ (D', LCg.lst zs) :: n2 := .tail _ (hJ.2.1 _ hI5)
      have hc6 : (L + 1 + 3, o') ∈ (D', LCg.lst zs) :: n2 := .tail _ (hJ.2.1 _ hc5)
      have hr6 : IRow ((D', LCg.lst zs) :: n2) D' c fun s => dotI (x i) (fun p => y p s) n := ⟨zs, _, hJ.1, .head _, hJ.2.2⟩
      subst hy
      refine AppP.mk (off Df ((D', LCg.lst zs) :: n2)) h6.found (Nat.le_trans (Nat.le_of_lt (Nat.lt_trans hin hrn2)) (by decide)) off_sub off_ne ?_
      have h7 := h6.app Un hbD hD' hr6
      have nI : it ≠ W.listOf ys.toArray k := fun e => iter_list hit (by decide) _ _ e.symm
      have hI7 : (I, it) ∈ (Df, W.listOf (ys ++ [Value.ref D']).toArray (k + 1)) :: off Df ((D', LCg.lst zs) :: n2) := .tail _ (off_keep Un h6.found hI6 nI)
      have hc7 : (L + 1 + 3, o') ∈ (Df, W.listOf (ys ++ [Value.ref D']).toArray (k + 1)) :: off Df ((D', LCg.lst zs) :: n2) := .tail _ (off_keep Un h6.found hc6 fun e => cell_list ho' _ _ e.symm)
      exact Ex.turn hI7 fun U8 => ⟨ys ++ [.ref D'], k + 1, by simp, h7.drop U8 hI7 (iter_list hit (by decide)) hbI e2 e3 e4, ⟨o', _, off_mem hc7 e1, ho'⟩, List.forall_mem_cons.mpr ⟨by with_unfolding_all rfl, List.forall_mem_nil _⟩⟩
end Mine
end
section
open PySem PySem.W PyProof.Rows PySem.Calls
set_option linter.all false
namespace Mine
/-- a contract of a function that makes functions: its code's head is at hand -/
def ConL (w : World) (f : Addr) (vs : List Value) (news : Led) (k : Nat) (post : Value → Led → Prop) : Prop :=
  ∀ (p : Program) (loose : List Str) (mean : ExcName → Option Value) (mg mb : Fm) (dp un : Nat) (gd : Option (List Code)) (cn : Str) (cs : Scope) (a : Addr) (ccd : Value) (cl : List (Str × Addr)) (outer : List Env) (A₀ : Around) (base h₀ : Heap) (L : Addr) (m : Fm) (s : Shared) (Q E : Value → Shared → Prop),
    Below A₀ base outer h₀ → Fr h₀ L s.heap m → (hd.heap_39 w.params).In h₀ → News h₀ L s.heap news → Top p loose mean mg mb h₀ → cs.kind = .function → dp + k < recursionLimit → un + 8 * k < cLine → CodeHd h₀ 173 169 →
    (∀ r tl h' tk', Fr h₀ L h' m → News h₀ L h' tl → post r tl → Q r { s with heap := h', toks := tk' }) →
    wpAny (model PySem.Challenge.rw_tk0004_01.row.prog w) (ktrTop dp un gd cn cs L a ccd cl outer) (call (.ref f) vs) Q E s
theorem Site.callL {w : World} {A : Around} {h₀ : Heap} {L : Addr} {k : Nat} {m : Fm} {f : Addr} {vs : List Value} {news : Led} {k' : Nat} {post : Value → Led → Prop} (S : Site w A h₀ L k) (H : CodeHd h₀ 173 169) (C : ConL w f vs news k' post) (hc : k' + 1 ≤ k) : Ok PySem.Challenge.rw_tk0004_01.row.prog w A h₀ L m (.ref f) vs news post := by
  obtain ⟨p, loose, mean, mg, mb, T⟩ := S.T
  obtain ⟨dp, un, gd, cn, cs, aa, ccd, cl, outer, A₀, base, rfl, B, hk, h1, h2⟩ := S.raw
  exact fun h g d tk os Q E F N q => C _ _ _ _ _ _ _ _ _ _ _ _ _ _ _ _ _ _ _ ⟨h, g, d, tk, os⟩ _ _ B F S.X N T hk (by omega) (by omega) H fun r tl h' tk' F' N' P => q r tl h' tk' P F' N'
theorem con_enterL {w : World} {f : Addr} {vs : List Value} {news : Led} {k : Nat} {post : Value → Led → Prop} {name qual : Str} {params : Arguments} {body : List Stmt} {scope : Scope} {dV kV doc pm cdv ct oc : Value} {an od : Option Addr} {osl : Array (Option Value)} (binds : List (Str × Value)) (m0 : Fm)
    (ho : (hd.heap_39 w.params).lookup f = some ⟨oc, od, .func (fnOf name qual params body scope dV kV doc pm an cdv ct), osl⟩) (hcd : codeIn (hd.heap_39 w.params) cdv qual = true)
    (hbind : ∀ s, BindsTo s (fnOf name qual params body scope dV kV doc pm an cdv ct) ⟨vs, []⟩ binds) (hkind : (binds.all fun y => scope.names.lookup y.1 == some .local || scope.names.lookup y.1 == some .cell) = true)
    (hm : ∀ L, bindL (envOfC qual scope L f cdv).kindOf binds (fun _ => none) = m0) (hcl : ∀ L : Addr, cellsFrom L scope.names [] = []) (hco : scope.isCoroutine = false) (hgen : scope.isGenerator = false) (hkf : scope.kind = .function) (hk0 : 0 < k)
    (x : ∀ (A : Around) (h₀ : Heap) (L : Addr), Site w A h₀ L k → CodeHd h₀ 173 169 → AllLt L news → Ex PySem.Challenge.rw_tk0004_01.row.prog w A (envOfC qual scope L f cdv) h₀ L m0 news body (fun fl _ n' => RetP post fl n')) : ConL w f vs news k post := by
  intro p loose mean mg mb dp un gd cn cs aa ccd cl outer A₀ base h₀ L m s Q E B F X N T hk hd hu H hret
  refine wpAny_call ?_
  refine code_defC B F X N T rfl rfl hk ho hcd (by dsimp only [ktrTop]; omega) (hbind _) hkind (by rw [hcl]; decide) ?_ hco hgen hkf
  intro g L' h₁ tk cells FG F' N' Y B' X' T' l
  rw [hcl] at Y
  cases Y
  rw [hm] at F'
  refine x _ g L' ⟨rfl, X', ⟨_, _, _, _, _, T'⟩, dp + 1, _, gd, qual, scope, f, cdv, cellsFrom (L' + 1) scope.names [], _, _, _, rfl, B', hkf, by omega, ?_⟩ (CodeHd.keeps H FG.keep) (allLt_of l) h₁ s.gens s.drawn tk s.os _ _ (by passes_own) F' N' ?_
  · show un + 3 + 8 * k ≤ cLine + 2
    omega
  · intro fl m' n' h' tk' hR F2 N2
    obtain ⟨r, tl, rfl, hs, hP⟩ := hR
    exact leaveK_ (s' := ⟨h', s.gens, s.drawn, tk', s.os⟩) F2 N2 fun F3 N3 => hret r tl h' tk' F3 (fun p hp => N3 p (hs p hp)) hP
/-- a function made by a lambda, in the ledger with its code -/
inductive LamO (params : Arguments) (body : Expr) (scope : Scope) (f : Addr) (led : Led) : Prop
  | mk (name qual : Str) (clos : List (Str × Addr)) (pm ctv : Value) (c' : Addr) (oc : Obj) (vs : Array Value) (t : Tok) (h1 : (f, kla_obj name qual params body scope clos pm c' ctv) ∈ led) (h2 : (c', oc) ∈ led) (h3 : oc.data = .fields vs) (h4 : vs[1]? = some (.str qual t)) : LamO params body scope f led
theorem LamO.mono {params : Arguments} {body : Expr} {scope : Scope} {f : Addr} {led led' : Led} (h : LamO params body scope f led) (hs : ∀ p ∈ led, p ∈ led') : LamO params body scope f led' := by
  obtain ⟨n, q, cl, pm, cv, c', oc, vs, t, h1, h2, h3, h4⟩ := h
  exact ⟨n, q, cl, pm, cv, c', oc, vs, t, hs _ h1, hs _ h2, h3, h4⟩
theorem LamO.fn {params : Arguments} {body : Expr} {scope : Scope} {f : Addr} {led : Led} (h : LamO params body scope f led) : ∃ oc od fd sl, (f, (⟨oc, od, .func fd, sl⟩ : Obj)) ∈ led := by
  obtain ⟨n, q, cl, pm, cv, c', oc, vs, t, h1, h2, h3, h4⟩ := h
  exact ⟨_, _, _, _, h1⟩
theorem con_lam {w : World} {f : Addr} {vs : List Value} {news : Led} {k : Nat} {post : Value → Led → Prop} {params : Arguments} {body : Expr} {scope : Scope} (binds : List (Str × Value)) (m0 : Fm) (hf : LamO params body scope f news)
    (hbind : ∀ name qual cl pm cdv ctv, bindArgs (kla_fn name qual params body scope cl pm cdv ctv) ⟨vs, []⟩ = pure binds) (hloc : ∀ y ∈ binds, scope.names.lookup y.1 = some .local) (hm : (fun y => binds.reverse.lookup y) = m0) (hco : scope.isCoroutine = false) (hgen : scope.isGenerator = false) (hkf : scope.kind = .function) (hcell : ∀ x ∈ scope.names, x.2 ≠ .cell) (hk0 : 0 < k)
    (x : ∀ (A : Around) (h₀ : Heap) (L : Addr) (qual : Str) (c' : Value) (cl : List (Str × Addr)), Site w A h₀ L k → Pc PySem.Challenge.rw_tk0004_01.row.prog w A (envX qual scope L f c' cl) h₀ L m0 news body (fun r n' => ∃ tl, (∀ p ∈ tl, p ∈ n') ∧ post r tl)) : Con w f vs news k post := by
  obtain ⟨name, qual, clos, pm, ctv, c', oc, fs, t, h1, h2, h3, h4⟩ := hf
  intro p loose mean mg mb dp un gd cn cs aa ccd cl outer A₀ base h₀ L m s Q E B F X N T hk hd hu hret
  refine wpAny_call ?_
  refine kla_code B F X N T rfl rfl hk h1 (codeRec_news N h2 h3 h4) (by dsimp only [ktrTop]; omega) (hbind _ _ _ _ _ _) hloc ?_ hco hgen hkf hcell
  intro g L' h₁ FG F' N' B' X' T'
  rw [hm] at F'
  refine x _ g L' qual (.ref c') clos ⟨rfl, X', ⟨_, _, _, _, _, T'⟩, dp + 1, _, gd, qual, scope, f, .ref c', clos, _, _, _, rfl, B', hkf, by omega, ?_⟩ h₁ s.gens s.drawn _ s.os _ _ F' N' ?_
  · show un + 3 + 8 * k ≤ cLine + 2
    omega
  · intro r n' h' tk' hR F2 N2
    obtain ⟨tl, hs, hP⟩ := hR
    exact leaveK_ (s' := ⟨h', s.gens, s.drawn, tk', s.os⟩) F2 N2 fun F3 N3 => hret r tl h' tk' F3 (fun p hp => N3 p (hs p hp)) hP
section
variable {prog : Program} {w : World} {A : Around} {h₀ : Heap} {L : Addr} {m : Fm} {news : Led} {cn : Str} {cs : Scope} {a c P : Addr} {ccd : Value} {cl : List (Str × Addr)} {k : Nat}
theorem Pc.lamHit {params : Arguments} {body : Expr} {scope : Scope} {pos : Pos} {ps : Array Value} {c' : Addr} {oc : Obj} {vs : Array Value} {t : Tok} {clos : List (Str × Addr)} {post : Value → Led → Prop} (S : Site w A h₀ L k) (C : CodeHd h₀ c P) (hcd : ccd = .ref c) (hmem : (P, tabObj ps) ∈ news) (ht : TriplesOk ps.toList) (hf : codeAmong pos ps.toList = some (.ref c')) (hoc : (c', oc) ∈ news) (hd : oc.data = .fields vs) (hv : vs[1]? = some (.str ((envX cn cs L a ccd cl).qual ++ "<lambda>") t))
    (hcl : closureFor scope (envX cn cs L a ccd cl) = pure clos) (hdef : defaultsOf params (envX cn cs L a ccd cl) = ([], [])) (h : ∀ f led', LamO params body scope f led' → (∀ p ∈ news, p ∈ led') → post (.ref f) led') :
    Pc prog w A (envX cn cs L a ccd cl) h₀ L m news (.Lambda params body scope pos) post := fun h' g d tk os Q E F N q => by
  obtain ⟨p, loose, mean, mg, mb, T⟩ := S.T
  exact kla_eval hdef (kla_hit (s := ⟨h', g, d, tk, os⟩) F N T C hcd hmem ht hf hcl fun f ctv h'' tk' F' N' l => q _ _ _ _ (h f _ ⟨_, _, _, _, _, c', oc, vs, t, .head _, .tail _ hoc, hd, hv⟩ fun p hp => .tail _ hp) F' N')
theorem Pc.lamNew {params : Arguments} {body : Expr} {scope : Scope} {pos : Pos} {ps : Array Value} {clos : List (Str × Addr)} {post : Value → Led → Prop} (S : Site w A h₀ L k) (C : CodeHd h₀ c P) (hcd : ccd = .ref c) (hb : ∀ p ∈ news, p.1 ≠ P) (ht : TriplesOk ps.toList) (hf : codeAmong pos ps.toList = none)
    (hcl : closureFor scope (envX cn cs L a ccd cl) = pure clos) (hdef : defaultsOf params (envX cn cs L a ccd cl) = ([], [])) (h : ∀ f c' oc vs t led', LamO params body scope f led' → oc.data = .fields vs → vs[1]? = some (.str ((envX cn cs L a ccd cl).qual ++ "<lambda>") t) → (∀ p ∈ (c', oc) :: news, p ∈ led') → (∀ p ∈ led', p.1 ≠ P) → post (.ref f) ((P, tabObj (ps ++ #[rawInt pos.line, rawInt pos.col, .ref c'])) :: led')) :
    Pc prog w A (envX cn cs L a ccd cl) h₀ L m ((P, tabObj ps) :: news) (.Lambda params body scope pos) post := fun h' g d tk os Q E F N q => by
  obtain ⟨p, loose, mean, mg, mb, T⟩ := S.T
  refine kla_eval hdef (kla_nest (s := ⟨h', g, d, tk, os⟩) F N T C hcd (.head hb) ht hf hcl fun f c' oc vs t ctv h'' tk' F' N' hd hv l1 l2 => ?_)
  have e1 : c' ≠ P := Nat.ne_of_gt (l1 _ (.head _))
  have e2 : f ≠ P := Nat.ne_of_gt (Nat.lt_trans (l1 _ (.head _)) l2)
  have hO : LamO params body scope f ((f, kla_obj (Str.ofString "<lambda>") ((envX cn cs L a ccd cl).qual ++ "<lambda>") params body scope clos ((mg (Str.ofString "__name__")).getD .none) c' ctv) :: (c', oc) :: news) := ⟨_, _, _, _, _, c', oc, vs, t, .head _, .tail _ (.head _), hd, hv⟩
  refine q _ _ _ _ (h f c' oc vs t _ hO hd hv (fun p hp => .tail _ hp) ?_) F' (fun p hp => N' p ?_)
  · exact List.forall_mem_cons.mpr ⟨e2, List.forall_mem_cons.mpr ⟨e1, hb⟩⟩
  · rcases List.mem_cons.mp hp with rfl | hp
    · exact .tail _ (.tail _ (.head _))
    rcases List.mem_cons.mp hp with rfl | hp
    · exact .head _
    rcases List.mem_cons.mp hp with rfl | hp
    · exact .tail _ (.head _)
    · exact .tail _ (.tail _ (.tail _ hp))
end
end Mine
end
section
open PySem PySem.W PyProof.Rows PySem.Calls
set_option linter.all false
namespace Mine
inductive TabS (led : Led) : Prop
  | mk (c1 c2 : Addr) (o1 o2 : Obj) (v1 v2 : Array Value) (t1 t2 : Tok) (h1 : (169, tabObj ((#[] ++ #[rawInt 127, rawInt 0, .ref c1]) ++ #[rawInt 128, rawInt 0, .ref c2])) ∈ led) (h2 : (c1, o1) ∈ led) (h3 : (c2, o2) ∈ led) (h4 : o1.data = .fields v1) (h5 : o2.data = .fields v2) (h6 : v1[1]? = some (.str ((Str.ofString "_law_times" ++ Str.ofString ".<locals>.") ++ Str.ofString "<lambda>") t1)) (h7 : v2[1]? = some (.str ((Str.ofString "_law_times" ++ Str.ofString ".<locals>.") ++ Str.ofString "<lambda>") t2)) : TabS led
theorem TabS.mono {l l' : Led} (h : TabS l) (hs : ∀ p ∈ l, p ∈ l') : TabS l' :=
  let ⟨c1, c2, o1, o2, v1, v2, t1, t2, a, b, c, d, e, f, g⟩ := h; ⟨c1, c2, o1, o2, v1, v2, t1, t2, hs _ a, hs _ b, hs _ c, d, e, f, g⟩
theorem mok30 {a b : Int} (ha : a.natAbs < 2 ^ 30) (hb : b.natAbs < 2 ^ 30) : IntMulOk a b :=
  mulOk_of_bits (m := 30) (n := 30) (PySem.intBits_le_iff.mpr ha) (PySem.intBits_le_iff.mpr hb) (by decide)
theorem c_tmN (w : World) (g o : Addr) (rn n c : Nat) (x y : IMx) (news : Led) (hg : IGrid news g rn n x) (ho : IGrid news o n c y) (hrn : 0 < rn) (hrn2 : rn < 100) (hn0 : 0 < n) (hn : n < 100) (hc : c < 100) (bx : ∀ i q, i < rn → q < n → (x i q).natAbs < 2 ^ 30) (by_ : ∀ q s, q < n → s < c → (y q s).natAbs < 2 ^ 30) (h169 : ∀ p ∈ news, p.1 ≠ 169) :
    ConL w 174 [.ref g, .ref o] ((169, tabObj #[]) :: news) 15 (fun r tl => ∃ G, r = .ref G ∧ IGrid tl G rn c (fun j s => dotI (x j) (fun p => y p s) n) ∧ (∀ p ∈ news, p ∈ tl) ∧ TabS tl) := by
  have hr0 : PySem.Challenge.rw_tk0004_01 = PySem.Challenge.rw_tk0004_01 ∨ hd.heap_39 w.params = [] := by k_fill; exact rowK w
  clear hr0
  refine con_enterL [((Str.ofString "one"), .ref g), ((Str.ofString "other"), .ref o)] (put (Str.ofString "other") (.ref o) (put (Str.ofString "one") (.ref g) fun _ => none)) (by k_is) (by k_is) (fun s => BindsTo.of_eq rfl) (by rfl) (by intro _; rfl) (by intro _; rfl) rfl rfl rfl (by decide) ?_
  intro A h₀ L S C l
  have hh := S.hh
  refine Ex.ret (Pc.fn S.X (S.glob (by k_is)) (by k_is) (Pl.v (Pv.loc (by with_unfolding_all rfl)) (Pl.v (Pv.loc (by with_unfolding_all rfl)) (Pl.k (Pc.lamNew S C rfl h169 (by kn_triples) (by kn_among) rfl rfl fun f1 c1 o1 v1 t1 led1 hO1 hd1 hv1 hs1 hn1 => Pl.k (Pc.lamNew S C rfl hn1 (by kn_triples) (by kn_among) rfl rfl fun f2 c2 o2 v2 t2 led2 hO2 hd2 hv2 hs2 hn2 => Pl.nil ?_))))))
  have s2 : ∀ p ∈ led1, p ∈ (169, tabObj ((#[] ++ #[rawInt 127, rawInt 0, .ref c1]) ++ #[rawInt 128, rawInt 0, .ref c2])) :: led2 := fun p hp => .tail _ (hs2 _ (.tail _ hp))
  have s1 : ∀ p ∈ news, p ∈ (169, tabObj ((#[] ++ #[rawInt 127, rawInt 0, .ref c1]) ++ #[rawInt 128, rawInt 0, .ref c2])) :: led2 := fun p hp => s2 _ (hs1 _ (.tail _ hp))
  replace hO1 := hO1.mono s2
  replace hO2 := hO2.mono (led' := (169, tabObj ((#[] ++ #[rawInt 127, rawInt 0, .ref c1]) ++ #[rawInt 128, rawInt 0, .ref c2])) :: led2) tl
  refine Ok.mono (S.call (c_prodg w g o f1 f2 rn n c x y _ (hg.mono s1) (ho.mono s1) hrn hrn2 hn0 hn hc bx by_ ⟨hO1.fn, fun a b ta tb n3 h3 => con_lam [((Str.ofString "a"), .int a ta), ((Str.ofString "b"), .int b tb)] _ (hO1.mono h3) (fun _ _ _ _ _ _ => rfl) (locs rfl) rfl rfl rfl rfl (by decide) (by decide) fun _ _ _ _ _ _ _ => Pc.i (Pi.add (Pi.of (Pv.loc (by with_unfolding_all rfl))) (Pi.of (Pv.loc (by with_unfolding_all rfl)))) fun t => ⟨n3, fun p hp => hp, rfl, t, rfl⟩⟩ ⟨hO2.fn, fun a b ta tb n3 b1 b2 h3 => con_lam [((Str.ofString "a"), .int a ta), ((Str.ofString "b"), .int b tb)] _ (hO2.mono h3) (fun _ _ _ _ _ _ => rfl) (locs rfl) rfl rfl rfl rfl (by decide) (by decide) fun _ _ _ _ _ _ _ => Pc.i (Pi.mul (Pi.of (Pv.loc (by with_unfolding_all rfl))) (Pi.of (Pv.loc (by with_unfolding_all rfl))) (mok30 b1 b2)) fun t => ⟨n3, fun p hp => hp, rfl, t, rfl⟩⟩) (by decide)) ?_
  rintro r tl ⟨G, rfl, hG, hs⟩
  exact RetP.mk tl (fun p hp => hp) ⟨G, rfl, hG, fun p hp => hs _ (s1 _ hp), c1, c2, o1, o2, v1, v2, t1, t2, hs _ (.head _), hs _ (s2 _ (hs1 _ (.head _))), hs _ (.tail _ (hs2 _ (.head _))), hd1, hd2, hv1, hv2⟩
theorem c_tmH (w : World) (g o : Addr) (rn n c : Nat) (x y : IMx) (news : Led) (hg : IGrid news g rn n x) (ho : IGrid news o n c y) (hrn : 0 < rn) (hrn2 : rn < 100) (hn0 : 0 < n) (hn : n < 100) (hc : c < 100) (bx : ∀ i q, i < rn → q < n → (x i q).natAbs < 2 ^ 30) (by_ : ∀ q s, q < n → s < c → (y q s).natAbs < 2 ^ 30) (hT : TabS news) :
    ConL w 174 [.ref g, .ref o] news 15 (fun r tl => ∃ G, r = .ref G ∧ IGrid tl G rn c (fun j s => dotI (x j) (fun p => y p s) n) ∧ ∀ p ∈ news, p ∈ tl) := by
  have hr0 : PySem.Challenge.rw_tk0004_01 = PySem.Challenge.rw_tk0004_01 ∨ hd.heap_39 w.params = [] := by k_fill; exact rowK w
  clear hr0
  refine con_enterL [((Str.ofString "one"), .ref g), ((Str.ofString "other"), .ref o)] (put (Str.ofString "other") (.ref o) (put (Str.ofString "one") (.ref g) fun _ => none)) (by k_is) (by k_is) (fun s => BindsTo.of_eq rfl) (by rfl) (by intro _; rfl) (by intro _; rfl) rfl rfl rfl (by decide) ?_
  intro A h₀ L S C l
  have hh := S.hh
  obtain ⟨c1, c2, o1, o2, v1, v2, t1, t2, hT, hC1, hC2, hV1, hV2, hQ1, hQ2⟩ := hT
  refine Ex.ret (Pc.fn S.X (S.glob (by k_is)) (by k_is) (Pl.v (Pv.loc (by with_unfolding_all rfl)) (Pl.v (Pv.loc (by with_unfolding_all rfl)) (Pl.k (Pc.lamHit S C rfl hT (by kn_triples) (by kn_hit) hC1 hV1 hQ1 rfl rfl fun f1 led1 hO1 hs1 => Pl.k (Pc.lamHit S C rfl (hs1 _ hT) (by kn_triples) (by kn_hit) (hs1 _ hC2) hV2 hQ2 rfl rfl fun f2 led2 hO2 hs2 => Pl.nil ?_))))))
  have s1 : ∀ p ∈ news, p ∈ led2 := fun p hp => hs2 _ (hs1 _ hp)
  replace hO1 := hO1.mono hs2
  refine Ok.mono (S.call (c_prodg w g o f1 f2 rn n c x y _ (hg.mono s1) (ho.mono s1) hrn hrn2 hn0 hn hc bx by_ ⟨hO1.fn, fun a b ta tb n3 h3 => con_lam [((Str.ofString "a"), .int a ta), ((Str.ofString "b"), .int b tb)] _ (hO1.mono h3) (fun _ _ _ _ _ _ => rfl) (locs rfl) rfl rfl rfl rfl (by decide) (by decide) fun _ _ _ _ _ _ _ => Pc.i (Pi.add (Pi.of (Pv.loc (by with_unfolding_all rfl))) (Pi.of (Pv.loc (by with_unfolding_all rfl)))) fun t => ⟨n3, fun p hp => hp, rfl, t, rfl⟩⟩ ⟨hO2.fn, fun a b ta tb n3 b1 b2 h3 => con_lam [((Str.ofString "a"), .int a ta), ((Str.ofString "b"), .int b tb)] _ (hO2.mono h3) (fun _ _ _ _ _ _ => rfl) (locs rfl) rfl rfl rfl rfl (by decide) (by decide) fun _ _ _ _ _ _ _ => Pc.i (Pi.mul (Pi.of (Pv.loc (by with_unfolding_all rfl))) (Pi.of (Pv.loc (by with_unfolding_all rfl))) (mok30 b1 b2)) fun t => ⟨n3, fun p hp => hp, rfl, t, rfl⟩⟩) (by decide)) ?_
  rintro r tl ⟨G, rfl, hG, hs⟩
  exact RetP.mk tl (fun p hp => hp) ⟨G, rfl, hG, fun p hp => hs _ (s1 _ hp)⟩
end Mine
end
section
open PySem PySem.W PyProof.Rows PySem.Calls
set_option linter.all false
namespace Mine
theorem ints_are : ∀ (ys : List Value) (f : Nat → Int), (∀ c v, ys[c]? = some v → ∃ t, v = Value.int (f c) t) → IntsAre ys ((List.range ys.length).map f)
  | [], _, _ => .nil
  | v :: r, f, h => by
    obtain ⟨t, rfl⟩ := h 0 v rfl
    rw [List.length_cons, List.range_succ_eq_map, List.map_cons, List.map_map]
    exact .cons _ t (ints_are r (f ∘ Nat.succ) fun c v e => h (c + 1) v e)
theorem c_dg (w : World) (g : Addr) (n : Nat) (x : IMx) (news : Led) (h : IGrid news g n n x) (hnn : n < 100) :
    Con w 186 [.ref g] news 6 (fun r tl => news = tl ∧ ∃ t, r = .int ((List.range n).map fun i => x i i).sum t) := by
  have hr0 : PySem.Challenge.rw_tk0004_01 = PySem.Challenge.rw_tk0004_01 ∨ hd.heap_39 w.params = [] := by k_fill; exact rowK w
  clear hr0
  refine con_enter1 [((Str.ofString "grid"), .ref g)] (fun _ => none) (Str.ofString "grid") (some (.ref g)) (by k_is) (by k_is) (fun s => BindsTo.of_eq rfl) (by rfl) (by intro _; rfl) (by intro _; rfl) (by intro _; rfl) rfl rfl rfl (by decide) ?_
  intro A h₀ L o S ho l
  have hh := S.hh
  obtain ⟨vs, kk, hl, hm, hv⟩ := h
  refine Ex.ret (Pc.blt (S.built (by k_is)) (Pl.k (Pc.compR (n := n) (AccG ((L + 1, o) :: news) fun _ i v => ∃ t, v = .int (x i i) t) (PrP.of (Pr.one (S.built (by k_is)) (Pi.len (n := n) (S.built (by k_is)) (Pv.cell (.head _) ho) (.tail _ hm) (by simpa using hl) (lt62 hnn))) AccG.nil) (rg_small hnn) rg_size (leSz hnn) ?step ?fin)))
  case step =>
    intro i ys n1 I oI C oC D m₂ t hi hJ hC hx hoff hne
    rw [Int.zero_add] at hx
    have hb := hJ.2.1
    have mem : ∀ p ∈ (L + 1, o) :: news, p ∈ (I, oI) :: (C, oC) :: (D, LCg.lst ys) :: n1 := fun p hp => .tail _ (.tail _ (.tail _ (hb p hp)))
    refine LV.item (P := fun j v => ∃ r, v = .ref r ∧ IRow news r n (x j)) ⟨vs, kk, hl, hm, hv⟩ hi fun us k2 v hm2 hl2 hv2 hP => ?_
    obtain ⟨r, rfl, hr⟩ := hP
    refine hr.at_ hi fun ws k3 t3 hm3 hl3 hv3 => ?_
    exact Pc.v (Pv.item (Pv.item (Pv.cell (mem _ (.head _)) ho) (Pi.of (Pv.own (.tail _ (.head _)) hC hx)) (mem _ (.tail _ hm2)) (nn i) (lt63 hi hnn) hv2) (Pi.of (Pv.own (.tail _ (.head _)) hC hx)) (mem _ (.tail _ hm3)) (nn i) (lt63 hi hnn) hv3) (CendP.mk n1 (fun p hp => hp) hoff (hJ.snoc hb (fun _ _ h => h) ⟨t3, rfl⟩))
  case fin =>
    intro ys n1 D hJ _ _
    have hi := ints_are ys (fun i => x i i) hJ.2.2
    rw [hJ.1] at hi
    exact Pl.nil (Ok.sum hh (.head _) hi fun t => RetP.mk news (fun p hp => .tail _ (hJ.2.1 _ (.tail _ hp))) ⟨rfl, t, rfl⟩)
theorem c_ch (w : World) (g P K : Addr) (n c : Nat) (x : IMx) (pr pc : Nat → Nat) (d : Int) (news : Led) (hg : IGrid news g n c x) (hP : IRow news P 2 fun j => (pr j : Int)) (hK : IRow news K 2 fun s => (pc s : Int)) (hn : n < 100) (hc : c < 100) (hpr : ∀ j, j < 2 → pr j < n) (hpc : ∀ s, s < 2 → pc s < c) (hs : ∀ a s, a < n → s < c → (x a s).natAbs < 16) (hdd : x (pr 0) (pc 0) * x (pr 1) (pc 1) - x (pr 0) (pc 1) * x (pr 1) (pc 0) = d) (hb : (if d < 0 then -d else d) < 1000) :
    Con w 191 [.ref g, .ref P, .ref K] news 30 (fun r tl => news = tl ∧ ∃ t, r = .int d t) := by
  have hr0 : PySem.Challenge.rw_tk0004_01 = PySem.Challenge.rw_tk0004_01 ∨ hd.heap_39 w.params = [] := by k_fill; exact rowK w
  clear hr0
  refine con_enterK [((Str.ofString "grid"), .ref g), ((Str.ofString "rows"), .ref P), ((Str.ofString "columns"), .ref K)] (put (Str.ofString "rows") (.ref P) fun _ => none) (put (Str.ofString "columns") (.ref K) (put (Str.ofString "grid") (.ref g) fun _ => none)) (fun L => [((Str.ofString "columns"), L + 1), ((Str.ofString "grid"), L)]) (by k_is) (by k_is) (fun s => BindsTo.of_eq rfl) (by rfl) (by intro _; rfl) (by intro _; rfl) (by intro _; rfl) (by decide) rfl rfl rfl (by decide) ?_
  intro A h₀ L cells S Y l
  have hh := S.hh
  obtain ⟨o1, o2, rfl, d1, d2⟩ := CellsAre.two Y
  clear Y
  generalize hB : [(L + 1 + 1, o1), (L + 1, o2)] ++ news = B
  have sB : ∀ p ∈ news, p ∈ B := fun p hp => hB ▸ List.mem_append_right _ hp
  have m1 : (L + 1 + 1, o1) ∈ B := hB ▸ .head _
  have m2 : (L + 1, o2) ∈ B := hB ▸ .tail _ (.head _)
  clear hB
  obtain ⟨ps, kp, hlp, hmp, hvp⟩ := hP
  obtain ⟨qs, kq, hlq, hmq, hvq⟩ := hK
  refine Ex.ret (Pc.fn S.X (S.glob (by k_is)) (by k_is) (Pl.k (Pc.compX (AccG B fun n1 j v => ∃ r, v = .ref r ∧ IRow n1 r 2 fun s => x (pr j) (pc s)) (Pv.loc (by with_unfolding_all rfl)) (sB _ hmp) (by rw [hlp]; exact Nat.le_of_ble_eq_true rfl) AccG.nil ?step ?fin)))
  case step =>
    intro j ys n1 own WR C cc oc v hv hJ hW hcc hoc hoff
    have hj : j < 2 := hlp ▸ (List.getElem?_eq_some_iff.mp hv).1
    obtain ⟨tj, rfl⟩ := hvp j v hv
    have hb := hJ.2.1
    have mem : ∀ p ∈ B, p ∈ own ++ n1 := fun p hp => List.mem_append_right _ (hb p hp)
    refine Pc.compL (AccG (own ++ n1) fun _ s v => ∃ t, v = .int (x (pr j) (pc s)) t) (Pv.cell (mem _ m1) d1) (fun i ys n1 hJ => hJ.2.1 _ (mem _ (sB _ hmq))) (by simp only [List.size_toArray, hlq]; exact Nat.le_of_ble_eq_true rfl) AccG.nil ?step2 ?fin2
    case step2 =>
      intro s zs n2 I oI C2 oC D m₂ v2 hv2 hJ2 hC hx hoff2 hne
      have hs2 : s < 2 := by
        have := (Array.getElem?_eq_some_iff.mp hv2).1
        simpa [hlq] using this
      obtain ⟨ts, rfl⟩ := hvq s v2 (by simpa using hv2)
      have hb2 := hJ2.2.1
      have mem2 : ∀ p ∈ own ++ n1, p ∈ (I, oI) :: (C2, oC) :: (D, LCg.lst zs) :: n2 := fun p hp => .tail _ (.tail _ (.tail _ (hb2 p hp)))
      refine hg.row (hpr j hj) fun us k2 r hm2 hl2 hv3 hr => hr.at_ (hpc s hs2) fun ws k3 t3 hm3 hl3 hv4 => ?_
      exact Pc.v (Pv.item (Pv.item (Pv.cell (mem2 _ (mem _ m2)) d2) (Pi.of (Pv.cell (mem2 _ (List.mem_append_left _ hcc)) hoc)) (mem2 _ (mem _ (sB _ hm2))) (nn _) (lt63 (hpr j hj) hn) hv3) (Pi.of (Pv.own (.tail _ (.head _)) hC hx)) (mem2 _ (mem _ (sB _ hm3))) (nn _) (lt63 (hpc s hs2) hc) hv4) (CendP.mk n2 (fun p hp => hp) hoff2 (hJ2.snoc hb2 (fun _ _ h => h) ⟨t3, rfl⟩))
    case fin2 =>
      intro zs n2 D' hJ2 hoD Un
      have e2 : qs.toArray.size = 2 := by simpa using hlq
      rw [e2] at hJ2
      have hb2 := hJ2.2.1
      refine ZendP.mk ((D', LCg.lst zs) :: n1) ?_ ?_ (hJ.snoc (fun p hp => .tail _ (hb p hp)) (fun c v ⟨r, e, q⟩ => ⟨r, e, q.mono tl⟩) ⟨D', rfl, zs, _, hJ2.1, .head _, hJ2.2.2⟩)
      · intro p hp
        rcases List.mem_append.mp hp with hp | hp
        · exact .tail _ (hb2 _ (List.mem_append_left _ hp))
        · rcases List.mem_cons.mp hp with rfl | hp
          · exact .head _
          · exact .tail _ (hb2 _ (List.mem_append_right _ hp))
      · exact List.forall_mem_cons.mpr ⟨fun hw => by
          obtain ⟨ob, hob⟩ := hW _ hw
          exact off1N hoD (hb2 _ (List.mem_append_left _ hob)) rfl, hoff⟩
  case fin =>
    intro ys n1 D hJ _ _
    rw [hlp] at hJ
    have hG : IGrid ((D, LCg.lst ys) :: n1) D 2 2 fun j s => x (pr j) (pc s) := ⟨ys, _, hJ.1, .head _, fun c v e => let ⟨r, a, b⟩ := hJ.2.2 c v e; ⟨r, a, b.mono tl⟩⟩
    refine Pl.nil (Ok.mono (S.call (c_toldg2 w D _ d _ hG (fun a s ha hs2 => hs _ _ (hpr a ha) (hpc s hs2)) hdd hb) (by decide)) ?_)
    rintro r tl2 ⟨rfl, t, rfl⟩
    exact RetP.mk news (fun p hp => .tail _ (hJ.2.1 _ (sB _ hp))) ⟨rfl, t, rfl⟩
end Mine
end
section
open PySem PySem.W PyProof.Rows PySem.Calls
set_option linter.all false
namespace Mine
theorem mul_le {a b : Int} {m n : Nat} (ha : a.natAbs ≤ m) (hb : b.natAbs ≤ n) : (a * b).natAbs ≤ m * n := by
  rw [Int.natAbs_mul]; exact Nat.mul_le_mul ha hb
theorem sub_le {a b : Int} {m n : Nat} (ha : a.natAbs ≤ m) (hb : b.natAbs ≤ n) : (a - b).natAbs ≤ m + n := Nat.le_trans (Int.natAbs_sub_le a b) (Nat.add_le_add ha hb)
theorem add_le {a b : Int} {m n : Nat} (ha : a.natAbs ≤ m) (hb : b.natAbs ≤ n) : (a + b).natAbs ≤ m + n := Nat.le_trans (Int.natAbs_add_le a b) (Nat.add_le_add ha hb)
theorem det2_le {a b c d : Int} (ha : a.natAbs ≤ 2) (hb : b.natAbs ≤ 2) (hc : c.natAbs ≤ 2) (hd : d.natAbs ≤ 2) : (a * d - b * c).natAbs ≤ 8 := sub_le (m := 4) (n := 4) (mul_le ha hd) (mul_le hb hc)
theorem abs_small {d : Int} {n : Nat} (h : d.natAbs ≤ n) (hn : n < 1000) : (if d < 0 then -d else d) < 1000 := by split <;> omega
theorem det3_le {a b c d e f g h i : Int} (ha : a.natAbs ≤ 2) (hb : b.natAbs ≤ 2) (hc : c.natAbs ≤ 2) (hd : d.natAbs ≤ 2) (he : e.natAbs ≤ 2) (hf : f.natAbs ≤ 2) (hg : g.natAbs ≤ 2) (hh : h.natAbs ≤ 2) (hi : i.natAbs ≤ 2) :
    (a * (e * i - f * h) - b * (d * i - f * g) + c * (d * h - e * g)).natAbs ≤ 48 :=
  add_le (m := 32) (n := 16) (sub_le (m := 16) (n := 16) (mul_le ha (det2_le he hf hh hi)) (mul_le hb (det2_le hd hf hg hi))) (mul_le hc (det2_le hd he hg hh))
theorem dot3_le {a b c x y z : Int} {m n : Nat} (ha : a.natAbs ≤ m) (hb : b.natAbs ≤ m) (hc : c.natAbs ≤ m) (hx : x.natAbs ≤ n) (hy : y.natAbs ≤ n) (hz : z.natAbs ≤ n) : (a * x + b * y + c * z).natAbs ≤ m * n + m * n + m * n := add_le (add_le (mul_le ha hx) (mul_le hb hy)) (mul_le hc hz)
theorem e1_le {a b c e : Int} (ha : a.natAbs ≤ 2) (hb : b.natAbs ≤ 2) (hc : c.natAbs ≤ 2) (he : a + b + c = e) : e.natAbs ≤ 6 := he ▸ add_le (m := 4) (n := 2) (add_le (m := 2) (n := 2) ha hb) hc
theorem e2_le {a00 a01 a02 a10 a11 a12 a20 a21 a22 e2 : Int} (h00 : a00.natAbs ≤ 2) (h01 : a01.natAbs ≤ 2) (h02 : a02.natAbs ≤ 2) (h10 : a10.natAbs ≤ 2) (h11 : a11.natAbs ≤ 2) (h12 : a12.natAbs ≤ 2) (h20 : a20.natAbs ≤ 2) (h21 : a21.natAbs ≤ 2) (h22 : a22.natAbs ≤ 2)
    (he : a00 * a11 - a01 * a10 + (a00 * a22 - a02 * a20 + (a11 * a22 - a12 * a21 + 0)) = e2) : e2.natAbs ≤ 24 :=
  he ▸ add_le (m := 8) (n := 16) (det2_le h00 h01 h10 h11) (add_le (m := 8) (n := 8) (det2_le h00 h02 h20 h22) (add_le (m := 8) (n := 0) (det2_le h11 h12 h21 h22) (by decide)))
theorem e3_le {a00 a01 a02 a10 a11 a12 a20 a21 a22 e3 : Int} (h00 : a00.natAbs ≤ 2) (h01 : a01.natAbs ≤ 2) (h02 : a02.natAbs ≤ 2) (h10 : a10.natAbs ≤ 2) (h11 : a11.natAbs ≤ 2) (h12 : a12.natAbs ≤ 2) (h20 : a20.natAbs ≤ 2) (h21 : a21.natAbs ≤ 2) (h22 : a22.natAbs ≤ 2)
    (he : a00 * (a11 * a22 - a12 * a21) - a01 * (a10 * a22 - a12 * a20) + a02 * (a10 * a21 - a11 * a20) = e3) : e3.natAbs ≤ 48 := by
  rw [← he]; exact det3_le h00 h01 h02 h10 h11 h12 h20 h21 h22
theorem newton2 {a00 a01 a02 a10 a11 a12 a20 a21 a22 e1 e2 e4 t00 t11 t22 : Int} (he1 : a00 + a11 + a22 = e1) (he2 : a00 * a11 - a01 * a10 + (a00 * a22 - a02 * a20 + (a11 * a22 - a12 * a21 + 0)) = e2)
    (q0 : a00 * a00 + a01 * a10 + a02 * a20 = t00) (q1 : a10 * a01 + a11 * a11 + a12 * a21 = t11) (q2 : a20 * a02 + a21 * a12 + a22 * a22 = t22) (h : t00 + t11 + t22 = e4) : e4 = e1 * e1 - 2 * e2 := by
  subst he1 he2 q0 q1 q2 h; grind
theorem cayley {a00 a01 a02 a10 a11 a12 a20 a21 a22 e1 e2 e3 p0 p1 p2 h0 h1 h2 t0 t1 t2 l0 l1 l2 : Int} (he1 : a00 + a11 + a22 = e1) (he2 : a00 * a11 - a01 * a10 + (a00 * a22 - a02 * a20 + (a11 * a22 - a12 * a21 + 0)) = e2)
    (he3 : a00 * (a11 * a22 - a12 * a21) - a01 * (a10 * a22 - a12 * a20) + a02 * (a10 * a21 - a11 * a20) = e3)
    (qh0 : p0 * a00 + p1 * a10 + p2 * a20 = h0) (qh1 : p0 * a01 + p1 * a11 + p2 * a21 = h1) (qh2 : p0 * a02 + p1 * a12 + p2 * a22 = h2)
    (qt0 : h0 * a00 + h1 * a10 + h2 * a20 = t0) (qt1 : h0 * a01 + h1 * a11 + h2 * a21 = t1) (qt2 : h0 * a02 + h1 * a12 + h2 * a22 = t2)
    (ql0 : t0 * a00 + t1 * a10 + t2 * a20 = l0) (ql1 : t0 * a01 + t1 * a11 + t2 * a21 = l1) (ql2 : t0 * a02 + t1 * a12 + t2 * a22 = l2) :
    l0 = e1 * t0 - e2 * h0 + e3 * p0 ∧ l1 = e1 * t1 - e2 * h1 + e3 * p1 ∧ l2 = e1 * t2 - e2 * h2 + e3 * p2 := by
  subst he1 he2 he3 qh0 qh1 qh2 qt0 qt1 qt2 ql0 ql1 ql2
  refine ⟨?_, ?_, ?_⟩ <;> grind
theorem newton3 {a00 a01 a02 a10 a11 a12 a20 a21 a22 e1 e2 e3 t00 t01 t02 t10 t11 t12 t20 t21 t22 l00 l11 l22 e5 : Int} (he1 : a00 + a11 + a22 = e1) (he2 : a00 * a11 - a01 * a10 + (a00 * a22 - a02 * a20 + (a11 * a22 - a12 * a21 + 0)) = e2)
    (he3 : a00 * (a11 * a22 - a12 * a21) - a01 * (a10 * a22 - a12 * a20) + a02 * (a10 * a21 - a11 * a20) = e3)
    (q00 : a00 * a00 + a01 * a10 + a02 * a20 = t00) (q01 : a00 * a01 + a01 * a11 + a02 * a21 = t01) (q02 : a00 * a02 + a01 * a12 + a02 * a22 = t02)
    (q10 : a10 * a00 + a11 * a10 + a12 * a20 = t10) (q11 : a10 * a01 + a11 * a11 + a12 * a21 = t11) (q12 : a10 * a02 + a11 * a12 + a12 * a22 = t12)
    (q20 : a20 * a00 + a21 * a10 + a22 * a20 = t20) (q21 : a20 * a01 + a21 * a11 + a22 * a21 = t21) (q22 : a20 * a02 + a21 * a12 + a22 * a22 = t22)
    (l0 : t00 * a00 + t01 * a10 + t02 * a20 = l00) (l1 : t10 * a01 + t11 * a11 + t12 * a21 = l11) (l2 : t20 * a02 + t21 * a12 + t22 * a22 = l22) (h : l00 + l11 + l22 = e5) :
    e5 = e1 ^ 3 - 3 * e1 * e2 + 3 * e3 := by
  subst he1 he2 he3 q00 q01 q02 q10 q11 q12 q20 q21 q22 l0 l1 l2 h; grind
theorem binet {w00 w01 w02 w10 w11 w12 v00 v01 v10 v11 v20 v21 p00 p01 p10 p11 : Int}
    (q00 : w00 * v00 + w01 * v10 + w02 * v20 = p00) (q01 : w00 * v01 + w01 * v11 + w02 * v21 = p01) (q10 : w10 * v00 + w11 * v10 + w12 * v20 = p10) (q11 : w10 * v01 + w11 * v11 + w12 * v21 = p11) :
    p00 * p11 - p01 * p10 = (w00 * w11 - w01 * w10) * (v00 * v11 - v01 * v10) + ((w00 * w12 - w02 * w10) * (v00 * v21 - v01 * v20) + ((w01 * w12 - w02 * w11) * (v10 * v21 - v11 * v20) + 0)) := by
  subst q00 q01 q10 q11; grind
theorem det2_small {a b c d : Int} {n : Nat} (ha : a.natAbs ≤ n) (hb : b.natAbs ≤ n) (hc : c.natAbs ≤ n) (hd : d.natAbs ≤ n) : (a * d - b * c).natAbs ≤ n * n + n * n := sub_le (mul_le ha hd) (mul_le hb hc)
def mul3 (x y : IMx) : IMx := fun j s => dotI (x j) (fun p => y p s) 3
def idM : IMx := fun i j => if i = j then 1 else 0
def mp (a : IMx) : Nat → IMx
  | 0 => idM
  | 1 => a
  | k + 2 => mul3 (mp a (k + 1)) a
theorem dot3 (a b : Nat → Int) : dotI a b 3 = a 0 * b 0 + a 1 * b 1 + a 2 * b 2 := by simp only [dotI, Int.zero_add]
theorem lt3 {P : Nat → Prop} (h0 : P 0) (h1 : P 1) (h2 : P 2) : ∀ i, i < 3 → P i := fun i hi => Mine.one3 (P := P) h0 h1 h2 i hi
theorem mpS (a : IMx) (k : Nat) : ∀ i, i < 3 → ∀ j, j < 3 → dotI (mp a k i) (fun p => a p j) 3 = mp a (k + 1) i j := by
  cases k with
  | zero =>
    intro i hi j _
    refine lt3 (P := fun i => dotI (mp a 0 i) (fun p => a p j) 3 = mp a 1 i j) ?_ ?_ ?_ i hi <;> (rw [dot3]; simp [mp, idM])
  | succ k => intro i _ j _; rfl
def tr3 (x : IMx) : Int := x 0 0 + x 1 1 + x 2 2
def det2 (x : IMx) (i j p q : Nat) : Int := x i p * x j q - x i q * x j p
def e2of (a : IMx) : Int := det2 a 0 1 0 1 + (det2 a 0 2 0 2 + (det2 a 1 2 1 2 + 0))
def det3 (a : IMx) : Int := a 0 0 * (a 1 1 * a 2 2 - a 1 2 * a 2 1) - a 0 1 * (a 1 0 * a 2 2 - a 1 2 * a 2 0) + a 0 2 * (a 1 0 * a 2 1 - a 1 1 * a 2 0)
theorem tr_sum (x : IMx) : ((List.range 3).map fun i => x i i).sum = tr3 x := by
  show ([x 0 0, x 1 1, x 2 2] : List Int).sum = _
  simp [tr3]; omega
theorem mpD (a : IMx) (k : Nat) {i : Nat} (hi : i < 3) {j : Nat} (hj : j < 3) : mp a k i 0 * a 0 j + mp a k i 1 * a 1 j + mp a k i 2 * a 2 j = mp a (k + 1) i j := by rw [← mpS a k i hi j hj, dot3]
theorem newton2m (a : IMx) : tr3 (mp a 2) = tr3 a * tr3 a - 2 * e2of a :=
  newton2 (a00 := a 0 0) (a01 := a 0 1) (a02 := a 0 2) (a10 := a 1 0) (a11 := a 1 1) (a12 := a 1 2) (a20 := a 2 0) (a21 := a 2 1) (a22 := a 2 2) rfl rfl (mpD a 1 (i := 0) (by decide) (j := 0) (by decide)) (mpD a 1 (i := 1) (by decide) (j := 1) (by decide)) (mpD a 1 (i := 2) (by decide) (j := 2) (by decide)) rfl
theorem cayleym (a : IMx) (k : Nat) : ∀ i, i < 3 → ∀ j, j < 3 → tr3 a * mp a (k + 2) i j - e2of a * mp a (k + 1) i j + det3 a * mp a k i j = mp a (k + 3) i j := by
  intro i hi j hj
  have h := cayley (a00 := a 0 0) (a01 := a 0 1) (a02 := a 0 2) (a10 := a 1 0) (a11 := a 1 1) (a12 := a 1 2) (a20 := a 2 0) (a21 := a 2 1) (a22 := a 2 2) (e1 := tr3 a) (e2 := e2of a) (e3 := det3 a) rfl rfl rfl
    (mpD a k hi (j := 0) (by decide)) (mpD a k hi (j := 1) (by decide)) (mpD a k hi (j := 2) (by decide)) (mpD a (k + 1) hi (j := 0) (by decide)) (mpD a (k + 1) hi (j := 1) (by decide)) (mpD a (k + 1) hi (j := 2) (by decide)) (mpD a (k + 2) hi (j := 0) (by decide)) (mpD a (k + 2) hi (j := 1) (by decide)) (mpD a (k + 2) hi (j := 2) (by decide))
  exact lt3 (P := fun j => tr3 a * mp a (k + 2) i j - e2of a * mp a (k + 1) i j + det3 a * mp a k i j = mp a (k + 3) i j) h.1.symm h.2.1.symm h.2.2.symm j hj
theorem newton3m (a : IMx) : tr3 (mp a 3) = tr3 a ^ 3 - 3 * tr3 a * e2of a + 3 * det3 a :=
  newton3 (a00 := a 0 0) (a01 := a 0 1) (a02 := a 0 2) (a10 := a 1 0) (a11 := a 1 1) (a12 := a 1 2) (a20 := a 2 0) (a21 := a 2 1) (a22 := a 2 2) (e1 := tr3 a) (e2 := e2of a) (e3 := det3 a) rfl rfl rfl
    (mpD a 1 (i := 0) (by decide) (j := 0) (by decide)) (mpD a 1 (i := 0) (by decide) (j := 1) (by decide)) (mpD a 1 (i := 0) (by decide) (j := 2) (by decide)) (mpD a 1 (i := 1) (by decide) (j := 0) (by decide)) (mpD a 1 (i := 1) (by decide) (j := 1) (by decide)) (mpD a 1 (i := 1) (by decide) (j := 2) (by decide)) (mpD a 1 (i := 2) (by decide) (j := 0) (by decide)) (mpD a 1 (i := 2) (by decide) (j := 1) (by decide)) (mpD a 1 (i := 2) (by decide) (j := 2) (by decide))
    (mpD a 2 (i := 0) (by decide) (j := 0) (by decide)) (mpD a 2 (i := 1) (by decide) (j := 1) (by decide)) (mpD a 2 (i := 2) (by decide) (j := 2) (by decide)) rfl
theorem binetm (u v : IMx) : det2 (mul3 u v) 0 1 0 1 = det2 u 0 1 0 1 * det2 v 0 1 0 1 + (det2 u 0 1 0 2 * det2 v 0 2 0 1 + (det2 u 0 1 1 2 * det2 v 1 2 0 1 + 0)) := by
  have h := binet (w00 := u 0 0) (w01 := u 0 1) (w02 := u 0 2) (w10 := u 1 0) (w11 := u 1 1) (w12 := u 1 2) (v00 := v 0 0) (v01 := v 0 1) (v10 := v 1 0) (v11 := v 1 1) (v20 := v 2 0) (v21 := v 2 1) rfl rfl rfl rfl
  unfold det2 mul3
  rw [dot3, dot3, dot3, dot3]
  exact h
def BdM (n c : Nat) (b : Nat) (x : IMx) : Prop := ∀ i j, i < n → j < c → (x i j).natAbs ≤ b
theorem mul3_le {n c b : Nat} {x y : IMx} (hx : BdM n 3 b x) (hy : BdM 3 c 2 y) : BdM n c (b * 6) (mul3 x y) := fun i j hi hj => by
  unfold mul3
  rw [dot3]
  exact Nat.le_trans (dot3_le (hx i 0 hi (by decide)) (hx i 1 hi (by decide)) (hx i 2 hi (by decide)) (hy 0 j (by decide) hj) (hy 1 j (by decide) hj) (hy 2 j (by decide) hj)) (by omega)
theorem mp_le {a : IMx} (ha : BdM 3 3 2 a) : ∀ k, BdM 3 3 (6 ^ k * 2) (mp a k)
  | 0 => fun i j hi hj => by unfold mp idM; split <;> decide
  | 1 => fun i j hi hj => Nat.le_trans (ha i j hi hj) (by decide)
  | k + 2 => fun i j hi hj => Nat.le_trans (mul3_le (mp_le ha (k + 1)) ha i j hi hj) (by rw [Nat.pow_succ 6 (k + 1)]; omega)
theorem b30 {b : Nat} {x : Int} (h : x.natAbs ≤ b) (hb : b < 2 ^ 30) : x.natAbs < 2 ^ 30 := Nat.lt_of_le_of_lt h hb
theorem p30 {k : Nat} (h : k < 8) : 6 ^ k * 2 < 2 ^ 30 := Nat.lt_of_le_of_lt (Nat.mul_le_mul_right 2 (Nat.pow_le_pow_right (by decide) (Nat.le_of_lt h))) (by decide)
theorem tr_le {a : IMx} (h : BdM 3 3 2 a) : (tr3 a).natAbs ≤ 6 := e1_le (h 0 0 (by decide) (by decide)) (h 1 1 (by decide) (by decide)) (h 2 2 (by decide) (by decide)) rfl
theorem e2of_le {a : IMx} (h : BdM 3 3 2 a) : (e2of a).natAbs ≤ 24 := e2_le (h 0 0 (by decide) (by decide)) (h 0 1 (by decide) (by decide)) (h 0 2 (by decide) (by decide)) (h 1 0 (by decide) (by decide)) (h 1 1 (by decide) (by decide)) (h 1 2 (by decide) (by decide)) (h 2 0 (by decide) (by decide)) (h 2 1 (by decide) (by decide)) (h 2 2 (by decide) (by decide)) rfl
theorem det3m_le {a : IMx} (h : BdM 3 3 2 a) : (det3 a).natAbs ≤ 48 := e3_le (h 0 0 (by decide) (by decide)) (h 0 1 (by decide) (by decide)) (h 0 2 (by decide) (by decide)) (h 1 0 (by decide) (by decide)) (h 1 1 (by decide) (by decide)) (h 1 2 (by decide) (by decide)) (h 2 0 (by decide) (by decide)) (h 2 1 (by decide) (by decide)) (h 2 2 (by decide) (by decide)) rfl
theorem det2m_le {n c b : Nat} {x : IMx} (h : BdM n c b x) {i j p q : Nat} (hi : i < n) (hj : j < n) (hp : p < c) (hq : q < c) : (det2 x i j p q).natAbs ≤ b * b + b * b := det2_small (h i p hi hp) (h i q hi hq) (h j p hj hp) (h j q hj hq)
end Mine
end
section
open PySem PySem.W PyProof.Rows PySem.Calls
set_option linter.all false
namespace Mine
section
variable {prog : Program} {w : World} {A : Around} {env : Env} {h₀ : Heap} {L : Addr} {m : Fm} {news : Led}
end
abbrev whl (S : Addr) (k : Int) (t : Tok) (c : Nat) : Obj := W.listOf [.ref S, .int k t].toArray c
def AllInts (vs : List Value) : Prop := ∀ v ∈ vs, ∃ x t, v = Value.int x t
theorem mok7 {a b : Int} (ha : a.natAbs < 2 ^ 20) (hb : b.natAbs < 2 ^ 20) : IntMulOk a b := mulOk_of_bits (m := 20) (n := 20) (PySem.intBits_le_iff.mpr ha) (PySem.intBits_le_iff.mpr hb) (by decide)
theorem fm5 (a : Int) : (a.fmod 5 - 2).natAbs ≤ 2 := by
  have h1 := Int.fmod_nonneg_of_pos a (show (0 : Int) < 5 by decide)
  have h2 := Int.fmod_lt_of_pos a (show (0 : Int) < 5 by decide)
  omega
theorem c_sp (w : World) (W0 S : Addr) (k : Nat) (tk : Tok) (c ks : Nat) (vs : List Value) (news : Led) (hW : (W0, whl S (k : Int) tk c) ∈ news) (hS : (S, W.listOf vs.toArray ks) ∈ news) (hSW : S ≠ W0) (hv : AllInts vs) (hl : vs.length < 2 ^ 62) (hk : k < 100) :
    Con w 162 [.ref W0] news 4 (fun r tl => ∃ x t t', r = .int x t ∧ x.natAbs ≤ 2 ∧ (W0, whl S ((k + 1 : Nat) : Int) t' c) :: off W0 news = tl) := by
  have hr0 : PySem.Challenge.rw_tk0004_01 = PySem.Challenge.rw_tk0004_01 ∨ hd.heap_39 w.params = [] := by k_fill; exact rowK w
  clear hr0
  refine con_enter0 [((Str.ofString "wheel"), .ref W0)] (put (Str.ofString "wheel") (.ref W0) fun _ => none) (by k_is) (by k_is) (fun s => BindsTo.of_eq rfl) (by rfl) (by intro _; rfl) (by intro _; rfl) rfl rfl rfl (by decide) ?_
  intro A h₀ L St l
  have hh := St.hh
  refine Ex.asg (Pc.v (Pv.item (Pv.loc (by with_unfolding_all rfl)) Pi.const hW (by decide) (by decide) rfl) (Ex.setItem (Pc.i (Pi.add (Pi.of (Pv.loc (by with_unfolding_all rfl))) Pi.const) fun t' => SetP.mk (vs' := [.ref S, .int ((k : Int) + 1) t']) (off W0 news) (Pv.loc (by with_unfolding_all rfl)) Pi.const hW (by decide) (by decide) (Nat.le_refl 2) rfl off_sub off_ne ?_)))
  have hS2 : (S, W.listOf vs.toArray ks) ∈ (W0, whl S ((k : Int) + 1) t' c) :: off W0 news := .tail _ (off_mem hS hSW)
  have fin : ∀ (z : Int) (t : Tok), RetP (fun r tl => ∃ x t t', r = .int x t ∧ x.natAbs ≤ 2 ∧ (W0, whl S ((k + 1 : Nat) : Int) t' c) :: off W0 news = tl) (.ret (.int (z.fmod 5 - 2) t)) ((W0, whl S ((k : Int) + 1) t' c) :: off W0 news) := fun z t => RetP.mk _ (fun p hp => hp) ⟨_, t, t', rfl, fm5 z, rfl⟩
  by_cases hlt : k < vs.length
  · have hg : vs[((k : Nat) : Int).toNat]? = some vs[k] := by simp
    obtain ⟨x, tx, hx⟩ := hv vs[k] (List.getElem_mem hlt)
    rw [hx] at hg
    exact Ex.ret (Pc.i (Pi.sub (Pi.mod (Pi.ifb (Pb.lt (Pi.of (Pv.loc (by with_unfolding_all rfl))) (Pi.len (n := vs.length) (St.built (by k_is)) (Pv.item (Pv.loc (by with_unfolding_all rfl)) Pi.const (.head _) (by decide) (by decide) rfl) hS2 (by simp) hl)) (fun _ => Pi.abs (St.built (by k_is)) (Pi.of (Pv.item (Pv.item (Pv.loc (by with_unfolding_all rfl)) Pi.const (.head _) (by decide) (by decide) rfl) (Pi.of (Pv.loc (by with_unfolding_all rfl))) hS2 (nn k) (Int.lt_trans (Int.ofNat_lt.mpr hk) (by decide)) hg))) (fun h => absurd (of_decide_eq_false h) (fun e => e (Int.ofNat_lt.mpr hlt)))) Pi.const (by decide)) Pi.const) (fin _))
  · have b1 : (3 : Int).natAbs < 2 ^ 20 := by decide
    have b2 : (k : Int).natAbs < 2 ^ 20 := by omega
    have b3 : (3 * (k : Int)).natAbs < 2 ^ 20 := by omega
    exact Ex.ret (Pc.i (Pi.sub (Pi.mod (Pi.ifb (Pb.lt (Pi.of (Pv.loc (by with_unfolding_all rfl))) (Pi.len (n := vs.length) (St.built (by k_is)) (Pv.item (Pv.loc (by with_unfolding_all rfl)) Pi.const (.head _) (by decide) (by decide) rfl) hS2 (by simp) hl)) (fun h => absurd (of_decide_eq_true h) (fun e => hlt (Int.ofNat_lt.mp e))) (fun _ => Pi.add (Pi.add (Pi.mul (Pi.mul Pi.const (Pi.of (Pv.loc (by with_unfolding_all rfl))) (mok7 b1 b2)) (Pi.of (Pv.loc (by with_unfolding_all rfl))) (mok7 b3 b2)) (Pi.of (Pv.loc (by with_unfolding_all rfl)))) Pi.const)) Pi.const (by decide)) Pi.const) (fin _))
/-- values of which each has a witness have a function of witnesses -/
theorem choose_at {α β : Type} [Inhabited β] {ys : List α} {Q : Nat → α → β → Prop} (h : ∀ j v, ys[j]? = some v → ∃ f, Q j v f) : ∃ f : Nat → β, ∀ j v, ys[j]? = some v → Q j v (f j) := by
  have : ∀ j, ∃ f, ∀ v, ys[j]? = some v → Q j v f := fun j => by
    cases e : ys[j]? with
    | none => exact ⟨default, fun v e' => by cases e'⟩
    | some v => obtain ⟨f, hf⟩ := h j v e; exact ⟨f, fun v' e' => by cases e'; exact hf⟩
  obtain ⟨f, hf⟩ := Classical.skolem.mp this
  exact ⟨f, hf⟩
/-- the inner comprehension's list so far: small ints; the wheel goes on -/
def Dn (base : Led) (W0 S : Addr) (c k : Nat) (i : Nat) (ys : List Value) (n1 : Led) : Prop := ys.length = i ∧ (∀ p ∈ base, p.1 ≠ W0 → p ∈ n1) ∧ (∃ t, (W0, whl S ((k + i : Nat) : Int) t c) ∈ n1) ∧ ∀ (j : Nat) (v : Value), ys[j]? = some v → ∃ z : Int, (∃ t, v = Value.int z t) ∧ z.natAbs ≤ 2
/-- the outer one: rows of small ints -/
def Dr (base : Led) (W0 S : Addr) (c k cn : Nat) (i : Nat) (ys : List Value) (n1 : Led) : Prop := ys.length = i ∧ (∀ p ∈ base, p.1 ≠ W0 → p ∈ n1) ∧ (∃ t, (W0, whl S ((k + i * cn : Nat) : Int) t c) ∈ n1) ∧ ∀ (j : Nat) (v : Value), ys[j]? = some v → ∃ f : Nat → Int, ∃ r : Addr, v = Value.ref r ∧ r ≠ W0 ∧ IRow n1 r cn f ∧ ∀ q, q < cn → (f q).natAbs ≤ 2
theorem c_dr (w : World) (W0 S : Addr) (k : Nat) (tk ta tb : Tok) (c ks rn cn : Nat) (vs : List Value) (news : Led) (hW : (W0, whl S (k : Int) tk c) ∈ news) (hS : (S, W.listOf vs.toArray ks) ∈ news) (hSW : S ≠ W0) (hv : AllInts vs) (hl : vs.length < 2 ^ 62) (hrn : rn < 100) (hcn : cn < 100) (hk : k + rn * cn < 100) :
    Con w 167 [.ref W0, .int (rn : Int) ta, .int (cn : Int) tb] news 8 (fun r tl => ∃ (G : Addr) (x : IMx) (t' : Tok), r = .ref G ∧ IGrid (off W0 tl) G rn cn x ∧ (∀ i j, i < rn → j < cn → (x i j).natAbs ≤ 2) ∧ (W0, whl S ((k + rn * cn : Nat) : Int) t' c) ∈ tl ∧ ∀ p ∈ news, p.1 ≠ W0 → p ∈ tl) := by
  have hr0 : PySem.Challenge.rw_tk0004_01 = PySem.Challenge.rw_tk0004_01 ∨ hd.heap_39 w.params = [] := by k_fill; exact rowK w
  clear hr0
  refine con_enterK [((Str.ofString "wheel"), .ref W0), ((Str.ofString "rows"), .int (rn : Int) ta), ((Str.ofString "columns"), .int (cn : Int) tb)] (put (Str.ofString "rows") (.int (rn : Int) ta) fun _ => none) (put (Str.ofString "columns") (.int (cn : Int) tb) (put (Str.ofString "wheel") (.ref W0) fun _ => none)) (fun L => [((Str.ofString "columns"), L + 1), ((Str.ofString "wheel"), L)]) (by k_is) (by k_is) (fun s => BindsTo.of_eq rfl) (by rfl) (by intro _; rfl) (by intro _; rfl) (by intro _; rfl) (by decide) rfl rfl rfl (by decide) ?_
  intro A h₀ L cells St Y l
  have hh := St.hh
  obtain ⟨o1, o2, rfl, d1, d2⟩ := CellsAre.two Y
  clear Y
  have n1W : L + 1 + 1 ≠ W0 := Nat.ne_of_gt (Nat.lt_succ_of_lt (Nat.lt_succ_of_lt (ltM3 l hW)))
  have n2W : L + 1 ≠ W0 := Nat.ne_of_gt (Nat.lt_succ_of_lt (ltM3 l hW))
  generalize hB : [(L + 1 + 1, o1), (L + 1, o2)] ++ news = B
  have sB : ∀ p ∈ news, p ∈ B := fun p hp => hB ▸ List.mem_append_right _ hp
  have m1 : (L + 1 + 1, o1) ∈ B := hB ▸ .head _
  have m2 : (L + 1, o2) ∈ B := hB ▸ .tail _ (.head _)
  clear hB
  refine Ex.ret (Pc.compR (n := rn) (Dr B W0 S c k cn) (PrP.of (Pr.one (St.built (by k_is)) (Pi.of (Pv.loc (by with_unfolding_all rfl)))) ⟨rfl, fun p hp _ => hp, ⟨tk, by simpa using sB _ hW⟩, fun j v e => by simp at e⟩) (rg_small hrn) rg_size (leSz hrn) ?step ?fin)
  case step =>
    intro i ys n1 I oI C oC D m₂ t hi hJ hC hx hoff hne
    obtain ⟨hyl, hb, ⟨t1, hw⟩, hys⟩ := hJ
    have kI : ∀ {p : Addr × Obj}, p ∈ n1 → p.1 ≠ I ∧ p.1 ≠ C ∧ p.1 ≠ D := fun {p} hp => hoff.mem p hp
    have hrc : i * cn + cn ≤ rn * cn := by have := Nat.mul_le_mul_right cn (Nat.succ_le_of_lt hi); rw [Nat.succ_mul] at this; exact this
    refine Pc.compR (n := cn) (Dn ((I, oI) :: (C, oC) :: (D, LCg.lst ys) :: n1) W0 S c (k + i * cn)) (PrP.of (Pr.one (St.built (by k_is)) (Pi.of (Pv.cell (.tail _ (.tail _ (.tail _ (hb _ m1 n1W)))) d1))) ⟨rfl, fun p hp _ => hp, ⟨t1, .tail _ (.tail _ (.tail _ hw))⟩, fun j v e => by simp at e⟩) (rg_small hcn) rg_size (leSz hcn) ?step2 ?fin2
    case step2 =>
      intro s zs n2 I2 oI2 C2 oC2 D2 m₃ t2 hs hJ2 hC2 hx2 hoff2 hne2
      obtain ⟨hzl, hb2, ⟨t3, hw2⟩, hzs⟩ := hJ2
      have mem : ∀ p ∈ n1, p.1 ≠ W0 → p ∈ (I2, oI2) :: (C2, oC2) :: (D2, LCg.lst zs) :: n2 := fun p hp hp2 => .tail _ (.tail _ (.tail _ (hb2 _ (.tail _ (.tail _ (.tail _ hp))) hp2)))
      have o3 := hoff2.mem _ hw2
      refine Pc.fn St.X (St.glob (by k_is)) (by k_is) (Pl.v (Pv.cell (mem _ (hb _ m2 n2W) n2W) d2) (Pl.nil (Ok.mono (St.call (c_sp w W0 S (k + i * cn + s) t3 c ks vs _ (.tail _ (.tail _ (.tail _ hw2))) (mem _ (hb _ (sB _ hS) hSW) hSW) hSW hv hl (by omega)) (by decide)) ?_)))
      rintro r tl ⟨x, t4, t5, rfl, hx3, rfl⟩
      refine CendP.mk ((W0, whl S ((k + i * cn + s + 1 : Nat) : Int) t5 c) :: off W0 n2) (cend_sub (n1 := []) (List.forall_mem_cons.mpr ⟨.tail _ (off_mem (.head _) (Ne.symm o3.1)), List.forall_mem_cons.mpr ⟨.tail _ (off_mem (.tail _ (.head _)) (Ne.symm o3.2.1)), List.forall_mem_cons.mpr ⟨.tail _ (off_mem (.tail _ (.tail _ (.head _))) (Ne.symm o3.2.2)), List.forall_mem_nil _⟩⟩⟩) (List.forall_mem_cons.mpr ⟨.head _, fun p hp => .tail _ (off_mem (.tail _ (.tail _ (.tail _ (off_sub p hp)))) (off_ne p hp))⟩)) (LCg.Off3.of (List.forall_mem_cons.mpr ⟨o3, fun p hp => hoff2.mem p (off_sub p hp)⟩)) ⟨by simp [hzl], fun p hp hp2 => .tail _ (off_mem (hb2 p hp hp2) hp2), ⟨t5, .head _⟩, fun j v e => ?_⟩
      rcases Nat.lt_trichotomy j zs.length with h | h | h
      · rw [List.getElem?_append_left h] at e
        exact hzs j v e
      · subst h
        rw [List.getElem?_append_right (Nat.le_refl _)] at e
        have : Value.int x t4 = v := by simpa using e
        subst this
        exact ⟨x, ⟨t4, rfl⟩, hx3⟩
      · rw [List.getElem?_eq_none (by simp; omega)] at e
        cases e
    case fin2 =>
      intro zs n2 D' hJ2 hoD Un
      obtain ⟨hzl, hb2, ⟨t3, hw2⟩, hzs⟩ := hJ2
      have wI := kI hw
      obtain ⟨f, hf⟩ := choose_at hzs
      have hDI : D' ≠ I := Ne.symm (off1N hoD (hb2 _ (.head _) (Ne.symm wI.1)))
      have hDC : D' ≠ C := Ne.symm (off1N hoD (hb2 _ (.tail _ (.head _)) (Ne.symm wI.2.1)))
      have hDD : D' ≠ D := Ne.symm (off1N hoD (hb2 _ (.tail _ (.tail _ (.head _))) (Ne.symm wI.2.2)))
      have hDW : D' ≠ W0 := Ne.symm (off1N hoD hw2)
      have keep : ∀ p ∈ n1, p.1 ≠ W0 → p ∈ off3 I C D ((D', LCg.lst zs) :: n2) := fun p hp hp2 => off3_mem (.tail _ (hb2 _ (.tail _ (.tail _ (.tail _ hp))) hp2)) (kI hp).1 (kI hp).2.1 (kI hp).2.2
      have rowk : ∀ {r : Addr} {g : Nat → Int}, r ≠ W0 → IRow n1 r cn g → IRow (off3 I C D ((D', LCg.lst zs) :: n2)) r cn g := fun hr ⟨us, kk, a, b, d⟩ => ⟨us, kk, a, keep _ b hr, d⟩
      refine CendP.mk (off3 I C D ((D', LCg.lst zs) :: n2)) (cend_sub (n1 := []) (List.forall_mem_cons.mpr ⟨.tail _ (hb2 _ (.head _) (Ne.symm wI.1)), List.forall_mem_cons.mpr ⟨.tail _ (hb2 _ (.tail _ (.head _)) (Ne.symm wI.2.1)), List.forall_mem_cons.mpr ⟨.tail _ (hb2 _ (.tail _ (.tail _ (.head _))) (Ne.symm wI.2.2)), List.forall_mem_nil _⟩⟩⟩) off3_sub) off3_off ⟨by simp [hyl], fun p hp hp2 => keep p (hb p hp hp2) hp2, ⟨t3, ?_⟩, fun j v e => ?_⟩
      · rw [show k + (i + 1) * cn = k + i * cn + cn by rw [Nat.succ_mul, Nat.add_assoc]]
        exact off3_mem (.tail _ hw2) wI.1 wI.2.1 wI.2.2
      · rcases Nat.lt_trichotomy j ys.length with h | h | h
        · rw [List.getElem?_append_left h] at e
          obtain ⟨g, r, a, b, d, q⟩ := hys j v e
          exact ⟨g, r, a, b, rowk b d, q⟩
        · subst h
          rw [List.getElem?_append_right (Nat.le_refl _)] at e
          have : Value.ref D' = v := by simpa using e
          subst this
          refine ⟨f, D', rfl, hDW, ⟨zs, _, hzl, off3_mem (.head _) hDI hDC hDD, fun q v e => (hf q v e).1⟩, fun q hq => ?_⟩
          have hq2 : q < zs.length := by omega
          exact (hf q _ (List.getElem?_eq_getElem hq2)).2
        · rw [List.getElem?_eq_none (by simp; omega)] at e
          cases e
  case fin =>
    intro ys n1 D hJ hoD _
    obtain ⟨hyl, hb, ⟨t1, hw⟩, hys⟩ := hJ
    obtain ⟨x, hx⟩ := choose_at hys
    refine RetP.mk _ (fun p hp => hp) ⟨D, x, t1, rfl, ⟨ys, _, hyl, off_mem (.head _) (Ne.symm (off1N hoD hw)), fun j v e => ?_⟩, fun i j hi hj => ?_, .tail _ hw, fun p hp hp2 => .tail _ (hb p (sB p hp) hp2)⟩
    · obtain ⟨r, a, b, d, q⟩ := hx j v e
      exact ⟨r, a, (d.mono tl).off b⟩
    · have hi2 : i < ys.length := by omega
      obtain ⟨r, a, b, d, q⟩ := hx i _ (List.getElem?_eq_getElem hi2)
      exact q j hj
end Mine
end
section
open PySem PySem.W PyProof.Rows PySem.Calls
set_option linter.all false
namespace Mine
section
variable {prog : Program} {w : World} {A : Around} {env : Env} {h₀ : Heap} {L : Addr} {m : Fm} {news : Led} {ss : List Stmt} {R : Flow → Fm → Led → Prop}
theorem Pc.slice {v e : Expr} {p pos : Pos} {l : Addr} {vs : List Value} {z : Int} {post : Value → Led → Prop} (hv : Pv prog w A env h₀ L m news v (.ref l)) (hl : h₀.IsList l vs.toArray) (he : Pi prog w A env h₀ L m news e z) (hz : vs.length ≤ sizeLine) (h : ∀ D, (∀ p ∈ news, p.1 < D) → post (.ref D) ((D, W.listOf (slicePick vs.toArray none (some z) none) 0) :: news))
    (hs : ∀ a, subscripted (.Slice none (some e) none p) false (.ref l) (.ref a) = operate [.ref a, .ref l] (getItem (.ref l) (.ref a)) := by intro _; rfl) (ht : ∀ r, letTemporaryGo v (.ref l) r = pure () := by intro _; with_unfolding_all rfl) :
    Pc prog w A env h₀ L m news (.Subscript v (.Slice none (some e) none p) pos) post := fun h' g d tk os Q E F N q =>
  Subscript_ (hv h' g d tk os _ _ F N fun tk => wpAny_Slice (evalPart_none_step (evalPart_some_step (he h' g d tk os _ _ F N fun t tk => evalPart_none_step (kmk_slice (s := ⟨h', g, d, tk, os⟩) F N (let ⟨o, e, r⟩ := hl; ⟨o, F.keep _ _ e, r⟩) .none (.int z t) (fun D h'' F' N' l1 => q _ _ _ _ (h D l1) F' N') (hs _) ht (by simpa using hz))))))
/-- a store to a cell -/
def NmP (c : Addr) (v : Value) (K : Led → Prop) (tl : Led) : Prop := ∃ (o : Obj) (v₀ : Option Value) (rest : Led), (c, o) ∈ tl ∧ o.data = .cell v₀ ∧ (∀ p ∈ rest, p ∈ tl) ∧ (∀ p ∈ rest, p.1 ≠ c) ∧ ∀ o' : Obj, o'.data = .cell (some v) → K ((c, o') :: rest)
theorem NmP.mk {c : Addr} {v : Value} {K : Led → Prop} {tl : Led} {o : Obj} {v₀ : Option Value} (hm : (c, o) ∈ tl) (ho : o.data = .cell v₀) (k : ∀ o' : Obj, o'.data = .cell (some v) → K ((c, o') :: off c tl)) : NmP c v K tl := ⟨o, v₀, off c tl, hm, ho, off_sub, off_ne, k⟩
theorem NmP.run {x : Str} {px : Pos} {c : Addr} {v : Value} {K : Led → Prop} {tl : Led} {h' : Heap} {g : Array GenState} {d : Drawn} {tk : Nat} {os : OsState} {Q : Unit → Shared → Prop} {E : Value → Shared → Prop} (p : NmP c v K tl) (F' : Fr h₀ L h' m) (N' : News h₀ L h' tl) (hc : env.cells.lookup x = some c) (hx : env.kindOf x = some .cell) (hk : env.scope.kind = .function) (q : ∀ n h'' tk', K n → Fr h₀ L h'' m → News h₀ L h'' n → Q () ⟨h'', g, d, tk', os⟩) :
    wpAny (model prog w) A (assign (.Name x px) env v) Q E ⟨h', g, d, tk, os⟩ := assign_Name (by
  obtain ⟨o, v₀, rest, hm, ho, hr, hne, k⟩ := p
  have z := N' _ hm
  refine wpAny_storeName_cell hk hx hc ⟨o, z.1, ho⟩ fun h'' hv hs' => ?_
  obtain ⟨o', ho', hd'⟩ := hv
  exact q _ _ _ (k o' hd') (F'.change hs' z.2.1 z.2.2) (news_put N' hm hs' ho' hr hne))
/-- x, y, z = e (cells), the value a display of three -/
def Tup3P (c1 c2 c3 : Addr) (K : Led → Prop) (r : Value) (tl : Led) : Prop := ∃ (D : Addr) (v1 v2 v3 : Value), r = .ref D ∧ (D, ({ cls := .type "tuple", data := .seq #[v1, v2, v3] } : Obj)) ∈ tl ∧ NmP c1 v1 (NmP c2 v2 (NmP c3 v3 K)) tl
theorem Tup3P.mk {c1 c2 c3 D : Addr} {K : Led → Prop} {v1 v2 v3 : Value} {tl : Led} (hm : (D, ({ cls := .type "tuple", data := .seq #[v1, v2, v3] } : Obj)) ∈ tl) (k : NmP c1 v1 (NmP c2 v2 (NmP c3 v3 K)) tl) : Tup3P c1 c2 c3 K (.ref D) tl := ⟨D, v1, v2, v3, rfl, hm, k⟩
theorem Ex.tup3s {x y z : Str} {k : Nat} {px py pz tpos pos : Pos} {e : Expr} {c1 c2 c3 : Addr} (he : Pc prog w A env h₀ L m news e (Tup3P c1 c2 c3 fun n => Ex prog w A env h₀ L m n ss R)) (hh : A.handled = none := by assumption) (hx : env.kindOf x = some .cell := by rfl) (hy : env.kindOf y = some .cell := by rfl) (hz : env.kindOf z = some .cell := by rfl) (h1 : env.cells.lookup x = some c1 := by rfl) (h2 : env.cells.lookup y = some c2 := by rfl) (h3 : env.cells.lookup z = some c3 := by rfl) (hk : env.scope.kind = .function := by rfl)
    (hs : swapsWithSole [.Tuple [.Name x px, .Name y py, .Name z pz] k tpos] e pos.line env = pure false := by rfl) (hw : swappedStores [.Tuple [.Name x px, .Name y py, .Name z pz] k tpos] e env = pure none := by rfl)
    (ha : (assignEach [.Name x px, .Name y py, .Name z pz] env) = [(false, assign (.Name x px) env), (false, assign (.Name y py) env), (false, assign (.Name z pz) env)] := by rfl) :
    Ex prog w A env h₀ L m news (.Assign [.Tuple [.Name x px, .Name y py, .Name z pz] k tpos] e pos :: ss) R :=
  Ex.one fun h g d tk os Q E hE F N q => Assign_Tuple (he h g d tk os _ _ F N fun r tl h' tk' p F' N' => by
    obtain ⟨D, v1, v2, v3, rfl, hm, k⟩ := p
    refine unpackN_ (s := ⟨h', g, d, tk', os⟩) F' N' (News.isTup N' hm) hh (by rw [ha]; rfl) (by rw [ha]; rfl) fun h'' F2 N2 => ?_
    rw [ha]
    refine assignInOrder_cons (k.run F2 N2 h1 hx hk fun n h4 tk4 k F4 N4 => ?_)
    refine assignInOrder_cons (k.run F4 N4 h2 hy hk fun n h5 tk5 k F5 N5 => ?_)
    refine assignInOrder_cons (k.run F5 N5 h3 hz hk fun n h6 tk6 k F6 N6 => ?_)
    exact assignInOrder_nil (q .next _ _ _ _ k F6 N6)) hs hw
theorem Pt.neL {a b : Expr} {pos : Pos} {post : Bool → Led → Prop} (ha : Pc prog w A env h₀ L m news a (fun r tl => ∃ x y t, r = .int x t ∧ Pi prog w A env h₀ L m tl b y ∧ post (x != y) tl)) (hm : behindInMarks .NotEq b = false := by with_unfolding_all rfl) : Pt prog w A env h₀ L m news (.Compare a [.NotEq] [b] pos) post := fun h g d tk os Q E F N q =>
  wpAny_isTrue_Compare1 (ha h g d tk os _ _ F N fun r tl h' tk' p F' N' => by
    obtain ⟨x, y, t, rfl, hb, p⟩ := p
    exact hb h' g d tk' os _ _ F' N' fun u tk => P.ne_int (wpAny_truthy_bool (q _ _ _ _ p F' N'))) hm
theorem Pt.and {a b : Expr} {pos : Pos} {x : Bool} {post : Bool → Led → Prop} (ha : Pb prog w A env h₀ L m news a x) (hf : x = false → post false news) (ht : x = true → Pt prog w A env h₀ L m news b post) : Pt prog w A env h₀ L m news (.BoolOp .And [a, b] pos) post := fun h g d tk os Q E F N q =>
  isTrue_and (ha h g d tk os _ _ F N fun tk => by
    cases x with
    | false => exact q _ _ _ _ (hf rfl) F N
    | true => exact isTrue_and (ht rfl h g d tk os _ _ F N fun b tl h' tk' p F' N' => by
        cases b with
        | false => exact q _ _ _ _ p F' N'
        | true => exact isTrue_and_nil (q _ _ _ _ p F' N')))
theorem Pc.eqC {a b : Expr} {pos : Pos} {post : Value → Led → Prop} (ha : Pc prog w A env h₀ L m news a (fun r tl => ∃ x y t, r = .int x t ∧ Pi prog w A env h₀ L m tl b y ∧ post (.bool (x == y)) tl)) (hm : behindInMarks .Eq b = false := by with_unfolding_all rfl) : Pc prog w A env h₀ L m news (.Compare a [.Eq] [b] pos) post := fun h g d tk os Q E F N q =>
  wpAny_Compare1 (ha h g d tk os _ _ F N fun r tl h' tk' p F' N' => by
    obtain ⟨x, y, t, rfl, hb, p⟩ := p
    exact hb h' g d tk' os _ _ F' N' fun u tk => P.eq_int (q _ _ _ _ p F' N')) hm
theorem Pc.mulC {a b : Expr} {pos : Pos} {post : Value → Led → Prop} (ha : Pc prog w A env h₀ L m news a (fun r tl => ∃ x t, r = .int x t ∧ Pc prog w A env h₀ L m tl b (fun r2 tl2 => ∃ y u, r2 = .int y u ∧ IntMulOk x y ∧ ∀ t, post (.int (x * y) t) tl2))) : Pc prog w A env h₀ L m news (.BinOp a .Mult b pos) post := fun h g d tk os Q E F N q =>
  wpAny_BinOp (ha h g d tk os _ _ F N fun r tl h' tk' p F' N' => by
    obtain ⟨x, t, rfl, hb⟩ := p
    refine hb h' g d tk' os _ _ F' N' fun r2 tl2 h2 tk2 p2 F2 N2 => ?_
    obtain ⟨y, u, rfl, hm, hp⟩ := p2
    exact P.mul_int (q _ _ _ _ (hp _) F2 N2) hm)
theorem Pb.neLL {a b : Expr} {pos : Pos} {G H r0 q0 r1 q1 r2 q2 : Addr} {x00 x01 x02 x10 x11 x12 x20 x21 x22 : Int} {t00 u00 t01 u01 t02 u02 t10 u10 t11 u11 t12 u12 t20 u20 t21 u21 t22 u22 : Tok} {k k0 k1 k2 n n0 n1 n2 : Nat} (ha : Pv prog w A env h₀ L m news a (.ref G)) (hb : Pv prog w A env h₀ L m news b (.ref H))
    (hG : (G, W.listOf #[.ref r0, .ref r1, .ref r2] k) ∈ news) (hr0 : (r0, W.listOf #[.int x00 t00, .int x01 t01, .int x02 t02] k0) ∈ news) (hr1 : (r1, W.listOf #[.int x10 t10, .int x11 t11, .int x12 t12] k1) ∈ news) (hr2 : (r2, W.listOf #[.int x20 t20, .int x21 t21, .int x22 t22] k2) ∈ news)
    (hH : (H, W.listOf #[.ref q0, .ref q1, .ref q2] n) ∈ news) (hq0 : (q0, W.listOf #[.int x00 u00, .int x01 u01, .int x02 u02] n0) ∈ news) (hq1 : (q1, W.listOf #[.int x10 u10, .int x11 u11, .int x12 u12] n1) ∈ news) (hq2 : (q2, W.listOf #[.int x20 u20, .int x21 u21, .int x22 u22] n2) ∈ news)
    (hu : A.units + 64 < cLine) (hm : behindInMarks .NotEq b = false := by with_unfolding_all rfl) : Pb prog w A env h₀ L m news (.Compare a [.NotEq] [b] pos) false := fun h g d tk os Q E F N q =>
  wpAny_isTrue_Compare1 (ha h g d tk os _ _ F N fun tk => hb h g d tk os _ _ F N fun tk => by
    refine ne_dataH (s := ⟨h, g, d, tk, os⟩) (reads_list_at (News.get N hG) rfl rfl (.cons (reads_list_at (News.get N hr0) rfl rfl (.cons (.int _ _) (.cons (.int _ _) (.cons (.int _ _) .nil)))) (.cons (reads_list_at (News.get N hr1) rfl rfl (.cons (.int _ _) (.cons (.int _ _) (.cons (.int _ _) .nil)))) (.cons (reads_list_at (News.get N hr2) rfl rfl (.cons (.int _ _) (.cons (.int _ _) (.cons (.int _ _) .nil)))) .nil)))) (reads_list_at (News.get N hH) rfl rfl (.cons (reads_list_at (News.get N hq0) rfl rfl (.cons (.int _ _) (.cons (.int _ _) (.cons (.int _ _) .nil)))) (.cons (reads_list_at (News.get N hq1) rfl rfl (.cons (.int _ _) (.cons (.int _ _) (.cons (.int _ _) .nil)))) (.cons (reads_list_at (News.get N hq2) rfl rfl (.cons (.int _ _) (.cons (.int _ _) (.cons (.int _ _) .nil)))) .nil)))) ?_ ?_ hu ?_
    · rfl
    · rfl
    · have e : PyData.eqv (.list [.list [.int x00, .int x01, .int x02], .list [.int x10, .int x11, .int x12], .list [.int x20, .int x21, .int x22]]) (.list [.list [.int x00, .int x01, .int x02], .list [.int x10, .int x11, .int x12], .list [.int x20, .int x21, .int x22]]) = true := by
        simp [PyData.eqv, PyData.eqvAll]
      rw [e]
      exact wpAny_truthy_bool (q _)) hm
end
theorem list3 {l : List Value} (h : l.length = 3) : ∃ a b c, l = [a, b, c] := match l, h with
  | [a, b, c], _ => ⟨a, b, c, rfl⟩
theorem IRow.three {led : Led} {r : Addr} {x : Nat → Int} (h : IRow led r 3 x) : ∃ k t0 t1 t2, (r, W.listOf #[.int (x 0) t0, .int (x 1) t1, .int (x 2) t2] k) ∈ led := by
  obtain ⟨vs, k, hl, hm, hv⟩ := h
  obtain ⟨v0, v1, v2, rfl⟩ := list3 hl
  obtain ⟨t0, rfl⟩ := hv 0 v0 rfl
  obtain ⟨t1, rfl⟩ := hv 1 v1 rfl
  obtain ⟨t2, rfl⟩ := hv 2 v2 rfl
  exact ⟨k, t0, t1, t2, hm⟩
theorem IGrid.three {led : Led} {g : Addr} {x : IMx} (h : IGrid led g 3 3 x) : ∃ k r0 r1 r2, (g, W.listOf #[.ref r0, .ref r1, .ref r2] k) ∈ led ∧ IRow led r0 3 (x 0) ∧ IRow led r1 3 (x 1) ∧ IRow led r2 3 (x 2) := by
  obtain ⟨vs, k, hl, hm, hv⟩ := h
  obtain ⟨v0, v1, v2, rfl⟩ := list3 hl
  obtain ⟨r0, rfl, h0⟩ := hv 0 v0 rfl
  obtain ⟨r1, rfl, h1⟩ := hv 1 v1 rfl
  obtain ⟨r2, rfl, h2⟩ := hv 2 v2 rfl
  exact ⟨k, r0, r1, r2, hm, h0, h1, h2⟩
theorem Pb.neG {prog : Program} {w : World} {A : Around} {env : Env} {h₀ : Heap} {L : Addr} {m : Fm} {news : Led} {a b : Expr} {pos : Pos} {G H : Addr} {x : IMx} (ha : Pv prog w A env h₀ L m news a (.ref G)) (hb : Pv prog w A env h₀ L m news b (.ref H)) (hG : IGrid news G 3 3 x) (hH : IGrid news H 3 3 x) (hu : A.units + 64 < cLine) (hm : behindInMarks .NotEq b = false := by with_unfolding_all rfl) : Pb prog w A env h₀ L m news (.Compare a [.NotEq] [b] pos) false := by
  obtain ⟨k, r0, r1, r2, hg, a0, a1, a2⟩ := hG.three
  obtain ⟨n, q0, q1, q2, hh, b0, b1, b2⟩ := hH.three
  obtain ⟨_, _, _, _, a0⟩ := a0.three
  obtain ⟨_, _, _, _, a1⟩ := a1.three
  obtain ⟨_, _, _, _, a2⟩ := a2.three
  obtain ⟨_, _, _, _, b0⟩ := b0.three
  obtain ⟨_, _, _, _, b1⟩ := b1.three
  obtain ⟨_, _, _, _, b2⟩ := b2.three
  exact Pb.neLL ha hb hg a0 a1 a2 hh b0 b1 b2 hu hm
theorem Site.units {w : World} {A : Around} {h₀ : Heap} {L : Addr} {k : Nat} (S : Site w A h₀ L k) (hk : 10 ≤ k) : A.units + 64 < cLine := by
  obtain ⟨dp, un, gd, cn, cs, aa, ccd, cl, outer, A₀, base, rfl, B, hk', h1, h2⟩ := S.raw
  show un + 64 < cLine
  omega
end Mine
end
section
open PySem PySem.W PyProof.Rows PySem.Calls
set_option linter.all false
namespace Mine
section
variable {prog : Program} {w : World} {A : Around} {E : Value → Shared → Prop} {s : Shared} {env : Env} {h₀ : Heap} {body : List Stmt} {Q : Flow → Shared → Prop}
theorem iter_range3 {x : Str} {px : Pos} {r : Addr} {t u v : Tok} {m₀ : Str → Option Value} {news : List (Addr × Obj)}
    (hh : A.handled = none) (F : Fr h₀ env.locals s.heap m₀) (N : News h₀ env.locals s.heap news) (hr : IsRange s.heap r 0 3 1 t u v)
    (rest₀ : ∀ I : Addr, (∀ p ∈ news, p.1 < I) → ItemsRest prog w A E h₀ env (.Name x px) body Q s [(I, "range_iterator")] [] [Itm.tok (fun t => .int 0 t), Itm.tok (fun t => .int 1 t), Itm.tok (fun t => .int 2 t)] m₀ news) :
    wpAny (model prog w) A (pyIter (.ref r)) (fun it s₂ => TurnsAt prog w A h₀ env (.Name x px) body Q E it s₂) E s := by
  refine wpAny_pyIter_range hr rfl ?_
  refine ktu_core (tk0 := s.toks) (keep := []) (KTurns.ofWalks (Walks.range hh s.heap.objs.size 0 1 3).bound fun i v s Q E st q => by show wpAny _ _ (pure ()) _ _ _; exact wpAny_pure q) rfl (fun i v h hp => ?_) (fun i h st => ?_) (fun b hb => ?_) (fun b hb => by simpa using hb) (fun b hb => ?_) ?_ (fun p hp hI => ?_) ?_ (F.push _) (fun p hp => ⟨Heap.get?_push_of_some _ (N p hp).1, (N p hp).2⟩) trivial (rest₀ _ fun p hp => Heap.lt_size (N p hp).1)
  · obtain ⟨hi, t, rfl⟩ := hp
    have : i = 0 ∨ i = 1 ∨ i = 2 := by omega
    rcases this with rfl | rfl | rfl
    · exact ⟨_, rfl, t, rfl⟩
    · exact ⟨_, rfl, t, rfl⟩
    · exact ⟨_, rfl, t, rfl⟩
  · exact ⟨[(s.heap.objs.size, _)], ⟨⟨rfl, rfl⟩, trivial⟩, fun p hp => by rw [List.mem_singleton.mp hp]; exact st⟩
  · have hb' : b = s.heap.objs.size := by simpa using hb
    rw [hb']
    exact ⟨List.mem_cons_self .., next_is_new F⟩
  · have hb' : b = s.heap.objs.size := by simpa using hb
    exact .inl (by simp [hb'])
  · intro hI
    have e : env.locals = s.heap.objs.size := by simpa using hI
    exact absurd F.ns.lt (e ▸ Nat.lt_irrefl _)
  · exact absurd (Heap.lt_size (N p hp).1) ((List.mem_singleton.mp hI) ▸ Nat.lt_irrefl _)
  · exact Heap.get?_push_size _ rfl
end
theorem Ex.forC3 {prog : Program} {w : World} {A : Around} {env : Env} {h₀ : Heap} {L : Addr} {m : Fm} {news : Led} {ss : List Stmt} {R : Flow → Fm → Led → Prop} {x : Str} {px pos : Pos} {iter : Expr} {body : List Stmt} (J : Nat → Fm → Led → Prop) (hr : Pr prog w A env h₀ L m news iter 0 3) (h0 : J 0 m news)
    (turn : ∀ (i : Nat) (m1 : Fm) (n1 : Led) (I : Addr) (it : Obj) (t : Tok), i < 3 → it.cls = .type "range_iterator" → J i m1 n1 → (∀ p ∈ n1, p.1 ≠ I) → To prog w A env h₀ L m1 ((I, it) :: n1) (.Name x px) (.int (i : Int) t) fun m2 n2 => Ex prog w A env h₀ L m2 n2 body (TurnP (J (i + 1)) R I it))
    (done : ∀ m1 n1, J 3 m1 n1 → Ex prog w A env h₀ L m1 n1 ss R) (hl : env.locals = L := by rfl) (hh : A.handled = none := by assumption) (hs : ∀ x, foldedSetIterable iter env x = pure x := by intro _; rfl) :
    Ex prog w A env h₀ L m news (.For (.Name x px) iter body [] pos :: ss) R := by
  subst hl
  refine Ex.one fun h g d tk os Q E hE F N q => ?_
  refine For_turns (s := ⟨h, g, d, tk, os⟩) F (hr h g d tk os _ _ F N fun r t u v h' tk' hR F' N' => ?_) hs hE
  refine iter_range3 (s := ⟨h', g, d, tk', os⟩) hh F' N' hR fun I hI => ?_
  have step : ∀ (i : Nat) (r : List Itm), i < 3 → (∀ m1 n1, J (i + 1) m1 n1 → (∀ p ∈ n1, p.1 ≠ I) → ItemsRest prog w A E h₀ env (.Name x px) body Q ⟨h', g, d, tk', os⟩ [(I, "range_iterator")] [] r m1 n1) → ∀ m1 n1, J i m1 n1 → (∀ p ∈ n1, p.1 ≠ I) → ItemsRest prog w A E h₀ env (.Name x px) body Q ⟨h', g, d, tk', os⟩ [(I, "range_iterator")] [] (Itm.tok (fun t => .int (i : Int) t) :: r) m1 n1 := by
    intro i r hi ih m1 n1 hJ hoff
    refine ItemsRest.tok fun t h1 tk1 F1 it hit N1 => ?_
    refine turn i m1 n1 I it t hi hit hJ hoff h1 g d tk1 os _ E F1 N1 fun m2 n2 h2 tk2 x F2 N2 => ?_
    refine x h2 g d tk2 os _ E hE F2 N2 fun f m3 n3 h3 tk3 hf F3 N3 => ?_
    cases f with
    | ret v => exact q _ _ _ _ _ hf F3 N3
    | brk => exact hf.elim
    | cont => exact hf.elim
    | next =>
      obtain ⟨n4, hs4, ho4, hJ4⟩ := hf
      exact ⟨h3, tk3, m3, n4, rfl, F3, fun p hp => N3 p (hs4 p hp), fun p hp q hq => by rw [List.mem_singleton.mp hq]; exact ho4 p hp, trivial, ih m3 n4 hJ4 ho4⟩
  refine step 0 _ (by decide) (step 1 _ (by decide) (step 2 [] (by decide) fun m1 n1 hJ _ h1 tk1 F1 N1 => q .next m1 n1 h1 tk1 (done m1 n1 hJ) F1 N1)) m news h0 fun p hp => Nat.ne_of_lt (hI p hp)
/-- the law's ledger: ten cells, and a part that no store touches -/
structure Lst (L : Addr) (f : Nat → Option Value) (base led : Led) : Prop where
  sub : ∀ p ∈ base, p ∈ led
  ne : ∀ p ∈ base, ∀ j, j < 10 → p.1 ≠ L + 1 + j
  cs : ∀ j, j < 10 → ∃ ob : Obj, (L + 1 + j, ob) ∈ led ∧ ob.data = .cell (f j)
def fset (f : Nat → Option Value) (j : Nat) (v : Value) : Nat → Option Value := fun i => if i = j then some v else f i
def offC (L : Addr) (led : Led) : Led := led.filter fun p => !(Nat.ble (L + 1) p.1 && Nat.ble p.1 (L + 10))
theorem offC_sub {L : Addr} {led : Led} : ∀ p ∈ offC L led, p ∈ led := fun p hp => (List.mem_filter.mp hp).1
theorem offC_mem {L : Addr} {led : Led} {p : Addr × Obj} (hm : p ∈ led) (hne : ∀ j, j < 10 → p.1 ≠ L + 1 + j) : p ∈ offC L led := List.mem_filter.mpr ⟨hm, by
  have h : ¬ (L + 1 ≤ p.1 ∧ p.1 ≤ L + 10) := fun h => by
    have h1 : (L + 1 : Nat) ≤ p.1 := h.1
    have h2 : (p.1 : Nat) ≤ L + 10 := h.2
    have h3 : (p.1 : Nat) = L + 1 + (p.1 - (L + 1)) := (Nat.add_sub_cancel' h1).symm
    have h4 : (L + 1 + (p.1 - (L + 1)) : Nat) ≤ L + 1 + 9 := h3 ▸ h2
    exact hne (p.1 - (L + 1)) (Nat.lt_succ_of_le (Nat.le_of_add_le_add_left h4)) h3
  cases e : (Nat.ble (L + 1) p.1 && Nat.ble p.1 (L + 10)) with
  | false => rfl
  | true =>
    obtain ⟨a, b⟩ := Bool.and_eq_true_iff.mp e
    exact absurd ⟨Nat.le_of_ble_eq_true a, Nat.le_of_ble_eq_true b⟩ h⟩
theorem offC_ne {L : Addr} {led : Led} : ∀ p ∈ offC L led, ∀ j, j < 10 → p.1 ≠ L + 1 + j := fun p hp j hj e => by
  have h := (List.mem_filter.mp hp).2
  rw [e] at h
  have a : Nat.ble (L + 1) (L + 1 + j) = true := Nat.ble_eq_true_of_le (Nat.le_add_right _ _)
  have b : Nat.ble (L + 1 + j) (L + 10) = true := Nat.ble_eq_true_of_le (Nat.add_le_add_left (Nat.le_of_lt_succ hj) (L + 1))
  rw [a, b] at h
  cases h
section
variable {L : Addr} {f : Nat → Option Value} {base led : Led}
theorem Lst.mono {led' : Led} (h : Lst L f base led) (hs : ∀ p ∈ led, p ∈ led') : Lst L f base led' := ⟨fun p hp => hs p (h.sub p hp), h.ne, fun j hj => CellE.mono (h.cs j hj) hs⟩
theorem Lst.set (h : Lst L f base led) {j : Nat} (hj : j < 10) {v : Value} {o' : Obj} (ho : o'.data = .cell (some v)) : Lst L (fset f j v) base ((L + 1 + j, o') :: off (L + 1 + j) led) :=
  ⟨fun p hp => .tail _ (off_mem (h.sub p hp) (h.ne p hp j hj)), h.ne, fun i hi => by
    unfold fset
    by_cases e : i = j
    · subst e; rw [if_pos rfl]; exact ⟨o', .head _, ho⟩
    · rw [if_neg e]
      obtain ⟨ob, a, b⟩ := h.cs i hi
      exact ⟨ob, .tail _ (off_mem a fun e2 => e (Nat.add_left_cancel e2)), b⟩⟩
theorem Lst.offI (h : Lst L f base led) {I : Addr} (hb : ∀ p ∈ base, p.1 ≠ I) (hI : ∀ j, j < 10 → L + 1 + j ≠ I) : Lst L f base (off I led) := ⟨fun p hp => off_mem (h.sub p hp) (hb p hp), h.ne, fun j hj => CellE.off (h.cs j hj) (hI j hj)⟩
theorem Lst.congr {g : Nat → Option Value} (h : Lst L f base led) (e : ∀ j, j < 10 → f j = g j) : Lst L g base led := ⟨h.sub, h.ne, fun j hj => e j hj ▸ h.cs j hj⟩
theorem Lst.smaller {b2 : Led} (h : Lst L f base led) (hs : ∀ p ∈ b2, p ∈ base) : Lst L f b2 led := ⟨fun p hp => h.sub p (hs p hp), fun p hp => h.ne p (hs p hp), h.cs⟩
theorem Lst.rebase (h : Lst L f base led) : Lst L f (offC L led) led := ⟨offC_sub, offC_ne, h.cs⟩
theorem Lst.inC (h : Lst L f base led) : ∀ p ∈ base, p ∈ offC L led := fun p hp => offC_mem (h.sub p hp) (h.ne p hp)
theorem Lst.listC (h : Lst L f base led) (U : Uniq led) {a : Addr} {its : Array Value} {k : Nat} (hm : (a, W.listOf its k) ∈ led) : (a, W.listOf its k) ∈ offC L led := offC_mem hm fun j hj e => by
  obtain ⟨ob, hc, hd⟩ := h.cs j hj
  exact cell_list hd _ _ (U _ hm _ hc e)
theorem Lst.rowC (h : Lst L f base led) (U : Uniq led) {r : Addr} {n : Nat} {x : Nat → Int} (hr : IRow led r n x) : IRow (offC L led) r n x := let ⟨vs, k, a, b, c⟩ := hr; ⟨vs, k, a, h.listC U b, c⟩
theorem Lst.gridC (h : Lst L f base led) (U : Uniq led) {g : Addr} {n c : Nat} {x : IMx} (hr : IGrid led g n c x) : IGrid (offC L led) g n c x := let ⟨vs, k, a, b, d⟩ := hr; ⟨vs, k, a, h.listC U b, fun j v e => let ⟨r, p, q⟩ := d j v e; ⟨r, p, h.rowC U q⟩⟩
theorem Lst.nm (h : Lst L f base led) {j : Nat} (hj : j < 10) {v : Value} {K : Led → Prop} (k : ∀ led', Lst L (fset f j v) base led' → K led') : NmP (L + 1 + j) v K led := by
  obtain ⟨ob, hm, hd⟩ := h.cs j hj
  exact NmP.mk hm hd fun o' ho' => k _ (h.set hj ho')
theorem ten {P : Nat → Prop} (h0 : P 0) (h1 : P 1) (h2 : P 2) (h3 : P 3) (h4 : P 4) (h5 : P 5) (h6 : P 6) (h7 : P 7) (h8 : P 8) (h9 : P 9) : ∀ j, j < 10 → P j := fun j hj => match j, hj with
  | 0, _ => h0 | 1, _ => h1 | 2, _ => h2 | 3, _ => h3 | 4, _ => h4 | 5, _ => h5 | 6, _ => h6 | 7, _ => h7 | 8, _ => h8 | 9, _ => h9
  | j + 10, h => absurd h (by omega)
end
theorem Lst.via {L : Addr} {f : Nat → Option Value} {base led led' : Led} {X : Addr} (h : Lst L f base led) (hs : ∀ p ∈ led, p.1 ≠ X → p ∈ led') (hb : ∀ p ∈ base, p.1 ≠ X) (hc : ∀ j, j < 10 → L + 1 + j ≠ X) : Lst L f base led' :=
  ⟨fun p hp => hs p (h.sub p hp) (hb p hp), h.ne, fun j hj => let ⟨ob, a, b⟩ := h.cs j hj; ⟨ob, hs _ a (hc j hj), b⟩⟩
theorem Lst.memC {L : Addr} {f : Nat → Option Value} {base led : Led} (h : Lst L f base led) (U : Uniq led) {a : Addr} {o : Obj} (hm : (a, o) ∈ led) (ho : ∀ v, o.data ≠ .cell v) : (a, o) ∈ offC L led := offC_mem hm fun j hj e => by
  obtain ⟨ob, hc, hd⟩ := h.cs j hj
  have e2 : o = ob := U _ hm _ hc e
  exact ho _ (e2 ▸ hd)
theorem Ok.sub {prog : Program} {w : World} {A : Around} {h₀ : Heap} {L : Addr} {m : Fm} {news n' : Led} {fv : Value} {vs : List Value} {post : Value → Led → Prop} (o : Ok prog w A h₀ L m fv vs n' post) (hs : ∀ p ∈ n', p ∈ news) : Ok prog w A h₀ L m fv vs news post := fun h g d tk os Q E F N q => o h g d tk os Q E F (fun p hp => N p (hs p hp)) q
theorem Pl.uniq {prog : Program} {w : World} {A : Around} {env : Env} {h₀ : Heap} {L : Addr} {m : Fm} {news : Led} {pos : Pos} {es : List Expr} {S : List Value → Led → Prop} (x : Uniq news → Pl prog w A env h₀ L m pos news es S) : Pl prog w A env h₀ L m pos news es S := fun h g d tk os Q E F N q => x (News.uniq N) h g d tk os Q E F N q
theorem Ex.gen {prog : Program} {w : World} {A : Around} {env : Env} {h₀ : Heap} {L : Addr} {m : Fm} {news : Led} {ss : List Stmt} {R : Flow → Fm → Led → Prop} {P : Led → Prop} (h : P news) (x : ∀ led, P led → Ex prog w A env h₀ L m led ss R) : Ex prog w A env h₀ L m news ss R := x news h
theorem ints_all {vs : List Value} {ns : List Int} (h : IntsAre vs ns) : AllInts vs := by
  induction h with
  | nil => intro v hv; cases hv
  | cons n t _ ih =>
    intro v hv
    rcases List.mem_cons.mp hv with rfl | hv
    · exact ⟨_, _, rfl⟩
    · exact ih v hv
/-- the three pairs -/
def pidx (k s : Nat) : Nat := if s = 0 then (if k = 2 then 1 else 0) else (if k = 0 then 1 else 2)
theorem IGrid.offU {led : Led} {g X : Addr} {oX : Obj} {n c : Nat} {x : IMx} (h : IGrid led g n c x) (U : Uniq led) (hX : (X, oX) ∈ led) (hl : ∀ a k, W.listOf a k ≠ oX) : IGrid (off X led) g n c x := by
  obtain ⟨vs, k, a, b, d⟩ := h
  exact ⟨vs, k, a, off_keep U hX b (hl _ _), fun j v e => let ⟨r, p, us, kk, a2, b2, c2⟩ := d j v e; ⟨r, p, us, kk, a2, off_keep U hX b2 (hl _ _), c2⟩⟩
theorem IGrid.congr {led : Led} {g : Addr} {n c : Nat} {x y : IMx} (h : IGrid led g n c x) (e : ∀ i, i < n → ∀ j, j < c → x i j = y i j) : IGrid led g n c y := by
  obtain ⟨vs, k, a, b, d⟩ := h
  refine ⟨vs, k, a, b, fun j v ev => ?_⟩
  obtain ⟨r, p, us, kk, a2, b2, c2⟩ := d j v ev
  have hj : j < n := a ▸ (List.getElem?_eq_some_iff.mp ev).1
  refine ⟨r, p, us, kk, a2, b2, fun q u eu => ?_⟩
  have hq : q < c := a2 ▸ (List.getElem?_eq_some_iff.mp eu).1
  obtain ⟨t, ht⟩ := c2 q u eu
  exact ⟨t, e j hj q hq ▸ ht⟩
theorem IRow.mk2 {led : Led} {r : Addr} {x : Nat → Int} {k : Nat} {a b : Int} {t u : Tok} (h : (r, W.listOf [.int a t, .int b u].toArray k) ∈ led) (e0 : a = x 0) (e1 : b = x 1) : IRow led r 2 x := ⟨_, k, rfl, h, fun c v e => match c, e with
  | 0, e => ⟨t, by cases e; rw [e0]⟩
  | 1, e => ⟨u, by cases e; rw [e1]⟩
  | c + 2, e => by simp at e⟩
theorem IRow.mk3 {led : Led} {r : Addr} {x : Nat → Int} {k : Nat} {a b c : Int} {t u v : Tok} (h : (r, W.listOf [.int a t, .int b u, .int c v].toArray k) ∈ led) (e0 : a = x 0) (e1 : b = x 1) (e2 : c = x 2) : IRow led r 3 x := ⟨_, k, rfl, h, fun q y e => match q, e with
  | 0, e => ⟨t, by cases e; rw [e0]⟩
  | 1, e => ⟨u, by cases e; rw [e1]⟩
  | 2, e => ⟨v, by cases e; rw [e2]⟩
  | q + 3, e => by simp at e⟩
theorem IGrid.mk3 {led : Led} {g r0 r1 r2 : Addr} {c : Nat} {x : IMx} {k : Nat} (h : (g, W.listOf [.ref r0, .ref r1, .ref r2].toArray k) ∈ led) (h0 : IRow led r0 c (x 0)) (h1 : IRow led r1 c (x 1)) (h2 : IRow led r2 c (x 2)) : IGrid led g 3 c x := ⟨_, k, rfl, h, fun q y e => match q, e with
  | 0, e => ⟨r0, by cases e; rfl, h0⟩
  | 1, e => ⟨r1, by cases e; rfl, h1⟩
  | 2, e => ⟨r2, by cases e; rfl, h2⟩
  | q + 3, e => by simp at e⟩
/-- a list of refs to rows, as far as it is filled -/
structure Fd (Df : Addr) (c : Nat) (x : IMx) (ys : List Value) (k : Nat) (led : Led) : Prop where
  found : (Df, W.listOf ys.toArray k) ∈ led
  rows : ∀ j v, ys[j]? = some v → ∃ r, v = .ref r ∧ r ≠ Df ∧ IRow led r c (x j)
section
variable {Df : Addr} {c : Nat} {x : IMx} {ys : List Value} {k : Nat} {led : Led}
theorem Fd.mono {led' : Led} (h : Fd Df c x ys k led) (hs : ∀ p ∈ led, p ∈ led') : Fd Df c x ys k led' := ⟨hs _ h.found, fun j v e => let ⟨r, a, b, d⟩ := h.rows j v e; ⟨r, a, b, d.mono hs⟩⟩
theorem Fd.drop (h : Fd Df c x ys k led) (U : Uniq led) {X : Addr} {oX : Obj} (hX : (X, oX) ∈ led) (hl : ∀ a k, W.listOf a k ≠ oX) : Fd Df c x ys k (off X led) :=
  ⟨off_keep U hX h.found (hl _ _), fun j v e => let ⟨r, a, b, us, kk, p, q, s⟩ := h.rows j v e; ⟨r, a, b, us, kk, p, off_keep U hX q (hl _ _), s⟩⟩
theorem Fd.app (h : Fd Df c x ys k led) {D' : Addr} (hD : D' ≠ Df) (hr : IRow led D' c (x ys.length)) : Fd Df c x (ys ++ [.ref D']) (k + 1) ((Df, W.listOf (ys ++ [Value.ref D']).toArray (k + 1)) :: off Df led) := by
  refine ⟨.head _, fun j v e => ?_⟩
  rcases Nat.lt_trichotomy j ys.length with hj | hj | hj
  · rw [List.getElem?_append_left hj] at e
    obtain ⟨r, a, b, d⟩ := h.rows j v e
    exact ⟨r, a, b, (d.off b).mono tl⟩
  · subst hj
    rw [List.getElem?_append_right (Nat.le_refl _)] at e
    have : Value.ref D' = v := by simpa using e
    subst this
    exact ⟨D', rfl, hD, (hr.off hD).mono tl⟩
  · rw [List.getElem?_eq_none (by simp; omega)] at e
    cases e
theorem Fd.grid {n : Nat} (h : Fd Df c x ys k led) (hl : ys.length = n) : IGrid led Df n c x := ⟨ys, k, hl, h.found, fun j v e => let ⟨r, a, _, d⟩ := h.rows j v e; ⟨r, a, d⟩⟩
end
end Mine
end
section
open PySem PySem.W PyProof.Rows PySem.Calls
set_option linter.all false
namespace Mine
section
variable {prog : Program} {w : World} {A : Around} {env : Env} {h₀ : Heap} {L : Addr} {m : Fm} {news : Led} {ss : List Stmt} {R : Flow → Fm → Led → Prop} {f : Nat → Option Value} {base led : Led}
theorem Lst.pv {L' : Addr} {A' : Around} {x : Str} {pos : Pos} {j : Nat} {v : Value} (h : Lst L f base led) (hs : ∀ p ∈ led, p ∈ news) (hj : j < 10) (hf : f j = some v) (hc : env.cells.lookup x = some (L + 1 + j) := by rfl) (hx : env.kindOf x = some .cell := by rfl) (hk : env.scope.kind = .function := by rfl) (hd : (x == ("__debug__" : Str)) = false := by decide) :
    Pv prog w A' env h₀ L' m news (.Name x pos) v := by
  obtain ⟨ob, hm, ho⟩ := h.cs j hj
  exact Pv.cell (hs _ hm) (hf ▸ ho) hc hx hk hd
theorem Lst.to {x : Str} {pos : Pos} {v : Value} {j : Nat} {K : Fm → Led → Prop} (h : Lst L f base led) (hj : j < 10) (k : ∀ ob o', (L + 1 + j, ob) ∈ led → ob.data = .cell (f j) → Lst L (fset f j v) base ((L + 1 + j, o') :: off (L + 1 + j) led) → K m ((L + 1 + j, o') :: off (L + 1 + j) led)) (hc : env.cells.lookup x = some (L + 1 + j) := by rfl) (hx : env.kindOf x = some .cell := by rfl) (hk : env.scope.kind = .function := by rfl) :
    To prog w A env h₀ L m led (.Name x pos) v K := by
  obtain ⟨ob, hm, ho⟩ := h.cs j hj
  exact To.cell _ hm ho off_sub off_ne (fun o' ho' => k ob o' hm ho (h.set hj ho')) hc hx hk
end
theorem Uniq.sub {led led' : Led} (U : Uniq led) (hs : ∀ p ∈ led', p ∈ led) : Uniq led' := fun p hp q hq e => U p (hs p hp) q (hs q hq) e
theorem sl_ints {vs : List Value} {ws : List Int} (hI : IntsAre vs ws) : AllInts (slicePick vs.toArray none (some 21) none).toList := ints_all (kmk_upto hI (by decide))
theorem sl_len {vs : List Value} {ws : List Int} (hI : IntsAre vs ws) : (slicePick vs.toArray none (some 21) none).toList.length < 2 ^ 62 := by
  have := IntsAre.length (kmk_upto (y := 21) hI (by decide))
  rw [List.length_take] at this
  have h2 : min (21 : Int).toNat ws.length ≤ 21 := Nat.min_le_left _ _
  rw [this]
  exact Nat.lt_of_le_of_lt h2 (by decide)
/-- the ten cells at the loop -/
def cf (G W H : Addr) (t1 t2 t3 : Value) (e h t : Addr) (at_ : Option Value) : Nat → Option Value := fun j => match j with
  | 0 => some (.ref G) | 1 => some (.ref W) | 2 => some (.ref H) | 3 => some t1 | 4 => some t2 | 5 => some t3 | 6 => some (.ref e) | 7 => some (.ref h) | 8 => some (.ref t) | _ => at_
theorem Lst.tabC {L : Addr} {f : Nat → Option Value} {base led : Led} (h : Lst L f base led) (U : Uniq led) (T : TabS led) : TabS (offC L led) :=
  let ⟨c1, c2, o1, o2, v1, v2, t1, t2, a, b, c, d1, d2, q1, q2⟩ := T
  ⟨c1, c2, o1, o2, v1, v2, t1, t2, h.memC U a (fun v e => nomatch e), h.memC U b (fun v e => by rw [d1] at e; nomatch e), h.memC U c (fun v e => by rw [d2] at e; nomatch e), d1, d2, q1, q2⟩
theorem Lst.neA {L : Addr} {f : Nat → Option Value} {base led : Led} (h : Lst L f base led) {X : Addr} (hX : ∀ p ∈ led, p.1 < X) : ∀ j, j < 10 → L + 1 + j ≠ X := fun j hj => let ⟨_, a, _⟩ := h.cs j hj; Nat.ne_of_lt (hX _ a)
theorem Lst.neB {L : Addr} {f : Nat → Option Value} {base led : Led} (h : Lst L f base led) {X : Addr} (hX : ∀ p ∈ led, p.1 < X) : ∀ p ∈ base, p.1 ≠ X := fun p hp => Nat.ne_of_lt (hX _ (h.sub p hp))
theorem Lst.neA' {L : Addr} {f : Nat → Option Value} {base led : Led} (h : Lst L f base led) {X : Addr} (hX : ∀ p ∈ led, p.1 ≠ X) : ∀ j, j < 10 → L + 1 + j ≠ X := fun j hj => let ⟨_, a, _⟩ := h.cs j hj; hX _ a
theorem ne169 {L : Addr} (l0 : 169 < L) : ∀ j, j < 10 → L + 1 + j ≠ 169 := fun j _ e => by
  have h1 : (169 : Nat) < L + 1 + j := Nat.lt_of_lt_of_le (Nat.lt_succ_of_lt l0) (Nat.le_add_right _ _)
  exact absurd e (Nat.ne_of_gt h1)
/-- a grid drawn ahead -/
theorem IGrid.past {W0 g : Addr} {tl tl' : Led} {n c : Nat} {x : IMx} (h : IGrid (off W0 tl) g n c x) (hs : ∀ p ∈ tl, p.1 ≠ W0 → p ∈ tl') : IGrid (off W0 tl') g n c x := h.mono fun p hp => off_mem (hs p (off_sub p hp) (off_ne p hp)) (off_ne p hp)
/-- the ledger once the pairs are made -/
def prL (P D1 D2 D3 : Addr) (t10 t11 t20 t21 t30 t31 : Tok) (n : Led) : Led := (P, W.listOf [Value.ref D1, .ref D2, .ref D3].toArray 0) :: (D3, W.listOf [Value.int 1 t30, .int 2 t31].toArray 0) :: (D2, W.listOf [Value.int 0 t20, .int 2 t21].toArray 0) :: (D1, W.listOf [Value.int 0 t10, .int 1 t11].toArray 0) :: n
section
variable {P D1 D2 D3 : Addr} {t10 t11 t20 t21 t30 t31 : Tok} {n : Led}
theorem prL_sub : ∀ p ∈ n, p ∈ prL P D1 D2 D3 t10 t11 t20 t21 t30 t31 n := fun p hp => .tail _ (.tail _ (.tail _ (.tail _ hp)))
theorem prL_grid : IGrid (prL P D1 D2 D3 t10 t11 t20 t21 t30 t31 n) P 3 2 fun k s => (pidx k s : Int) :=
  IGrid.mk3 (.head _) (IRow.mk2 (.tail _ (.tail _ (.tail _ (.head _)))) rfl rfl) (IRow.mk2 (.tail _ (.tail _ (.head _))) rfl rfl) (IRow.mk2 (.tail _ (.head _)) rfl rfl)
end
section
variable {prog : Program} {w : World} {A : Around} {env : Env} {h₀ : Heap} {L : Addr} {m : Fm} {news : Led}
theorem Ok.sumE {l : Addr} {vs : List Value} {k : Nat} {ns : List Int} {z : Int} {post : Value → Led → Prop} (hh : A.handled = none) (hm : (l, W.listOf vs.toArray k) ∈ news) (hi : IntsAre vs ns) (e : ns.sum = z) (h : ∀ t, post (.int z t) news) : Ok prog w A h₀ L m (.builtin "sum") [.ref l] news post := Ok.sum hh hm hi fun t => e ▸ h t
theorem Pl.gen {pos : Pos} {es : List Expr} {S : List Value → Led → Prop} {P : Led → Prop} (h : P news) (x : ∀ led, P led → Pl prog w A env h₀ L m pos led es S) : Pl prog w A env h₀ L m pos news es S := x news h
/-- grid[i][j] -/
theorem IGrid.pi2 {base : Led} {g : Addr} {n c i j : Nat} {x : IMx} {e e1 e2 : Expr} {p1 p2 : Pos} (h : IGrid base g n c x) (hs : ∀ p ∈ base, p ∈ news) (he : Pv prog w A env h₀ L m news e (.ref g)) (h1 : Pi prog w A env h₀ L m news e1 (i : Int)) (h2 : Pi prog w A env h₀ L m news e2 (j : Int)) (hi : i < n) (hj : j < c) (hn : n < 100) (hc : c < 100)
    (s1 : ∀ l u, subscripted e1 false (.ref l) (.int (i : Int) u) = operate [.ref l, .int (i : Int) u] (getItem (.ref l) (.int (i : Int) u)) := by intro _ _; rfl) (s2 : ∀ l u, subscripted e2 false (.ref l) (.int (j : Int) u) = operate [.ref l, .int (j : Int) u] (getItem (.ref l) (.int (j : Int) u)) := by intro _ _; rfl) :
    Pi prog w A env h₀ L m news (.Subscript (.Subscript e e1 p1) e2 p2) (x i j) :=
  h.row hi fun vs kk r hm hl hv hr => hr.at_ hj fun ws k3 t3 hm3 hl3 hv3 =>
    Pi.of (Pv.item (Pv.item he h1 (hs _ hm) (nn i) (lt63 hi hn) hv (s1 _)) h2 (hs _ hm3) (nn j) (lt63 hj hc) hv3 (s2 _))
end
theorem pidx_lt (k : Nat) : ∀ s, s < 2 → pidx k s < 3 := fun s _ => by
  unfold pidx
  split <;> split <;> decide
theorem c_dg3 (w : World) (g : Addr) (x : IMx) (news : Led) (h : IGrid news g 3 3 x) : Con w 186 [.ref g] news 6 (fun r tl => news = tl ∧ ∃ t, r = .int (tr3 x) t) := by
  rw [← tr_sum x]
  exact c_dg w g 3 x news h (by decide)
theorem it_ne {it : Obj} (h : it.cls = .type "range_iterator") : ∀ a k, W.listOf a k ≠ it := fun a k e => by rw [← e] at h; simp [W.listOf] at h
theorem tab_ne {ps : Array Value} : ∀ a k, W.listOf a k ≠ tabObj ps := fun a k e => by simp [W.listOf, tabObj] at e
theorem ne_of_eq {x y : Int} (h : x = y) : (x != y) = false := bne_eq_false_iff_eq.mpr h
theorem b16 {n c : Nat} {x : IMx} (h : BdM n c 2 x) : ∀ i j, i < n → j < c → (x i j).natAbs < 16 := fun i j hi hj => Nat.lt_of_le_of_lt (h i j hi hj) (by decide)
theorem bd30 {n c : Nat} {x : IMx} (h : BdM n c 2 x) : ∀ i j, i < n → j < c → (x i j).natAbs < 2 ^ 30 := fun i j hi hj => b30 (h i j hi hj) (by decide)
/-- the identity, made -/
def elL (E E1 E2 E3 : Addr) (a b c d e f g h i : Tok) (n : Led) : Led := (E, W.listOf [Value.ref E1, .ref E2, .ref E3].toArray 0) :: (E3, W.listOf [Value.int 0 g, .int 0 h, .int 1 i].toArray 0) :: (E2, W.listOf [Value.int 0 d, .int 1 e, .int 0 f].toArray 0) :: (E1, W.listOf [Value.int 1 a, .int 0 b, .int 0 c].toArray 0) :: n
theorem elL_sub {E E1 E2 E3 : Addr} {a b c d e f g h i : Tok} {n : Led} : ∀ p ∈ n, p ∈ elL E E1 E2 E3 a b c d e f g h i n := fun p hp => .tail _ (.tail _ (.tail _ (.tail _ hp)))
theorem elL_grid {E E1 E2 E3 : Addr} {a b c d e f g h i : Tok} {n : Led} : IGrid (elL E E1 E2 E3 a b c d e f g h i n) E 3 3 idM :=
  IGrid.mk3 (.head _) (IRow.mk3 (.tail _ (.tail _ (.tail _ (.head _)))) rfl rfl rfl) (IRow.mk3 (.tail _ (.tail _ (.head _))) rfl rfl rfl) (IRow.mk3 (.tail _ (.head _)) rfl rfl rfl)
theorem m18 {a : IMx} (h : BdM 3 3 2 a) : (3 * tr3 a).natAbs < 2 ^ 30 := b30 (mul_le (m := 3) (n := 6) (by decide) (tr_le h)) (by decide)
/-- the loop over turn -/
inductive LJ (L P G Wd Hg : Addr) (a : IMx) (t4 t5 t6 : Tok) (B4 : Led) (i : Nat) (m : Fm) (n : Led) : Prop
  | mk (h1 : m (Str.ofString "pairs") = some (.ref P)) (B : Led) (el hr th : Addr) (at_ : Option Value) (h2 : (∀ p ∈ B4, p ∈ B)) (h3 : Lst L (cf G Wd Hg (.int (tr3 a) t4) (.int (e2of a) t5) (.int (det3 a) t6) el hr th at_) B n) (h4 : IGrid B el 3 3 (mp a i)) (h5 : IGrid B hr 3 3 (mp a (i + 1))) (h6 : IGrid B th 3 3 (mp a (i + 2))) : LJ L P G Wd Hg a t4 t5 t6 B4 i m n
/-- the loop over at -/
inductive LJ2 (L G Wd Hg : Addr) (a : IMx) (t4 t5 t6 : Tok) (el hr th : Addr) (Bx : Led) (Du : Addr) (x : IMx) (m2 : Fm) (j : Nat) (m : Fm) (n : Led) : Prop
  | mk (h1 : m2 = m) (ys : List Value) (k : Nat) (at_ : Option Value) (h2 : Lst L (cf G Wd Hg (.int (tr3 a) t4) (.int (e2of a) t5) (.int (det3 a) t6) el hr th at_) Bx n) (h3 : Fd Du 3 x ys k n) (h4 : ys.length = j) : LJ2 L G Wd Hg a t4 t5 t6 el hr th Bx Du x m2 j m n
end Mine
end
section
open PySem PySem.W PyProof.Rows PySem.Calls
set_option maxHeartbeats 8000000
set_option linter.all false
namespace Mine
local macro_rules | `(tactic| cells_open $x:ident) => `(tactic| (obtain ⟨_, _, _, _, _, _, _, _, _, _, he, _, _, _, _, _, _, _, _, _, _⟩ := Mine.kc_ten $x; subst he))
theorem Ex.run {prog : Program} {w : World} {A : Around} {env : Env} {h₀ : Heap} {L : Addr} {m : Fm} {news : Led} {ss : List Stmt} {h : Heap} {g : Array GenState} {d : Drawn} {tk : Nat} {os : OsState} {Q : Flow → Shared → Prop} {E : Value → Shared → Prop} (R : Flow → Fm → Led → Prop) (x : Ex prog w A env h₀ L m news ss R) (hE : PassesOwn (model prog w) A env E) (F : Fr h₀ L h m) (N : News h₀ L h news) (q : ∀ f m' n' h' tk', R f m' n' → Fr h₀ L h' m' → News h₀ L h' n' → Q f ⟨h', g, d, tk', os⟩) : wpAny (model prog w) A (execs ss env) Q E ⟨h, g, d, tk, os⟩ := x h g d tk os Q E hE F N q
theorem Ex.site {prog : Program} {w : World} {A : Around} {env : Env} {h₀ : Heap} {L : Addr} {m : Fm} {news : Led} {ss : List Stmt} {R : Flow → Fm → Led → Prop} (k : Nat) (S : Site w A h₀ L k) (x : Site w A h₀ L k → Ex prog w A env h₀ L m news ss R) : Ex prog w A env h₀ L m news ss R := x S
/-- the law's answer: True, the table still there -/
def Ans (f : Flow) (_ : Fm) (n : Led) : Prop := f = .ret (.bool true) ∧ ∃ ps, (169, tabObj ps) ∈ n
theorem fin_true {s₀ s₁ : Shared} {ws : List Int} {h9 : Heap} {tk9 : Nat} {m : Str → Option Value} {tl9 : List (Addr × Obj)} (hg : s₁.gens = #[])
  (F9 : Fr (ghostOf s₁.heap [(173, 169)]) s₁.heap.objs.size h9 m) (N9 : News (ghostOf s₁.heap [(173, 169)]) s₁.heap.objs.size h9 tl9) :
  GoodW Challenge.rw_tk0004_01.row.claim (classAt s₀.heap) (ExcName.means s₀.heap)
  [ofPy (PyData.list (List.map PyData.int ws))]
  { heap := ghostOf s₁.heap [(173, 169)], gens := s₁.gens, drawn := s₁.drawn, toks := s₁.toks, os := s₁.os }
  (Except.ok (Flow.ret (Value.bool true))) { heap := h9, gens := s₁.gens, drawn := s₁.drawn, toks := tk9, os := s₁.os } := by
  refine goodW_bool (by assumption) (by assumption) (raisesW_false ?_) ?_
  · wrow_none_raised
  · wrow_post
theorem X : PySem.Challenge.rw_tk0004_01.Holds := by
  refine Mine.hd ?_
  k_fill
  intro w s₀ s₁ mg mb G Y fa o pm cd doc dV kV ho hd hcd hD hmg hg args vals as hpre hlay hrd hwl hlo
  have KX := km_in_of Y
  km_tabs Y
  have X := (Ground.X G).1
  have V := (Ground.X G).2
  refine Ground.open G ?_
  intro T B D TE TW
  try (refine guard_noD D (by decide +kernel) ?_; clear D)
  km_lay T hmg ho hd cd
  clear hmg
  wrow_args hpre hlay hrd hwl hlo
  all_goals (
    first | refine callC_kw (enter_call ?_) | refine enter_call ?_
    w_top on
    kn_posts
    w_call any ho hd hcd hD T F
    clear hd
    kn_ghosts F T
    k_drop
    skip)
  clear hD
  rename_i ws hs hlay0 hL1 hr1 hl2 wa wb sa vs wc hL ra w1 r0 hI hr hc1 hc2 h1 tk1 o9 o8 o7 o6 o5 o4 o3 o2 o1 o0 d9 d8 d7 d6 d5 d4 d3 d2 d1 d0 X0 X' T' K' F' N' l0
  refine Ex.run Ans ?law (by passes_own) (m := put (Str.ofString "script") (.ref sa) fun _ => none) F' N' ?fin
  case fin =>
    rintro f m' n' h' tk' ⟨rfl, ps, ht⟩ F2 N2
    exact ⟨fin_true hg F2 N2, GrownAt.of N2 ht, trivial⟩
  case law =>
    clear w1 r0 hr ra X0 F' N' G Y hcd ho
    refine Ex.site 40 ⟨rfl, X', ⟨_, _, _, _, _, T'⟩, ⟨_, _, _, _, _, _, _, _, _, _, _, rfl, K', ?_, ?_, ?_⟩⟩ fun S => ?_
    · exact rfl
    · decide
    · decide
    clear X' T' K' X V T B TE TW hT8 hT9 hg
    dsimp only
    have H : CodeHd _ 173 169 := codeHd
    have hh := S.hh
    have hsl := sl_ints hI
    have hsn := sl_len hI
    have hvl : vs.length ≤ sizeLine := by
      have := IntsAre.length hI
      have h2 : ws.length ≤ 63 := by omega
      rw [this]
      exact Nat.le_trans h2 (by decide)
    generalize s₁.heap.objs.size = L at *
    generalize ghostOf s₁.heap [(173, 169)] = h₀ at *
    refine Ex.gen (P := fun led => Lst L (fun _ => none) [(169, tabObj #[])] led) ⟨?b1, ?b2, ?b3⟩ fun led hL0 => ?_
    case b1 => exact List.forall_mem_cons.mpr ⟨.tail _ (.tail _ (.tail _ (.tail _ (.tail _ (.tail _ (.tail _ (.tail _ (.tail _ (.tail _ (.head _)))))))))), List.forall_mem_nil _⟩
    case b2 => exact List.forall_mem_cons.mpr ⟨fun j hj e => ne169 l0 j hj e.symm, List.forall_mem_nil _⟩
    case b3 => exact ten ⟨_, (.tail _ (.tail _ (.tail _ (.tail _ (.tail _ (.tail _ (.tail _ (.tail _ (.tail _ (.head _)))))))))), d0⟩ ⟨_, (.tail _ (.tail _ (.tail _ (.tail _ (.tail _ (.tail _ (.tail _ (.tail _ (.head _))))))))), d1⟩ ⟨_, (.tail _ (.tail _ (.tail _ (.tail _ (.tail _ (.tail _ (.tail _ (.head _)))))))), d2⟩ ⟨_, (.tail _ (.tail _ (.tail _ (.tail _ (.tail _ (.tail _ (.head _))))))), d3⟩ ⟨_, (.tail _ (.tail _ (.tail _ (.tail _ (.tail _ (.head _)))))), d4⟩ ⟨_, (.tail _ (.tail _ (.tail _ (.tail _ (.head _))))), d5⟩ ⟨_, (.tail _ (.tail _ (.tail _ (.head _)))), d6⟩ ⟨_, (.tail _ (.tail _ (.head _))), d7⟩ ⟨_, (.tail _ (.head _)), d8⟩ ⟨_, (.head _), d9⟩
    clear d0 d1 d2 d3 d4 d5 d6 d7 d8 d9 codeHd
    -- wheel
    refine Ex.asg (Pc.list (Pl.k (Pc.slice (Pv.loc (by with_unfolding_all rfl)) lifted Pi.const hvl fun D hD => Pl.i Pi.const fun tw => Pl.nil ⟨len2, fun W0 hW => ?_⟩)))
    have ekS : slicePick vs.toArray none (some 21) none = (slicePick vs.toArray none (some 21) none).toList.toArray := rfl
    generalize (slicePick vs.toArray none (some 21) none).toList = us at hsl hsn ekS
    rw [ekS] at hW ⊢
    clear ekS
    have hSW : D ≠ W0 := Nat.ne_of_lt (hW _ (.head _))
    have aW : ∀ j, j < 10 → L + 1 + j ≠ W0 := fun j hj => let ⟨_, a, _⟩ := hL0.cs j hj; Nat.ne_of_lt (hW _ (.tail _ a))
    have bW : ∀ p ∈ ([(169, tabObj #[])] : Led), p.1 ≠ W0 := fun p hp => Nat.ne_of_lt (hW _ (.tail _ (hL0.sub p hp)))
    clear hW hD
    -- grid, wide, high
    refine Ex.tup3s (Pc.tuple (Pl.k (Pc.fn S.X (S.glob (by k_is)) (by k_is) (Pl.v (Pv.loc (by with_unfolding_all rfl)) (Pl.i Pi.const fun ta1 => Pl.i Pi.const fun tb1 => Pl.nil (Ok.monoU (S.call (c_dr w W0 D 0 _ ta1 tb1 0 0 3 3 us _ (.head _) (.tail _ (.head _)) hSW hsl hsn (by decide) (by decide) (by decide)) (by decide)) ?_))))))
    rintro r1 tl1 U1 ⟨G, a, tw1, rfl, hG, ha, hW1, hs1⟩
    refine Pl.k (Pc.fn S.X (S.glob (by k_is)) (by k_is) (Pl.v (Pv.loc (by with_unfolding_all rfl)) (Pl.i Pi.const fun ta2 => Pl.i Pi.const fun tb2 => Pl.nil (Ok.monoU (S.call (c_dr w W0 D 9 _ ta2 tb2 0 0 2 3 us _ hW1 (hs1 _ (.tail _ (.head _)) hSW) hSW hsl hsn (by decide) (by decide) (by decide)) (by decide)) ?_))))
    rintro r2 tl2 U2 ⟨Wd, u, tw2, rfl, hWd, hu, hW2, hs2⟩
    refine Pl.k (Pc.fn S.X (S.glob (by k_is)) (by k_is) (Pl.v (Pv.loc (by with_unfolding_all rfl)) (Pl.i Pi.const fun ta3 => Pl.i Pi.const fun tb3 => Pl.nil (Ok.monoU (S.call (c_dr w W0 D 15 _ ta3 tb3 0 0 3 2 us _ hW2 (hs2 _ (hs1 _ (.tail _ (.head _)) hSW) hSW) hSW hsl hsn (by decide) (by decide) (by decide)) (by decide)) ?_))))
    rintro r3 tl3 U3 ⟨Hg, v, tw3, rfl, hHi, hv, hW3, hs3⟩
    refine Pl.nil ⟨len3, fun T hT => ?_⟩
    have hL1 := (((hL0.mono (led' := (W0, whl D 0 tw 0) :: (D, W.listOf us.toArray 0) :: led) fun p hp => .tail _ (.tail _ hp)).via hs1 bW aW).via hs2 bW aW).via hs3 bW aW
    replace hG := hL1.gridC U3 (((hG.past hs2).past hs3).mono off_sub)
    replace hWd := hL1.gridC U3 ((hWd.past hs3).mono off_sub)
    replace hHi := hL1.gridC U3 (hHi.mono off_sub)
    have hb := hL1.inC _ (.head _)
    have hL2 := (hL1.rebase).mono (led' := (T, ({ cls := .type "tuple", data := .seq [Value.ref G, .ref Wd, .ref Hg].toArray } : Obj)) :: tl3) tl
    generalize offC L tl3 = B1 at hG hWd hHi hb hL2
    clear hL0 hL1 hs1 hs2 hs3 hW1 hW2 hW3 U1 U2 U3 aW bW hSW hsl hsn
    refine Tup3P.mk (.head _) (hL2.nm (j := 0) (by decide) fun n1 hL3 => hL3.nm (j := 1) (by decide) fun n2 hL4 => hL4.nm (j := 2) (by decide) fun n3 hL5 => ?_)
    clear hL2 hL3 hL4 hT
    -- pairs
    refine Ex.asg ?_
    refine Pc.list ?_
    refine Pl.k (Pc.list (Pl.i Pi.const fun t10 => Pl.i Pi.const fun t11 => Pl.nil ⟨len2, fun D1 hD1 => ?_⟩))
    refine Pl.k (Pc.list (Pl.i Pi.const fun t20 => Pl.i Pi.const fun t21 => Pl.nil ⟨len2, fun D2 hD2 => ?_⟩))
    refine Pl.k (Pc.list (Pl.i Pi.const fun t30 => Pl.i Pi.const fun t31 => Pl.nil ⟨len2, fun D3 hD3 => ?_⟩))
    refine Pl.nil ⟨len3, fun P hP => Ex.uniq fun U => ?_⟩
    have hL6 := hL5.mono (led' := prL P D1 D2 D3 t10 t11 t20 t21 t30 t31 n3) prL_sub
    have hPg := hL6.gridC U prL_grid
    replace hG := hG.mono hL6.inC
    replace hWd := hWd.mono hL6.inC
    replace hHi := hHi.mono hL6.inC
    replace hb := hL6.inC _ hb
    replace hL6 := hL6.rebase
    generalize offC L (prL P D1 D2 D3 t10 t11 t20 t21 t30 t31 n3) = B2 at hG hWd hHi hb hL6 hPg
    refine Ex.gen hL6 fun n4 hL7 => ?_
    clear U hP hD1 hD2 hD3 hL5 hL6
    -- first, second, third
    refine Ex.tup3s ?_
    refine Pc.tuple ?_
    refine Pl.k (Pc.fn S.X (S.glob (by k_is)) (by k_is) (Pl.v (hL7.pv (fun _ h => h) (j := 0) (by decide) rfl) (Pl.nil (Ok.int (S.call (c_dg3 w G a _ (hG.mono hL7.sub)) (by decide)) fun t4 => ?_))))
    refine Pl.k (Pc.blt (S.built (by k_is)) (Pl.k ?_))
    have hPg' := hPg
    obtain ⟨ps, kp, hlp, hmp, hvp⟩ := hPg'
    refine Pc.compL (its := ps.toArray) (k := kp) (AccG n4 fun _ i v => ∃ t, v = .int (det2 a (pidx i 0) (pidx i 1) (pidx i 0) (pidx i 1)) t) (Pv.loc (by with_unfolding_all rfl)) (fun i ys n1 hJ => hJ.2.1 _ (hL7.sub _ hmp)) (by simp only [List.size_toArray, hlp]; exact Nat.le_of_ble_eq_true rfl) AccG.nil ?step ?fin
    case step =>
      intro i ys n1 I oI C oC D m₂ v0 hv0 hJ hC hx hoff hne
      have hi : i < 3 := by
        have := (Array.getElem?_eq_some_iff.mp hv0).1
        simpa [hlp] using this
      obtain ⟨pr, rfl, hpr⟩ := hvp i v0 (by simpa using hv0)
      have hb1 := hJ.2.1
      have mem4 : ∀ p ∈ n4, p ∈ (I, oI) :: (C, oC) :: (D, LCg.lst ys) :: n1 := fun p hp => .tail _ (.tail _ (.tail _ (hb1 p hp)))
      have mem : ∀ p ∈ B2, p ∈ (I, oI) :: (C, oC) :: (D, LCg.lst ys) :: n1 := fun p hp => mem4 p (hL7.sub p hp)
      refine (Pc.fn S.X (S.glob (by k_is)) (by k_is) (Pl.v (hL7.pv mem4 (j := 0) (by decide) rfl) (Pl.v (Pv.own (.tail _ (.head _)) hC hx) (Pl.v (Pv.own (.tail _ (.head _)) hC hx) (Pl.nil (Ok.int (S.call (c_ch w G pr pr 3 3 a (pidx i) (pidx i) (det2 a (pidx i 0) (pidx i 1) (pidx i 0) (pidx i 1)) _ (hG.mono mem) (hpr.mono mem) (hpr.mono mem) (by decide) (by decide) (pidx_lt i) (pidx_lt i) (b16 ha) rfl (abs_small (det2m_le ha (pidx_lt i 0 (by decide)) (pidx_lt i 1 (by decide)) (pidx_lt i 0 (by decide)) (pidx_lt i 1 (by decide))) (by decide))) (by decide)) fun t => ?_))))))
      exact CendP.mk n1 (fun p hp => hp) hoff (hJ.snoc hb1 (fun _ _ h => h) ⟨t, rfl⟩)
    case fin =>
    intro ys n5 D hJ _ _
    have e3 : ps.toArray.size = 3 := by simpa using hlp
    rw [e3] at hJ
    have hi := ints_are ys (fun i => det2 a (pidx i 0) (pidx i 1) (pidx i 0) (pidx i 1)) hJ.2.2
    rw [hJ.1] at hi
    have hL8 := hL7.mono (led' := (D, LCg.lst ys) :: n5) fun p hp => .tail _ (hJ.2.1 p hp)
    refine Pl.nil (Ok.sumE (z := e2of a) hh (.head _) hi rfl fun t5 => ?_)
    clear hi hJ hlp hmp hvp e3
    refine Pl.k (Pc.fn S.X (S.glob (by k_is)) (by k_is) (Pl.v (hL8.pv (fun _ h => h) (j := 0) (by decide) rfl) (Pl.nil (Ok.int (S.call (c_toldg3 w G a (det3 a) _ (hG.mono hL8.sub) (b16 ha) rfl (abs_small (det3m_le ha) (by decide))) (by decide)) fun t6 => ?_))))
    refine Pl.nil ⟨len3, fun T hT => ?_⟩
    refine Tup3P.mk (.head _) ((hL8.mono tl).nm (j := 3) (by decide) fun n1 hL9 => hL9.nm (j := 4) (by decide) fun n2 hL10 => hL10.nm (j := 5) (by decide) fun n6 hL11 => ?_)
    clear hL7 hL8 hL9 hL10 hT
    -- elder, here, there
    refine Ex.tup3s ?_
    refine Pc.tuple ?_
    refine Pl.k ?_
    refine Pc.list ?_
    refine Pl.k (Pc.list (Pl.i Pi.const fun s10 => Pl.i Pi.const fun s11 => Pl.i Pi.const fun s12 => Pl.nil ⟨len3, fun E1 hE1 => ?_⟩))
    refine Pl.k (Pc.list (Pl.i Pi.const fun s20 => Pl.i Pi.const fun s21 => Pl.i Pi.const fun s22 => Pl.nil ⟨len3, fun E2 hE2 => ?_⟩))
    refine Pl.k (Pc.list (Pl.i Pi.const fun s30 => Pl.i Pi.const fun s31 => Pl.i Pi.const fun s32 => Pl.nil ⟨len3, fun E3 hE3 => ?_⟩))
    refine Pl.nil ⟨len3, fun E hE0 => ?_⟩
    refine Pl.uniq fun U => ?_
    have hL12 := hL11.mono (led' := elL E E1 E2 E3 s10 s11 s12 s20 s21 s22 s30 s31 s32 n6) elL_sub
    have hE := hL12.gridC U elL_grid
    replace hG := hG.mono hL12.inC
    replace hWd := hWd.mono hL12.inC
    replace hHi := hHi.mono hL12.inC
    replace hPg := hPg.mono hL12.inC
    replace hb := hL12.inC _ hb
    replace hL12 := hL12.rebase
    generalize offC L (elL E E1 E2 E3 s10 s11 s12 s20 s21 s22 s30 s31 s32 n6) = B3 at hG hWd hHi hPg hb hE hL12
    refine Pl.gen (P := fun n => Lst L _ B3 n ∧ Uniq n) ⟨hL12, U⟩ fun n8 hLU => ?_
    have hL13 := hLU.1
    have U8 := hLU.2
    clear hLU hL12 hL11 U hE0 hE1 hE2 hE3
    refine Pl.v (hL13.pv (fun _ h => h) (j := 0) (by decide) rfl) ?_
    refine Pl.k (Pc.fn S.X (S.glob (by k_is)) (by k_is) (Pl.v (hL13.pv (fun _ h => h) (j := 0) (by decide) rfl) (Pl.v (hL13.pv (fun _ h => h) (j := 0) (by decide) rfl) (Pl.nil (Ok.monoU (Ok.sub (n' := (169, tabObj #[]) :: off 169 n8) (S.callL H (c_tmN w G G 3 3 3 a a (off 169 n8) ((hG.mono hL13.sub).offU U8 (hL13.sub _ hb) tab_ne) ((hG.mono hL13.sub).offU U8 (hL13.sub _ hb) tab_ne) (by decide) (by decide) (by decide) (by decide) (by decide) (bd30 ha) (bd30 ha) off_ne) (by decide)) (List.forall_mem_cons.mpr ⟨hL13.sub _ hb, off_sub⟩)) ?_)))))
    rintro r9 tl9 U9 ⟨Tr, rfl, hTr, hs9, hTab⟩
    have hL14 := (hL13.smaller (b2 := off 169 B3) off_sub).via (led' := tl9) (fun p hp hne => hs9 p (off_mem hp hne)) off_ne (ne169 l0)
    have U3 : Uniq B3 := U8.sub hL13.sub
    replace hG := (hG.offU U3 hb tab_ne).mono hL14.inC
    replace hWd := (hWd.offU U3 hb tab_ne).mono hL14.inC
    replace hHi := (hHi.offU U3 hb tab_ne).mono hL14.inC
    replace hPg := (hPg.offU U3 hb tab_ne).mono hL14.inC
    replace hE := (hE.offU U3 hb tab_ne).mono hL14.inC
    have hTr2 : IGrid tl9 Tr 3 3 (mp a 2) := hTr
    replace hTr := hL14.gridC U9 hTr2
    replace hTab := hL14.tabC U9 hTab
    replace hL14 := hL14.rebase
    clear hb hTr2 U3 hL13 U8
    generalize offC L tl9 = B4 at hG hWd hHi hPg hE hTr hTab hL14
    refine Pl.nil ⟨len3, fun T hT => ?_⟩
    refine Tup3P.mk (.head _) ((hL14.mono tl).nm (j := 6) (by decide) fun n1 hL15 => hL15.nm (j := 7) (by decide) fun n2 hL16 => hL16.nm (j := 8) (by decide) fun n9 hL17 => ?_)
    have hL18 := hL17.congr (g := cf G Wd Hg (.int (tr3 a) t4) (.int (e2of a) t5) (.int (det3 a) t6) E G Tr none) (ten rfl rfl rfl rfl rfl rfl rfl rfl rfl rfl)
    clear hL14 hL15 hL16 hL17 hT U9 hs9
    -- Newton's second
    refine Ex.ifSame ?rest (Pt.neL (Pc.fn S.X (S.glob (by k_is)) (by k_is) (Pl.v (hL18.pv (fun _ h => h) (j := 8) (by decide) rfl) (Pl.nil (Ok.int (S.call (c_dg3 w Tr (mp a 2) _ (hTr.mono hL18.sub)) (by decide)) fun t => ?tst)))))
    case tst =>
      exact ⟨_, _, t, rfl, Pi.sub (Pi.mul (Pi.of (hL18.pv (fun _ h => h) (j := 3) (by decide) rfl)) (Pi.of (hL18.pv (fun _ h => h) (j := 3) (by decide) rfl)) (mok30 (b30 (tr_le ha) (by decide)) (b30 (tr_le ha) (by decide)))) (Pi.mul Pi.const (Pi.of (hL18.pv (fun _ h => h) (j := 4) (by decide) rfl)) (mok30 (by decide) (b30 (e2of_le ha) (by decide)))), ne_of_eq (newton2m a), rfl⟩
    case rest =>
    -- for turn
    refine Ex.forR0 (n := 3) (LJ L P G Wd Hg a t4 t5 t6 B4) (Pr.one (S.built (by k_is)) Pi.const) (by decide) ⟨rfl, B4, E, G, Tr, none, fun _ h => h, hL18, hE, hG, hTr⟩ ?turn ?done
    case turn =>
      clear hL18 hE hTr hHi hWd hPg
      intro i m1 n1 I it t hi hit hJ hoff
      obtain ⟨hmP, B, el, rh, th, at_, hBs, hL, hel, hrh, hth⟩ := hJ
      have nAI := hL.neA' hoff
      have hB4I : ∀ p ∈ B4, p.1 ≠ I := fun p hp => hoff p (hL.sub p (hBs p hp))
      have hL1 := hL.mono (led' := (I, it) :: n1) tl
      have hI1 : (I, it) ∈ offC L ((I, it) :: n1) := offC_mem (.head _) fun j hj e => nAI j hj e.symm
      replace hel := hel.mono hL1.inC
      replace hrh := hrh.mono hL1.inC
      replace hth := hth.mono hL1.inC
      have hBs1 : ∀ p ∈ B4, p ∈ offC L ((I, it) :: n1) := fun p hp => hL1.inC p (hBs p hp)
      replace hL1 := hL1.rebase
      clear hL hBs hoff
      generalize offC L ((I, it) :: n1) = B1 at hL1 hI1 hel hrh hth hBs1
      refine Ex.gen hL1 fun n2 hL2 => ?_
      clear hL1
      refine Ex.asg ?_
      refine (Pc.fn S.X (S.glob (by k_is)) (by k_is) (Pl.v (hL2.pv (fun _ h => h) (j := 8) (by decide) rfl) (Pl.v (hL2.pv (fun _ h => h) (j := 0) (by decide) rfl) (Pl.nil (Ok.monoU (S.callL H (c_tmH w th G 3 3 3 (mp a (i + 2)) a _ (hth.mono hL2.sub) ((hG.mono hBs1).mono hL2.sub) (by decide) (by decide) (by decide) (by decide) (by decide) (fun j s hj hs => b30 (mp_le ha (i + 2) j s hj hs) (p30 (by omega))) (bd30 ha) ((hTab.mono hBs1).mono hL2.sub)) (by decide)) ?_)))))
      rintro r3 tl3 U3 ⟨La, rfl, hLa, hs3⟩
      have hL3 := hL2.mono hs3
      replace hLa := hL3.gridC U3 (hLa.congr (y := mp a (i + 3)) (mpS a (i + 2)))
      replace hel := hel.mono hL3.inC
      replace hrh := hrh.mono hL3.inC
      replace hth := hth.mono hL3.inC
      replace hI1 := hL3.inC _ hI1
      replace hBs1 := fun p hp => hL3.inC p (hBs1 p hp)
      replace hL3 := hL3.rebase
      clear hL2 hs3 U3
      generalize offC L tl3 = Bx at hL3 hLa hel hrh hth hI1 hBs1
      refine Ex.asg ?_
      refine Pc.list (Pl.nil ⟨Nat.zero_le _, fun Du hDu => ?_⟩)
      have nB := hL3.neB hDu
      have nA := hL3.neA hDu
      refine Ex.forC3 (LJ2 L G Wd Hg a t4 t5 t6 el rh th Bx Du (mp a (i + 3)) _) (Pr.one (S.built (by k_is)) Pi.const) ⟨rfl, [], 0, at_, hL3.mono tl, ⟨.head _, fun j v e => by simp at e⟩, rfl⟩ ?tu2 ?do2
      case tu2 =>
        intro j m3 n3 I2 it2 t2 hj hit2 hJ hoff2
        obtain ⟨hm3, ys, k, at2, hL5, hF, hys⟩ := hJ
        subst hm3
        have nA2 := hL5.neA' hoff2
        have hDI : Du ≠ I2 := hoff2 _ hF.found
        refine To.uniq fun U5 => (hL5.mono (led' := (I2, it2) :: n3) tl).to (j := 9) (by decide) fun ob o' hob hod hL6 => ?_
        have hF2 := ((hF.mono (led' := (I2, it2) :: n3) tl).drop U5 hob (cell_list hod)).mono (led' := (L + 1 + 9, o') :: off (L + 1 + 9) ((I2, it2) :: n3)) tl
        have hI2 : (I2, it2) ∈ (L + 1 + 9, o') :: off (L + 1 + 9) ((I2, it2) :: n3) := .tail _ (off_mem (.head _) (Ne.symm (nA2 9 (by decide))))
        replace hL6 := hL6.congr (g := cf G Wd Hg (.int (tr3 a) t4) (.int (e2of a) t5) (.int (det3 a) t6) el rh th (some (.int (j : Int) t2))) (ten rfl rfl rfl rfl rfl rfl rfl rfl rfl rfl)
        have nB2 : ∀ p ∈ Bx, p.1 ≠ I2 := fun p hp => hoff2 p (hL5.sub p hp)
        clear hL5 hF hob hod U5 hoff2
        refine Ex.gen (P := fun n => Lst L (cf G Wd Hg (.int (tr3 a) t4) (.int (e2of a) t5) (.int (det3 a) t6) el rh th (some (.int (j : Int) t2))) Bx n ∧ Fd Du 3 (mp a (i + 3)) ys k n ∧ (I2, it2) ∈ n) ⟨hL6, hF2, hI2⟩ fun n4 hq => ?_
        clear hL6 hF2 hI2
        obtain ⟨hL6, hF2, hI2⟩ := hq
        refine Ex.append (Pv.loc (by with_unfolding_all rfl)) hF2.found ?_
        refine Pc.compR (n := 3) (AccG n4 fun _ s v => ∃ t, v = .int (mp a (i + 3) j s) t) (PrP.of (Pr.one (S.built (by k_is)) Pi.const) AccG.nil) (rg_small (c := 3) (by decide)) (rg_size (c := 3)) (leSz (by decide)) ?step ?fin
        case step =>
          intro s zs n5 I3 oI3 C3 oC3 D3 m₂ t3 hs3 hJ hC hx hoff3 hne
          rw [Int.zero_add] at hx
          have hb1 := hJ.2.1
          have mem4 : ∀ p ∈ n4, p ∈ (I3, oI3) :: (C3, oC3) :: (D3, LCg.lst zs) :: n5 := fun p hp => .tail _ (.tail _ (.tail _ (hb1 p hp)))
          have mem : ∀ p ∈ Bx, p ∈ (I3, oI3) :: (C3, oC3) :: (D3, LCg.lst zs) :: n5 := fun p hp => mem4 p (hL6.sub p hp)
          refine Pc.i (Pi.ofEq (Pi.add (Pi.sub (Pi.mul (Pi.of (hL6.pv mem4 (j := 3) (by decide) rfl)) (hth.pi2 (i := j) (j := s) mem (hL6.pv mem4 (j := 8) (by decide) rfl) (Pi.of (hL6.pv mem4 (j := 9) (by decide) rfl)) (Pi.of (Pv.own (.tail _ (.head _)) hC hx)) hj hs3 (by decide) (by decide)) (mok30 (b30 (tr_le ha) (by decide)) (b30 (mp_le ha (i + 2) j s hj hs3) (p30 (by omega))))) (Pi.mul (Pi.of (hL6.pv mem4 (j := 4) (by decide) rfl)) (hrh.pi2 (i := j) (j := s) mem (hL6.pv mem4 (j := 7) (by decide) rfl) (Pi.of (hL6.pv mem4 (j := 9) (by decide) rfl)) (Pi.of (Pv.own (.tail _ (.head _)) hC hx)) hj hs3 (by decide) (by decide)) (mok30 (b30 (e2of_le ha) (by decide)) (b30 (mp_le ha (i + 1) j s hj hs3) (p30 (by omega)))))) (Pi.mul (Pi.of (hL6.pv mem4 (j := 5) (by decide) rfl)) (hel.pi2 (i := j) (j := s) mem (hL6.pv mem4 (j := 6) (by decide) rfl) (Pi.of (hL6.pv mem4 (j := 9) (by decide) rfl)) (Pi.of (Pv.own (.tail _ (.head _)) hC hx)) hj hs3 (by decide) (by decide)) (mok30 (b30 (det3m_le ha) (by decide)) (b30 (mp_le ha i j s hj hs3) (p30 (by omega)))))) (cayleym a i j hj s hs3)) fun t => CendP.mk n5 (fun p hp => hp) hoff3 (hJ.snoc hb1 (fun _ _ h => h) ⟨t, rfl⟩)
        case fin =>
          intro zs n5 D3 hJ hoD Un
          have hb1 := hJ.2.1
          have hDD : Du ≠ D3 := off1N hoD (hb1 _ hF2.found)
          have hF3 := hF2.mono (led' := (D3, LCg.lst zs) :: n5) fun p hp => .tail _ (hb1 p hp)
          have hro : IRow ((D3, LCg.lst zs) :: n5) D3 3 (mp a (i + 3) ys.length) := hys ▸ ⟨zs, _, hJ.1, .head _, hJ.2.2⟩
          have hF4 := hF3.app (Ne.symm hDD) hro
          have hL7 := ((hL6.mono (led' := (D3, LCg.lst zs) :: n5) fun p hp => .tail _ (hb1 p hp)).offI nB nA).mono (led' := (Du, W.listOf (ys ++ [Value.ref D3]).toArray (k + 1)) :: off Du ((D3, LCg.lst zs) :: n5)) tl
          have hI3 : (I2, it2) ∈ (Du, W.listOf (ys ++ [Value.ref D3]).toArray (k + 1)) :: off Du ((D3, LCg.lst zs) :: n5) := .tail _ (off_mem (.tail _ (hb1 _ hI2)) (Ne.symm hDI))
          refine AppP.mk (off Du ((D3, LCg.lst zs) :: n5)) hF3.found (by rw [hys]; exact leSz (by omega)) off_sub off_ne ?_
          exact Ex.turn hI3 fun U7 => ⟨rfl, ys ++ [.ref D3], k + 1, some (.int (j : Int) t2), hL7.offI nB2 nA2, hF4.drop U7 hI3 (it_ne hit2), by rw [List.length_append, hys]; rfl⟩
      case do2 =>
        intro m3 n3 hJ
        obtain ⟨hm3, ys, k, at2, hL5, hF, hys⟩ := hJ
        subst hm3
        refine Ex.ifF (Pb.neG (Pv.loc (by with_unfolding_all rfl)) (Pv.loc (by with_unfolding_all rfl)) (hLa.mono hL5.sub) (hF.grid hys) (S.units (by decide))) ?_
        refine Ex.ifSame ?rest (Pt.and (Pb.eq (Pi.of (Pv.loc (by with_unfolding_all rfl))) Pi.const) (fun _ => ⟨rfl, rfl⟩) fun ht => Pt.neL (Pc.fn S.X (S.glob (by k_is)) (by k_is) (Pl.v (Pv.loc (by with_unfolding_all rfl)) (Pl.nil (Ok.int (S.call (c_dg3 w La (mp a (i + 3)) _ (hLa.mono hL5.sub)) (by decide)) fun t => ?tst)))))
        case tst =>
          have i0 : i = 0 := by simpa using ht
          exact ⟨_, _, t, rfl, Pi.add (Pi.sub (Pi.pow (Pi.of (hL5.pv (fun _ h => h) (j := 3) (by decide) rfl)) Pi.const (by decide) (by decide) (Nat.lt_of_le_of_lt (tr_le ha) (by decide))) (Pi.mul (Pi.mul Pi.const (Pi.of (hL5.pv (fun _ h => h) (j := 3) (by decide) rfl)) (mok30 (by decide) (b30 (tr_le ha) (by decide)))) (Pi.of (hL5.pv (fun _ h => h) (j := 4) (by decide) rfl)) (mok30 (m18 ha) (b30 (e2of_le ha) (by decide))))) (Pi.mul Pi.const (Pi.of (hL5.pv (fun _ h => h) (j := 5) (by decide) rfl)) (mok30 (by decide) (b30 (det3m_le ha) (by decide)))), by subst i0; exact ne_of_eq (newton3m a), rfl⟩
        case rest =>
          refine Ex.tup3s ?_
          refine Pc.tuple (Pl.v (hL5.pv (fun _ h => h) (j := 7) (by decide) rfl) (Pl.v (hL5.pv (fun _ h => h) (j := 8) (by decide) rfl) (Pl.v (Pv.loc (by with_unfolding_all rfl)) (Pl.nil ⟨len3, fun T hT => ?_⟩))))
          refine Tup3P.mk (.head _) ((hL5.mono tl).nm (j := 6) (by decide) fun n6 hL6 => hL6.nm (j := 7) (by decide) fun n7 hL7 => hL7.nm (j := 8) (by decide) fun n8 hL8 => ?_)
          have hL9 := hL8.congr (g := cf G Wd Hg (.int (tr3 a) t4) (.int (e2of a) t5) (.int (det3 a) t6) rh th La at2) (ten rfl rfl rfl rfl rfl rfl rfl rfl rfl rfl)
          refine Ex.turn (hL9.sub _ hI1) fun U9 => ?_
          have Ub : Uniq Bx := U9.sub hL9.sub
          exact ⟨put_ne (by decide) (put_ne (by decide) (put_ne (by decide) hmP)), off I Bx, rh, th, La, at2, fun p hp => off_mem (hBs1 p hp) (hB4I p hp), (hL9.smaller off_sub).offI off_ne nAI, hrh.offU Ub hI1 (it_ne hit), hth.offU Ub hI1 (it_ne hit), hLa.offU Ub hI1 (it_ne hit)⟩
    case done =>
      clear hL18 hE hTr
      intro m1 n1 hJ
      obtain ⟨hmP, B, el, rh, th, at_, hBs, hL, -, -, -⟩ := hJ
      have hB : ∀ p ∈ B4, p ∈ n1 := fun p hp => hL.sub p (hBs p hp)
      obtain ⟨ps, kp, hlp, hmp, hvp⟩ := hPg
      refine Ex.asg ?_
      refine Pc.blt (S.built (by k_is)) (Pl.k ?_)
      refine Pc.compL (its := ps.toArray) (k := kp) (AccG n1 fun _ i v0 => ∃ t, v0 = .int (det2 u 0 1 (pidx i 0) (pidx i 1) * det2 v (pidx i 0) (pidx i 1) 0 1) t) (Pv.loc hmP) (fun i ys n2 hJ => hJ.2.1 _ (hB _ hmp)) (by simp only [List.size_toArray, hlp]; exact Nat.le_of_ble_eq_true rfl) AccG.nil ?step ?fin
      case step =>
        intro i ys n2 I oI C oC D m₂ v0 hv0 hJ hC hx hoff hne
        have hi : i < 3 := by
          have := (Array.getElem?_eq_some_iff.mp hv0).1
          simpa [hlp] using this
        obtain ⟨pr, rfl, hpr⟩ := hvp i v0 (by simpa using hv0)
        have hb1 := hJ.2.1
        have mem1 : ∀ p ∈ n1, p ∈ (I, oI) :: (C, oC) :: (D, LCg.lst ys) :: n2 := fun p hp => .tail _ (.tail _ (.tail _ (hb1 p hp)))
        have mem : ∀ p ∈ B4, p ∈ (I, oI) :: (C, oC) :: (D, LCg.lst ys) :: n2 := fun p hp => mem1 p (hB p hp)
        refine Pc.mulC ?_
        refine (Pc.fn S.X (S.glob (by k_is)) (by k_is) (Pl.v (hL.pv mem1 (j := 1) (by decide) rfl) (Pl.k ?_)))
        refine Pc.list (Pl.i Pi.const fun q10 => Pl.i Pi.const fun q11 => Pl.nil ⟨len2, fun Q1 hQ1 => ?_⟩)
        refine Pl.v (Pv.own (.tail _ (.tail _ (.head _))) hC hx) (Pl.nil (Ok.int (S.call (c_ch w Wd Q1 pr 2 3 u (fun j => j) (pidx i) (det2 u 0 1 (pidx i 0) (pidx i 1)) _ ((hWd.mono mem).mono tl) (IRow.mk2 (.head _) rfl rfl) ((hpr.mono mem).mono tl) (by decide) (by decide) (fun j hj => hj) (pidx_lt i) (b16 hu) rfl (abs_small (det2m_le hu (by decide) (by decide) (pidx_lt i 0 (by decide)) (pidx_lt i 1 (by decide))) (by decide))) (by decide)) fun t => ?_))
        refine ⟨_, t, rfl, ?_⟩
        refine (Pc.fn S.X (S.glob (by k_is)) (by k_is) (Pl.v (hL.pv (fun p hp => .tail _ (mem1 p hp)) (j := 2) (by decide) rfl) (Pl.v (Pv.own (.tail _ (.tail _ (.head _))) hC hx) (Pl.k ?_))))
        refine Pc.list (Pl.i Pi.const fun q20 => Pl.i Pi.const fun q21 => Pl.nil ⟨len2, fun Q2 hQ2 => ?_⟩)
        refine Pl.nil (Ok.int (S.call (c_ch w Hg pr Q2 3 2 v (pidx i) (fun j => j) (det2 v (pidx i 0) (pidx i 1) 0 1) _ (((hHi.mono mem).mono tl).mono tl) (((hpr.mono mem).mono tl).mono tl) (IRow.mk2 (.head _) rfl rfl) (by decide) (by decide) (pidx_lt i) (fun j hj => hj) (b16 hv) rfl (abs_small (det2m_le hv (pidx_lt i 0 (by decide)) (pidx_lt i 1 (by decide)) (by decide) (by decide)) (by decide))) (by decide)) fun t' => ?_)
        exact ⟨_, t', rfl, mok30 (b30 (det2m_le hu (by decide) (by decide) (pidx_lt i 0 (by decide)) (pidx_lt i 1 (by decide))) (by decide)) (b30 (det2m_le hv (pidx_lt i 0 (by decide)) (pidx_lt i 1 (by decide)) (by decide) (by decide)) (by decide)), fun t2 => CendP.mk n2 (fun p hp => .tail _ (.tail _ hp)) hoff (hJ.snoc hb1 (fun _ _ h => h) ⟨t2, rfl⟩)⟩
      case fin =>
        intro ys n2 D hJ _ _
        have e3 : ps.toArray.size = 3 := by simpa using hlp
        rw [e3] at hJ
        have hi := ints_are ys (fun i => det2 u 0 1 (pidx i 0) (pidx i 1) * det2 v (pidx i 0) (pidx i 1) 0 1) hJ.2.2
        rw [hJ.1] at hi
        have mem1 : ∀ p ∈ n1, p ∈ (D, LCg.lst ys) :: n2 := fun p hp => .tail _ (hJ.2.1 p hp)
        have mem : ∀ p ∈ B4, p ∈ (D, LCg.lst ys) :: n2 := fun p hp => mem1 p (hB p hp)
        refine Pl.nil (Ok.sumE (z := det2 u 0 1 0 1 * det2 v 0 1 0 1 + (det2 u 0 1 0 2 * det2 v 0 2 0 1 + (det2 u 0 1 1 2 * det2 v 1 2 0 1 + 0))) hh (.head _) hi rfl fun t7 => ?_)
        clear hi hJ
        refine Ex.ret ?_
        refine Pc.eqC ?_
        refine (Pc.fn S.X (S.glob (by k_is)) (by k_is) (Pl.k ?_))
        refine (Pc.fn S.X (S.glob (by k_is)) (by k_is) (Pl.v (hL.pv mem1 (j := 1) (by decide) rfl) (Pl.v (hL.pv mem1 (j := 2) (by decide) rfl) (Pl.nil (Ok.mono (S.callL H (c_tmH w Wd Hg 2 3 2 u v _ (hWd.mono mem) (hHi.mono mem) (by decide) (by decide) (by decide) (by decide) (by decide) (bd30 hu) (bd30 hv) (hTab.mono mem)) (by decide)) ?_)))))
        rintro r tl1 ⟨Z, rfl, hZ, hs⟩
        refine Pl.nil (Ok.int (S.call (c_toldg2 w Z (mul3 u v) (det2 (mul3 u v) 0 1 0 1) _ hZ (fun i j hi hj => Nat.lt_of_le_of_lt (mul3_le hu hv i j hi hj) (by decide)) rfl (abs_small (det2m_le (mul3_le hu hv) (by decide) (by decide) (by decide) (by decide)) (by decide))) (by decide)) fun t => ?_)
        obtain ⟨c1, c2, o1, o2, v1, v2, t1, t2, h169, -, -, -, -, -, -⟩ := hTab
        exact ⟨_, _, t, rfl, Pi.of (Pv.loc (by with_unfolding_all rfl)), congrArg (fun b => Flow.ret (.bool b)) (beq_iff_eq.mpr (binetm u v)), _, hs _ (mem _ h169)⟩
end Mine
end
theorem PySem.Challenge.cw_tk0004_01_holds : PySem.Challenge.rw_tk0004_01.Holds := by
  exact Mine.X
