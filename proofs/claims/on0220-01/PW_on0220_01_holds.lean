import PyProof.Rows.All
import Wide.All
import OpenK.AllK
import Wide.FinOn
import PySem.Challenge.RW_on0220_01
set_option Elab.async false
set_option linter.unusedVariables false
set_option linter.unusedSimpArgs false
set_option rowWalk.seconds 0

namespace Mine
local macro_rules | `(tactic| walk_at $s:str) => `(tactic| k_extra $s)
local macro_rules | `(tactic| mul_fits) => `(tactic| k_extra "mul_fits")
local macro_rules | `(tactic| k_room) => `(tactic| k_extra "k_room")
local macro_rules | `(tactic| k_units) => `(tactic| k_extra "k_units")
local macro_rules | `(tactic| k_in) => `(tactic| k_extra "k_in")
local macro_rules | `(tactic| k_inst) => `(tactic| k_extra "k_inst")
local macro_rules | `(tactic| kn_code) => `(tactic| k_extra "kn_code")
section
open PySem PySem.W PyProof.Rows
/-- the program's statements by their places, and the same law over them: the head's terms then name them -/
def st (i : Nat) : PySem.Stmt := PySem.Challenge.pw_on0220_01.main.body.getD i default
def prog : PySem.Program := { PySem.Challenge.pw_on0220_01 with main := { PySem.Challenge.pw_on0220_01.main with body := [st 0, st 1, st 2, st 3, st 4, st 5, st 6, st 7, st 8, st 9, st 10, st 11, st 12, st 13, st 14, st 15, st 16, st 17, st 18] } }
def row : PySem.W.OpenLaw := { PySem.Challenge.rw_on0220_01 with prog := prog }
theorem row_eq : PySem.Challenge.rw_on0220_01 = row := rfl
set_option maxRecDepth 100000 in
set_option maxHeartbeats 8000000 in
open_top hd for Mine.row
end

section
open PySem PySem.W PyProof.Rows PySem.Calls
/-- between two turns: the named values, the names that no turn stores, the ledger -/
def LpJ {σ : Type} (x : Str) (ps : σ → List (Str × Value)) (stored : List Str) (m₀ : Str → Option Value) (R : σ → List (Addr × Obj) → Prop) (m : Str → Option Value) (nx : List (Addr × Obj)) : Prop :=
  ∃ c, (∀ p ∈ ps c, m p.1 = some p.2) ∧ (∀ z, z ≠ x → (∀ p ∈ ps c, z ≠ p.1) → stored.contains z = false → m z = m₀ z) ∧ R c nx

section
variable {prog : Program} {w : World} {A : Around} {E : Value → Shared → Prop} {s : Shared} {env : Env} {h₀ : Heap} {x : Str} {body : List Stmt} {Q : Flow → Shared → Prop}

/-- a for over a list of the ledger -/
theorem for_led {σ : Type} {l : Addr} {vs : List Value} {nn : Nat} {m₀ : Str → Option Value} {news : List (Addr × Obj)} (ps : σ → List (Str × Value)) (stored : List Str) (R : Nat → σ → List (Addr × Obj) → Prop) (c₀ : σ)
    (hh : A.handled = none) (hl : (l, listOf vs.toArray nn) ∈ news) (F : Fr h₀ env.locals s.heap m₀) (N : News h₀ env.locals s.heap news) (hk : ∀ p ∈ ps c₀, m₀ p.1 = some p.2) (hr : R 0 c₀ news)
    (turn : ∀ i v (c : σ) (u : Str → Option Value) nx h tk own, vs[i]? = some v → OwnOff own (nx.map (·.1)) → (l, listOf vs.toArray nn) ∈ nx → R i c nx →
      Fr h₀ env.locals h (fun y => if y = x then some v else kstB (fun z => if stored.contains z then u z else m₀ z) (ps c) y) → News h₀ env.locals h (nx ++ own) →
      wpAny (model prog w) A (execs body env) (InvPostG h₀ env.locals (fun m' nx => (l, listOf vs.toArray nn) ∈ nx ∧ LpJ x ps stored m₀ (R (i + 1)) m' nx) own { s with heap := h, toks := tk } Q) E { s with heap := h, toks := tk })
    (done : ∀ (c : σ) (u : Str → Option Value) nx h tk, R vs.length c nx → Fr h₀ env.locals h (fun y => if y = x then u y else kstB (fun z => if stored.contains z then u z else m₀ z) (ps c) y) → News h₀ env.locals h nx → Q .next { s with heap := h, toks := tk }) :
    wpAny (model prog w) A (pyIter (.ref l)) (fun it s₂ => LoopAtV prog w A h₀ env x body Q E it s₂) E s := by
  refine kdl_iter (nn := nn) (fun i m nx => LpJ x ps stored m₀ (R i) m nx) hh hl F N ⟨c₀, hk, fun _ _ _ _ => rfl, hr⟩ ?_ ?_
  · rintro i v m₁ nx h tk own hv hoff hm ⟨c, h1, h2, hr'⟩ F₁ N₁
    exact turn i v c m₁ nx h tk own hv hoff hm hr' (kst_fr h1 h2 F₁) N₁
  · rintro m₁ nx h tk ⟨c, h1, h2, hr'⟩ F₁ N₁
    exact done c m₁ nx h tk hr' (kst_frOut h1 h2 F₁) N₁

theorem led_end {σ : Type} {l : Addr} {vs : List Value} {nn : Nat} {m₀ : Str → Option Value} {ps : σ → List (Str × Value)} {stored : List Str} {R : σ → List (Addr × Obj) → Prop} {L : Addr} {m' : Str → Option Value} {own news' : List (Addr × Obj)} {s₁ : Shared} {h' : Heap} {tk : Nat}
    (c : σ) (nx : List (Addr × Obj)) (F : Fr h₀ L h' m') (N : News h₀ L h' news') (hn : ∀ p ∈ nx, p ∈ news') (ho : ∀ p ∈ own, p ∈ news') (ha : OwnOff own (nx.map (·.1))) (hl : (l, listOf vs.toArray nn) ∈ nx)
    (hk : ∀ p ∈ ps c, m' p.1 = some p.2) (hs : ∀ z, z ≠ x → (∀ p ∈ ps c, z ≠ p.1) → stored.contains z = false → m' z = m₀ z) (hr : R c nx) :
    InvEndG h₀ L (fun m' nx => (l, listOf vs.toArray nn) ∈ nx ∧ LpJ x ps stored m₀ R m' nx) own s₁ { s₁ with heap := h', toks := tk } :=
  .intro F N ⟨hl, c, hk, hs, hr⟩ ha hn ho
end
end

section
open PySem PySem.W PyProof.Rows PySem.Calls
/-- between two turns of a loop whose target is any -/
def LpK {σ : Type} (ps : σ → List (Str × Value)) (stored : List Str) (m₀ : Str → Option Value) (R : σ → List (Addr × Obj) → Prop) (m : Str → Option Value) (nx : List (Addr × Obj)) : Prop :=
  ∃ c, (∀ p ∈ ps c, m p.1 = some p.2) ∧ (∀ z, (∀ p ∈ ps c, z ≠ p.1) → stored.contains z = false → m z = m₀ z) ∧ R c nx
abbrev lpMap (stored : List Str) (u m₀ : Str → Option Value) (ps : List (Str × Value)) : Str → Option Value := kstB (fun z => if stored.contains z then u z else m₀ z) ps
theorem lpMap_eq {stored : List Str} {m₁ m₀ : Str → Option Value} {ps : List (Str × Value)} (h1 : ∀ p ∈ ps, m₁ p.1 = some p.2) (h2 : ∀ z, (∀ p ∈ ps, z ≠ p.1) → stored.contains z = false → m₁ z = m₀ z) : lpMap stored m₁ m₀ ps = m₁ := by
  funext y
  refine kstB_eq h1 fun hn => ?_
  show (if stored.contains y = true then m₁ y else m₀ y) = m₁ y
  cases h3 : stored.contains y with
  | true => simp
  | false => simp only [Bool.false_eq_true, if_false]; exact (h2 y hn h3).symm

section
variable {prog : Program} {w : World} {A : Around} {E : Value → Shared → Prop} {s : Shared} {env : Env} {h₀ : Heap} {target : Expr} {body : List Stmt} {Q : Flow → Shared → Prop}

theorem turns_core {σ : Type} {I l : Addr} {lo : Obj} {fp wr : List Addr} {n : Nat} {P Md : Nat → Value → Heap → Prop} {St : Nat → Heap → Prop} {m₀ : Str → Option Value} {news : List (Addr × Obj)} {hp : Heap} {tk0 : Nat}
    (ps : σ → List (Str × Value)) (stored : List Str) (R : Nat → σ → List (Addr × Obj) → Prop) (c₀ : σ)
    (W : KTurns prog w A target I fp wr n P Md St) (hwr : ∀ b ∈ wr, h₀.get? b = none) (hfp : ∀ b ∈ fp, b ∈ wr ∨ b = l) (hob : ∀ i h, St i h → ∀ b ∈ wr, ∃ o, h.get? b = some o)
    (hL : env.locals ∉ fp) (hnw : ∀ p ∈ news, p.1 ∉ wr) (hst : St 0 hp) (F : Fr h₀ env.locals hp m₀) (N : News h₀ env.locals hp news) (hl : (l, lo) ∈ news) (hk : ∀ p ∈ ps c₀, m₀ p.1 = some p.2) (hr : R 0 c₀ news)
    (turn : ∀ i v (c : σ) (u : Str → Option Value) nx h tk own, i < n → P i v h → OwnOff own (nx.map (·.1)) → (l, lo) ∈ nx → R i c nx → Fr h₀ env.locals h (lpMap stored u m₀ (ps c)) → News h₀ env.locals h (nx ++ own) →
      wpAny (model prog w) A (assign target env v) (fun _ s₃ => wpAny (model prog w) A (execs body env) (InvPostG h₀ env.locals (fun m' nx => (l, lo) ∈ nx ∧ LpK ps stored m₀ (R (i + 1)) m' nx) own { s with heap := h, toks := tk } Q) E s₃) E { s with heap := h, toks := tk })
    (done : ∀ (c : σ) (u : Str → Option Value) nx h tk, R n c nx → Fr h₀ env.locals h (lpMap stored u m₀ (ps c)) → News h₀ env.locals h nx → Q .next { s with heap := h, toks := tk }) :
    TurnsAt prog w A h₀ env target body Q E (.ref I) { s with heap := hp, toks := tk0 } := by
  refine ⟨I, fp, wr, n, P, Md, St, m₀, news, (fun i m nx => (l, lo) ∈ nx ∧ LpK ps stored m₀ (R i) m nx), rfl, W, hL, hwr, hnw, hst, F, N, ⟨hl, c₀, hk, fun _ _ _ => rfl, hr⟩, ?_, ?_⟩
  · rintro i v m₁ nx h₁ tk₁ own hin hP ⟨hl₁, c, h1, h2, hR⟩ hoff hown hget hall hst₁ F₁ N₁
    have hfw : ∀ p ∈ own.filter (fun p => decide (p.1 ∈ wr)), p.1 ∈ wr := fun p hp => by simpa using (List.mem_filter.mp hp).2
    have hsep : OwnOff (own.filter fun p => decide (p.1 ∈ wr)) (nx.map (·.1)) := by
      intro p hp b hb e
      obtain ⟨q, hq, rfl⟩ := List.mem_map.mp hb
      exact hoff q hq (e ▸ hfw p hp)
    have N₂ : News h₀ env.locals h₁ (nx ++ own.filter fun p => decide (p.1 ∈ wr)) := fun p hp => N₁ p ((List.mem_append.mp hp).elim (fun h => List.mem_append.mpr (.inr h)) fun h => List.mem_append.mpr (.inl (List.mem_filter.mp h).1))
    have hlo : h₁.get? l = some lo := (N₁ _ (List.mem_append.mpr (.inr hl₁))).1
    have fin : ∀ s₃, InvEndG h₀ env.locals (fun m' nx => (l, lo) ∈ nx ∧ LpK ps stored m₀ (R (i + 1)) m' nx) (own.filter fun p => decide (p.1 ∈ wr)) { s with heap := h₁, toks := tk₁ } s₃ →
        LoopStepU h₀ env.locals wr own (fun m nx => (l, lo) ∈ nx ∧ LpK ps stored m₀ (R (i + 1)) m nx) { s with heap := h₁, toks := tk₁ } .next s₃ := by
      rintro s₃ ⟨h', tk, m', news', nx', e, F', N', hn, ho, ha, hm⟩
      refine ⟨rfl, h', tk, m', nx', e, F', fun p hp => ?_, fun p hp hq => ?_, hm⟩
      · rcases List.mem_append.mp hp with h | h
        · by_cases hI : p.1 ∈ wr
          · exact N' p (ho p (List.mem_filter.mpr ⟨h, by simpa using hI⟩))
          · have h1 : p.1 = l := (hfp _ (hown p h)).resolve_left hI
            have h2 : h₁.get? p.1 = some p.2 := hget p h
            rw [h1, hlo] at h2
            have h3 : p = (l, lo) := Prod.ext h1 (Option.some.inj h2).symm
            rw [h3]
            exact N' _ (hn _ hm.1)
        · exact N' p (hn p h)
      · obtain ⟨o, hbo⟩ := hob _ _ hst₁ _ hq
        have := hall p.1 (W.sub _ hq) (hwr _ hq) o hbo
        exact ha (p.1, o) (List.mem_filter.mpr ⟨this, by simpa using hq⟩) p.1 (List.mem_map.mpr ⟨p, hp, rfl⟩) rfl
    have F₂ : Fr h₀ env.locals h₁ (lpMap stored m₁ m₀ (ps c)) := by rw [lpMap_eq h1 h2]; exact F₁
    refine wpAny_mono (turn i v c m₁ nx h₁ tk₁ _ hin hP hsep hl₁ hR F₂ N₂) (fun _ s₂ h₂ => wpAny_mono h₂ (fun f s₃ p => ?_) fun _ _ e => e) fun _ _ e => e
    cases f with
    | ret v => exact .ret p
    | brk => exact .brk p
    | next => exact .next (fin _ p)
    | cont => exact .cont (fin _ p)
  · rintro h' tk m' news' F' N' _ ⟨_, c, h1, h2, hR⟩
    exact done c m' news' h' tk hR (by rw [lpMap_eq h1 h2]; exact F') N'

theorem turns_end {σ : Type} {l : Addr} {lo : Obj} {m₀ : Str → Option Value} {ps : σ → List (Str × Value)} {stored : List Str} {R : σ → List (Addr × Obj) → Prop} {L : Addr} {m' : Str → Option Value} {own news' : List (Addr × Obj)} {s₁ : Shared} {h' : Heap} {tk : Nat}
    (c : σ) (nx : List (Addr × Obj)) (F : Fr h₀ L h' m') (N : News h₀ L h' news') (hn : ∀ p ∈ nx, p ∈ news') (ho : ∀ p ∈ own, p ∈ news') (ha : OwnOff own (nx.map (·.1))) (hl : (l, lo) ∈ nx)
    (hk : ∀ p ∈ ps c, m' p.1 = some p.2) (hs : ∀ z, (∀ p ∈ ps c, z ≠ p.1) → stored.contains z = false → m' z = m₀ z) (hr : R c nx) :
    InvEndG h₀ L (fun m' nx => (l, lo) ∈ nx ∧ LpK ps stored m₀ R m' nx) own s₁ { s₁ with heap := h', toks := tk } :=
  .intro F N ⟨hl, c, hk, hs, hr⟩ ha hn ho

/-- for TARGET in enumerate(a list of the ledger) -/
theorem for_enum {σ : Type} {elts : List Expr} {k : Nat} {pos : Pos} {l : Addr} {vs : List Value} {nn : Nat} {m₀ : Str → Option Value} {news : List (Addr × Obj)} (ps : σ → List (Str × Value)) (stored : List Str) (R : Nat → σ → List (Addr × Obj) → Prop) (c₀ : σ)
    (hh : A.handled = none) (hl : (l, listOf vs.toArray nn) ∈ news) (F : Fr h₀ env.locals s.heap m₀) (N : News h₀ env.locals s.heap news) (hk : ∀ p ∈ ps c₀, m₀ p.1 = some p.2) (hr : R 0 c₀ news)
    (turn : ∀ i x T t (c : σ) (u : Str → Option Value) nx h tk own, vs[i]? = some x → h.IsTuple T #[.int (i : Int) t, x] → OwnOff own (nx.map (·.1)) → (l, listOf vs.toArray nn) ∈ nx → R i c nx → Fr h₀ env.locals h (lpMap stored u m₀ (ps c)) → News h₀ env.locals h (nx ++ own) →
      wpAny (model prog w) A (assign (.Tuple elts k pos) env (.ref T)) (fun _ s₃ => wpAny (model prog w) A (execs body env) (InvPostG h₀ env.locals (fun m' nx => (l, listOf vs.toArray nn) ∈ nx ∧ LpK ps stored m₀ (R (i + 1)) m' nx) own { s with heap := h, toks := tk } Q) E s₃) E { s with heap := h, toks := tk })
    (done : ∀ (c : σ) (u : Str → Option Value) nx h tk, R vs.length c nx → Fr h₀ env.locals h (lpMap stored u m₀ (ps c)) → News h₀ env.locals h nx → Q .next { s with heap := h, toks := tk }) :
    wpAny (model prog w) A (call (.type "enumerate") [.ref l]) (fun xv s₁ => wpAny (model prog w) A (pyIter xv) (fun it s₂ => TurnsAt prog w A h₀ env (.Tuple elts k pos) body Q E it s₂) E s₁) E s := by
  have hax := N _ hl
  have hls : s.heap.IsList l vs.toArray := ⟨_, hax.1, rfl, nn, rfl⟩
  have hlt : l < s.heap.objs.size := Heap.lt_size hax.1
  have hLs : env.locals < s.heap.objs.size := F.ns.lt
  refine call_enumerate_list hls fun h' hE hI hsz hk' => ?_
  refine wpAny_pyIter_enum hE ?_
  refine turns_core (tk0 := s.toks) (l := l) (lo := listOf vs.toArray nn) ps stored R c₀ (KTurns.ofWalksU (WalksT.enumerate hh (s.heap.objs.size + 1) s.heap.objs.size l (Nat.succ_ne_self _) (ktu_ne 1 hlt) (Nat.ne_of_lt hlt) vs.toArray).toU) ?_ ?_ ?_ ?_ ?_ ?_ (F.keeps hk') (N.grown hk') hl hk hr ?_ ?_
  · intro b hb
    have hb' : b = s.heap.objs.size + 1 ∨ b = s.heap.objs.size := by simpa using hb
    rcases hb' with rfl | rfl
    · exact ktu_new F (Nat.le_add_right _ _)
    · exact ktu_new F (Nat.le_refl _)
  · intro b hb
    have hb' : b = s.heap.objs.size + 1 ∨ b = s.heap.objs.size ∨ b = l := by simpa using hb
    rcases hb' with rfl | rfl | rfl
    · exact .inl (by simp)
    · exact .inl (by simp)
    · exact .inr rfl
  · rintro i h ⟨⟨old, he⟩, ⟨oi, hoi, hic, _⟩, _⟩ b hb
    have hb' : b = s.heap.objs.size + 1 ∨ b = s.heap.objs.size := by simpa using hb
    rcases hb' with rfl | rfl
    · exact ⟨_, he⟩
    · exact ⟨_, hoi⟩
  · intro hI'
    have hb' : env.locals = s.heap.objs.size + 1 ∨ env.locals = s.heap.objs.size ∨ env.locals = l := by simpa using hI'
    rcases hb' with e | e | e
    · exact ktu_ne 1 hLs e
    · exact Nat.ne_of_lt hLs e
    · exact hax.2.1 e.symm
  · intro p hp hI'
    have hb' : p.1 = s.heap.objs.size + 1 ∨ p.1 = s.heap.objs.size := by simpa using hI'
    have hlp := Heap.lt_size (N p hp).1
    rcases hb' with e | e
    · exact ktu_ne 1 hlp e
    · exact Nat.ne_of_lt hlp e
  · exact ⟨⟨.none, hE⟩, hI, hls.at fun o e => hk' l o e⟩
  · rintro i v c u nx h tk own hin ⟨T, vals, rfl, ⟨t, x, hx, rfl⟩, hT⟩ hoff hm hR F₁ N₁
    exact turn i x T t c u nx h tk own (by simpa using hx) hT hoff hm hR F₁ N₁
  · intro c u nx h tk hR
    exact done c u nx h tk (by simpa using hR)

/-- for TARGET in a list of the ledger, the target any -/
theorem for_rows {σ : Type} {l : Addr} {vs : List Value} {nn : Nat} {m₀ : Str → Option Value} {news : List (Addr × Obj)} (ps : σ → List (Str × Value)) (stored : List Str) (R : Nat → σ → List (Addr × Obj) → Prop) (c₀ : σ)
    (hh : A.handled = none) (hl : (l, listOf vs.toArray nn) ∈ news) (F : Fr h₀ env.locals s.heap m₀) (N : News h₀ env.locals s.heap news) (hk : ∀ p ∈ ps c₀, m₀ p.1 = some p.2) (hr : R 0 c₀ news)
    (turn : ∀ i v (c : σ) (u : Str → Option Value) nx h tk own, vs[i]? = some v → OwnOff own (nx.map (·.1)) → (l, listOf vs.toArray nn) ∈ nx → R i c nx → Fr h₀ env.locals h (lpMap stored u m₀ (ps c)) → News h₀ env.locals h (nx ++ own) →
      wpAny (model prog w) A (assign target env v) (fun _ s₃ => wpAny (model prog w) A (execs body env) (InvPostG h₀ env.locals (fun m' nx => (l, listOf vs.toArray nn) ∈ nx ∧ LpK ps stored m₀ (R (i + 1)) m' nx) own { s with heap := h, toks := tk } Q) E s₃) E { s with heap := h, toks := tk })
    (done : ∀ (c : σ) (u : Str → Option Value) nx h tk, R vs.length c nx → Fr h₀ env.locals h (lpMap stored u m₀ (ps c)) → News h₀ env.locals h nx → Q .next { s with heap := h, toks := tk }) :
    wpAny (model prog w) A (pyIter (.ref l)) (fun it s₂ => TurnsAt prog w A h₀ env target body Q E it s₂) E s := by
  have hax := N _ hl
  have hls : s.heap.IsList l vs.toArray := ⟨_, hax.1, rfl, nn, rfl⟩
  have hlt : l < s.heap.objs.size := Heap.lt_size hax.1
  have hne : l ≠ s.heap.objs.size := Nat.ne_of_lt hlt
  refine wpAny_pyIter_list hls ?_
  refine turns_core (tk0 := s.toks) (l := l) (lo := listOf vs.toArray nn) ps stored R c₀ (KTurns.ofWalks (Walks.list hh s.heap.objs.size l hne vs.toArray) fun i v s Q E st q => letGo_listiter st.1 q) ?_ ?_ ?_ ?_ ?_ ?_ (F.push _) (fun p hp => ⟨Heap.get?_push_of_some _ (N p hp).1, (N p hp).2⟩) hl hk hr ?_ ?_
  · intro b hb
    rw [List.mem_singleton.mp hb]; exact next_is_new F
  · intro b hb
    have hb' : b = s.heap.objs.size ∨ b = l := by simpa using hb
    exact hb'.imp (fun e => by simp [e]) id
  · intro i h st b hb
    obtain ⟨it, hit, _⟩ := st.1
    rw [List.mem_singleton.mp hb]; exact ⟨_, hit⟩
  · intro hI
    rcases List.mem_cons.mp hI with e | hI
    · exact absurd F.ns.lt (e ▸ Nat.lt_irrefl _)
    · exact hax.2.1 (List.mem_singleton.mp hI).symm
  · intro p hp hI
    exact absurd (Heap.lt_size (N p hp).1) ((List.mem_singleton.mp hI) ▸ Nat.lt_irrefl _)
  · exact ⟨⟨_, Heap.get?_push_size _ rfl, rfl, rfl⟩, hls.at fun o e => Heap.get?_push_of_some _ e⟩
  · rintro i v c u nx h tk own hin hP hoff hm hR F₁ N₁
    have hP' : vs.toArray[i]? = some v := hP
    exact turn i v c u nx h tk own (by simpa using hP') hoff hm hR F₁ N₁
  · intro c u nx h tk hR
    exact done c u nx h tk (by simpa using hR)

/-- unpacking a pair into two local names -/
theorem assign_two {a b : Str} {pa pb tp : Pos} {kk : Nat} {T : Addr} {x y : Value} {m : Str → Option Value} {news : List (Addr × Obj)} {Q : Unit → Shared → Prop} (hh : A.handled = none) (ht : s.heap.IsTuple T #[x, y])
    (ha : env.kindOf a = some .local) (hb : env.kindOf b = some .local) (hp : (env.scope.kind == .class || (env.scope.kind == .module && env.locals != env.globals)) = false) (F : Fr h₀ env.locals s.heap m) (N : News h₀ env.locals s.heap news)
    (h : ∀ (h' : Heap) (tk : Nat), Fr h₀ env.locals h' (fun z => if z = b then some y else if z = a then some x else m z) → News h₀ env.locals h' news → Q () { s with heap := h', toks := tk }) :
    wpAny (model prog w) A (assign (.Tuple [.Name a pa, .Name b pb] kk tp) env (.ref T)) Q E s := by
  refine kcp_assign hh ht ha hb hp F.ns fun h' tk hn hk => h h' tk ⟨hn, fun c o e => hk c o (fun q => ?_) (F.keep c o e), F.above⟩ fun q hq => ⟨hk q.1 q.2 (N q hq).2.1 (N q hq).1, (N q hq).2⟩
  subst q
  exact absurd (Nat.lt_of_lt_of_le (Heap.lt_size e) F.above) (Nat.lt_irrefl _)

/-- unpacking (x, (y, z)) into three local names -/
theorem assign_three {a b c : Str} {pa pb pc tp tp2 : Pos} {kk kk2 : Nat} {T X : Addr} {x y z : Value} {m : Str → Option Value} {news : List (Addr × Obj)} {Q : Unit → Shared → Prop} (hh : A.handled = none) (ht : s.heap.IsTuple T #[x, .ref X]) (hX : s.heap.IsTuple X #[y, z]) (hXL : X ≠ env.locals)
    (ha : env.kindOf a = some .local) (hb : env.kindOf b = some .local) (hc : env.kindOf c = some .local) (hp : (env.scope.kind == .class || (env.scope.kind == .module && env.locals != env.globals)) = false) (F : Fr h₀ env.locals s.heap m) (N : News h₀ env.locals s.heap news)
    (h : ∀ (h' : Heap) (tk : Nat), Fr h₀ env.locals h' (fun n => if n = c then some z else if n = b then some y else if n = a then some x else m n) → News h₀ env.locals h' news → Q () { s with heap := h', toks := tk }) :
    wpAny (model prog w) A (assign (.Tuple [.Name a pa, .Tuple [.Name b pb, .Name c pc] kk2 tp2] kk tp) env (.ref T)) Q E s := by
  have hn := F.ns
  refine wpAny_assign_Tuple hh ht rfl rfl fun h₁ he₁ => ?_
  have hL : env.locals ≠ s.heap.objs.size := Nat.ne_of_lt hn.lt
  have hn₁ : h₁.Ns env.locals m := hn.at' fun o e => he₁ _ o hL e
  have up₁ : ∀ c o, s.heap.get? c = some o → h₁.get? c = some o := fun c o e => he₁ c o (Nat.ne_of_lt (Heap.lt_size e)) e
  show wpAny _ _ (assignInOrder [assign (.Name a pa) env, assign (.Tuple [.Name b pb, .Name c pc] kk2 tp2) env] [x, .ref X]) _ _ _
  refine assignInOrder_cons ?_
  refine wpAny_assign_Name (wpAny_storeName_local ha hn₁ (fun h₂ hn₂ hs₂ => ?_) hp)
  have up₂ : ∀ d o, d ≠ env.locals → s.heap.get? d = some o → h₂.get? d = some o := fun d o hd e => hs₂.extBut d o hd (up₁ d o e)
  refine assignInOrder_cons ?_
  have F₂ : Fr h₀ env.locals h₂ (fun n => if n = a then some x else m n) := ⟨hn₂, fun d o e => up₂ d o (fun q => by
    subst q
    exact absurd (Nat.lt_of_lt_of_le (Heap.lt_size e) F.above) (Nat.lt_irrefl _)) (F.keep d o e), F.above⟩
  refine assign_two (s := { s with heap := h₂, toks := s.toks + 1 }) hh (hX.at fun o e => up₂ X o hXL e) hb hc hp F₂ (fun q hq => ⟨up₂ q.1 q.2 (N q hq).2.1 (N q hq).1, (N q hq).2⟩) fun h' tk F' N' => ?_
  refine assignInOrder_nil ?_
  exact h h' tk F' N'
end
end

section
abbrev SpSt := List (Int × Int) × Option Int
def insideB (nz : Bool) (w : Int) : Bool := if nz then decide (w ≠ 0) else decide (w % 2 ≠ 0)
def stepR (b : Bool) (st : SpSt) (col : Int) : SpSt := if b then (st.1, some (st.2.getD col)) else match st.2 with
  | some x => (st.1 ++ [(x, col)], none)
  | none => st
def spStep (nz : Bool) (ch : List (Int × Int)) (i : Nat) (S : SpSt × Int) : SpSt × Int :=
  if i + 1 < ch.length ∧ (ch.getD (i + 1) (0, 0)).1 = (ch.getD i (0, 0)).1 then (S.1, S.2 + (ch.getD i (0, 0)).2)
  else (stepR (insideB nz (S.2 + (ch.getD i (0, 0)).2)) S.1 (ch.getD i (0, 0)).1, S.2 + (ch.getD i (0, 0)).2)
def spRun (nz : Bool) (ch : List (Int × Int)) : Nat → SpSt × Int
  | 0 => (([], none), 0)
  | i + 1 => spStep nz ch i (spRun nz ch i)
def spans (nz : Bool) (ch : List (Int × Int)) : List (Int × Int) := (spRun nz ch ch.length).1.1
def turnsAt (ch : List (Int × Int)) (col : Int) : Int := ((ch.filter fun p => decide (p.1 ≤ col)).map (·.2)).sum
def ruRun (nz : Bool) (ch : List (Int × Int)) (c0 : Int) : Nat → SpSt
  | 0 => ([], none)
  | k + 1 => stepR (insideB nz (turnsAt ch (c0 + k))) (ruRun nz ch c0 k) (c0 + k)
def firstC (ch : List (Int × Int)) : Int := (ch.getD 0 (0, 0)).1
def lastC (ch : List (Int × Int)) : Int := (ch.getD (ch.length - 1) (0, 0)).1
def runs (nz : Bool) (ch : List (Int × Int)) : List (Int × Int) := if ch = [] then [] else (ruRun nz ch (firstC ch) (lastC ch + 1 - firstC ch).toNat).1

def settled (b : Bool) (st : SpSt) : Prop := if b then st.2 ≠ none else st.2 = none
theorem settled_step (b : Bool) (st : SpSt) (col : Int) : settled b (stepR b st col) := by
  cases b with
  | true => simp [settled, stepR]
  | false =>
    obtain ⟨f, bg⟩ := st
    cases bg <;> simp [settled, stepR]
theorem step_settled {b : Bool} {st : SpSt} (h : settled b st) (col : Int) : stepR b st col = st := by
  obtain ⟨f, bg⟩ := st
  cases b with
  | true =>
    cases bg with
    | none => simp [settled] at h
    | some x => simp [stepR]
  | false =>
    cases bg with
    | none => simp [stepR]
    | some x => simp [settled] at h
theorem gap {nz : Bool} {ch : List (Int × Int)} {c0 : Int} {b : Bool} : ∀ (m k : Nat), settled b (ruRun nz ch c0 k) → (∀ j, k ≤ j → j < k + m → insideB nz (turnsAt ch (c0 + j)) = b) → ruRun nz ch c0 (k + m) = ruRun nz ch c0 k
  | 0, k, _, _ => rfl
  | m + 1, k, hs, h => by
    have ih := gap m k hs fun j h1 h2 => h j h1 (by omega)
    show stepR (insideB nz (turnsAt ch (c0 + ((k + m : Nat) : Int)))) (ruRun nz ch c0 (k + m)) _ = _
    rw [h (k + m) (by omega) (by omega), ih]
    exact step_settled hs _

def upCols (ch : List (Int × Int)) : Prop := ∀ i j, i ≤ j → j < ch.length → (ch.getD i (0, 0)).1 ≤ (ch.getD j (0, 0)).1
def preW (ch : List (Int × Int)) (i : Nat) : Int := ((ch.take i).map (·.2)).sum

theorem preW_succ {ch : List (Int × Int)} {i : Nat} (h : i < ch.length) : preW ch (i + 1) = preW ch i + (ch.getD i (0, 0)).2 := by
  unfold preW
  rw [List.take_add_one, List.map_append, List.sum_append]
  congr 1
  simp [List.getElem?_eq_getElem h, List.getD_eq_getElem?_getD]

theorem filter_cut {ch : List (Int × Int)} (hu : upCols ch) {i : Nat} {col : Int} (hi : i ≤ ch.length) (h1 : ∀ j, j < i → (ch.getD j (0, 0)).1 ≤ col) (h2 : ∀ j, i ≤ j → j < ch.length → col < (ch.getD j (0, 0)).1) :
    ch.filter (fun p => decide (p.1 ≤ col)) = ch.take i := by
  have e : ch = ch.take i ++ ch.drop i := (List.take_append_drop i ch).symm
  have gl : ∀ {j : Nat} (hj : j < ch.length), ch.getD j (0, 0) = ch[j] := fun {j} hj => by simp [List.getD_eq_getElem?_getD, hj]
  have a1 : (ch.take i).filter (fun p => decide (p.1 ≤ col)) = ch.take i := by
    refine List.filter_eq_self.mpr fun p hp => ?_
    obtain ⟨j, hj, rfl⟩ := List.getElem_of_mem hp
    have hj' : j < i ∧ j < ch.length := by
      rw [List.length_take] at hj; omega
    have := h1 j hj'.1
    rw [gl hj'.2] at this
    simpa [List.getElem_take] using this
  have a2 : (ch.drop i).filter (fun p => decide (p.1 ≤ col)) = [] := by
    refine List.filter_eq_nil_iff.mpr fun p hp => ?_
    obtain ⟨j, hj, rfl⟩ := List.getElem_of_mem hp
    have hj' : i + j < ch.length := by
      rw [List.length_drop] at hj; omega
    have := h2 (i + j) (by omega) hj'
    rw [gl hj'] at this
    simp only [List.getElem_drop, decide_eq_true_eq]
    omega
  calc ch.filter (fun p => decide (p.1 ≤ col)) = (ch.take i ++ ch.drop i).filter (fun p => decide (p.1 ≤ col)) := by rw [← e]
    _ = ch.take i := by rw [List.filter_append, a1, a2, List.append_nil]

theorem turns_cut {ch : List (Int × Int)} (hu : upCols ch) {i : Nat} {col : Int} (hi : i ≤ ch.length) (h1 : ∀ j, j < i → (ch.getD j (0, 0)).1 ≤ col) (h2 : ∀ j, i ≤ j → j < ch.length → col < (ch.getD j (0, 0)).1) :
    turnsAt ch col = preW ch i := by
  unfold turnsAt preW
  rw [filter_cut hu hi h1 h2]

theorem sp_w (nz : Bool) (ch : List (Int × Int)) : ∀ i, i ≤ ch.length → (spRun nz ch i).2 = preW ch i
  | 0, _ => by simp [spRun, preW]
  | i + 1, h => by
    have ih := sp_w nz ch i (by omega)
    rw [preW_succ (by omega), ← ih]
    show (spStep nz ch i (spRun nz ch i)).2 = _
    unfold spStep
    split <;> rfl

theorem sp_ru (nz : Bool) (ch : List (Int × Int)) (hu : upCols ch) : ∀ i, i < ch.length → (spRun nz ch i).1 = ruRun nz ch (firstC ch) ((ch.getD i (0, 0)).1 - firstC ch).toNat
  | 0, _ => by
    unfold firstC
    rw [Int.sub_self]
    rfl
  | i + 1, h => by
    have ih := sp_ru nz ch hu i (by omega)
    have hw := sp_w nz ch i (by omega)
    have hle := hu i (i + 1) (by omega) h
    have h0 := hu 0 i (by omega) (by omega)
    show (spStep nz ch i (spRun nz ch i)).1 = _
    unfold spStep
    by_cases c : (ch.getD (i + 1) (0, 0)).1 = (ch.getD i (0, 0)).1
    · rw [if_pos ⟨h, c⟩, c]; exact ih
    · rw [if_neg (fun z => c z.2), hw, ← preW_succ (by omega)]
      have hlt : (ch.getD i (0, 0)).1 < (ch.getD (i + 1) (0, 0)).1 := by omega
      have hT : ∀ col, (ch.getD i (0, 0)).1 ≤ col → col < (ch.getD (i + 1) (0, 0)).1 → turnsAt ch col = preW ch (i + 1) := fun col a b =>
        turns_cut hu (by omega) (fun j hj => Int.le_trans (hu j i (by omega) (by omega)) a) fun j h1 h2 => Int.lt_of_lt_of_le b (hu (i + 1) j h1 h2)
      have hf : firstC ch = (ch.getD 0 (0, 0)).1 := rfl
      have e1 : ((ch.getD (i + 1) (0, 0)).1 - firstC ch).toNat = ((ch.getD i (0, 0)).1 - firstC ch).toNat + 1 + (((ch.getD (i + 1) (0, 0)).1 - (ch.getD i (0, 0)).1).toNat - 1) := by omega
      have e2 : ruRun nz ch (firstC ch) (((ch.getD i (0, 0)).1 - firstC ch).toNat + 1) = stepR (insideB nz (preW ch (i + 1))) (spRun nz ch i).1 (ch.getD i (0, 0)).1 := by
        show stepR (insideB nz (turnsAt ch (firstC ch + ((((ch.getD i (0, 0)).1 - firstC ch).toNat : Nat) : Int)))) (ruRun nz ch (firstC ch) ((ch.getD i (0, 0)).1 - firstC ch).toNat) _ = _
        have e3 : firstC ch + ((((ch.getD i (0, 0)).1 - firstC ch).toNat : Nat) : Int) = (ch.getD i (0, 0)).1 := by omega
        rw [e3, hT _ (Int.le_refl _) hlt, ih]
      rw [e1, gap (b := insideB nz (preW ch (i + 1))) _ _ (by rw [e2]; exact settled_step _ _ _) fun j h1 h2 => by rw [hT _ (by omega) (by omega)], e2]

theorem spans_runs (nz : Bool) (ch : List (Int × Int)) (hu : upCols ch) : spans nz ch = runs nz ch := by
  unfold spans runs
  by_cases hc : ch = []
  · subst hc; rfl
  · rw [if_neg hc]
    have hl : 0 < ch.length := List.length_pos_iff.mpr hc
    obtain ⟨k, hk⟩ : ∃ k, ch.length = k + 1 := ⟨ch.length - 1, by omega⟩
    have ih := sp_ru nz ch hu k (by omega)
    have hw := sp_w nz ch k (by omega)
    have h0 := hu 0 k (by omega) (by omega)
    have hf : firstC ch = (ch.getD 0 (0, 0)).1 := rfl
    have hla : lastC ch = (ch.getD k (0, 0)).1 := by unfold lastC; rw [hk]; rfl
    rw [hk, hla]
    show (spStep nz ch k (spRun nz ch k)).1.1 = _
    unfold spStep
    rw [if_neg (fun z => by omega), hw, ← preW_succ (by omega)]
    have e1 : ((ch.getD k (0, 0)).1 + 1 - firstC ch).toNat = ((ch.getD k (0, 0)).1 - firstC ch).toNat + 1 := by omega
    rw [e1]
    show (stepR _ _ _).1 = (stepR (insideB nz (turnsAt ch (firstC ch + ((((ch.getD k (0, 0)).1 - firstC ch).toNat : Nat) : Int)))) (ruRun nz ch (firstC ch) ((ch.getD k (0, 0)).1 - firstC ch).toNat) _).1
    have e3 : firstC ch + ((((ch.getD k (0, 0)).1 - firstC ch).toNat : Nat) : Int) = (ch.getD k (0, 0)).1 := by omega
    rw [e3, ih, turns_cut hu (i := k + 1) (by omega) (fun j hj => hu j k (by omega) (by omega)) fun j h1 h2 => by omega]
end

section
open PySem PySem.W PyProof.Rows
/-- the tree of questions, answered by lt, ends in R; every question is about places below n -/
def okT {α : Type} (n : Nat) (lt : Nat → Nat → Bool) (R : α → Prop) : KasT α → Prop
  | .ret a => R a
  | .ask i j k => i < n ∧ j < n ∧ okT n lt R (k (lt i j))

theorem okT_mono {α : Type} {n : Nat} {lt : Nat → Nat → Bool} {R R' : α → Prop} (h : ∀ a, R a → R' a) : ∀ t : KasT α, okT n lt R t → okT n lt R' t
  | .ret a, x => h a x
  | .ask i j k, x => ⟨x.1, x.2.1, okT_mono h (k (lt i j)) x.2.2⟩
theorem okT_bind {α β : Type} {n : Nat} {lt : Nat → Nat → Bool} {f : α → KasT β} {R : β → Prop} : ∀ t : KasT α, okT n lt (fun a => okT n lt R (f a)) t → okT n lt R (t.bind f)
  | .ret a, x => x
  | .ask i j k, x => ⟨x.1, x.2.1, okT_bind (k (lt i j)) x.2.2⟩
theorem okT_wp {α : Type} {n : Nat} {lt : Nat → Nat → Bool} {cmp : Nat → Nat → (Bool → Shared → Prop) → Shared → Prop} {Q : α → Shared → Prop} {s : Shared}
    (hc : ∀ i j C, i < n → j < n → C (lt i j) s → cmp i j C s) : ∀ t : KasT α, okT n lt (fun a => Q a s) t → t.kasWp cmp Q s
  | .ret a, x => x
  | .ask i j k, x => hc i j _ x.1 x.2.1 (okT_wp hc (k (lt i j)) x.2.2)

section
variable (key : Nat → Int)
def kv (p : Array Nat) (i : Nat) : Int := key (p.getD i 0)
abbrev ltK (i j : Nat) : Bool := decide (key i < key j)
def upTo (p : Array Nat) (k : Nat) : Prop := ∀ i j, i ≤ j → j < k → kv key p i ≤ kv key p j
def downTo (p : Array Nat) (k : Nat) : Prop := ∀ i j, i ≤ j → j < k → kv key p j ≤ kv key p i
end
theorem askT {α : Type} {key : Nat → Int} {n i j : Nat} {R : α → Prop} {t₁ t₂ : KasT α} (hi : i < n) (hj : j < n) (h1 : key i < key j → okT n (ltK key) R t₁) (h2 : ¬ key i < key j → okT n (ltK key) R t₂) :
    okT n (ltK key) R (.ask i j fun c => if c = true then t₁ else t₂) := by
  refine ⟨hi, hj, ?_⟩
  by_cases c : key i < key j
  · show okT n _ R (if decide (key i < key j) = true then t₁ else t₂)
    rw [if_pos (by simpa using c)]; exact h1 c
  · show okT n _ R (if decide (key i < key j) = true then t₁ else t₂)
    rw [if_neg (by simpa using c)]; exact h2 c
structure Shuf (n : Nat) (p : Array Nat) : Prop where
  perm : p.toList.Perm (List.range n)
theorem Shuf.size {n : Nat} {p : Array Nat} (h : Shuf n p) : p.size = n := by
  have := h.perm.length_eq
  simpa using this
theorem Shuf.lt {n : Nat} {p : Array Nat} (h : Shuf n p) {i : Nat} (hi : i < n) : p.getD i 0 < n := by
  have hs := h.size
  have hi' : i < p.size := by omega
  have e : p.getD i 0 = p[i] := by simp [Array.getD, hi']
  rw [e]
  have hm : p[i] ∈ p.toList := by simp
  have := h.perm.mem_iff.mp hm
  simpa using this
theorem Shuf.rev {n : Nat} {p : Array Nat} (h : Shuf n p) (i j : Nat) : Shuf n (kas_rev p i j) :=
  ⟨(Array.perm_iff_toList_perm.mp (mirror_perm p i j _)).trans h.perm⟩
theorem Shuf.bub {n : Nat} {p : Array Nat} (h : Shuf n p) (i j : Nat) : Shuf n (bubble p i j) :=
  ⟨(Array.perm_iff_toList_perm.mp (bubble_perm p i j)).trans h.perm⟩
theorem Shuf.start (n : Nat) : Shuf n (List.toArray (List.range n)) := ⟨by simp⟩

section
variable {key : Nat → Int} {n : Nat}
theorem kv_congr {xs ys : Array Nat} {i j : Nat} (h : xs[i]? = ys[j]?) : kv key xs i = kv key ys j := by
  unfold kv; rw [Array.getD_eq_getD_getElem?, Array.getD_eq_getD_getElem?, h]
theorem kv_rev {p : Array Nat} {i j : Nat} (hj : j ≤ p.size) (k : Nat) : kv key (kas_rev p i j) k = if i ≤ k ∧ k < j then kv key p (i + j - 1 - k) else kv key p k := by
  have e := getElem?_mirror_all (i := i) hj k
  unfold kas_rev
  by_cases h1 : i ≤ k ∧ k < j
  · rw [if_pos h1] at e ⊢; exact kv_congr e
  · rw [if_neg h1] at e ⊢; exact kv_congr e
theorem kv_rev_same {p : Array Nat} {i j : Nat} (hj : j ≤ p.size) (heq : ∀ k, i ≤ k → k < j → kv key p k = kv key p (j - 1)) (k : Nat) : kv key (kas_rev p i j) k = kv key p k := by
  rw [kv_rev hj]
  split
  · rename_i h
    rw [heq _ (by omega) (by omega), heq k (by omega) (by omega)]
  · rfl
theorem kv_bub {p : Array Nat} {src d : Nat} (hs : src < p.size) (hd : d ≤ src) (k : Nat) :
    kv key (bubble p src d) k = if k = src - d then kv key p src else if src - d < k ∧ k ≤ src then kv key p (k - 1) else kv key p k := by
  have e := getElem?_bubble hs d hd k
  by_cases h1 : k = src - d
  · rw [if_pos h1] at e ⊢; exact kv_congr e
  · rw [if_neg h1] at e ⊢
    by_cases h2 : src - d < k ∧ k ≤ src
    · rw [if_pos h2] at e ⊢; exact kv_congr e
    · rw [if_neg h2] at e ⊢; exact kv_congr e

theorem up_one {p : Array Nat} : upTo key p 1 := by
  intro i j hij hj
  obtain rfl : i = j := by omega
  exact Int.le_refl _
theorem up_step {p : Array Nat} {x : Nat} (hx : 1 ≤ x) (h : upTo key p x) (hl : kv key p (x - 1) ≤ kv key p x) : upTo key p (x + 1) := by
  intro i j hij hj
  by_cases h1 : j < x
  · exact h i j hij h1
  · obtain rfl : j = x := by omega
    by_cases h2 : i = j
    · rw [h2]; exact Int.le_refl _
    · exact Int.le_trans (h i (j - 1) (by omega) (by omega)) hl
theorem down_step {p : Array Nat} {x : Nat} (hx : 1 ≤ x) (h : downTo key p x) (hl : kv key p x ≤ kv key p (x - 1)) : downTo key p (x + 1) := by
  intro i j hij hj
  by_cases h1 : j < x
  · exact h i j hij h1
  · obtain rfl : j = x := by omega
    by_cases h2 : i = j
    · rw [h2]; exact Int.le_refl _
    · exact Int.le_trans hl (h i (j - 1) (by omega) (by omega))

theorem asc_ok {p : Array Nat} (hp : Shuf n p) : ∀ (f x : Nat), 1 ≤ x → x + f ≤ n → upTo key p x →
    okT n (ltK key) (fun m => x ≤ m ∧ m ≤ x + f ∧ upTo key p m ∧ (m = x + f ∨ kv key p m < kv key p (m - 1))) (kas_asc p f x)
  | 0, x, _, _, h => ⟨Nat.le_refl _, Nat.le_refl _, h, .inl rfl⟩
  | f + 1, x, hx, hf, h => by
    refine askT (hp.lt (by omega)) (hp.lt (by omega)) (fun c => ?_) fun c => ?_
    · exact ⟨Nat.le_refl _, by omega, h, .inr c⟩
    · refine okT_mono (fun m hm => ?_) _ (asc_ok hp f (x + 1) (by omega) (by omega) (up_step hx h (Int.not_lt.mp c)))
      obtain ⟨a, b, c, d⟩ := hm
      exact ⟨by omega, by omega, c, d.imp (fun e => by omega) id⟩

theorem desc_ok : ∀ (f : Nat) (p : Array Nat) (x q : Nat), Shuf n p → 1 ≤ x → x + f ≤ n → downTo key p x → q + 1 ≤ x → (∀ i, x - (q + 1) ≤ i → i < x → kv key p i = kv key p (x - 1)) →
    okT n (ltK key) (fun r => Shuf n r.1 ∧ x ≤ r.2.1 ∧ r.2.1 ≤ x + f ∧ downTo key r.1 r.2.1 ∧ r.2.2 + 1 ≤ r.2.1 ∧ ∀ i, r.2.1 - (r.2.2 + 1) ≤ i → i < r.2.1 → kv key r.1 i = kv key r.1 (r.2.1 - 1)) (kas_desc f p x q)
  | 0, p, x, q, hp, _, _, h, hq, he => ⟨hp, Nat.le_refl _, Nat.le_refl _, h, hq, he⟩
  | f + 1, p, x, q, hp, hx, hf, h, hq, he => by
    have hsz := hp.size
    have wide : ∀ {x' : Nat} {t : KasT (Array Nat × Nat × Nat)}, x' = x + 1 → okT n (ltK key) (fun r => Shuf n r.1 ∧ x' ≤ r.2.1 ∧ r.2.1 ≤ x' + f ∧ downTo key r.1 r.2.1 ∧ r.2.2 + 1 ≤ r.2.1 ∧ ∀ i, r.2.1 - (r.2.2 + 1) ≤ i → i < r.2.1 → kv key r.1 i = kv key r.1 (r.2.1 - 1)) t →
        okT n (ltK key) (fun r => Shuf n r.1 ∧ x ≤ r.2.1 ∧ r.2.1 ≤ x + (f + 1) ∧ downTo key r.1 r.2.1 ∧ r.2.2 + 1 ≤ r.2.1 ∧ ∀ i, r.2.1 - (r.2.2 + 1) ≤ i → i < r.2.1 → kv key r.1 i = kv key r.1 (r.2.1 - 1)) t := by
      rintro x' t rfl ht
      exact okT_mono (fun r hr => ⟨hr.1, by omega, by omega, hr.2.2.2⟩) t ht
    refine askT (hp.lt (by omega)) (hp.lt (by omega)) (fun c => ?_) fun c => ?_
    · have c : kv key p x < kv key p (x - 1) := c
      by_cases hq0 : q > 0
      · rw [if_pos hq0]
        have same := kv_rev_same (key := key) (p := p) (i := x - (q + 1)) (j := x) (by omega) he
        refine wide rfl (desc_ok f _ (x + 1) 0 (hp.rev _ _) (by omega) (by omega) (down_step hx (fun i j hij hj => ?_) ?_) (by omega) fun i a b => by congr 1; omega)
        · rw [same, same]; exact h i j hij hj
        · rw [same, same]; exact Int.le_of_lt c
      · rw [if_neg hq0]
        exact wide rfl (desc_ok f _ (x + 1) 0 hp (by omega) (by omega) (down_step hx h (Int.le_of_lt c)) (by omega) fun i a b => by congr 1; omega)
    · refine askT (hp.lt (by omega)) (hp.lt (by omega)) (fun d => ?_) fun d => ?_
      · exact ⟨hp, Nat.le_refl _, Nat.le_add_right _ _, h, hq, he⟩
      · have c : ¬ kv key p x < kv key p (x - 1) := c
        have d : ¬ kv key p (x - 1) < kv key p x := d
        have e : kv key p x = kv key p (x - 1) := by omega
        refine wide rfl (desc_ok f p (x + 1) (q + 1) hp (by omega) (by omega) (down_step hx h (by omega)) (by omega) fun i a b => ?_)
        rw [show x + 1 - 1 = x by omega]
        by_cases hix : i = x
        · rw [hix]
        · rw [e]; exact he i (by omega) (by omega)

theorem tail_ok {p : Array Nat} {x nrem : Nat} (hp : Shuf n p) (hx : 1 ≤ x) (hxn : x ≤ nrem) (hn : nrem ≤ n) (h : downTo key p x) :
    okT n (ltK key) (fun r => Shuf n r.2 ∧ 1 ≤ r.1 ∧ r.1 ≤ nrem ∧ upTo key r.2 r.1) (kas_tail3 x nrem p) := by
  unfold kas_tail3
  have hsz := hp.size
  refine okT_bind _ (okT_mono (fun m hm => ?_) _ (asc_ok (hp.rev 0 x) (nrem - x) x hx (by omega) fun i j hij hj => ?_))
  · exact ⟨hp.rev 0 x, by omega, by omega, hm.2.2.1⟩
  · rw [kv_rev (by omega), kv_rev (by omega), if_pos (by omega), if_pos (by omega)]
    exact h _ _ (by omega) (by omega)

theorem descPart_ok {p : Array Nat} {x nrem : Nat} (hp : Shuf n p) (hxn : x + 1 ≤ nrem) (hn : nrem ≤ n) (h : downTo key p (x + 1)) :
    okT n (ltK key) (fun r => Shuf n r.2 ∧ 1 ≤ r.1 ∧ r.1 ≤ nrem ∧ upTo key r.2 r.1) (kas_descPart x nrem p) := by
  unfold kas_descPart
  refine okT_bind _ (okT_mono (fun r hr => ?_) _ (desc_ok (nrem - (x + 1)) p (x + 1) 0 hp (by omega) (by omega) h (by omega) fun i a b => by congr 1; omega))
  obtain ⟨hp', a1, a2, hd, hq, he⟩ := hr
  have hsz := hp'.size
  by_cases hq0 : r.2.2 > 0
  · rw [if_pos hq0]
    have same := kv_rev_same (key := key) (p := r.1) (i := r.2.1 - (r.2.2 + 1)) (j := r.2.1) (by omega) he
    refine tail_ok (hp'.rev _ _) (by omega) (by omega) hn fun i j hij hj => ?_
    rw [same, same]; exact hd i j hij hj
  · rw [if_neg hq0]
    exact tail_ok hp' (by omega) (by omega) hn hd

theorem count_ok {p : Array Nat} (hp : Shuf n p) (h1 : 1 ≤ n) :
    okT n (ltK key) (fun r => Shuf n r.2 ∧ 1 ≤ r.1 ∧ r.1 ≤ n ∧ upTo key r.2 r.1) (kas_count n p) := by
  unfold kas_count
  have hsz := hp.size
  refine okT_bind _ (okT_mono (fun m hm => ?_) _ (asc_ok hp (n - 1) 1 (Nat.le_refl _) (by omega) up_one))
  obtain ⟨a1, a2, hu, ho⟩ := hm
  by_cases hmn : m = n
  · rw [if_pos (by simpa using hmn)]
    exact ⟨hp, a1, by omega, hu⟩
  · rw [if_neg (by simpa using hmn)]
    have hl : kv key p m < kv key p (m - 1) := ho.resolve_left (by omega)
    by_cases hm1 : m > 1
    · rw [if_pos hm1]
      refine askT (hp.lt (by omega)) (hp.lt (by omega)) (fun c => ?_) fun c => ?_
      · exact ⟨hp, a1, by omega, hu⟩
      · have c : ¬ kv key p 0 < kv key p (m - 1) := c
        have all : ∀ k, 0 ≤ k → k < m → kv key p k = kv key p (m - 1) := by
          intro k _ hk
          have b1 := hu 0 k (by omega) hk
          have b2 := hu k (m - 1) (by omega) (by omega)
          omega
        have same := kv_rev_same (key := key) (p := p) (i := 0) (j := m) (by omega) all
        refine descPart_ok (hp.rev _ _) (by omega) (Nat.le_refl _) fun i j hij hj => ?_
        rw [same, same]
        by_cases hjm : j < m
        · rw [all i (by omega) (by omega), all j (by omega) hjm]; exact Int.le_refl _
        · obtain rfl : j = m := by omega
          by_cases hi : i = j
          · rw [hi]; exact Int.le_refl _
          · rw [all i (by omega) (by omega)]; exact Int.le_of_lt hl
    · rw [if_neg hm1]
      obtain rfl : m = 1 := by omega
      refine descPart_ok hp (by omega) (Nat.le_refl _) fun i j hij hj => ?_
      by_cases hi : i = j
      · rw [hi]; exact Int.le_refl _
      · obtain rfl : i = 0 := by omega
        obtain rfl : j = 1 := by omega
        exact Int.le_of_lt hl

theorem place_ok {p : Array Nat} {k : Nat} (hp : Shuf n p) (hk : k < n) (hu : upTo key p k) : ∀ (f l r : Nat), l ≤ r → r ≤ k → r - l ≤ f →
    (∀ i, i < l → kv key p i ≤ kv key p k) → (∀ i, r ≤ i → i < k → kv key p k < kv key p i) →
    okT n (ltK key) (fun l' => l' ≤ k ∧ (∀ i, i < l' → kv key p i ≤ kv key p k) ∧ ∀ i, l' ≤ i → i < k → kv key p k < kv key p i) (kas_place p k f l r)
  | 0, l, r, hlr, hrk, hf, ha, hb => by
    obtain rfl : l = r := by omega
    exact ⟨hrk, ha, hb⟩
  | f + 1, l, r, hlr, hrk, hf, ha, hb => by
    unfold kas_place
    by_cases hge : l ≥ r
    · rw [if_pos hge]
      obtain rfl : l = r := by omega
      exact ⟨hrk, ha, hb⟩
    · rw [if_neg hge]
      refine askT (hp.lt hk) (hp.lt (by omega)) (fun c => ?_) fun c => ?_
      · have c : kv key p k < kv key p ((l + r) / 2) := c
        exact place_ok hp hk hu f l ((l + r) / 2) (by omega) (by omega) (by omega) ha fun i h1 h2 => Int.lt_of_lt_of_le c (hu _ _ h1 h2)
      · have c : ¬ kv key p k < kv key p ((l + r) / 2) := c
        exact place_ok hp hk hu f ((l + r) / 2 + 1) r (by omega) (by omega) (by omega) (fun i h1 => Int.le_trans (hu i ((l + r) / 2) (by omega) (by omega)) (Int.not_lt.mp c)) hb

theorem bin_ok : ∀ (f : Nat) (p : Array Nat) (k : Nat), Shuf n p → k + f = n → upTo key p k → okT n (ltK key) (fun r => Shuf n r ∧ upTo key r n) (kas_bin f p k)
  | 0, p, k, hp, hk, h => by
    obtain rfl : k = n := by omega
    exact ⟨hp, h⟩
  | f + 1, p, k, hp, hk, h => by
    have hsz := hp.size
    unfold kas_bin
    refine okT_bind _ (okT_mono (fun l hl => ?_) _ (place_ok hp (by omega) h k 0 k (by omega) (Nat.le_refl _) (by omega) (fun i hi => by omega) fun i h1 h2 => by omega))
    obtain ⟨hlk, hlo, hhi⟩ := hl
    refine bin_ok f _ (k + 1) (hp.bub _ _) (by omega) fun i j hij hj => ?_
    rw [kv_bub (by omega) (by omega), kv_bub (by omega) (by omega), show k - (k - l) = l by omega]
    repeat' split
    all_goals first
      | (exfalso; omega)
      | exact Int.le_refl _
      | exact hlo _ (by omega)
      | exact Int.le_of_lt (hhi _ (by omega) (by omega))
      | exact h _ _ (by omega) (by omega)

theorem sort_ok (key : Nat → Int) (n : Nat) (h1 : 1 ≤ n) : okT n (ltK key) (fun r => Shuf n r ∧ upTo key r n) (kas_sort n) := by
  unfold kas_sort
  refine okT_bind _ (okT_mono (fun r hr => ?_) _ (count_ok (Shuf.start n) h1))
  obtain ⟨hp, a1, a2, hu⟩ := hr
  by_cases c : r.1 < n
  · rw [if_pos c, show max r.1 1 = r.1 by omega]
    exact bin_ok _ _ _ hp (by omega) hu
  · rw [if_neg c]
    obtain e : r.1 = n := by omega
    rw [e] at hu
    exact ⟨hp, hu⟩
end
end

section
open PySem PySem.W PyProof.Rows PySem.Calls
abbrev pd (p : Int × Int) : Dat := .tuple [.int p.1, .int p.2]
def code (p : Int × Int) : Int := 4 * p.1 + p.2
def WayOk (p : Int × Int) : Prop := p.2 = 1 ∨ p.2 = -1
theorem code_inj {a b : Int × Int} (ha : WayOk a) (hb : WayOk b) (h : code a = code b) : a = b := by
  obtain ⟨a1, a2⟩ := a
  obtain ⟨b1, b2⟩ := b
  unfold WayOk at ha hb
  unfold code at h
  simp only at ha hb h
  have e1 : a1 = b1 := by omega
  have e2 : a2 = b2 := by omega
  rw [e1, e2]
theorem code_lt {a b : Int × Int} (ha : WayOk a) (hb : WayOk b) : (if a.1 = b.1 then (if a.2 = b.2 then false else decide (a.2 < b.2)) else decide (a.1 < b.1)) = decide (code a < code b) := by
  unfold WayOk at ha hb
  unfold code
  by_cases h1 : a.1 = b.1
  · rw [if_pos h1]
    by_cases h2 : a.2 = b.2
    · rw [if_pos h2]; exact (decide_eq_false (by omega)).symm
    · rw [if_neg h2]; exact decide_eq_decide.mpr (by omega)
  · rw [if_neg h1]; exact decide_eq_decide.mpr (by omega)

theorem sorted_unique : ∀ {a b : List (Int × Int)}, a.Perm b → (∀ p ∈ a, WayOk p) → a.Pairwise (fun x y => code x ≤ code y) → b.Pairwise (fun x y => code x ≤ code y) → a = b
  | [], _, p, _, _, _ => p.nil_eq
  | x :: r, b, p, hw, ha, hb => by
    cases b with
    | nil => exact absurd p.length_eq (by simp)
    | cons y t =>
      have hx : x ∈ y :: t := p.mem_iff.mp (.head _)
      have hy : y ∈ x :: r := p.mem_iff.mpr (.head _)
      have e : x = y := by
        refine code_inj (hw x (.head _)) (hw y hy) (Int.le_antisymm ?_ ?_)
        · rcases List.mem_cons.mp hy with h | h
          · rw [h]; exact Int.le_refl _
          · exact (List.pairwise_cons.mp ha).1 y h
        · rcases List.mem_cons.mp hx with h | h
          · rw [h]; exact Int.le_refl _
          · exact (List.pairwise_cons.mp hb).1 x h
      subst e
      rw [sorted_unique (List.Perm.cons_inv p) (fun q hq => hw q (.tail _ hq)) (List.pairwise_cons.mp ha).2 (List.pairwise_cons.mp hb).2]

theorem pd_in {news : List (Addr × Obj)} {v : Value} {p : Int × Int} (h : DatIn news v (pd p)) : ∃ a t u n, v = .ref a ∧ (a, ({ cls := .type "tuple", data := .seq [Value.int p.1 t, Value.int p.2 u].toArray n } : Obj)) ∈ news := by
  cases h with
  | tuple hm hr =>
    cases hr with
    | cons h1 h2 =>
      cases h2 with
      | cons h3 h4 =>
        cases h4
        cases h1
        cases h3
        exact ⟨_, _, _, _, rfl, hm⟩
theorem datAll_getD {news : List (Addr × Obj)} {vs : List Value} {ps : List (Int × Int)} (h : DatAll news vs (ps.map pd)) {i : Nat} (hi : i < ps.length) : DatIn news (vs.getD i Value.none) (pd (ps.getD i (0, 0))) := by
  obtain ⟨v, hv, hd⟩ := h.get (k := i) (by simpa using hi)
  rw [List.getD_eq_getElem?_getD, hv, List.getD_eq_getElem?_getD, List.getElem?_eq_getElem hi]
  simpa using hd
theorem datAll_pick {news : List (Addr × Obj)} {vs : List Value} {ps : List (Int × Int)} (h : DatAll news vs (ps.map pd)) : ∀ l : List Nat, (∀ i ∈ l, i < ps.length) → DatAll news (l.map fun i => vs.getD i Value.none) ((l.map fun i => ps.getD i (0, 0)).map pd)
  | [], _ => .nil
  | i :: l, hl => .cons (datAll_getD h (hl i (.head _))) (datAll_pick h l fun j hj => hl j (.tail _ hj))

theorem pick_perm (ps : List (Int × Int)) {p : Array Nat} (hp : Shuf ps.length p) : (p.toList.map fun i => ps.getD i (0, 0)).Perm ps := by
  have e : (List.range ps.length).map (fun i => ps.getD i (0, 0)) = ps := by
    apply List.ext_getElem
    · simp
    · intro i h1 h2
      simp [List.getD_eq_getElem?_getD, h2]
  have := hp.perm.map (fun i => ps.getD i (0, 0))
  rwa [e] at this
theorem pick_up (ps : List (Int × Int)) {p : Array Nat} (hp : Shuf ps.length p) (hu : upTo (fun i => code (ps.getD i (0, 0))) p ps.length) : (p.toList.map fun i => ps.getD i (0, 0)).Pairwise (fun x y => code x ≤ code y) := by
  rw [List.pairwise_map, List.pairwise_iff_getElem]
  intro i j hi hj hij
  have hs := hp.size
  have h := hu i j (by omega) (by simpa [hs] using hj)
  unfold kv at h
  have gi : p.getD i 0 = p.toList[i] := by
    have : i < p.size := by simpa using hi
    simp [Array.getD, this]
  have gj : p.getD j 0 = p.toList[j] := by
    have : j < p.size := by simpa using hj
    simp [Array.getD, this]
  rw [gi, gj] at h
  exact h

section
variable {prog : Program} {w : World} {A : Around} {E : Value → Shared → Prop} {s : Shared} {h₀ : Heap} {L : Addr} {m : Str → Option Value} {news : List (Addr × Obj)}

theorem pair_lt {h₀ : Heap} {L : Addr} (N : News h₀ L s.heap news) {v u : Value} {a b : Int × Int} (hv : DatIn news v (pd a)) (hu : DatIn news u (pd b)) (wa : WayOk a) (wb : WayOk b) {C : Bool → Shared → Prop}
    (h : C (decide (code a < code b)) s) : wpAny (model prog w) A (keyLt' (tuples' true) v u) C E s := by
  obtain ⟨x, t1, t2, n, rfl, hm⟩ := pd_in hv
  obtain ⟨y, t3, t4, k, rfl, hn⟩ := pd_in hu
  rw [← code_lt wa wb] at h
  refine kat_lt (N.get hm) rfl (N.get hn) rfl ?_
  refine kat_cons (wpAny_eqBool_int ?_)
  by_cases h1 : a.1 = b.1
  · rw [if_pos h1] at h
    rw [show (a.1 == b.1) = true from beq_iff_eq.mpr h1]
    refine kat_yes (kat_cons (wpAny_eqBool_int ?_))
    by_cases h2 : a.2 = b.2
    · rw [if_pos h2] at h
      rw [show (a.2 == b.2) = true from beq_iff_eq.mpr h2]
      refine kat_yes (kat_nil ?_)
      simpa using h
    · rw [if_neg h2] at h
      rw [show (a.2 == b.2) = false from beq_eq_false_iff_ne.mpr h2]
      refine kat_no ?_
      show wpAny (model prog w) A (oneLt' false _ _) _ _ _
      exact kat_one _ _ (PyProof.Rows.lt_int h)
  · rw [if_neg h1] at h
    rw [show (a.1 == b.1) = false from beq_eq_false_iff_ne.mpr h1]
    refine kat_no ?_
    show wpAny (model prog w) A (oneLt' true _ _) _ _ _
    exact oneLt_int h

/-- sort of a list of fewer than two -/
theorem sort_few {a : Addr} {vs : List Value} {n : Nat} {P : Fin → Shared → Prop} (ho : s.heap.get? a = some (seqObj "list" vs.toArray n)) (h2 : vs.length < 2)
    (h : P (.done (.ret .none)) { s with heap := sortedHeap s.heap a vs vs.toArray }) :
    wpAny (model prog w) A (Builtin.«list.sort» ⟨[.ref a], []⟩) P E s := by
  rw [list_sort_plain]
  have ha : a < s.heap.objs.size := Heap.lt_size ho
  have hz : vs.toArray.size < 2 := by simpa using h2
  refine wpAny_bind (listItems_at ho rfl (wpAny_bind (listUpdate_at ho rfl ?_ (by rw [List.size_toArray, sizeLine_eq]; omega) (Nat.zero_le _))))
  obtain ⟨e1, ho1⟩ : ∃ e1, (s.heap.update a (Obj.mapSeq fun _ => #[])).get? a = some (seqObj "list" #[] e1) := ⟨_, get?_update_seq ho (fun _ => #[])⟩
  refine wpAny_bind (seqEpoch_at ho1 rfl (wpAny_bind (wpAny_newTuple (wpAny_bind (wpAny_newList (wpAny_holding ?_) (Nat.zero_le _))) (by show vs.length ≤ _; rw [sizeLine_eq]; omega))))
  have ho6 : (((s.heap.update a (Obj.mapSeq fun _ => #[])).push (seqObj "tuple" vs.toArray 0)).push (seqObj "list" #[] 0)).get? a = some (seqObj "list" #[] e1) :=
    Heap.get?_push_of_some _ (Heap.get?_push_of_some _ ho1)
  show wpAny (model prog w) A _ P E { s with heap := ((s.heap.update a (Obj.mapSeq fun _ => #[])).push (seqObj "tuple" vs.toArray 0)).push (seqObj "list" #[] 0) }
  dsimp only
  rw [if_pos hz, if_pos hz]
  refine wpAny_bind (wpAny_pure ?_)
  rw [StateT.run_pure]
  refine wpAny_bind (wpAny_pure ?_)
  dsimp only
  have hout : (arrOf (SortSt.mk' general' (vs.toArray.zip vs.toArray) #[] 7 none)).map (·.2) = vs.toArray := by
    show (vs.toArray.zip vs.toArray).map (·.2) = vs.toArray
    apply Array.toList_inj.mp
    simp only [Array.toList_map, Array.toList_zip]
    exact List.map_snd_zip (by simp)
  rw [hout]
  refine wpAny_bind (seqEpoch_at ho6 rfl (wpAny_bind (listUpdate_at ho6 rfl ?_ (Nat.zero_le _) (by rw [List.size_toArray, sizeLine_eq]; omega))))
  show wpAny (model prog w) A _ P E _
  simp only [bne_self_eq_false, Bool.false_eq_true, if_false]
  exact wpAny_pure h

theorem sorted_few {l : Addr} {vs : List Value} {Q : Value → Shared → Prop} (hl : s.heap.IsList l vs.toArray) (h2 : vs.length < 2)
    (h : Q (.ref (s.heap.objs.size + 1)) { s with heap := sortedAll s.heap vs vs.toArray }) :
    wpAny (model prog w) A (call (.builtin "sorted") [.ref l]) Q E s := by
  refine Calls.call_function_entry kind_sorted plain_sorted entry_sorted (args_sorted1 _) ?_
  unfold Builtin.«sorted»
  refine wpAny_bind (m := checkCount "sorted" 1 1 _) (wpAny_pure ?_)
  refine wpAny_bind (collect_list hl (wpAny_bind (wpAny_newList ?_ (by rw [sizeLine_eq]; omega))) (by rw [sizeLine_eq]; omega))
  have hsz : ((s.heap.push (seqObj "list" #[] 0)).update s.heap.objs.size (Obj.mapSeq (· ++ vs.toArray))).objs.size = s.heap.objs.size + 1 := by
    rw [Heap.size_update, size_push']
  have hoL : (((s.heap.push (seqObj "list" #[] 0)).update s.heap.objs.size (Obj.mapSeq (· ++ vs.toArray))).push (seqObj "list" vs.toArray 0)).get? (s.heap.objs.size + 1) = some (seqObj "list" vs.toArray 0) := by
    rw [← hsz]; exact Heap.get?_push_size _ rfl
  show wpAny _ _ _ _ _ { s with heap := ((s.heap.push (seqObj "list" #[] 0)).update s.heap.objs.size (Obj.mapSeq (· ++ vs.toArray))).push (seqObj "list" vs.toArray 0) }
  rw [hsz]
  refine wpAny_bind (wpAny_holding (wpAny_call_entry slot_list_sort ⟨_, hoL, rfl⟩ entry_list_sort (sort_few hoL h2 ⟨_, rfl, ?_⟩) (args_list_sort _)))
  exact wpAny_pure ⟨_, rfl, h⟩

/-- sorted over a list of pairs of ints -/
theorem sorted_pairs {l : Addr} {vs : List Value} {n : Nat} {ps : List (Int × Int)} {n₁ : List (Addr × Obj)} {Q : Value → Shared → Prop} (F : Fr h₀ L s.heap m) (N : News h₀ L s.heap news) (hl : (l, listOf vs.toArray n) ∈ news)
    (hd₁ : DatAll n₁ vs (ps.map pd)) (hsub : ∀ p ∈ n₁, p ∈ news) (hw : ∀ p ∈ ps, WayOk p) (h64 : vs.length < 64)
    (h : ∀ (D : Addr) (ws : List Value) (ps' : List (Int × Int)) (e : Nat) (h' : Heap), Fr h₀ L h' m → News h₀ L h' ((D, listOf (List.toArray ws) e) :: news) → (∀ q ∈ news, q.1 < D) → DatAll n₁ ws (ps'.map pd) → ps'.Perm ps → ps'.Pairwise (fun x y => code x ≤ code y) → Q (.ref D) { s with heap := h' }) :
    wpAny (model prog w) A (call (.builtin "sorted") [.ref l]) Q E s := by
  have hd := hd₁.mono hsub
  have hlen : vs.length = ps.length := by simpa using hd.length
  have hls : s.heap.IsList l vs.toArray := ⟨_, N.get hl, rfl, n, rfl⟩
  by_cases h2 : vs.length < 2
  · refine sorted_few hls h2 ?_
    obtain ⟨e, he⟩ := sortedAll_at s.heap vs vs.toArray
    refine h _ vs ps e _ (F.kept fun _ _ => sortedAll_old) (N.kept_cons F (fun _ _ => sortedAll_old) (Nat.le_succ _) he) (fun q hq => Nat.lt_succ_of_lt (Heap.lt_size (N q hq).1)) hd₁ (.refl _) ?_
    rw [hlen] at h2
    rcases ps with _ | ⟨p, _ | ⟨q, r⟩⟩
    · exact .nil
    · exact .cons (fun _ hq => nomatch hq) .nil
    · exact absurd h2 (by simp only [List.length_cons]; omega)
  · refine kat_sorted F N hls (by omega) h64 fun D e1 h' F' N' lt => ?_
    have Nn : News h₀ L h' news := fun q hq => N' q (.tail _ hq)
    have key : ∃ fs : List Value, KatTups h' vs fs ∧ fs.length = vs.length ∧ ∀ f ∈ fs, ∃ i t, f = .int i t := by
      clear h hls N hl hw F h2 lt h64 hlen hd₁
      induction vs generalizing ps with
      | nil => exact ⟨[], trivial, rfl, fun _ hf => nomatch hf⟩
      | cons v vs ih =>
        cases ps with
        | nil => cases hd
        | cons p ps =>
          cases hd with
          | cons h1 hr =>
            obtain ⟨fs, k1, k2, k3⟩ := ih hr
            obtain ⟨a, t, u, k, rfl, hm⟩ := pd_in h1
            refine ⟨.int p.1 t :: fs, KatTups.cons (Nn.get hm) rfl rfl rfl k1, by simp [k2], fun f hf => ?_⟩
            rcases List.mem_cons.mp hf with rfl | hf
            · exact ⟨_, _, rfl⟩
            · exact k3 f hf
    obtain ⟨fs, k1, k2, k3⟩ := key
    refine kat_kind k1 (T := .type "int") (by omega) (fun f hf => ?_) rfl ?_
    · obtain ⟨i, t, rfl⟩ := k3 f hf
      exact Looks.of_pure rfl
    · have cmp : ∀ i j (C : Bool → Shared → Prop), i < vs.length → j < vs.length → C (ltK (fun i => code (ps.getD i (0, 0))) i j) { s with heap := h' } → kas_ask prog w A.in1.in1 (tuples' true) vs i j C { s with heap := h' } := by
        intro i j C hi hj hC
        have gw : ∀ {i}, i < vs.length → WayOk (ps.getD i (0, 0)) := fun {i} hi => by
          have hi' : i < ps.length := by omega
          refine hw _ ?_
          rw [List.getD_eq_getElem?_getD, List.getElem?_eq_getElem hi']
          exact List.getElem_mem hi'
        exact pair_lt (s := { s with heap := h' }) Nn (datAll_getD hd (by omega)) (datAll_getD hd (by omega)) (gw hi) (gw hj) hC
      refine okT_wp cmp _ (okT_mono (fun p hp => ?_) _ (sort_ok (fun i => code (ps.getD i (0, 0))) vs.length (by omega)))
      obtain ⟨hs, hu⟩ := hp
      rw [hlen] at hs hu
      refine KasFin.intro F' N' (.head fun q hq => Nat.ne_of_lt (lt q hq)) fun h'' c F'' N'' => ?_
      refine h D _ (p.toList.map fun i => ps.getD i (0, 0)) c h'' F'' N'' lt (datAll_pick hd₁ _ fun i hi => ?_) (pick_perm ps hs) (pick_up ps hs hu)
      have := hs.perm.mem_iff.mp hi
      simpa using this
end
end

section
open PySem PySem.W PyProof.Rows PySem.Calls
theorem drinker {α : Type} (ne : Nonempty α) (B : α → Prop) : ∃ c, B c → ∀ a, B a := by
  by_cases h : ∃ a, ¬ B a
  · obtain ⟨a, ha⟩ := h
    exact ⟨a, fun b => absurd b ha⟩
  · obtain ⟨d⟩ := ne
    exact ⟨d, fun _ a => Classical.byContradiction fun q => h ⟨a, q⟩⟩
/-- a counterexample of B, if there is one -/
noncomputable def ex {α : Type} (ne : Nonempty α) (B : α → Prop) : α := Classical.choose (drinker ne B)
theorem ex_all {α : Type} {ne : Nonempty α} {B : α → Prop} (h : B (ex ne B)) : ∀ a, B a := Classical.choose_spec (drinker ne B) h
theorem n1 {α1 : Type} [Nonempty α1] : Nonempty (α1) := ⟨(Classical.choice ‹Nonempty α1›)⟩
noncomputable def p1 {α1 : Type} {ne : Nonempty (α1)} (B : α1 → Prop) : α1 := ex ne (fun v : α1 => B v)
noncomputable def c1_1 {α1 : Type} {ne : Nonempty (α1)} (B : α1 → Prop) : α1 := (p1 (ne := ne) B)
theorem e1 {α1 : Type} [Nonempty α1] {B : α1 → Prop} (h : B (c1_1 (ne := n1) B)) : ∀ a1, B a1 := fun a1 => ex_all (ne := n1) (B := fun v : α1 => B v) h (a1)
theorem n2 {α1 α2 : Type} [Nonempty α1] [Nonempty α2] : Nonempty (α1 × α2) := ⟨(Classical.choice ‹Nonempty α1›, Classical.choice ‹Nonempty α2›)⟩
noncomputable def p2 {α1 α2 : Type} {ne : Nonempty (α1 × α2)} (B : α1 → α2 → Prop) : α1 × α2 := ex ne (fun v : α1 × α2 => B v.1 v.2)
noncomputable def c2_1 {α1 α2 : Type} {ne : Nonempty (α1 × α2)} (B : α1 → α2 → Prop) : α1 := (p2 (ne := ne) B).1
noncomputable def c2_2 {α1 α2 : Type} {ne : Nonempty (α1 × α2)} (B : α1 → α2 → Prop) : α2 := (p2 (ne := ne) B).2
theorem e2 {α1 α2 : Type} [Nonempty α1] [Nonempty α2] {B : α1 → α2 → Prop} (h : B (c2_1 (ne := n2) B) (c2_2 (ne := n2) B)) : ∀ a1 a2, B a1 a2 := fun a1 a2 => ex_all (ne := n2) (B := fun v : α1 × α2 => B v.1 v.2) h (a1, a2)
theorem n3 {α1 α2 α3 : Type} [Nonempty α1] [Nonempty α2] [Nonempty α3] : Nonempty (α1 × α2 × α3) := ⟨(Classical.choice ‹Nonempty α1›, Classical.choice ‹Nonempty α2›, Classical.choice ‹Nonempty α3›)⟩
noncomputable def p3 {α1 α2 α3 : Type} {ne : Nonempty (α1 × α2 × α3)} (B : α1 → α2 → α3 → Prop) : α1 × α2 × α3 := ex ne (fun v : α1 × α2 × α3 => B v.1 v.2.1 v.2.2)
noncomputable def c3_1 {α1 α2 α3 : Type} {ne : Nonempty (α1 × α2 × α3)} (B : α1 → α2 → α3 → Prop) : α1 := (p3 (ne := ne) B).1
noncomputable def c3_2 {α1 α2 α3 : Type} {ne : Nonempty (α1 × α2 × α3)} (B : α1 → α2 → α3 → Prop) : α2 := (p3 (ne := ne) B).2.1
noncomputable def c3_3 {α1 α2 α3 : Type} {ne : Nonempty (α1 × α2 × α3)} (B : α1 → α2 → α3 → Prop) : α3 := (p3 (ne := ne) B).2.2
theorem e3 {α1 α2 α3 : Type} [Nonempty α1] [Nonempty α2] [Nonempty α3] {B : α1 → α2 → α3 → Prop} (h : B (c3_1 (ne := n3) B) (c3_2 (ne := n3) B) (c3_3 (ne := n3) B)) : ∀ a1 a2 a3, B a1 a2 a3 := fun a1 a2 a3 => ex_all (ne := n3) (B := fun v : α1 × α2 × α3 => B v.1 v.2.1 v.2.2) h (a1, a2, a3)
theorem n4 {α1 α2 α3 α4 : Type} [Nonempty α1] [Nonempty α2] [Nonempty α3] [Nonempty α4] : Nonempty (α1 × α2 × α3 × α4) := ⟨(Classical.choice ‹Nonempty α1›, Classical.choice ‹Nonempty α2›, Classical.choice ‹Nonempty α3›, Classical.choice ‹Nonempty α4›)⟩
noncomputable def p4 {α1 α2 α3 α4 : Type} {ne : Nonempty (α1 × α2 × α3 × α4)} (B : α1 → α2 → α3 → α4 → Prop) : α1 × α2 × α3 × α4 := ex ne (fun v : α1 × α2 × α3 × α4 => B v.1 v.2.1 v.2.2.1 v.2.2.2)
noncomputable def c4_1 {α1 α2 α3 α4 : Type} {ne : Nonempty (α1 × α2 × α3 × α4)} (B : α1 → α2 → α3 → α4 → Prop) : α1 := (p4 (ne := ne) B).1
noncomputable def c4_2 {α1 α2 α3 α4 : Type} {ne : Nonempty (α1 × α2 × α3 × α4)} (B : α1 → α2 → α3 → α4 → Prop) : α2 := (p4 (ne := ne) B).2.1
noncomputable def c4_3 {α1 α2 α3 α4 : Type} {ne : Nonempty (α1 × α2 × α3 × α4)} (B : α1 → α2 → α3 → α4 → Prop) : α3 := (p4 (ne := ne) B).2.2.1
noncomputable def c4_4 {α1 α2 α3 α4 : Type} {ne : Nonempty (α1 × α2 × α3 × α4)} (B : α1 → α2 → α3 → α4 → Prop) : α4 := (p4 (ne := ne) B).2.2.2
theorem e4 {α1 α2 α3 α4 : Type} [Nonempty α1] [Nonempty α2] [Nonempty α3] [Nonempty α4] {B : α1 → α2 → α3 → α4 → Prop} (h : B (c4_1 (ne := n4) B) (c4_2 (ne := n4) B) (c4_3 (ne := n4) B) (c4_4 (ne := n4) B)) : ∀ a1 a2 a3 a4, B a1 a2 a3 a4 := fun a1 a2 a3 a4 => ex_all (ne := n4) (B := fun v : α1 × α2 × α3 × α4 => B v.1 v.2.1 v.2.2.1 v.2.2.2) h (a1, a2, a3, a4)
theorem n5 {α1 α2 α3 α4 α5 : Type} [Nonempty α1] [Nonempty α2] [Nonempty α3] [Nonempty α4] [Nonempty α5] : Nonempty (α1 × α2 × α3 × α4 × α5) := ⟨(Classical.choice ‹Nonempty α1›, Classical.choice ‹Nonempty α2›, Classical.choice ‹Nonempty α3›, Classical.choice ‹Nonempty α4›, Classical.choice ‹Nonempty α5›)⟩
noncomputable def p5 {α1 α2 α3 α4 α5 : Type} {ne : Nonempty (α1 × α2 × α3 × α4 × α5)} (B : α1 → α2 → α3 → α4 → α5 → Prop) : α1 × α2 × α3 × α4 × α5 := ex ne (fun v : α1 × α2 × α3 × α4 × α5 => B v.1 v.2.1 v.2.2.1 v.2.2.2.1 v.2.2.2.2)
noncomputable def c5_1 {α1 α2 α3 α4 α5 : Type} {ne : Nonempty (α1 × α2 × α3 × α4 × α5)} (B : α1 → α2 → α3 → α4 → α5 → Prop) : α1 := (p5 (ne := ne) B).1
noncomputable def c5_2 {α1 α2 α3 α4 α5 : Type} {ne : Nonempty (α1 × α2 × α3 × α4 × α5)} (B : α1 → α2 → α3 → α4 → α5 → Prop) : α2 := (p5 (ne := ne) B).2.1
noncomputable def c5_3 {α1 α2 α3 α4 α5 : Type} {ne : Nonempty (α1 × α2 × α3 × α4 × α5)} (B : α1 → α2 → α3 → α4 → α5 → Prop) : α3 := (p5 (ne := ne) B).2.2.1
noncomputable def c5_4 {α1 α2 α3 α4 α5 : Type} {ne : Nonempty (α1 × α2 × α3 × α4 × α5)} (B : α1 → α2 → α3 → α4 → α5 → Prop) : α4 := (p5 (ne := ne) B).2.2.2.1
noncomputable def c5_5 {α1 α2 α3 α4 α5 : Type} {ne : Nonempty (α1 × α2 × α3 × α4 × α5)} (B : α1 → α2 → α3 → α4 → α5 → Prop) : α5 := (p5 (ne := ne) B).2.2.2.2
theorem e5 {α1 α2 α3 α4 α5 : Type} [Nonempty α1] [Nonempty α2] [Nonempty α3] [Nonempty α4] [Nonempty α5] {B : α1 → α2 → α3 → α4 → α5 → Prop} (h : B (c5_1 (ne := n5) B) (c5_2 (ne := n5) B) (c5_3 (ne := n5) B) (c5_4 (ne := n5) B) (c5_5 (ne := n5) B)) : ∀ a1 a2 a3 a4 a5, B a1 a2 a3 a4 a5 := fun a1 a2 a3 a4 a5 => ex_all (ne := n5) (B := fun v : α1 × α2 × α3 × α4 × α5 => B v.1 v.2.1 v.2.2.1 v.2.2.2.1 v.2.2.2.2) h (a1, a2, a3, a4, a5)
theorem n6 {α1 α2 α3 α4 α5 α6 : Type} [Nonempty α1] [Nonempty α2] [Nonempty α3] [Nonempty α4] [Nonempty α5] [Nonempty α6] : Nonempty (α1 × α2 × α3 × α4 × α5 × α6) := ⟨(Classical.choice ‹Nonempty α1›, Classical.choice ‹Nonempty α2›, Classical.choice ‹Nonempty α3›, Classical.choice ‹Nonempty α4›, Classical.choice ‹Nonempty α5›, Classical.choice ‹Nonempty α6›)⟩
noncomputable def p6 {α1 α2 α3 α4 α5 α6 : Type} {ne : Nonempty (α1 × α2 × α3 × α4 × α5 × α6)} (B : α1 → α2 → α3 → α4 → α5 → α6 → Prop) : α1 × α2 × α3 × α4 × α5 × α6 := ex ne (fun v : α1 × α2 × α3 × α4 × α5 × α6 => B v.1 v.2.1 v.2.2.1 v.2.2.2.1 v.2.2.2.2.1 v.2.2.2.2.2)
noncomputable def c6_1 {α1 α2 α3 α4 α5 α6 : Type} {ne : Nonempty (α1 × α2 × α3 × α4 × α5 × α6)} (B : α1 → α2 → α3 → α4 → α5 → α6 → Prop) : α1 := (p6 (ne := ne) B).1
noncomputable def c6_2 {α1 α2 α3 α4 α5 α6 : Type} {ne : Nonempty (α1 × α2 × α3 × α4 × α5 × α6)} (B : α1 → α2 → α3 → α4 → α5 → α6 → Prop) : α2 := (p6 (ne := ne) B).2.1
noncomputable def c6_3 {α1 α2 α3 α4 α5 α6 : Type} {ne : Nonempty (α1 × α2 × α3 × α4 × α5 × α6)} (B : α1 → α2 → α3 → α4 → α5 → α6 → Prop) : α3 := (p6 (ne := ne) B).2.2.1
noncomputable def c6_4 {α1 α2 α3 α4 α5 α6 : Type} {ne : Nonempty (α1 × α2 × α3 × α4 × α5 × α6)} (B : α1 → α2 → α3 → α4 → α5 → α6 → Prop) : α4 := (p6 (ne := ne) B).2.2.2.1
noncomputable def c6_5 {α1 α2 α3 α4 α5 α6 : Type} {ne : Nonempty (α1 × α2 × α3 × α4 × α5 × α6)} (B : α1 → α2 → α3 → α4 → α5 → α6 → Prop) : α5 := (p6 (ne := ne) B).2.2.2.2.1
noncomputable def c6_6 {α1 α2 α3 α4 α5 α6 : Type} {ne : Nonempty (α1 × α2 × α3 × α4 × α5 × α6)} (B : α1 → α2 → α3 → α4 → α5 → α6 → Prop) : α6 := (p6 (ne := ne) B).2.2.2.2.2
theorem e6 {α1 α2 α3 α4 α5 α6 : Type} [Nonempty α1] [Nonempty α2] [Nonempty α3] [Nonempty α4] [Nonempty α5] [Nonempty α6] {B : α1 → α2 → α3 → α4 → α5 → α6 → Prop} (h : B (c6_1 (ne := n6) B) (c6_2 (ne := n6) B) (c6_3 (ne := n6) B) (c6_4 (ne := n6) B) (c6_5 (ne := n6) B) (c6_6 (ne := n6) B)) : ∀ a1 a2 a3 a4 a5 a6, B a1 a2 a3 a4 a5 a6 := fun a1 a2 a3 a4 a5 a6 => ex_all (ne := n6) (B := fun v : α1 × α2 × α3 × α4 × α5 × α6 => B v.1 v.2.1 v.2.2.1 v.2.2.2.1 v.2.2.2.2.1 v.2.2.2.2.2) h (a1, a2, a3, a4, a5, a6)
theorem n8 {α1 α2 α3 α4 α5 α6 α7 α8 : Type} [Nonempty α1] [Nonempty α2] [Nonempty α3] [Nonempty α4] [Nonempty α5] [Nonempty α6] [Nonempty α7] [Nonempty α8] : Nonempty (α1 × α2 × α3 × α4 × α5 × α6 × α7 × α8) := ⟨(Classical.choice ‹Nonempty α1›, Classical.choice ‹Nonempty α2›, Classical.choice ‹Nonempty α3›, Classical.choice ‹Nonempty α4›, Classical.choice ‹Nonempty α5›, Classical.choice ‹Nonempty α6›, Classical.choice ‹Nonempty α7›, Classical.choice ‹Nonempty α8›)⟩
noncomputable def p8 {α1 α2 α3 α4 α5 α6 α7 α8 : Type} {ne : Nonempty (α1 × α2 × α3 × α4 × α5 × α6 × α7 × α8)} (B : α1 → α2 → α3 → α4 → α5 → α6 → α7 → α8 → Prop) : α1 × α2 × α3 × α4 × α5 × α6 × α7 × α8 := ex ne (fun v : α1 × α2 × α3 × α4 × α5 × α6 × α7 × α8 => B v.1 v.2.1 v.2.2.1 v.2.2.2.1 v.2.2.2.2.1 v.2.2.2.2.2.1 v.2.2.2.2.2.2.1 v.2.2.2.2.2.2.2)
noncomputable def c8_1 {α1 α2 α3 α4 α5 α6 α7 α8 : Type} {ne : Nonempty (α1 × α2 × α3 × α4 × α5 × α6 × α7 × α8)} (B : α1 → α2 → α3 → α4 → α5 → α6 → α7 → α8 → Prop) : α1 := (p8 (ne := ne) B).1
noncomputable def c8_2 {α1 α2 α3 α4 α5 α6 α7 α8 : Type} {ne : Nonempty (α1 × α2 × α3 × α4 × α5 × α6 × α7 × α8)} (B : α1 → α2 → α3 → α4 → α5 → α6 → α7 → α8 → Prop) : α2 := (p8 (ne := ne) B).2.1
noncomputable def c8_3 {α1 α2 α3 α4 α5 α6 α7 α8 : Type} {ne : Nonempty (α1 × α2 × α3 × α4 × α5 × α6 × α7 × α8)} (B : α1 → α2 → α3 → α4 → α5 → α6 → α7 → α8 → Prop) : α3 := (p8 (ne := ne) B).2.2.1
noncomputable def c8_4 {α1 α2 α3 α4 α5 α6 α7 α8 : Type} {ne : Nonempty (α1 × α2 × α3 × α4 × α5 × α6 × α7 × α8)} (B : α1 → α2 → α3 → α4 → α5 → α6 → α7 → α8 → Prop) : α4 := (p8 (ne := ne) B).2.2.2.1
noncomputable def c8_5 {α1 α2 α3 α4 α5 α6 α7 α8 : Type} {ne : Nonempty (α1 × α2 × α3 × α4 × α5 × α6 × α7 × α8)} (B : α1 → α2 → α3 → α4 → α5 → α6 → α7 → α8 → Prop) : α5 := (p8 (ne := ne) B).2.2.2.2.1
noncomputable def c8_6 {α1 α2 α3 α4 α5 α6 α7 α8 : Type} {ne : Nonempty (α1 × α2 × α3 × α4 × α5 × α6 × α7 × α8)} (B : α1 → α2 → α3 → α4 → α5 → α6 → α7 → α8 → Prop) : α6 := (p8 (ne := ne) B).2.2.2.2.2.1
noncomputable def c8_7 {α1 α2 α3 α4 α5 α6 α7 α8 : Type} {ne : Nonempty (α1 × α2 × α3 × α4 × α5 × α6 × α7 × α8)} (B : α1 → α2 → α3 → α4 → α5 → α6 → α7 → α8 → Prop) : α7 := (p8 (ne := ne) B).2.2.2.2.2.2.1
noncomputable def c8_8 {α1 α2 α3 α4 α5 α6 α7 α8 : Type} {ne : Nonempty (α1 × α2 × α3 × α4 × α5 × α6 × α7 × α8)} (B : α1 → α2 → α3 → α4 → α5 → α6 → α7 → α8 → Prop) : α8 := (p8 (ne := ne) B).2.2.2.2.2.2.2
theorem e8 {α1 α2 α3 α4 α5 α6 α7 α8 : Type} [Nonempty α1] [Nonempty α2] [Nonempty α3] [Nonempty α4] [Nonempty α5] [Nonempty α6] [Nonempty α7] [Nonempty α8] {B : α1 → α2 → α3 → α4 → α5 → α6 → α7 → α8 → Prop} (h : B (c8_1 (ne := n8) B) (c8_2 (ne := n8) B) (c8_3 (ne := n8) B) (c8_4 (ne := n8) B) (c8_5 (ne := n8) B) (c8_6 (ne := n8) B) (c8_7 (ne := n8) B) (c8_8 (ne := n8) B)) : ∀ a1 a2 a3 a4 a5 a6 a7 a8, B a1 a2 a3 a4 a5 a6 a7 a8 := fun a1 a2 a3 a4 a5 a6 a7 a8 => ex_all (ne := n8) (B := fun v : α1 × α2 × α3 × α4 × α5 × α6 × α7 × α8 => B v.1 v.2.1 v.2.2.1 v.2.2.2.1 v.2.2.2.2.1 v.2.2.2.2.2.1 v.2.2.2.2.2.2.1 v.2.2.2.2.2.2.2) h (a1, a2, a3, a4, a5, a6, a7, a8)
theorem n9 {α1 α2 α3 α4 α5 α6 α7 α8 α9 : Type} [Nonempty α1] [Nonempty α2] [Nonempty α3] [Nonempty α4] [Nonempty α5] [Nonempty α6] [Nonempty α7] [Nonempty α8] [Nonempty α9] : Nonempty (α1 × α2 × α3 × α4 × α5 × α6 × α7 × α8 × α9) := ⟨(Classical.choice ‹Nonempty α1›, Classical.choice ‹Nonempty α2›, Classical.choice ‹Nonempty α3›, Classical.choice ‹Nonempty α4›, Classical.choice ‹Nonempty α5›, Classical.choice ‹Nonempty α6›, Classical.choice ‹Nonempty α7›, Classical.choice ‹Nonempty α8›, Classical.choice ‹Nonempty α9›)⟩
noncomputable def p9 {α1 α2 α3 α4 α5 α6 α7 α8 α9 : Type} {ne : Nonempty (α1 × α2 × α3 × α4 × α5 × α6 × α7 × α8 × α9)} (B : α1 → α2 → α3 → α4 → α5 → α6 → α7 → α8 → α9 → Prop) : α1 × α2 × α3 × α4 × α5 × α6 × α7 × α8 × α9 := ex ne (fun v : α1 × α2 × α3 × α4 × α5 × α6 × α7 × α8 × α9 => B v.1 v.2.1 v.2.2.1 v.2.2.2.1 v.2.2.2.2.1 v.2.2.2.2.2.1 v.2.2.2.2.2.2.1 v.2.2.2.2.2.2.2.1 v.2.2.2.2.2.2.2.2)
noncomputable def c9_1 {α1 α2 α3 α4 α5 α6 α7 α8 α9 : Type} {ne : Nonempty (α1 × α2 × α3 × α4 × α5 × α6 × α7 × α8 × α9)} (B : α1 → α2 → α3 → α4 → α5 → α6 → α7 → α8 → α9 → Prop) : α1 := (p9 (ne := ne) B).1
noncomputable def c9_2 {α1 α2 α3 α4 α5 α6 α7 α8 α9 : Type} {ne : Nonempty (α1 × α2 × α3 × α4 × α5 × α6 × α7 × α8 × α9)} (B : α1 → α2 → α3 → α4 → α5 → α6 → α7 → α8 → α9 → Prop) : α2 := (p9 (ne := ne) B).2.1
noncomputable def c9_3 {α1 α2 α3 α4 α5 α6 α7 α8 α9 : Type} {ne : Nonempty (α1 × α2 × α3 × α4 × α5 × α6 × α7 × α8 × α9)} (B : α1 → α2 → α3 → α4 → α5 → α6 → α7 → α8 → α9 → Prop) : α3 := (p9 (ne := ne) B).2.2.1
noncomputable def c9_4 {α1 α2 α3 α4 α5 α6 α7 α8 α9 : Type} {ne : Nonempty (α1 × α2 × α3 × α4 × α5 × α6 × α7 × α8 × α9)} (B : α1 → α2 → α3 → α4 → α5 → α6 → α7 → α8 → α9 → Prop) : α4 := (p9 (ne := ne) B).2.2.2.1
noncomputable def c9_5 {α1 α2 α3 α4 α5 α6 α7 α8 α9 : Type} {ne : Nonempty (α1 × α2 × α3 × α4 × α5 × α6 × α7 × α8 × α9)} (B : α1 → α2 → α3 → α4 → α5 → α6 → α7 → α8 → α9 → Prop) : α5 := (p9 (ne := ne) B).2.2.2.2.1
noncomputable def c9_6 {α1 α2 α3 α4 α5 α6 α7 α8 α9 : Type} {ne : Nonempty (α1 × α2 × α3 × α4 × α5 × α6 × α7 × α8 × α9)} (B : α1 → α2 → α3 → α4 → α5 → α6 → α7 → α8 → α9 → Prop) : α6 := (p9 (ne := ne) B).2.2.2.2.2.1
noncomputable def c9_7 {α1 α2 α3 α4 α5 α6 α7 α8 α9 : Type} {ne : Nonempty (α1 × α2 × α3 × α4 × α5 × α6 × α7 × α8 × α9)} (B : α1 → α2 → α3 → α4 → α5 → α6 → α7 → α8 → α9 → Prop) : α7 := (p9 (ne := ne) B).2.2.2.2.2.2.1
noncomputable def c9_8 {α1 α2 α3 α4 α5 α6 α7 α8 α9 : Type} {ne : Nonempty (α1 × α2 × α3 × α4 × α5 × α6 × α7 × α8 × α9)} (B : α1 → α2 → α3 → α4 → α5 → α6 → α7 → α8 → α9 → Prop) : α8 := (p9 (ne := ne) B).2.2.2.2.2.2.2.1
noncomputable def c9_9 {α1 α2 α3 α4 α5 α6 α7 α8 α9 : Type} {ne : Nonempty (α1 × α2 × α3 × α4 × α5 × α6 × α7 × α8 × α9)} (B : α1 → α2 → α3 → α4 → α5 → α6 → α7 → α8 → α9 → Prop) : α9 := (p9 (ne := ne) B).2.2.2.2.2.2.2.2
theorem e9 {α1 α2 α3 α4 α5 α6 α7 α8 α9 : Type} [Nonempty α1] [Nonempty α2] [Nonempty α3] [Nonempty α4] [Nonempty α5] [Nonempty α6] [Nonempty α7] [Nonempty α8] [Nonempty α9] {B : α1 → α2 → α3 → α4 → α5 → α6 → α7 → α8 → α9 → Prop} (h : B (c9_1 (ne := n9) B) (c9_2 (ne := n9) B) (c9_3 (ne := n9) B) (c9_4 (ne := n9) B) (c9_5 (ne := n9) B) (c9_6 (ne := n9) B) (c9_7 (ne := n9) B) (c9_8 (ne := n9) B) (c9_9 (ne := n9) B)) : ∀ a1 a2 a3 a4 a5 a6 a7 a8 a9, B a1 a2 a3 a4 a5 a6 a7 a8 a9 := fun a1 a2 a3 a4 a5 a6 a7 a8 a9 => ex_all (ne := n9) (B := fun v : α1 × α2 × α3 × α4 × α5 × α6 × α7 × α8 × α9 => B v.1 v.2.1 v.2.2.1 v.2.2.2.1 v.2.2.2.2.1 v.2.2.2.2.2.1 v.2.2.2.2.2.2.1 v.2.2.2.2.2.2.2.1 v.2.2.2.2.2.2.2.2) h (a1, a2, a3, a4, a5, a6, a7, a8, a9)
theorem n10 {α1 α2 α3 α4 α5 α6 α7 α8 α9 α10 : Type} [Nonempty α1] [Nonempty α2] [Nonempty α3] [Nonempty α4] [Nonempty α5] [Nonempty α6] [Nonempty α7] [Nonempty α8] [Nonempty α9] [Nonempty α10] : Nonempty (α1 × α2 × α3 × α4 × α5 × α6 × α7 × α8 × α9 × α10) := ⟨(Classical.choice ‹Nonempty α1›, Classical.choice ‹Nonempty α2›, Classical.choice ‹Nonempty α3›, Classical.choice ‹Nonempty α4›, Classical.choice ‹Nonempty α5›, Classical.choice ‹Nonempty α6›, Classical.choice ‹Nonempty α7›, Classical.choice ‹Nonempty α8›, Classical.choice ‹Nonempty α9›, Classical.choice ‹Nonempty α10›)⟩
noncomputable def p10 {α1 α2 α3 α4 α5 α6 α7 α8 α9 α10 : Type} {ne : Nonempty (α1 × α2 × α3 × α4 × α5 × α6 × α7 × α8 × α9 × α10)} (B : α1 → α2 → α3 → α4 → α5 → α6 → α7 → α8 → α9 → α10 → Prop) : α1 × α2 × α3 × α4 × α5 × α6 × α7 × α8 × α9 × α10 := ex ne (fun v : α1 × α2 × α3 × α4 × α5 × α6 × α7 × α8 × α9 × α10 => B v.1 v.2.1 v.2.2.1 v.2.2.2.1 v.2.2.2.2.1 v.2.2.2.2.2.1 v.2.2.2.2.2.2.1 v.2.2.2.2.2.2.2.1 v.2.2.2.2.2.2.2.2.1 v.2.2.2.2.2.2.2.2.2)
noncomputable def c10_1 {α1 α2 α3 α4 α5 α6 α7 α8 α9 α10 : Type} {ne : Nonempty (α1 × α2 × α3 × α4 × α5 × α6 × α7 × α8 × α9 × α10)} (B : α1 → α2 → α3 → α4 → α5 → α6 → α7 → α8 → α9 → α10 → Prop) : α1 := (p10 (ne := ne) B).1
noncomputable def c10_2 {α1 α2 α3 α4 α5 α6 α7 α8 α9 α10 : Type} {ne : Nonempty (α1 × α2 × α3 × α4 × α5 × α6 × α7 × α8 × α9 × α10)} (B : α1 → α2 → α3 → α4 → α5 → α6 → α7 → α8 → α9 → α10 → Prop) : α2 := (p10 (ne := ne) B).2.1
noncomputable def c10_3 {α1 α2 α3 α4 α5 α6 α7 α8 α9 α10 : Type} {ne : Nonempty (α1 × α2 × α3 × α4 × α5 × α6 × α7 × α8 × α9 × α10)} (B : α1 → α2 → α3 → α4 → α5 → α6 → α7 → α8 → α9 → α10 → Prop) : α3 := (p10 (ne := ne) B).2.2.1
noncomputable def c10_4 {α1 α2 α3 α4 α5 α6 α7 α8 α9 α10 : Type} {ne : Nonempty (α1 × α2 × α3 × α4 × α5 × α6 × α7 × α8 × α9 × α10)} (B : α1 → α2 → α3 → α4 → α5 → α6 → α7 → α8 → α9 → α10 → Prop) : α4 := (p10 (ne := ne) B).2.2.2.1
noncomputable def c10_5 {α1 α2 α3 α4 α5 α6 α7 α8 α9 α10 : Type} {ne : Nonempty (α1 × α2 × α3 × α4 × α5 × α6 × α7 × α8 × α9 × α10)} (B : α1 → α2 → α3 → α4 → α5 → α6 → α7 → α8 → α9 → α10 → Prop) : α5 := (p10 (ne := ne) B).2.2.2.2.1
noncomputable def c10_6 {α1 α2 α3 α4 α5 α6 α7 α8 α9 α10 : Type} {ne : Nonempty (α1 × α2 × α3 × α4 × α5 × α6 × α7 × α8 × α9 × α10)} (B : α1 → α2 → α3 → α4 → α5 → α6 → α7 → α8 → α9 → α10 → Prop) : α6 := (p10 (ne := ne) B).2.2.2.2.2.1
noncomputable def c10_7 {α1 α2 α3 α4 α5 α6 α7 α8 α9 α10 : Type} {ne : Nonempty (α1 × α2 × α3 × α4 × α5 × α6 × α7 × α8 × α9 × α10)} (B : α1 → α2 → α3 → α4 → α5 → α6 → α7 → α8 → α9 → α10 → Prop) : α7 := (p10 (ne := ne) B).2.2.2.2.2.2.1
noncomputable def c10_8 {α1 α2 α3 α4 α5 α6 α7 α8 α9 α10 : Type} {ne : Nonempty (α1 × α2 × α3 × α4 × α5 × α6 × α7 × α8 × α9 × α10)} (B : α1 → α2 → α3 → α4 → α5 → α6 → α7 → α8 → α9 → α10 → Prop) : α8 := (p10 (ne := ne) B).2.2.2.2.2.2.2.1
noncomputable def c10_9 {α1 α2 α3 α4 α5 α6 α7 α8 α9 α10 : Type} {ne : Nonempty (α1 × α2 × α3 × α4 × α5 × α6 × α7 × α8 × α9 × α10)} (B : α1 → α2 → α3 → α4 → α5 → α6 → α7 → α8 → α9 → α10 → Prop) : α9 := (p10 (ne := ne) B).2.2.2.2.2.2.2.2.1
noncomputable def c10_10 {α1 α2 α3 α4 α5 α6 α7 α8 α9 α10 : Type} {ne : Nonempty (α1 × α2 × α3 × α4 × α5 × α6 × α7 × α8 × α9 × α10)} (B : α1 → α2 → α3 → α4 → α5 → α6 → α7 → α8 → α9 → α10 → Prop) : α10 := (p10 (ne := ne) B).2.2.2.2.2.2.2.2.2
theorem e10 {α1 α2 α3 α4 α5 α6 α7 α8 α9 α10 : Type} [Nonempty α1] [Nonempty α2] [Nonempty α3] [Nonempty α4] [Nonempty α5] [Nonempty α6] [Nonempty α7] [Nonempty α8] [Nonempty α9] [Nonempty α10] {B : α1 → α2 → α3 → α4 → α5 → α6 → α7 → α8 → α9 → α10 → Prop} (h : B (c10_1 (ne := n10) B) (c10_2 (ne := n10) B) (c10_3 (ne := n10) B) (c10_4 (ne := n10) B) (c10_5 (ne := n10) B) (c10_6 (ne := n10) B) (c10_7 (ne := n10) B) (c10_8 (ne := n10) B) (c10_9 (ne := n10) B) (c10_10 (ne := n10) B)) : ∀ a1 a2 a3 a4 a5 a6 a7 a8 a9 a10, B a1 a2 a3 a4 a5 a6 a7 a8 a9 a10 := fun a1 a2 a3 a4 a5 a6 a7 a8 a9 a10 => ex_all (ne := n10) (B := fun v : α1 × α2 × α3 × α4 × α5 × α6 × α7 × α8 × α9 × α10 => B v.1 v.2.1 v.2.2.1 v.2.2.2.1 v.2.2.2.2.1 v.2.2.2.2.2.1 v.2.2.2.2.2.2.1 v.2.2.2.2.2.2.2.1 v.2.2.2.2.2.2.2.2.1 v.2.2.2.2.2.2.2.2.2) h (a1, a2, a3, a4, a5, a6, a7, a8, a9, a10)
theorem n12 {α1 α2 α3 α4 α5 α6 α7 α8 α9 α10 α11 α12 : Type} [Nonempty α1] [Nonempty α2] [Nonempty α3] [Nonempty α4] [Nonempty α5] [Nonempty α6] [Nonempty α7] [Nonempty α8] [Nonempty α9] [Nonempty α10] [Nonempty α11] [Nonempty α12] : Nonempty (α1 × α2 × α3 × α4 × α5 × α6 × α7 × α8 × α9 × α10 × α11 × α12) := ⟨(Classical.choice ‹Nonempty α1›, Classical.choice ‹Nonempty α2›, Classical.choice ‹Nonempty α3›, Classical.choice ‹Nonempty α4›, Classical.choice ‹Nonempty α5›, Classical.choice ‹Nonempty α6›, Classical.choice ‹Nonempty α7›, Classical.choice ‹Nonempty α8›, Classical.choice ‹Nonempty α9›, Classical.choice ‹Nonempty α10›, Classical.choice ‹Nonempty α11›, Classical.choice ‹Nonempty α12›)⟩
noncomputable def p12 {α1 α2 α3 α4 α5 α6 α7 α8 α9 α10 α11 α12 : Type} {ne : Nonempty (α1 × α2 × α3 × α4 × α5 × α6 × α7 × α8 × α9 × α10 × α11 × α12)} (B : α1 → α2 → α3 → α4 → α5 → α6 → α7 → α8 → α9 → α10 → α11 → α12 → Prop) : α1 × α2 × α3 × α4 × α5 × α6 × α7 × α8 × α9 × α10 × α11 × α12 := ex ne (fun v : α1 × α2 × α3 × α4 × α5 × α6 × α7 × α8 × α9 × α10 × α11 × α12 => B v.1 v.2.1 v.2.2.1 v.2.2.2.1 v.2.2.2.2.1 v.2.2.2.2.2.1 v.2.2.2.2.2.2.1 v.2.2.2.2.2.2.2.1 v.2.2.2.2.2.2.2.2.1 v.2.2.2.2.2.2.2.2.2.1 v.2.2.2.2.2.2.2.2.2.2.1 v.2.2.2.2.2.2.2.2.2.2.2)
noncomputable def c12_1 {α1 α2 α3 α4 α5 α6 α7 α8 α9 α10 α11 α12 : Type} {ne : Nonempty (α1 × α2 × α3 × α4 × α5 × α6 × α7 × α8 × α9 × α10 × α11 × α12)} (B : α1 → α2 → α3 → α4 → α5 → α6 → α7 → α8 → α9 → α10 → α11 → α12 → Prop) : α1 := (p12 (ne := ne) B).1
noncomputable def c12_2 {α1 α2 α3 α4 α5 α6 α7 α8 α9 α10 α11 α12 : Type} {ne : Nonempty (α1 × α2 × α3 × α4 × α5 × α6 × α7 × α8 × α9 × α10 × α11 × α12)} (B : α1 → α2 → α3 → α4 → α5 → α6 → α7 → α8 → α9 → α10 → α11 → α12 → Prop) : α2 := (p12 (ne := ne) B).2.1
noncomputable def c12_3 {α1 α2 α3 α4 α5 α6 α7 α8 α9 α10 α11 α12 : Type} {ne : Nonempty (α1 × α2 × α3 × α4 × α5 × α6 × α7 × α8 × α9 × α10 × α11 × α12)} (B : α1 → α2 → α3 → α4 → α5 → α6 → α7 → α8 → α9 → α10 → α11 → α12 → Prop) : α3 := (p12 (ne := ne) B).2.2.1
noncomputable def c12_4 {α1 α2 α3 α4 α5 α6 α7 α8 α9 α10 α11 α12 : Type} {ne : Nonempty (α1 × α2 × α3 × α4 × α5 × α6 × α7 × α8 × α9 × α10 × α11 × α12)} (B : α1 → α2 → α3 → α4 → α5 → α6 → α7 → α8 → α9 → α10 → α11 → α12 → Prop) : α4 := (p12 (ne := ne) B).2.2.2.1
noncomputable def c12_5 {α1 α2 α3 α4 α5 α6 α7 α8 α9 α10 α11 α12 : Type} {ne : Nonempty (α1 × α2 × α3 × α4 × α5 × α6 × α7 × α8 × α9 × α10 × α11 × α12)} (B : α1 → α2 → α3 → α4 → α5 → α6 → α7 → α8 → α9 → α10 → α11 → α12 → Prop) : α5 := (p12 (ne := ne) B).2.2.2.2.1
noncomputable def c12_6 {α1 α2 α3 α4 α5 α6 α7 α8 α9 α10 α11 α12 : Type} {ne : Nonempty (α1 × α2 × α3 × α4 × α5 × α6 × α7 × α8 × α9 × α10 × α11 × α12)} (B : α1 → α2 → α3 → α4 → α5 → α6 → α7 → α8 → α9 → α10 → α11 → α12 → Prop) : α6 := (p12 (ne := ne) B).2.2.2.2.2.1
noncomputable def c12_7 {α1 α2 α3 α4 α5 α6 α7 α8 α9 α10 α11 α12 : Type} {ne : Nonempty (α1 × α2 × α3 × α4 × α5 × α6 × α7 × α8 × α9 × α10 × α11 × α12)} (B : α1 → α2 → α3 → α4 → α5 → α6 → α7 → α8 → α9 → α10 → α11 → α12 → Prop) : α7 := (p12 (ne := ne) B).2.2.2.2.2.2.1
noncomputable def c12_8 {α1 α2 α3 α4 α5 α6 α7 α8 α9 α10 α11 α12 : Type} {ne : Nonempty (α1 × α2 × α3 × α4 × α5 × α6 × α7 × α8 × α9 × α10 × α11 × α12)} (B : α1 → α2 → α3 → α4 → α5 → α6 → α7 → α8 → α9 → α10 → α11 → α12 → Prop) : α8 := (p12 (ne := ne) B).2.2.2.2.2.2.2.1
noncomputable def c12_9 {α1 α2 α3 α4 α5 α6 α7 α8 α9 α10 α11 α12 : Type} {ne : Nonempty (α1 × α2 × α3 × α4 × α5 × α6 × α7 × α8 × α9 × α10 × α11 × α12)} (B : α1 → α2 → α3 → α4 → α5 → α6 → α7 → α8 → α9 → α10 → α11 → α12 → Prop) : α9 := (p12 (ne := ne) B).2.2.2.2.2.2.2.2.1
noncomputable def c12_10 {α1 α2 α3 α4 α5 α6 α7 α8 α9 α10 α11 α12 : Type} {ne : Nonempty (α1 × α2 × α3 × α4 × α5 × α6 × α7 × α8 × α9 × α10 × α11 × α12)} (B : α1 → α2 → α3 → α4 → α5 → α6 → α7 → α8 → α9 → α10 → α11 → α12 → Prop) : α10 := (p12 (ne := ne) B).2.2.2.2.2.2.2.2.2.1
noncomputable def c12_11 {α1 α2 α3 α4 α5 α6 α7 α8 α9 α10 α11 α12 : Type} {ne : Nonempty (α1 × α2 × α3 × α4 × α5 × α6 × α7 × α8 × α9 × α10 × α11 × α12)} (B : α1 → α2 → α3 → α4 → α5 → α6 → α7 → α8 → α9 → α10 → α11 → α12 → Prop) : α11 := (p12 (ne := ne) B).2.2.2.2.2.2.2.2.2.2.1
noncomputable def c12_12 {α1 α2 α3 α4 α5 α6 α7 α8 α9 α10 α11 α12 : Type} {ne : Nonempty (α1 × α2 × α3 × α4 × α5 × α6 × α7 × α8 × α9 × α10 × α11 × α12)} (B : α1 → α2 → α3 → α4 → α5 → α6 → α7 → α8 → α9 → α10 → α11 → α12 → Prop) : α12 := (p12 (ne := ne) B).2.2.2.2.2.2.2.2.2.2.2
theorem e12 {α1 α2 α3 α4 α5 α6 α7 α8 α9 α10 α11 α12 : Type} [Nonempty α1] [Nonempty α2] [Nonempty α3] [Nonempty α4] [Nonempty α5] [Nonempty α6] [Nonempty α7] [Nonempty α8] [Nonempty α9] [Nonempty α10] [Nonempty α11] [Nonempty α12] {B : α1 → α2 → α3 → α4 → α5 → α6 → α7 → α8 → α9 → α10 → α11 → α12 → Prop} (h : B (c12_1 (ne := n12) B) (c12_2 (ne := n12) B) (c12_3 (ne := n12) B) (c12_4 (ne := n12) B) (c12_5 (ne := n12) B) (c12_6 (ne := n12) B) (c12_7 (ne := n12) B) (c12_8 (ne := n12) B) (c12_9 (ne := n12) B) (c12_10 (ne := n12) B) (c12_11 (ne := n12) B) (c12_12 (ne := n12) B)) : ∀ a1 a2 a3 a4 a5 a6 a7 a8 a9 a10 a11 a12, B a1 a2 a3 a4 a5 a6 a7 a8 a9 a10 a11 a12 := fun a1 a2 a3 a4 a5 a6 a7 a8 a9 a10 a11 a12 => ex_all (ne := n12) (B := fun v : α1 × α2 × α3 × α4 × α5 × α6 × α7 × α8 × α9 × α10 × α11 × α12 => B v.1 v.2.1 v.2.2.1 v.2.2.2.1 v.2.2.2.2.1 v.2.2.2.2.2.1 v.2.2.2.2.2.2.1 v.2.2.2.2.2.2.2.1 v.2.2.2.2.2.2.2.2.1 v.2.2.2.2.2.2.2.2.2.1 v.2.2.2.2.2.2.2.2.2.2.1 v.2.2.2.2.2.2.2.2.2.2.2) h (a1, a2, a3, a4, a5, a6, a7, a8, a9, a10, a11, a12)
theorem n13 {α1 α2 α3 α4 α5 α6 α7 α8 α9 α10 α11 α12 α13 : Type} [Nonempty α1] [Nonempty α2] [Nonempty α3] [Nonempty α4] [Nonempty α5] [Nonempty α6] [Nonempty α7] [Nonempty α8] [Nonempty α9] [Nonempty α10] [Nonempty α11] [Nonempty α12] [Nonempty α13] : Nonempty (α1 × α2 × α3 × α4 × α5 × α6 × α7 × α8 × α9 × α10 × α11 × α12 × α13) := ⟨(Classical.choice ‹Nonempty α1›, Classical.choice ‹Nonempty α2›, Classical.choice ‹Nonempty α3›, Classical.choice ‹Nonempty α4›, Classical.choice ‹Nonempty α5›, Classical.choice ‹Nonempty α6›, Classical.choice ‹Nonempty α7›, Classical.choice ‹Nonempty α8›, Classical.choice ‹Nonempty α9›, Classical.choice ‹Nonempty α10›, Classical.choice ‹Nonempty α11›, Classical.choice ‹Nonempty α12›, Classical.choice ‹Nonempty α13›)⟩
noncomputable def p13 {α1 α2 α3 α4 α5 α6 α7 α8 α9 α10 α11 α12 α13 : Type} {ne : Nonempty (α1 × α2 × α3 × α4 × α5 × α6 × α7 × α8 × α9 × α10 × α11 × α12 × α13)} (B : α1 → α2 → α3 → α4 → α5 → α6 → α7 → α8 → α9 → α10 → α11 → α12 → α13 → Prop) : α1 × α2 × α3 × α4 × α5 × α6 × α7 × α8 × α9 × α10 × α11 × α12 × α13 := ex ne (fun v : α1 × α2 × α3 × α4 × α5 × α6 × α7 × α8 × α9 × α10 × α11 × α12 × α13 => B v.1 v.2.1 v.2.2.1 v.2.2.2.1 v.2.2.2.2.1 v.2.2.2.2.2.1 v.2.2.2.2.2.2.1 v.2.2.2.2.2.2.2.1 v.2.2.2.2.2.2.2.2.1 v.2.2.2.2.2.2.2.2.2.1 v.2.2.2.2.2.2.2.2.2.2.1 v.2.2.2.2.2.2.2.2.2.2.2.1 v.2.2.2.2.2.2.2.2.2.2.2.2)
noncomputable def c13_1 {α1 α2 α3 α4 α5 α6 α7 α8 α9 α10 α11 α12 α13 : Type} {ne : Nonempty (α1 × α2 × α3 × α4 × α5 × α6 × α7 × α8 × α9 × α10 × α11 × α12 × α13)} (B : α1 → α2 → α3 → α4 → α5 → α6 → α7 → α8 → α9 → α10 → α11 → α12 → α13 → Prop) : α1 := (p13 (ne := ne) B).1
noncomputable def c13_2 {α1 α2 α3 α4 α5 α6 α7 α8 α9 α10 α11 α12 α13 : Type} {ne : Nonempty (α1 × α2 × α3 × α4 × α5 × α6 × α7 × α8 × α9 × α10 × α11 × α12 × α13)} (B : α1 → α2 → α3 → α4 → α5 → α6 → α7 → α8 → α9 → α10 → α11 → α12 → α13 → Prop) : α2 := (p13 (ne := ne) B).2.1
noncomputable def c13_3 {α1 α2 α3 α4 α5 α6 α7 α8 α9 α10 α11 α12 α13 : Type} {ne : Nonempty (α1 × α2 × α3 × α4 × α5 × α6 × α7 × α8 × α9 × α10 × α11 × α12 × α13)} (B : α1 → α2 → α3 → α4 → α5 → α6 → α7 → α8 → α9 → α10 → α11 → α12 → α13 → Prop) : α3 := (p13 (ne := ne) B).2.2.1
noncomputable def c13_4 {α1 α2 α3 α4 α5 α6 α7 α8 α9 α10 α11 α12 α13 : Type} {ne : Nonempty (α1 × α2 × α3 × α4 × α5 × α6 × α7 × α8 × α9 × α10 × α11 × α12 × α13)} (B : α1 → α2 → α3 → α4 → α5 → α6 → α7 → α8 → α9 → α10 → α11 → α12 → α13 → Prop) : α4 := (p13 (ne := ne) B).2.2.2.1
noncomputable def c13_5 {α1 α2 α3 α4 α5 α6 α7 α8 α9 α10 α11 α12 α13 : Type} {ne : Nonempty (α1 × α2 × α3 × α4 × α5 × α6 × α7 × α8 × α9 × α10 × α11 × α12 × α13)} (B : α1 → α2 → α3 → α4 → α5 → α6 → α7 → α8 → α9 → α10 → α11 → α12 → α13 → Prop) : α5 := (p13 (ne := ne) B).2.2.2.2.1
noncomputable def c13_6 {α1 α2 α3 α4 α5 α6 α7 α8 α9 α10 α11 α12 α13 : Type} {ne : Nonempty (α1 × α2 × α3 × α4 × α5 × α6 × α7 × α8 × α9 × α10 × α11 × α12 × α13)} (B : α1 → α2 → α3 → α4 → α5 → α6 → α7 → α8 → α9 → α10 → α11 → α12 → α13 → Prop) : α6 := (p13 (ne := ne) B).2.2.2.2.2.1
noncomputable def c13_7 {α1 α2 α3 α4 α5 α6 α7 α8 α9 α10 α11 α12 α13 : Type} {ne : Nonempty (α1 × α2 × α3 × α4 × α5 × α6 × α7 × α8 × α9 × α10 × α11 × α12 × α13)} (B : α1 → α2 → α3 → α4 → α5 → α6 → α7 → α8 → α9 → α10 → α11 → α12 → α13 → Prop) : α7 := (p13 (ne := ne) B).2.2.2.2.2.2.1
noncomputable def c13_8 {α1 α2 α3 α4 α5 α6 α7 α8 α9 α10 α11 α12 α13 : Type} {ne : Nonempty (α1 × α2 × α3 × α4 × α5 × α6 × α7 × α8 × α9 × α10 × α11 × α12 × α13)} (B : α1 → α2 → α3 → α4 → α5 → α6 → α7 → α8 → α9 → α10 → α11 → α12 → α13 → Prop) : α8 := (p13 (ne := ne) B).2.2.2.2.2.2.2.1
noncomputable def c13_9 {α1 α2 α3 α4 α5 α6 α7 α8 α9 α10 α11 α12 α13 : Type} {ne : Nonempty (α1 × α2 × α3 × α4 × α5 × α6 × α7 × α8 × α9 × α10 × α11 × α12 × α13)} (B : α1 → α2 → α3 → α4 → α5 → α6 → α7 → α8 → α9 → α10 → α11 → α12 → α13 → Prop) : α9 := (p13 (ne := ne) B).2.2.2.2.2.2.2.2.1
noncomputable def c13_10 {α1 α2 α3 α4 α5 α6 α7 α8 α9 α10 α11 α12 α13 : Type} {ne : Nonempty (α1 × α2 × α3 × α4 × α5 × α6 × α7 × α8 × α9 × α10 × α11 × α12 × α13)} (B : α1 → α2 → α3 → α4 → α5 → α6 → α7 → α8 → α9 → α10 → α11 → α12 → α13 → Prop) : α10 := (p13 (ne := ne) B).2.2.2.2.2.2.2.2.2.1
noncomputable def c13_11 {α1 α2 α3 α4 α5 α6 α7 α8 α9 α10 α11 α12 α13 : Type} {ne : Nonempty (α1 × α2 × α3 × α4 × α5 × α6 × α7 × α8 × α9 × α10 × α11 × α12 × α13)} (B : α1 → α2 → α3 → α4 → α5 → α6 → α7 → α8 → α9 → α10 → α11 → α12 → α13 → Prop) : α11 := (p13 (ne := ne) B).2.2.2.2.2.2.2.2.2.2.1
noncomputable def c13_12 {α1 α2 α3 α4 α5 α6 α7 α8 α9 α10 α11 α12 α13 : Type} {ne : Nonempty (α1 × α2 × α3 × α4 × α5 × α6 × α7 × α8 × α9 × α10 × α11 × α12 × α13)} (B : α1 → α2 → α3 → α4 → α5 → α6 → α7 → α8 → α9 → α10 → α11 → α12 → α13 → Prop) : α12 := (p13 (ne := ne) B).2.2.2.2.2.2.2.2.2.2.2.1
noncomputable def c13_13 {α1 α2 α3 α4 α5 α6 α7 α8 α9 α10 α11 α12 α13 : Type} {ne : Nonempty (α1 × α2 × α3 × α4 × α5 × α6 × α7 × α8 × α9 × α10 × α11 × α12 × α13)} (B : α1 → α2 → α3 → α4 → α5 → α6 → α7 → α8 → α9 → α10 → α11 → α12 → α13 → Prop) : α13 := (p13 (ne := ne) B).2.2.2.2.2.2.2.2.2.2.2.2
theorem e13 {α1 α2 α3 α4 α5 α6 α7 α8 α9 α10 α11 α12 α13 : Type} [Nonempty α1] [Nonempty α2] [Nonempty α3] [Nonempty α4] [Nonempty α5] [Nonempty α6] [Nonempty α7] [Nonempty α8] [Nonempty α9] [Nonempty α10] [Nonempty α11] [Nonempty α12] [Nonempty α13] {B : α1 → α2 → α3 → α4 → α5 → α6 → α7 → α8 → α9 → α10 → α11 → α12 → α13 → Prop} (h : B (c13_1 (ne := n13) B) (c13_2 (ne := n13) B) (c13_3 (ne := n13) B) (c13_4 (ne := n13) B) (c13_5 (ne := n13) B) (c13_6 (ne := n13) B) (c13_7 (ne := n13) B) (c13_8 (ne := n13) B) (c13_9 (ne := n13) B) (c13_10 (ne := n13) B) (c13_11 (ne := n13) B) (c13_12 (ne := n13) B) (c13_13 (ne := n13) B)) : ∀ a1 a2 a3 a4 a5 a6 a7 a8 a9 a10 a11 a12 a13, B a1 a2 a3 a4 a5 a6 a7 a8 a9 a10 a11 a12 a13 := fun a1 a2 a3 a4 a5 a6 a7 a8 a9 a10 a11 a12 a13 => ex_all (ne := n13) (B := fun v : α1 × α2 × α3 × α4 × α5 × α6 × α7 × α8 × α9 × α10 × α11 × α12 × α13 => B v.1 v.2.1 v.2.2.1 v.2.2.2.1 v.2.2.2.2.1 v.2.2.2.2.2.1 v.2.2.2.2.2.2.1 v.2.2.2.2.2.2.2.1 v.2.2.2.2.2.2.2.2.1 v.2.2.2.2.2.2.2.2.2.1 v.2.2.2.2.2.2.2.2.2.2.1 v.2.2.2.2.2.2.2.2.2.2.2.1 v.2.2.2.2.2.2.2.2.2.2.2.2) h (a1, a2, a3, a4, a5, a6, a7, a8, a9, a10, a11, a12, a13)
theorem n17 {α1 α2 α3 α4 α5 α6 α7 α8 α9 α10 α11 α12 α13 α14 α15 α16 α17 : Type} [Nonempty α1] [Nonempty α2] [Nonempty α3] [Nonempty α4] [Nonempty α5] [Nonempty α6] [Nonempty α7] [Nonempty α8] [Nonempty α9] [Nonempty α10] [Nonempty α11] [Nonempty α12] [Nonempty α13] [Nonempty α14] [Nonempty α15] [Nonempty α16] [Nonempty α17] : Nonempty (α1 × α2 × α3 × α4 × α5 × α6 × α7 × α8 × α9 × α10 × α11 × α12 × α13 × α14 × α15 × α16 × α17) := ⟨(Classical.choice ‹Nonempty α1›, Classical.choice ‹Nonempty α2›, Classical.choice ‹Nonempty α3›, Classical.choice ‹Nonempty α4›, Classical.choice ‹Nonempty α5›, Classical.choice ‹Nonempty α6›, Classical.choice ‹Nonempty α7›, Classical.choice ‹Nonempty α8›, Classical.choice ‹Nonempty α9›, Classical.choice ‹Nonempty α10›, Classical.choice ‹Nonempty α11›, Classical.choice ‹Nonempty α12›, Classical.choice ‹Nonempty α13›, Classical.choice ‹Nonempty α14›, Classical.choice ‹Nonempty α15›, Classical.choice ‹Nonempty α16›, Classical.choice ‹Nonempty α17›)⟩
noncomputable def p17 {α1 α2 α3 α4 α5 α6 α7 α8 α9 α10 α11 α12 α13 α14 α15 α16 α17 : Type} {ne : Nonempty (α1 × α2 × α3 × α4 × α5 × α6 × α7 × α8 × α9 × α10 × α11 × α12 × α13 × α14 × α15 × α16 × α17)} (B : α1 → α2 → α3 → α4 → α5 → α6 → α7 → α8 → α9 → α10 → α11 → α12 → α13 → α14 → α15 → α16 → α17 → Prop) : α1 × α2 × α3 × α4 × α5 × α6 × α7 × α8 × α9 × α10 × α11 × α12 × α13 × α14 × α15 × α16 × α17 := ex ne (fun v : α1 × α2 × α3 × α4 × α5 × α6 × α7 × α8 × α9 × α10 × α11 × α12 × α13 × α14 × α15 × α16 × α17 => B v.1 v.2.1 v.2.2.1 v.2.2.2.1 v.2.2.2.2.1 v.2.2.2.2.2.1 v.2.2.2.2.2.2.1 v.2.2.2.2.2.2.2.1 v.2.2.2.2.2.2.2.2.1 v.2.2.2.2.2.2.2.2.2.1 v.2.2.2.2.2.2.2.2.2.2.1 v.2.2.2.2.2.2.2.2.2.2.2.1 v.2.2.2.2.2.2.2.2.2.2.2.2.1 v.2.2.2.2.2.2.2.2.2.2.2.2.2.1 v.2.2.2.2.2.2.2.2.2.2.2.2.2.2.1 v.2.2.2.2.2.2.2.2.2.2.2.2.2.2.2.1 v.2.2.2.2.2.2.2.2.2.2.2.2.2.2.2.2)
noncomputable def c17_1 {α1 α2 α3 α4 α5 α6 α7 α8 α9 α10 α11 α12 α13 α14 α15 α16 α17 : Type} {ne : Nonempty (α1 × α2 × α3 × α4 × α5 × α6 × α7 × α8 × α9 × α10 × α11 × α12 × α13 × α14 × α15 × α16 × α17)} (B : α1 → α2 → α3 → α4 → α5 → α6 → α7 → α8 → α9 → α10 → α11 → α12 → α13 → α14 → α15 → α16 → α17 → Prop) : α1 := (p17 (ne := ne) B).1
noncomputable def c17_2 {α1 α2 α3 α4 α5 α6 α7 α8 α9 α10 α11 α12 α13 α14 α15 α16 α17 : Type} {ne : Nonempty (α1 × α2 × α3 × α4 × α5 × α6 × α7 × α8 × α9 × α10 × α11 × α12 × α13 × α14 × α15 × α16 × α17)} (B : α1 → α2 → α3 → α4 → α5 → α6 → α7 → α8 → α9 → α10 → α11 → α12 → α13 → α14 → α15 → α16 → α17 → Prop) : α2 := (p17 (ne := ne) B).2.1
noncomputable def c17_3 {α1 α2 α3 α4 α5 α6 α7 α8 α9 α10 α11 α12 α13 α14 α15 α16 α17 : Type} {ne : Nonempty (α1 × α2 × α3 × α4 × α5 × α6 × α7 × α8 × α9 × α10 × α11 × α12 × α13 × α14 × α15 × α16 × α17)} (B : α1 → α2 → α3 → α4 → α5 → α6 → α7 → α8 → α9 → α10 → α11 → α12 → α13 → α14 → α15 → α16 → α17 → Prop) : α3 := (p17 (ne := ne) B).2.2.1
noncomputable def c17_4 {α1 α2 α3 α4 α5 α6 α7 α8 α9 α10 α11 α12 α13 α14 α15 α16 α17 : Type} {ne : Nonempty (α1 × α2 × α3 × α4 × α5 × α6 × α7 × α8 × α9 × α10 × α11 × α12 × α13 × α14 × α15 × α16 × α17)} (B : α1 → α2 → α3 → α4 → α5 → α6 → α7 → α8 → α9 → α10 → α11 → α12 → α13 → α14 → α15 → α16 → α17 → Prop) : α4 := (p17 (ne := ne) B).2.2.2.1
noncomputable def c17_5 {α1 α2 α3 α4 α5 α6 α7 α8 α9 α10 α11 α12 α13 α14 α15 α16 α17 : Type} {ne : Nonempty (α1 × α2 × α3 × α4 × α5 × α6 × α7 × α8 × α9 × α10 × α11 × α12 × α13 × α14 × α15 × α16 × α17)} (B : α1 → α2 → α3 → α4 → α5 → α6 → α7 → α8 → α9 → α10 → α11 → α12 → α13 → α14 → α15 → α16 → α17 → Prop) : α5 := (p17 (ne := ne) B).2.2.2.2.1
noncomputable def c17_6 {α1 α2 α3 α4 α5 α6 α7 α8 α9 α10 α11 α12 α13 α14 α15 α16 α17 : Type} {ne : Nonempty (α1 × α2 × α3 × α4 × α5 × α6 × α7 × α8 × α9 × α10 × α11 × α12 × α13 × α14 × α15 × α16 × α17)} (B : α1 → α2 → α3 → α4 → α5 → α6 → α7 → α8 → α9 → α10 → α11 → α12 → α13 → α14 → α15 → α16 → α17 → Prop) : α6 := (p17 (ne := ne) B).2.2.2.2.2.1
noncomputable def c17_7 {α1 α2 α3 α4 α5 α6 α7 α8 α9 α10 α11 α12 α13 α14 α15 α16 α17 : Type} {ne : Nonempty (α1 × α2 × α3 × α4 × α5 × α6 × α7 × α8 × α9 × α10 × α11 × α12 × α13 × α14 × α15 × α16 × α17)} (B : α1 → α2 → α3 → α4 → α5 → α6 → α7 → α8 → α9 → α10 → α11 → α12 → α13 → α14 → α15 → α16 → α17 → Prop) : α7 := (p17 (ne := ne) B).2.2.2.2.2.2.1
noncomputable def c17_8 {α1 α2 α3 α4 α5 α6 α7 α8 α9 α10 α11 α12 α13 α14 α15 α16 α17 : Type} {ne : Nonempty (α1 × α2 × α3 × α4 × α5 × α6 × α7 × α8 × α9 × α10 × α11 × α12 × α13 × α14 × α15 × α16 × α17)} (B : α1 → α2 → α3 → α4 → α5 → α6 → α7 → α8 → α9 → α10 → α11 → α12 → α13 → α14 → α15 → α16 → α17 → Prop) : α8 := (p17 (ne := ne) B).2.2.2.2.2.2.2.1
noncomputable def c17_9 {α1 α2 α3 α4 α5 α6 α7 α8 α9 α10 α11 α12 α13 α14 α15 α16 α17 : Type} {ne : Nonempty (α1 × α2 × α3 × α4 × α5 × α6 × α7 × α8 × α9 × α10 × α11 × α12 × α13 × α14 × α15 × α16 × α17)} (B : α1 → α2 → α3 → α4 → α5 → α6 → α7 → α8 → α9 → α10 → α11 → α12 → α13 → α14 → α15 → α16 → α17 → Prop) : α9 := (p17 (ne := ne) B).2.2.2.2.2.2.2.2.1
noncomputable def c17_10 {α1 α2 α3 α4 α5 α6 α7 α8 α9 α10 α11 α12 α13 α14 α15 α16 α17 : Type} {ne : Nonempty (α1 × α2 × α3 × α4 × α5 × α6 × α7 × α8 × α9 × α10 × α11 × α12 × α13 × α14 × α15 × α16 × α17)} (B : α1 → α2 → α3 → α4 → α5 → α6 → α7 → α8 → α9 → α10 → α11 → α12 → α13 → α14 → α15 → α16 → α17 → Prop) : α10 := (p17 (ne := ne) B).2.2.2.2.2.2.2.2.2.1
noncomputable def c17_11 {α1 α2 α3 α4 α5 α6 α7 α8 α9 α10 α11 α12 α13 α14 α15 α16 α17 : Type} {ne : Nonempty (α1 × α2 × α3 × α4 × α5 × α6 × α7 × α8 × α9 × α10 × α11 × α12 × α13 × α14 × α15 × α16 × α17)} (B : α1 → α2 → α3 → α4 → α5 → α6 → α7 → α8 → α9 → α10 → α11 → α12 → α13 → α14 → α15 → α16 → α17 → Prop) : α11 := (p17 (ne := ne) B).2.2.2.2.2.2.2.2.2.2.1
noncomputable def c17_12 {α1 α2 α3 α4 α5 α6 α7 α8 α9 α10 α11 α12 α13 α14 α15 α16 α17 : Type} {ne : Nonempty (α1 × α2 × α3 × α4 × α5 × α6 × α7 × α8 × α9 × α10 × α11 × α12 × α13 × α14 × α15 × α16 × α17)} (B : α1 → α2 → α3 → α4 → α5 → α6 → α7 → α8 → α9 → α10 → α11 → α12 → α13 → α14 → α15 → α16 → α17 → Prop) : α12 := (p17 (ne := ne) B).2.2.2.2.2.2.2.2.2.2.2.1
noncomputable def c17_13 {α1 α2 α3 α4 α5 α6 α7 α8 α9 α10 α11 α12 α13 α14 α15 α16 α17 : Type} {ne : Nonempty (α1 × α2 × α3 × α4 × α5 × α6 × α7 × α8 × α9 × α10 × α11 × α12 × α13 × α14 × α15 × α16 × α17)} (B : α1 → α2 → α3 → α4 → α5 → α6 → α7 → α8 → α9 → α10 → α11 → α12 → α13 → α14 → α15 → α16 → α17 → Prop) : α13 := (p17 (ne := ne) B).2.2.2.2.2.2.2.2.2.2.2.2.1
noncomputable def c17_14 {α1 α2 α3 α4 α5 α6 α7 α8 α9 α10 α11 α12 α13 α14 α15 α16 α17 : Type} {ne : Nonempty (α1 × α2 × α3 × α4 × α5 × α6 × α7 × α8 × α9 × α10 × α11 × α12 × α13 × α14 × α15 × α16 × α17)} (B : α1 → α2 → α3 → α4 → α5 → α6 → α7 → α8 → α9 → α10 → α11 → α12 → α13 → α14 → α15 → α16 → α17 → Prop) : α14 := (p17 (ne := ne) B).2.2.2.2.2.2.2.2.2.2.2.2.2.1
noncomputable def c17_15 {α1 α2 α3 α4 α5 α6 α7 α8 α9 α10 α11 α12 α13 α14 α15 α16 α17 : Type} {ne : Nonempty (α1 × α2 × α3 × α4 × α5 × α6 × α7 × α8 × α9 × α10 × α11 × α12 × α13 × α14 × α15 × α16 × α17)} (B : α1 → α2 → α3 → α4 → α5 → α6 → α7 → α8 → α9 → α10 → α11 → α12 → α13 → α14 → α15 → α16 → α17 → Prop) : α15 := (p17 (ne := ne) B).2.2.2.2.2.2.2.2.2.2.2.2.2.2.1
noncomputable def c17_16 {α1 α2 α3 α4 α5 α6 α7 α8 α9 α10 α11 α12 α13 α14 α15 α16 α17 : Type} {ne : Nonempty (α1 × α2 × α3 × α4 × α5 × α6 × α7 × α8 × α9 × α10 × α11 × α12 × α13 × α14 × α15 × α16 × α17)} (B : α1 → α2 → α3 → α4 → α5 → α6 → α7 → α8 → α9 → α10 → α11 → α12 → α13 → α14 → α15 → α16 → α17 → Prop) : α16 := (p17 (ne := ne) B).2.2.2.2.2.2.2.2.2.2.2.2.2.2.2.1
noncomputable def c17_17 {α1 α2 α3 α4 α5 α6 α7 α8 α9 α10 α11 α12 α13 α14 α15 α16 α17 : Type} {ne : Nonempty (α1 × α2 × α3 × α4 × α5 × α6 × α7 × α8 × α9 × α10 × α11 × α12 × α13 × α14 × α15 × α16 × α17)} (B : α1 → α2 → α3 → α4 → α5 → α6 → α7 → α8 → α9 → α10 → α11 → α12 → α13 → α14 → α15 → α16 → α17 → Prop) : α17 := (p17 (ne := ne) B).2.2.2.2.2.2.2.2.2.2.2.2.2.2.2.2
theorem e17 {α1 α2 α3 α4 α5 α6 α7 α8 α9 α10 α11 α12 α13 α14 α15 α16 α17 : Type} [Nonempty α1] [Nonempty α2] [Nonempty α3] [Nonempty α4] [Nonempty α5] [Nonempty α6] [Nonempty α7] [Nonempty α8] [Nonempty α9] [Nonempty α10] [Nonempty α11] [Nonempty α12] [Nonempty α13] [Nonempty α14] [Nonempty α15] [Nonempty α16] [Nonempty α17] {B : α1 → α2 → α3 → α4 → α5 → α6 → α7 → α8 → α9 → α10 → α11 → α12 → α13 → α14 → α15 → α16 → α17 → Prop} (h : B (c17_1 (ne := n17) B) (c17_2 (ne := n17) B) (c17_3 (ne := n17) B) (c17_4 (ne := n17) B) (c17_5 (ne := n17) B) (c17_6 (ne := n17) B) (c17_7 (ne := n17) B) (c17_8 (ne := n17) B) (c17_9 (ne := n17) B) (c17_10 (ne := n17) B) (c17_11 (ne := n17) B) (c17_12 (ne := n17) B) (c17_13 (ne := n17) B) (c17_14 (ne := n17) B) (c17_15 (ne := n17) B) (c17_16 (ne := n17) B) (c17_17 (ne := n17) B)) : ∀ a1 a2 a3 a4 a5 a6 a7 a8 a9 a10 a11 a12 a13 a14 a15 a16 a17, B a1 a2 a3 a4 a5 a6 a7 a8 a9 a10 a11 a12 a13 a14 a15 a16 a17 := fun a1 a2 a3 a4 a5 a6 a7 a8 a9 a10 a11 a12 a13 a14 a15 a16 a17 => ex_all (ne := n17) (B := fun v : α1 × α2 × α3 × α4 × α5 × α6 × α7 × α8 × α9 × α10 × α11 × α12 × α13 × α14 × α15 × α16 × α17 => B v.1 v.2.1 v.2.2.1 v.2.2.2.1 v.2.2.2.2.1 v.2.2.2.2.2.1 v.2.2.2.2.2.2.1 v.2.2.2.2.2.2.2.1 v.2.2.2.2.2.2.2.2.1 v.2.2.2.2.2.2.2.2.2.1 v.2.2.2.2.2.2.2.2.2.2.1 v.2.2.2.2.2.2.2.2.2.2.2.1 v.2.2.2.2.2.2.2.2.2.2.2.2.1 v.2.2.2.2.2.2.2.2.2.2.2.2.2.1 v.2.2.2.2.2.2.2.2.2.2.2.2.2.2.1 v.2.2.2.2.2.2.2.2.2.2.2.2.2.2.2.1 v.2.2.2.2.2.2.2.2.2.2.2.2.2.2.2.2) h (a1, a2, a3, a4, a5, a6, a7, a8, a9, a10, a11, a12, a13, a14, a15, a16, a17)
theorem ne_world : Nonempty World := ⟨aWorld 0⟩
theorem ne_around : Nonempty Around := ⟨{}⟩
theorem ne_shared : Nonempty Shared := ⟨{}⟩
noncomputable def cW (B : World → Prop) : World := ex ne_world B
theorem eW {B : World → Prop} (h : B (cW B)) : ∀ a, B a := ex_all h
theorem ne_ctr : Nonempty ((Program) × (List PySem.Str) × (ExcName → Option PySem.Value) × (PySem.Str → Option PySem.Value) × (PySem.Str → Option PySem.Value) × (Nat) × (Nat) × (Option (List Code)) × (PySem.Str) × (Scope) × (PySem.Addr) × (PySem.Value) × (List (PySem.Str × PySem.Addr)) × (List Env) × (Around) × (PySem.Heap) × (PySem.Heap) × (PySem.Addr) × (PySem.Str → Option PySem.Value) × (Shared) × (PySem.Value → Shared → Prop) × (PySem.Value → Shared → Prop)) := ⟨(Classical.choice inferInstance, Classical.choice inferInstance, Classical.choice inferInstance, Classical.choice inferInstance, Classical.choice inferInstance, Classical.choice inferInstance, Classical.choice inferInstance, Classical.choice inferInstance, Classical.choice inferInstance, Classical.choice inferInstance, Classical.choice inferInstance, Classical.choice inferInstance, Classical.choice inferInstance, Classical.choice inferInstance, Classical.choice ne_around, Classical.choice inferInstance, Classical.choice inferInstance, Classical.choice inferInstance, Classical.choice inferInstance, Classical.choice ne_shared, Classical.choice inferInstance, Classical.choice inferInstance)⟩
noncomputable def pC (B : (Program) → (List PySem.Str) → (ExcName → Option PySem.Value) → (PySem.Str → Option PySem.Value) → (PySem.Str → Option PySem.Value) → (Nat) → (Nat) → (Option (List Code)) → (PySem.Str) → (Scope) → (PySem.Addr) → (PySem.Value) → (List (PySem.Str × PySem.Addr)) → (List Env) → (Around) → (PySem.Heap) → (PySem.Heap) → (PySem.Addr) → (PySem.Str → Option PySem.Value) → (Shared) → (PySem.Value → Shared → Prop) → (PySem.Value → Shared → Prop) → Prop) : (Program) × (List PySem.Str) × (ExcName → Option PySem.Value) × (PySem.Str → Option PySem.Value) × (PySem.Str → Option PySem.Value) × (Nat) × (Nat) × (Option (List Code)) × (PySem.Str) × (Scope) × (PySem.Addr) × (PySem.Value) × (List (PySem.Str × PySem.Addr)) × (List Env) × (Around) × (PySem.Heap) × (PySem.Heap) × (PySem.Addr) × (PySem.Str → Option PySem.Value) × (Shared) × (PySem.Value → Shared → Prop) × (PySem.Value → Shared → Prop) := ex ne_ctr (fun v => B v.1 v.2.1 v.2.2.1 v.2.2.2.1 v.2.2.2.2.1 v.2.2.2.2.2.1 v.2.2.2.2.2.2.1 v.2.2.2.2.2.2.2.1 v.2.2.2.2.2.2.2.2.1 v.2.2.2.2.2.2.2.2.2.1 v.2.2.2.2.2.2.2.2.2.2.1 v.2.2.2.2.2.2.2.2.2.2.2.1 v.2.2.2.2.2.2.2.2.2.2.2.2.1 v.2.2.2.2.2.2.2.2.2.2.2.2.2.1 v.2.2.2.2.2.2.2.2.2.2.2.2.2.2.1 v.2.2.2.2.2.2.2.2.2.2.2.2.2.2.2.1 v.2.2.2.2.2.2.2.2.2.2.2.2.2.2.2.2.1 v.2.2.2.2.2.2.2.2.2.2.2.2.2.2.2.2.2.1 v.2.2.2.2.2.2.2.2.2.2.2.2.2.2.2.2.2.2.1 v.2.2.2.2.2.2.2.2.2.2.2.2.2.2.2.2.2.2.2.1 v.2.2.2.2.2.2.2.2.2.2.2.2.2.2.2.2.2.2.2.2.1 v.2.2.2.2.2.2.2.2.2.2.2.2.2.2.2.2.2.2.2.2.2)
noncomputable def cC_1 (B : (Program) → (List PySem.Str) → (ExcName → Option PySem.Value) → (PySem.Str → Option PySem.Value) → (PySem.Str → Option PySem.Value) → (Nat) → (Nat) → (Option (List Code)) → (PySem.Str) → (Scope) → (PySem.Addr) → (PySem.Value) → (List (PySem.Str × PySem.Addr)) → (List Env) → (Around) → (PySem.Heap) → (PySem.Heap) → (PySem.Addr) → (PySem.Str → Option PySem.Value) → (Shared) → (PySem.Value → Shared → Prop) → (PySem.Value → Shared → Prop) → Prop) : Program := (pC B).1
noncomputable def cC_2 (B : (Program) → (List PySem.Str) → (ExcName → Option PySem.Value) → (PySem.Str → Option PySem.Value) → (PySem.Str → Option PySem.Value) → (Nat) → (Nat) → (Option (List Code)) → (PySem.Str) → (Scope) → (PySem.Addr) → (PySem.Value) → (List (PySem.Str × PySem.Addr)) → (List Env) → (Around) → (PySem.Heap) → (PySem.Heap) → (PySem.Addr) → (PySem.Str → Option PySem.Value) → (Shared) → (PySem.Value → Shared → Prop) → (PySem.Value → Shared → Prop) → Prop) : List PySem.Str := (pC B).2.1
noncomputable def cC_3 (B : (Program) → (List PySem.Str) → (ExcName → Option PySem.Value) → (PySem.Str → Option PySem.Value) → (PySem.Str → Option PySem.Value) → (Nat) → (Nat) → (Option (List Code)) → (PySem.Str) → (Scope) → (PySem.Addr) → (PySem.Value) → (List (PySem.Str × PySem.Addr)) → (List Env) → (Around) → (PySem.Heap) → (PySem.Heap) → (PySem.Addr) → (PySem.Str → Option PySem.Value) → (Shared) → (PySem.Value → Shared → Prop) → (PySem.Value → Shared → Prop) → Prop) : ExcName → Option PySem.Value := (pC B).2.2.1
noncomputable def cC_4 (B : (Program) → (List PySem.Str) → (ExcName → Option PySem.Value) → (PySem.Str → Option PySem.Value) → (PySem.Str → Option PySem.Value) → (Nat) → (Nat) → (Option (List Code)) → (PySem.Str) → (Scope) → (PySem.Addr) → (PySem.Value) → (List (PySem.Str × PySem.Addr)) → (List Env) → (Around) → (PySem.Heap) → (PySem.Heap) → (PySem.Addr) → (PySem.Str → Option PySem.Value) → (Shared) → (PySem.Value → Shared → Prop) → (PySem.Value → Shared → Prop) → Prop) : PySem.Str → Option PySem.Value := (pC B).2.2.2.1
noncomputable def cC_5 (B : (Program) → (List PySem.Str) → (ExcName → Option PySem.Value) → (PySem.Str → Option PySem.Value) → (PySem.Str → Option PySem.Value) → (Nat) → (Nat) → (Option (List Code)) → (PySem.Str) → (Scope) → (PySem.Addr) → (PySem.Value) → (List (PySem.Str × PySem.Addr)) → (List Env) → (Around) → (PySem.Heap) → (PySem.Heap) → (PySem.Addr) → (PySem.Str → Option PySem.Value) → (Shared) → (PySem.Value → Shared → Prop) → (PySem.Value → Shared → Prop) → Prop) : PySem.Str → Option PySem.Value := (pC B).2.2.2.2.1
noncomputable def cC_6 (B : (Program) → (List PySem.Str) → (ExcName → Option PySem.Value) → (PySem.Str → Option PySem.Value) → (PySem.Str → Option PySem.Value) → (Nat) → (Nat) → (Option (List Code)) → (PySem.Str) → (Scope) → (PySem.Addr) → (PySem.Value) → (List (PySem.Str × PySem.Addr)) → (List Env) → (Around) → (PySem.Heap) → (PySem.Heap) → (PySem.Addr) → (PySem.Str → Option PySem.Value) → (Shared) → (PySem.Value → Shared → Prop) → (PySem.Value → Shared → Prop) → Prop) : Nat := (pC B).2.2.2.2.2.1
noncomputable def cC_7 (B : (Program) → (List PySem.Str) → (ExcName → Option PySem.Value) → (PySem.Str → Option PySem.Value) → (PySem.Str → Option PySem.Value) → (Nat) → (Nat) → (Option (List Code)) → (PySem.Str) → (Scope) → (PySem.Addr) → (PySem.Value) → (List (PySem.Str × PySem.Addr)) → (List Env) → (Around) → (PySem.Heap) → (PySem.Heap) → (PySem.Addr) → (PySem.Str → Option PySem.Value) → (Shared) → (PySem.Value → Shared → Prop) → (PySem.Value → Shared → Prop) → Prop) : Nat := (pC B).2.2.2.2.2.2.1
noncomputable def cC_8 (B : (Program) → (List PySem.Str) → (ExcName → Option PySem.Value) → (PySem.Str → Option PySem.Value) → (PySem.Str → Option PySem.Value) → (Nat) → (Nat) → (Option (List Code)) → (PySem.Str) → (Scope) → (PySem.Addr) → (PySem.Value) → (List (PySem.Str × PySem.Addr)) → (List Env) → (Around) → (PySem.Heap) → (PySem.Heap) → (PySem.Addr) → (PySem.Str → Option PySem.Value) → (Shared) → (PySem.Value → Shared → Prop) → (PySem.Value → Shared → Prop) → Prop) : Option (List Code) := (pC B).2.2.2.2.2.2.2.1
noncomputable def cC_9 (B : (Program) → (List PySem.Str) → (ExcName → Option PySem.Value) → (PySem.Str → Option PySem.Value) → (PySem.Str → Option PySem.Value) → (Nat) → (Nat) → (Option (List Code)) → (PySem.Str) → (Scope) → (PySem.Addr) → (PySem.Value) → (List (PySem.Str × PySem.Addr)) → (List Env) → (Around) → (PySem.Heap) → (PySem.Heap) → (PySem.Addr) → (PySem.Str → Option PySem.Value) → (Shared) → (PySem.Value → Shared → Prop) → (PySem.Value → Shared → Prop) → Prop) : PySem.Str := (pC B).2.2.2.2.2.2.2.2.1
noncomputable def cC_10 (B : (Program) → (List PySem.Str) → (ExcName → Option PySem.Value) → (PySem.Str → Option PySem.Value) → (PySem.Str → Option PySem.Value) → (Nat) → (Nat) → (Option (List Code)) → (PySem.Str) → (Scope) → (PySem.Addr) → (PySem.Value) → (List (PySem.Str × PySem.Addr)) → (List Env) → (Around) → (PySem.Heap) → (PySem.Heap) → (PySem.Addr) → (PySem.Str → Option PySem.Value) → (Shared) → (PySem.Value → Shared → Prop) → (PySem.Value → Shared → Prop) → Prop) : Scope := (pC B).2.2.2.2.2.2.2.2.2.1
noncomputable def cC_11 (B : (Program) → (List PySem.Str) → (ExcName → Option PySem.Value) → (PySem.Str → Option PySem.Value) → (PySem.Str → Option PySem.Value) → (Nat) → (Nat) → (Option (List Code)) → (PySem.Str) → (Scope) → (PySem.Addr) → (PySem.Value) → (List (PySem.Str × PySem.Addr)) → (List Env) → (Around) → (PySem.Heap) → (PySem.Heap) → (PySem.Addr) → (PySem.Str → Option PySem.Value) → (Shared) → (PySem.Value → Shared → Prop) → (PySem.Value → Shared → Prop) → Prop) : PySem.Addr := (pC B).2.2.2.2.2.2.2.2.2.2.1
noncomputable def cC_12 (B : (Program) → (List PySem.Str) → (ExcName → Option PySem.Value) → (PySem.Str → Option PySem.Value) → (PySem.Str → Option PySem.Value) → (Nat) → (Nat) → (Option (List Code)) → (PySem.Str) → (Scope) → (PySem.Addr) → (PySem.Value) → (List (PySem.Str × PySem.Addr)) → (List Env) → (Around) → (PySem.Heap) → (PySem.Heap) → (PySem.Addr) → (PySem.Str → Option PySem.Value) → (Shared) → (PySem.Value → Shared → Prop) → (PySem.Value → Shared → Prop) → Prop) : PySem.Value := (pC B).2.2.2.2.2.2.2.2.2.2.2.1
noncomputable def cC_13 (B : (Program) → (List PySem.Str) → (ExcName → Option PySem.Value) → (PySem.Str → Option PySem.Value) → (PySem.Str → Option PySem.Value) → (Nat) → (Nat) → (Option (List Code)) → (PySem.Str) → (Scope) → (PySem.Addr) → (PySem.Value) → (List (PySem.Str × PySem.Addr)) → (List Env) → (Around) → (PySem.Heap) → (PySem.Heap) → (PySem.Addr) → (PySem.Str → Option PySem.Value) → (Shared) → (PySem.Value → Shared → Prop) → (PySem.Value → Shared → Prop) → Prop) : List (PySem.Str × PySem.Addr) := (pC B).2.2.2.2.2.2.2.2.2.2.2.2.1
noncomputable def cC_14 (B : (Program) → (List PySem.Str) → (ExcName → Option PySem.Value) → (PySem.Str → Option PySem.Value) → (PySem.Str → Option PySem.Value) → (Nat) → (Nat) → (Option (List Code)) → (PySem.Str) → (Scope) → (PySem.Addr) → (PySem.Value) → (List (PySem.Str × PySem.Addr)) → (List Env) → (Around) → (PySem.Heap) → (PySem.Heap) → (PySem.Addr) → (PySem.Str → Option PySem.Value) → (Shared) → (PySem.Value → Shared → Prop) → (PySem.Value → Shared → Prop) → Prop) : List Env := (pC B).2.2.2.2.2.2.2.2.2.2.2.2.2.1
noncomputable def cC_15 (B : (Program) → (List PySem.Str) → (ExcName → Option PySem.Value) → (PySem.Str → Option PySem.Value) → (PySem.Str → Option PySem.Value) → (Nat) → (Nat) → (Option (List Code)) → (PySem.Str) → (Scope) → (PySem.Addr) → (PySem.Value) → (List (PySem.Str × PySem.Addr)) → (List Env) → (Around) → (PySem.Heap) → (PySem.Heap) → (PySem.Addr) → (PySem.Str → Option PySem.Value) → (Shared) → (PySem.Value → Shared → Prop) → (PySem.Value → Shared → Prop) → Prop) : Around := (pC B).2.2.2.2.2.2.2.2.2.2.2.2.2.2.1
noncomputable def cC_16 (B : (Program) → (List PySem.Str) → (ExcName → Option PySem.Value) → (PySem.Str → Option PySem.Value) → (PySem.Str → Option PySem.Value) → (Nat) → (Nat) → (Option (List Code)) → (PySem.Str) → (Scope) → (PySem.Addr) → (PySem.Value) → (List (PySem.Str × PySem.Addr)) → (List Env) → (Around) → (PySem.Heap) → (PySem.Heap) → (PySem.Addr) → (PySem.Str → Option PySem.Value) → (Shared) → (PySem.Value → Shared → Prop) → (PySem.Value → Shared → Prop) → Prop) : PySem.Heap := (pC B).2.2.2.2.2.2.2.2.2.2.2.2.2.2.2.1
noncomputable def cC_17 (B : (Program) → (List PySem.Str) → (ExcName → Option PySem.Value) → (PySem.Str → Option PySem.Value) → (PySem.Str → Option PySem.Value) → (Nat) → (Nat) → (Option (List Code)) → (PySem.Str) → (Scope) → (PySem.Addr) → (PySem.Value) → (List (PySem.Str × PySem.Addr)) → (List Env) → (Around) → (PySem.Heap) → (PySem.Heap) → (PySem.Addr) → (PySem.Str → Option PySem.Value) → (Shared) → (PySem.Value → Shared → Prop) → (PySem.Value → Shared → Prop) → Prop) : PySem.Heap := (pC B).2.2.2.2.2.2.2.2.2.2.2.2.2.2.2.2.1
noncomputable def cC_18 (B : (Program) → (List PySem.Str) → (ExcName → Option PySem.Value) → (PySem.Str → Option PySem.Value) → (PySem.Str → Option PySem.Value) → (Nat) → (Nat) → (Option (List Code)) → (PySem.Str) → (Scope) → (PySem.Addr) → (PySem.Value) → (List (PySem.Str × PySem.Addr)) → (List Env) → (Around) → (PySem.Heap) → (PySem.Heap) → (PySem.Addr) → (PySem.Str → Option PySem.Value) → (Shared) → (PySem.Value → Shared → Prop) → (PySem.Value → Shared → Prop) → Prop) : PySem.Addr := (pC B).2.2.2.2.2.2.2.2.2.2.2.2.2.2.2.2.2.1
noncomputable def cC_19 (B : (Program) → (List PySem.Str) → (ExcName → Option PySem.Value) → (PySem.Str → Option PySem.Value) → (PySem.Str → Option PySem.Value) → (Nat) → (Nat) → (Option (List Code)) → (PySem.Str) → (Scope) → (PySem.Addr) → (PySem.Value) → (List (PySem.Str × PySem.Addr)) → (List Env) → (Around) → (PySem.Heap) → (PySem.Heap) → (PySem.Addr) → (PySem.Str → Option PySem.Value) → (Shared) → (PySem.Value → Shared → Prop) → (PySem.Value → Shared → Prop) → Prop) : PySem.Str → Option PySem.Value := (pC B).2.2.2.2.2.2.2.2.2.2.2.2.2.2.2.2.2.2.1
noncomputable def cC_20 (B : (Program) → (List PySem.Str) → (ExcName → Option PySem.Value) → (PySem.Str → Option PySem.Value) → (PySem.Str → Option PySem.Value) → (Nat) → (Nat) → (Option (List Code)) → (PySem.Str) → (Scope) → (PySem.Addr) → (PySem.Value) → (List (PySem.Str × PySem.Addr)) → (List Env) → (Around) → (PySem.Heap) → (PySem.Heap) → (PySem.Addr) → (PySem.Str → Option PySem.Value) → (Shared) → (PySem.Value → Shared → Prop) → (PySem.Value → Shared → Prop) → Prop) : Shared := (pC B).2.2.2.2.2.2.2.2.2.2.2.2.2.2.2.2.2.2.2.1
noncomputable def cC_21 (B : (Program) → (List PySem.Str) → (ExcName → Option PySem.Value) → (PySem.Str → Option PySem.Value) → (PySem.Str → Option PySem.Value) → (Nat) → (Nat) → (Option (List Code)) → (PySem.Str) → (Scope) → (PySem.Addr) → (PySem.Value) → (List (PySem.Str × PySem.Addr)) → (List Env) → (Around) → (PySem.Heap) → (PySem.Heap) → (PySem.Addr) → (PySem.Str → Option PySem.Value) → (Shared) → (PySem.Value → Shared → Prop) → (PySem.Value → Shared → Prop) → Prop) : PySem.Value → Shared → Prop := (pC B).2.2.2.2.2.2.2.2.2.2.2.2.2.2.2.2.2.2.2.2.1
noncomputable def cC_22 (B : (Program) → (List PySem.Str) → (ExcName → Option PySem.Value) → (PySem.Str → Option PySem.Value) → (PySem.Str → Option PySem.Value) → (Nat) → (Nat) → (Option (List Code)) → (PySem.Str) → (Scope) → (PySem.Addr) → (PySem.Value) → (List (PySem.Str × PySem.Addr)) → (List Env) → (Around) → (PySem.Heap) → (PySem.Heap) → (PySem.Addr) → (PySem.Str → Option PySem.Value) → (Shared) → (PySem.Value → Shared → Prop) → (PySem.Value → Shared → Prop) → Prop) : PySem.Value → Shared → Prop := (pC B).2.2.2.2.2.2.2.2.2.2.2.2.2.2.2.2.2.2.2.2.2
theorem eC {B : (Program) → (List PySem.Str) → (ExcName → Option PySem.Value) → (PySem.Str → Option PySem.Value) → (PySem.Str → Option PySem.Value) → (Nat) → (Nat) → (Option (List Code)) → (PySem.Str) → (Scope) → (PySem.Addr) → (PySem.Value) → (List (PySem.Str × PySem.Addr)) → (List Env) → (Around) → (PySem.Heap) → (PySem.Heap) → (PySem.Addr) → (PySem.Str → Option PySem.Value) → (Shared) → (PySem.Value → Shared → Prop) → (PySem.Value → Shared → Prop) → Prop} (h : B (cC_1 B) (cC_2 B) (cC_3 B) (cC_4 B) (cC_5 B) (cC_6 B) (cC_7 B) (cC_8 B) (cC_9 B) (cC_10 B) (cC_11 B) (cC_12 B) (cC_13 B) (cC_14 B) (cC_15 B) (cC_16 B) (cC_17 B) (cC_18 B) (cC_19 B) (cC_20 B) (cC_21 B) (cC_22 B)) : ∀ p loose mean mg mb dp un gd cn cs a ccd cl outer A base h₀ L m s Q E, B p loose mean mg mb dp un gd cn cs a ccd cl outer A base h₀ L m s Q E := fun p loose mean mg mb dp un gd cn cs a ccd cl outer A base h₀ L m s Q E => ex_all (ne := ne_ctr) (B := fun v => B v.1 v.2.1 v.2.2.1 v.2.2.2.1 v.2.2.2.2.1 v.2.2.2.2.2.1 v.2.2.2.2.2.2.1 v.2.2.2.2.2.2.2.1 v.2.2.2.2.2.2.2.2.1 v.2.2.2.2.2.2.2.2.2.1 v.2.2.2.2.2.2.2.2.2.2.1 v.2.2.2.2.2.2.2.2.2.2.2.1 v.2.2.2.2.2.2.2.2.2.2.2.2.1 v.2.2.2.2.2.2.2.2.2.2.2.2.2.1 v.2.2.2.2.2.2.2.2.2.2.2.2.2.2.1 v.2.2.2.2.2.2.2.2.2.2.2.2.2.2.2.1 v.2.2.2.2.2.2.2.2.2.2.2.2.2.2.2.2.1 v.2.2.2.2.2.2.2.2.2.2.2.2.2.2.2.2.2.1 v.2.2.2.2.2.2.2.2.2.2.2.2.2.2.2.2.2.2.1 v.2.2.2.2.2.2.2.2.2.2.2.2.2.2.2.2.2.2.2.1 v.2.2.2.2.2.2.2.2.2.2.2.2.2.2.2.2.2.2.2.2.1 v.2.2.2.2.2.2.2.2.2.2.2.2.2.2.2.2.2.2.2.2.2) h (p, loose, mean, mg, mb, dp, un, gd, cn, cs, a, ccd, cl, outer, A, base, h₀, L, m, s, Q, E)
end

section
open PySem PySem.W PyProof.Rows PySem.Calls
abbrev Led := List (PySem.Addr × PySem.Obj)
def Keep (sub : Led) (h h' : PySem.Heap) : Prop := ∀ b o, b ∉ sub.map (·.1) → h.get? b = some o → h'.get? b = some o

/-- a call, told over the entries of the ledger that it may see or change -/
abbrev Ctr (lv : Nat) (w : World) (f : PySem.Addr) (sub : Led) (vs : List PySem.Value) (Ret : PySem.Heap → PySem.Value → PySem.Heap → Prop) : Prop :=
  ∀ (p : Program) (loose : List PySem.Str) (mean : ExcName → Option PySem.Value) (mg mb : PySem.Str → Option PySem.Value)
    (dp un : Nat) (gd : Option (List Code)) (cn : PySem.Str) (cs : Scope) (a : PySem.Addr) (ccd : PySem.Value) (cl : List (PySem.Str × PySem.Addr)) (outer : List Env) (A₀ : Around) (base h₀ : PySem.Heap) (L : PySem.Addr) (m : PySem.Str → Option PySem.Value) (s : Shared)
    (Q E : PySem.Value → Shared → Prop),
    Below A₀ base outer h₀ → Fr h₀ L s.heap m → (Mine.hd.heap_39 w.params).In h₀ → News h₀ L s.heap sub → Top p loose mean mg mb h₀ → cs.kind = .function → dp + 3 * lv < recursionLimit → un + 100 * lv < cLine →
    (∀ r h' tk', Ret s.heap r h' → Q r { s with heap := h', toks := tk' }) →
    wpAny (model Mine.row.row.prog w) (ktrTop dp un gd cn cs L a ccd cl outer) (call (.ref f) vs) Q E s

section
variable {prog : Program} {w : World} {A A₀ : Around} {s : Shared} {K : Frag} {L : Addr} {h₀ base : Heap} {m mg mb : Str → Option Value} {news : List (Addr × Obj)} {p : Program} {loose : List Str} {mean : ExcName → Option Value}

/-- what the leaving def kept of its ground -/
theorem leave_kept {h₀ g : Heap} {L : Addr} {m : Str → Option Value} {R : Result → Shared → Prop} {v : Value} {s' : Shared}
    (h : LeaveK h₀ L m g (fun r s'' => (∀ b o, g.get? b = some o → s''.heap.get? b = some o) → R r s'') v s') : LeaveK h₀ L m g R v s' := by
  obtain ⟨L', m', news', F', N', k⟩ := h
  exact ⟨L', m', news', F', N', fun a b => k a b F'.keep⟩

/-- a def entered over a part of the ledger: all else stands in the ground -/
theorem code_sub {env : Env} {outer : List Env} {A : Around} {R : Result → Shared → Prop} {name qual : Str} {params : Arguments} {body : List Stmt} {scope : Scope} {dV kV doc pm cdv ct oc : Value} {an od : Option Addr} {osl : Array (Option Value)} {f : Addr} {args : Args} {binds : List (Str × Value)}
    (B : Below A₀ base outer h₀) (F : Fr h₀ L s.heap m) (X₀ : K.In h₀) (N : News h₀ L s.heap news) (T : Top p loose mean mg mb h₀) (hA : A.frames = some (env :: outer)) (hf : env.frame = some L) (hke : env.scope.kind = .function)
    (ho : K.lookup f = some ⟨oc, od, .func (fnOf name qual params body scope dV kV doc pm an cdv ct), osl⟩) (hcd : codeIn K cdv qual = true) (hroom : A.depth < recursionLimit)
    (hbind : BindsTo s (fnOf name qual params body scope dV kV doc pm an cdv ct) args binds) (hloc : ∀ y ∈ binds, scope.names.lookup y.1 = some .local)
    (h : ∀ g L' h₁, Fr h₀ L g m → Fr g L' h₁ (fun y => binds.reverse.lookup y) → News g L' h₁ news → Below A base (env :: outer) g → K.In g → Top p loose mean mg mb g → Keep news s.heap g → (∀ b o, g.get? b = some o → s.heap.get? b = some o) → (∀ p ∈ news, p.1 < L') →
      wpAny (model prog w) (A.deeper (envOf qual scope L' f cdv)) (execs body (envOf qual scope L' f cdv))
        (fun fl s' => LeaveK h₀ L m g (fun r s'' => (∀ b o, g.get? b = some o → s''.heap.get? b = some o) → R r s'') (match fl with | .ret v => v | _ => .none) s')
        (fun e s' => wpAny (model prog w) (A.deeper (envOf qual scope L' f cdv)) (leaving (envOf qual scope L' f cdv) e) (fun _ s'' => R (.error e) s'') (fun e' s'' => R (.error e') s'') s')
        { s with heap := h₁, toks := s.toks + binds.length })
    (hco : scope.isCoroutine = false) (hgen : scope.isGenerator = false) (hk : scope.kind = .function)
    (hcell : ∀ x ∈ scope.names, x.2 ≠ .cell) : codeAny (model prog w) A (.call (.ref f) args) R s := by
  obtain ⟨FG, BG, st, lv⟩ := groundX (R := R) B F N hA hf hke
  refine codeAny_call_def (fd := fnX name qual params body scope [] dV kV doc pm an cdv ct) (body := body) (binds := binds) hroom ((X₀.keeps F.keep) _ _ ho) rfl (T.nolimit.keeps F.keep) (codeRec_of (X₀.keeps F.keep) hcd) rfl hbind hcell hloc (fun h₁ hns hk₁ => ?_) hco hgen hk
  exact wpAny_mono (h _ s.heap.objs.size h₁ FG ⟨hns, fun b o e => hk₁ b o (of_hideAll _ e), Nat.le_of_eq (hideAll_size _ _)⟩
    (fun p hp => ⟨hk₁ _ _ (N p hp).1, Nat.ne_of_lt (Heap.lt_size (N p hp).1), hideAll_none _ (List.mem_map_of_mem hp)⟩) BG (X₀.keeps st) (T.keeps st) (fun b o hb e => hideAll_get _ e hb) (fun b o e => of_hideAll _ e) (fun p hp => Heap.lt_size (N p hp).1)) (fun fl s' hl => lv _ _ (leave_kept hl)) fun _ _ y => y
end
/-- the end of a walk under a short name, so that the steps do not repeat it -/
theorem hideQ {α : Type} {M : Model} {A : Around} {t : Sem α} {Q : α → Shared → Prop} {E : PySem.Value → Shared → Prop} {s : Shared} (h : ∀ Q' : α → Shared → Prop, (∀ v s', Q v s' → Q' v s') → wpAny M A t Q' (fun _ _ => False) s) : wpAny M A t Q E s :=
  wpAny_noRaise (h Q fun _ _ x => x)
/-- the goal under a short name, while facts are taken apart -/
theorem hideG {G : Prop} (h : ∀ C : Prop, (G → C) → C) : G := h G id
theorem fr_any {h₀ h : PySem.Heap} {L : PySem.Addr} {m : PySem.Str → Option PySem.Value} (F : Fr h₀ L h m) : ∃ m', Fr h₀ L h m' := ⟨m, F⟩
theorem fr_one {h₀ h : PySem.Heap} {L : PySem.Addr} {m : PySem.Str → Option PySem.Value} (a : PySem.Str) {v : PySem.Value} (F : Fr h₀ L h m) (e : m a = some v) : ∃ m' : PySem.Str → Option PySem.Value, Fr h₀ L h (fun y => if y = a then some v else m' y) := by
  refine ⟨m, ?_⟩
  rw [show (fun y => if y = a then some v else m y) = m from funext fun y => by by_cases q : y = a; rw [if_pos q, q, e]; rw [if_neg q]]
  exact F
theorem fr_many {h₀ h : PySem.Heap} {L : PySem.Addr} {m : PySem.Str → Option PySem.Value} (ps : List (PySem.Str × PySem.Value)) (F : Fr h₀ L h m) (e : ∀ p ∈ ps, m p.1 = some p.2) : ∃ m' : PySem.Str → Option PySem.Value, Fr h₀ L h (kstB m' ps) := by
  refine ⟨m, ?_⟩
  rw [show kstB m ps = m from funext fun y => kstB_eq e fun _ => rfl]
  exact F
theorem fmod_e (x : Int) {n : Int} (h : 0 ≤ n) : x.fmod n = x % n := Int.fmod_eq_emod_of_nonneg x h
theorem fdiv_e (x : Int) {n : Int} (h : 0 ≤ n) : x.fdiv n = x / n := Int.fdiv_eq_ediv_of_nonneg x h

set_option maxRecDepth 100000 in
set_option maxHeartbeats 8000000 in
theorem take_told (w : World) (src : Addr) (x y top : Int) (ta tb tt : Tok) (n : Nat) (ha : 0 ≤ x) (hb : 0 ≤ y) (hb2 : y < 2147483647) (ht : 0 < top) (ht2 : top < 1000) :
    Ctr 1 w 112 [(src, listOf #[.int x ta, .int y tb] n)] [.ref src, .int top tt]
      (fun h r h' => ∃ d t a' b' ta' tb' n', r = .int d t ∧ 0 ≤ d ∧ d < top ∧ 0 ≤ a' ∧ 0 ≤ b' ∧ b' < 2147483647 ∧ a' ≤ x ∧ Keep [(src, listOf #[.int x ta, .int y tb] n)] h h' ∧ h'.get? src = some (listOf #[.int a' ta', .int b' tb'] n')) := by
  w_top off
  k_with_none
  k_with "mul_fits" => ((with_reducible show PySem.IntMulOk _ _); (simp (disch := omega) only [fmod_e, fdiv_e, show Int.toNat 0 = 0 from rfl, show Int.toNat 1 = 1 from rfl, List.getD_cons_zero, List.getD_cons_succ]); first | exact PySem.IntMulOk.of_left (PySem.intBits_le_64 (by omega) (by omega)) | exact PySem.IntMulOk.of_right (PySem.intBits_le_64 (by omega) (by omega)))
  k_with "ktr_enter" => (refine' code_sub ?k1Z9 ?k2Z9 ?k3Z9 ?k4Z9 ?k5Z9 ?kAZ9 ?kFZ9 ?kKZ9 ?k6Z9 ?k7Z9 ?k8Z9 ?k9Z9 ?kBZ9 ?_ ?c2Z9 ?c3Z9 ?c4Z9 ?c5Z9; (case kAZ9 => exact rfl); (case kFZ9 => exact rfl); (case kKZ9 => assumption); (case k1Z9 => k_asm); (case k2Z9 => k_asm); (case k3Z9 => k_asm); (case k4Z9 => k_asm); (case k5Z9 => k_asm); (case k6Z9 => k_is); (case k7Z9 => k_is); (case k8Z9 => ktr_room); (case k9Z9 => exact BindsTo.of_eq rfl); (case c5Z9 => decide); (case kBZ9 => exact locs rfl); (case c2Z9 => exact rfl); (case c3Z9 => exact rfl); (case c4Z9 => exact rfl); k_whole; refine e3 ?_; generalize c3_1 _ = gZ9', c3_2 _ = LZ9', c3_3 _ = hZ9'; intro FGZ9' FZ9' NZ9' BZ9' XZ9' TZ9' hKZ9' hSZ9' l1Z9'; (try dsimp only); (try k_lift BZ9'))
  k_with "storeName" => (k_here; k_dflt (refine' storeX_L ?FZ9 ?NZ9 ?_ ?aZ9 ?bZ9; (case FZ9 => k_asm); (case NZ9 => k_asm); (case aZ9 => rfl); (case bZ9 => rfl); k_whole; refine e1 ?_; generalize c1_1 _ = hZ9'; intro FZ9' NZ9'; (try k_sweep)))
  revert w src x y top ta tb tt n
  refine eW ?_
  generalize cW _ = w
  refine e8 ?_
  generalize c8_1 _ = src, c8_2 _ = x, c8_3 _ = y, c8_4 _ = top, c8_5 _ = ta, c8_6 _ = tb, c8_7 _ = tt, c8_8 _ = n
  intro ha hb hb2 ht ht2
  unfold Ctr
  k_fill
  refine eC ?_
  generalize cC_1 _ = p, cC_2 _ = loose, cC_3 _ = mean, cC_4 _ = mg, cC_5 _ = mb, cC_6 _ = dp, cC_7 _ = un, cC_8 _ = gd, cC_9 _ = cn, cC_10 _ = cs, cC_11 _ = a, cC_12 _ = ccd, cC_13 _ = cl, cC_14 _ = outer, cC_15 _ = A₀, cC_16 _ = base, cC_17 _ = h₀, cC_18 _ = L, cC_19 _ = m, cC_20 _ = s, cC_21 _ = Q, cC_22 _ = E
  intro B F X N T hk hd hu hret
  refine wpAny_call ?_
  k_dflt k_extra "ktr_enter"

  k_steps

  all_goals (try (simp (disch := omega) only [fmod_e, fdiv_e, show Int.toNat 0 = 0 from rfl, show Int.toNat 1 = 1 from rfl, List.getD_cons_zero, List.getD_cons_succ] at *))
  · (rename ∀ (b : PySem.Addr) (o : PySem.Obj), PySem.Heap.get? _ b = some o → _ => k2)
    (rename News _ _ _ _ => kN)
    (rename Keep _ _ _ => kK)
    (rename 0 < x => hx)
    refine hret _ _ _ ⟨_, _, _, _, _, _, _, rfl, Int.emod_nonneg _ (by omega), Int.emod_lt_of_pos _ ht, ?_, hb, hb2, ?_, fun c o hc e => k2 c o (kK c o hc e), (kN _ (.head _)).1⟩
    · exact Int.ediv_nonneg ha (by omega)
    · exact Int.ediv_le_self _ ha
  · (rename ∀ (b : PySem.Addr) (o : PySem.Obj), PySem.Heap.get? _ b = some o → _ => k2)
    (rename News _ _ _ _ => kN)
    (rename Keep _ _ _ => kK)
    refine hret _ _ _ ⟨_, _, _, _, _, _, _, rfl, Int.emod_nonneg _ (by omega), Int.emod_lt_of_pos _ ht, ha, Int.emod_nonneg _ (by decide), Int.emod_lt_of_pos _ (by decide), Int.le_refl _, fun c o hc e => k2 c o (kK c o hc e), (kN _ (.head _)).1⟩
end

section
open PySem PySem.W PyProof.Rows PySem.Calls
theorem take_use {w : World} {p : Program} {loose : List PySem.Str} {mean : ExcName → Option PySem.Value} {mg mb : PySem.Str → Option PySem.Value}
    {dp un : Nat} {gd : Option (List Code)} {cn : PySem.Str} {cs : Scope} {a : PySem.Addr} {ccd : PySem.Value} {cl : List (PySem.Str × PySem.Addr)} {outer : List Env} {A₀ : Around} {base h₀ : PySem.Heap} {L : PySem.Addr} {m : PySem.Str → Option PySem.Value} {s : Shared}
    {Q E : PySem.Value → Shared → Prop} {news : Led} {g : PySem.Obj → Led} {src : PySem.Addr} {x y top : Int} {ta tb tt : Tok} {n : Nat}
    (B : Below A₀ base outer h₀) (F : Fr h₀ L s.heap m) (X : (Mine.hd.heap_39 w.params).In h₀) (N : News h₀ L s.heap news) (T : Top p loose mean mg mb h₀) (hk : cs.kind = .function)
    (U : UpdF src (listOf #[.int x ta, .int y tb] n) news g) (ht : 0 < top) (ht2 : top < 1000) (ha : 0 ≤ x) (hb : 0 ≤ y) (hb2 : y < 2147483647)  (hd : dp + 3 * 1 < recursionLimit) (hu : un + 100 * 1 < cLine)
    (k : ∀ d t x' y' ta' tb' n' h' tk', 0 ≤ d → d < top → 0 ≤ x' → 0 ≤ y' → y' < 2147483647 → Fr h₀ L h' m → News h₀ L h' (g (listOf #[.int x' ta', .int y' tb'] n')) → Q (.int d t) { s with heap := h', toks := tk' }) :
    wpAny (model Mine.row.row.prog w) (ktrTop dp un gd cn cs L a ccd cl outer) (call (.ref 112) [.ref src, .int top tt]) Q E s := by
  obtain ⟨pre, post, e1, e2, n1, n2⟩ := U.split
  subst e1
  have D := N (src, listOf #[.int x ta, .int y tb] n) (by simp)
  refine take_told w src x y top ta tb tt n ha hb hb2 ht ht2 p loose mean mg mb dp un gd cn cs a ccd cl outer A₀ base h₀ L m s Q E B F X (fun q hq => ?_) T hk hd hu ?_
  · rw [List.mem_singleton.mp hq]; exact D
  · rintro r h' tk' ⟨d, t, x', y', ta', tb', n', rfl, h1, h2, h3, h4, h5, -, hK, hg⟩
    have keep : ∀ b o, b ≠ src → s.heap.get? b = some o → h'.get? b = some o := fun b o hb e => hK b o (by simpa using hb) e
    have F' : Fr h₀ L h' m := by
      obtain ⟨oL, es, ep, hL, r⟩ := F.ns
      refine ⟨⟨oL, es, ep, keep _ _ (Ne.symm D.2.1) hL, r⟩, fun b o e => keep b o ?_ (F.keep b o e), F.above⟩
      rintro rfl; rw [D.2.2] at e; cases e
    refine k d t x' y' ta' tb' n' h' tk' h1 h2 h3 h4 h5 F' ?_
    rw [e2]
    intro q hq
    rcases List.mem_append.mp hq with hq | hq
    · have P := N q (List.mem_append_left _ hq); exact ⟨keep _ _ (n1 q hq) P.1, P.2⟩
    · rcases List.mem_cons.mp hq with rfl | hq
      · exact ⟨hg, D.2⟩
      · have P := N q (List.mem_append_right _ (.tail _ hq)); exact ⟨keep _ _ (n2 q hq) P.1, P.2⟩


set_option maxRecDepth 100000 in
set_option maxHeartbeats 8000000 in
theorem one_told (w : World) (src tl : Addr) (hne : (tl : Nat) ≠ src) (x y v1 v2 : Int) (ta tb t1 t2 : Tok) (n n2 : Nat) (ha : 0 ≤ x) (hb : 0 ≤ y) (hb2 : y < 2147483647) :
    Ctr 2 w 119 [(tl, listOf #[.int v1 t1, .int v2 t2] n2), (src, listOf #[.int x ta, .int y tb] n)] [.ref src, .ref tl]
      (fun h r h' => ∃ d t a' b' ta' tb' n', r = .int d t ∧ (d = v1 ∨ d = v2) ∧ 0 ≤ a' ∧ 0 ≤ b' ∧ b' < 2147483647 ∧ Keep [(src, listOf #[.int x ta, .int y tb] n)] h h' ∧ h'.get? src = some (listOf #[.int a' ta', .int b' tb'] n')) := by
  w_top off
  k_with_none
  k_with "call ref" => (k_here; (with_reducible show wpAny _ _ (call (Value.ref 112) [Value.ref _, Value.int _ _]) _ _ _); k_dflt (refine' take_use ?BZ9 ?FZ9 ?XZ9 ?NZ9 ?TZ9 ?hkZ9 ?UZ9 ?htZ9 ?ht2Z9 ?haZ9 ?hbZ9 ?hb2Z9 ?hdZ9 ?huZ9 ?_; (case BZ9 => k_asm); (case FZ9 => k_asm); (case XZ9 => k_asm); (case NZ9 => k_asm); (case TZ9 => k_asm); (case hkZ9 => first | exact rfl | assumption); (case UZ9 => k_updF); (case htZ9 => omega); (case ht2Z9 => omega); (case haZ9 => omega); (case hbZ9 => omega); (case hb2Z9 => omega); (case hdZ9 => ktr_room); (case huZ9 => ktr_units); k_whole); refine e9 ?_; generalize c9_1 _ = dZ9', c9_2 _ = tZ9', c9_3 _ = xZ9', c9_4 _ = yZ9', c9_5 _ = taZ9', c9_6 _ = tbZ9', c9_7 _ = nZ9', c9_8 _ = hZ9', c9_9 _ = tkZ9'; intro p1 p2 p3 p4 p5 FZ9' NZ9'; (try dsimp only at NZ9'); (try k_sweep))
  k_with "ktr_enter" => (refine' code_sub ?k1Z9 ?k2Z9 ?k3Z9 ?k4Z9 ?k5Z9 ?kAZ9 ?kFZ9 ?kKZ9 ?k6Z9 ?k7Z9 ?k8Z9 ?k9Z9 ?kBZ9 ?_ ?c2Z9 ?c3Z9 ?c4Z9 ?c5Z9; (case kAZ9 => exact rfl); (case kFZ9 => exact rfl); (case kKZ9 => assumption); (case k1Z9 => k_asm); (case k2Z9 => k_asm); (case k3Z9 => k_asm); (case k4Z9 => k_asm); (case k5Z9 => k_asm); (case k6Z9 => k_is); (case k7Z9 => k_is); (case k8Z9 => ktr_room); (case k9Z9 => exact BindsTo.of_eq rfl); (case c5Z9 => decide); (case kBZ9 => exact locs rfl); (case c2Z9 => exact rfl); (case c3Z9 => exact rfl); (case c4Z9 => exact rfl); k_whole; refine e3 ?_; generalize c3_1 _ = gZ9', c3_2 _ = LZ9', c3_3 _ = hZ9'; intro FGZ9' FZ9' NZ9' BZ9' XZ9' TZ9' hKZ9' hSZ9' l1Z9'; (try dsimp only); (try k_lift BZ9'))
  k_with "storeName" => (k_here; k_dflt (refine' storeX_L ?FZ9 ?NZ9 ?_ ?aZ9 ?bZ9; (case FZ9 => k_asm); (case NZ9 => k_asm); (case aZ9 => rfl); (case bZ9 => rfl); k_whole; refine e1 ?_; generalize c1_1 _ = hZ9'; intro FZ9' NZ9'; (try k_sweep)))
  revert w src tl x y v1 v2 ta tb t1 t2 n n2
  refine eW ?_
  generalize cW _ = w
  refine e2 ?_
  generalize c2_1 _ = src, c2_2 _ = tl
  intro hne
  refine e10 ?_
  generalize c10_1 _ = x, c10_2 _ = y, c10_3 _ = v1, c10_4 _ = v2, c10_5 _ = ta, c10_6 _ = tb, c10_7 _ = t1, c10_8 _ = t2, c10_9 _ = n, c10_10 _ = n2
  intro ha hb hb2
  unfold Ctr
  k_fill
  refine eC ?_
  generalize cC_1 _ = p, cC_2 _ = loose, cC_3 _ = mean, cC_4 _ = mg, cC_5 _ = mb, cC_6 _ = dp, cC_7 _ = un, cC_8 _ = gd, cC_9 _ = cn, cC_10 _ = cs, cC_11 _ = a, cC_12 _ = ccd, cC_13 _ = cl, cC_14 _ = outer, cC_15 _ = A₀, cC_16 _ = base, cC_17 _ = h₀, cC_18 _ = L, cC_19 _ = m, cC_20 _ = s, cC_21 _ = Q, cC_22 _ = E
  intro B F X N T hk hd hu hret
  refine wpAny_call ?_
  k_dflt k_extra "ktr_enter"
  k_steps
  (rename ∀ (b : PySem.Addr) (o : PySem.Obj), PySem.Heap.get? _ b = some o → _ => k2)
  (rename News _ _ _ _ => kN)
  (rename Keep _ _ _ => kK)
  refine hret _ _ _ ⟨_, _, _, _, _, _, _, rfl, ?_, by assumption, by assumption, by assumption, fun c o hc e => ?_, (kN _ (.tail _ (.head _))).1⟩
  · have : ∀ z : Int, 0 ≤ z → z < 2 → [v1, v2].getD z.toNat 0 = v1 ∨ [v1, v2].getD z.toNat 0 = v2 := by
      intro z h1 h2
      rcases (by omega : z = 0 ∨ z = 1) with rfl | rfl
      · exact .inl rfl
      · exact .inr rfl
    exact this _ (by assumption) (by assumption)
  · by_cases q : c = tl
    · subst q
      rw [(N _ (.head _)).1] at e
      rw [(kN _ (.head _)).1]; exact e
    · exact k2 c o (kK c o (by simp only [List.map_cons, List.map_nil, List.mem_cons, List.not_mem_nil, or_false] at hc ⊢; exact fun z => z.elim q hc) e)
end

section
open PySem PySem.W PyProof.Rows PySem.Calls
theorem one_use {w : World} {p : Program} {loose : List PySem.Str} {mean : ExcName → Option PySem.Value} {mg mb : PySem.Str → Option PySem.Value}
    {dp un : Nat} {gd : Option (List Code)} {cn : PySem.Str} {cs : Scope} {a : PySem.Addr} {ccd : PySem.Value} {cl : List (PySem.Str × PySem.Addr)} {outer : List Env} {A₀ : Around} {base h₀ : PySem.Heap} {L : PySem.Addr} {m : PySem.Str → Option PySem.Value} {s : Shared}
    {Q E : PySem.Value → Shared → Prop} {news : Led} {g : PySem.Obj → Led} {src tl : PySem.Addr} {x y v1 v2 : Int} {ta tb t1 t2 : Tok} {n nn : Nat}
    (B : Below A₀ base outer h₀) (F : Fr h₀ L s.heap m) (X : (Mine.hd.heap_39 w.params).In h₀) (N : News h₀ L s.heap news) (T : Top p loose mean mg mb h₀) (hk : cs.kind = .function)
    (hm : (tl, listOf #[.int v1 t1, .int v2 t2] nn) ∈ news) (hne : (tl : Nat) ≠ src)
    (U : UpdF src (listOf #[.int x ta, .int y tb] n) news g) (ha : 0 ≤ x) (hb : 0 ≤ y) (hb2 : y < 2147483647)  (hd : dp + 3 * 2 < recursionLimit) (hu : un + 100 * 2 < cLine)
    (k : ∀ d t x' y' ta' tb' n' h' tk', (d = v1 ∨ d = v2) → 0 ≤ x' → 0 ≤ y' → y' < 2147483647 → Fr h₀ L h' m → News h₀ L h' (g (listOf #[.int x' ta', .int y' tb'] n')) → Q (.int d t) { s with heap := h', toks := tk' }) :
    wpAny (model Mine.row.row.prog w) (ktrTop dp un gd cn cs L a ccd cl outer) (call (.ref 119) [.ref src, .ref tl]) Q E s := by
  obtain ⟨pre, post, e1, e2, n1, n2⟩ := U.split
  subst e1
  have D := N (src, listOf #[.int x ta, .int y tb] n) (by simp)
  refine one_told w src tl hne x y v1 v2 ta tb t1 t2 n nn ha hb hb2 p loose mean mg mb dp un gd cn cs a ccd cl outer A₀ base h₀ L m s Q E B F X (fun q hq => ?_) T hk hd hu ?_
  · rcases List.mem_cons.mp hq with rfl | hq
    · exact N _ hm
    · rw [List.mem_singleton.mp hq]; exact D
  · rintro r h' tk' ⟨d, t, x', y', ta', tb', n', rfl, h1, h3, h4, h5, hK, hg⟩
    have keep : ∀ b o, b ≠ src → s.heap.get? b = some o → h'.get? b = some o := fun b o hb e => hK b o (by simpa using hb) e
    have F' : Fr h₀ L h' m := by
      obtain ⟨oL, es, ep, hL, r⟩ := F.ns
      refine ⟨⟨oL, es, ep, keep _ _ (Ne.symm D.2.1) hL, r⟩, fun b o e => keep b o ?_ (F.keep b o e), F.above⟩
      rintro rfl; rw [D.2.2] at e; cases e
    refine k d t x' y' ta' tb' n' h' tk' h1 h3 h4 h5 F' ?_
    rw [e2]
    intro q hq
    rcases List.mem_append.mp hq with hq | hq
    · have P := N q (List.mem_append_left _ hq); exact ⟨keep _ _ (n1 q hq) P.1, P.2⟩
    · rcases List.mem_cons.mp hq with rfl | hq
      · exact ⟨hg, D.2⟩
      · have P := N q (List.mem_append_right _ (.tail _ hq)); exact ⟨keep _ _ (n2 q hq) P.1, P.2⟩

/-- all that stood stands -/
def Ext (h h' : PySem.Heap) : Prop := ∀ b o, h.get? b = some o → h'.get? b = some o
abbrev tupO (vs : List PySem.Value) (n : Nat) : PySem.Obj := { cls := .type "tuple", data := .seq vs.toArray n }

theorem pure_use {lv : Nat} {w : World} {p : Program} {loose : List PySem.Str} {mean : ExcName → Option PySem.Value} {mg mb : PySem.Str → Option PySem.Value} {f : PySem.Addr} {vs : List PySem.Value} {sub : Led} {Out : PySem.Value → PySem.Heap → PySem.Heap → Prop}
    {dp un : Nat} {gd : Option (List Code)} {cn : PySem.Str} {cs : Scope} {a : PySem.Addr} {ccd : PySem.Value} {cl : List (PySem.Str × PySem.Addr)} {outer : List Env} {A₀ : Around} {base h₀ : PySem.Heap} {L : PySem.Addr} {m : PySem.Str → Option PySem.Value} {s : Shared}
    {Q E : PySem.Value → Shared → Prop} {news : Led}
    (C : Ctr lv w f sub vs (fun h r h' => Ext h h' ∧ Out r h h'))
    (B : Below A₀ base outer h₀) (F : Fr h₀ L s.heap m) (X : (Mine.hd.heap_39 w.params).In h₀) (N : News h₀ L s.heap news) (T : Top p loose mean mg mb h₀) (hk : cs.kind = .function)
    (hs : ∀ p ∈ sub, p ∈ news) (hd : dp + 3 * lv < recursionLimit) (hu : un + 100 * lv < cLine)
    (k : ∀ r h' tk', Out r s.heap h' → Fr h₀ L h' m → News h₀ L h' news → Ext s.heap h' → Q r { s with heap := h', toks := tk' }) :
    wpAny (model Mine.row.row.prog w) (ktrTop dp un gd cn cs L a ccd cl outer) (call (.ref f) vs) Q E s :=
  C p loose mean mg mb dp un gd cn cs a ccd cl outer A₀ base h₀ L m s Q E B F X (fun q hq => N q (hs q hq)) T hk hd hu
    fun r h' tk' h => k r h' tk' h.2 (F.kept h.1) (fun q hq => ⟨h.1 _ _ (N q hq).1, (N q hq).2⟩) h.1

theorem pure_use1 {lv : Nat} {w : World} {p : Program} {loose : List PySem.Str} {mean : ExcName → Option PySem.Value} {mg mb : PySem.Str → Option PySem.Value} {f : PySem.Addr} {vs : List PySem.Value} {q1 : PySem.Addr × PySem.Obj} {Out : PySem.Value → PySem.Heap → PySem.Heap → Prop}
    {dp un : Nat} {gd : Option (List Code)} {cn : PySem.Str} {cs : Scope} {a : PySem.Addr} {ccd : PySem.Value} {cl : List (PySem.Str × PySem.Addr)} {outer : List Env} {A₀ : Around} {base h₀ : PySem.Heap} {L : PySem.Addr} {m : PySem.Str → Option PySem.Value} {s : Shared}
    {Q E : PySem.Value → Shared → Prop} {news : Led}
    (C : Ctr lv w f [q1] vs (fun h r h' => Ext h h' ∧ Out r h h'))
    (B : Below A₀ base outer h₀) (F : Fr h₀ L s.heap m) (X : (Mine.hd.heap_39 w.params).In h₀) (N : News h₀ L s.heap news) (T : Top p loose mean mg mb h₀) (hk : cs.kind = .function)
    (m1 : q1 ∈ news) (hd : dp + 3 * lv < recursionLimit) (hu : un + 100 * lv < cLine)
    (k : ∀ r h' tk', Out r s.heap h' → Fr h₀ L h' m → News h₀ L h' news → Ext s.heap h' → Q r { s with heap := h', toks := tk' }) :
    wpAny (model Mine.row.row.prog w) (ktrTop dp un gd cn cs L a ccd cl outer) (call (.ref f) vs) Q E s :=
  pure_use C B F X N T hk (fun q hq => by
    simp only [List.mem_cons, List.not_mem_nil, or_false] at hq
    rcases hq with rfl <;> assumption) hd hu k

theorem pure_use2 {lv : Nat} {w : World} {p : Program} {loose : List PySem.Str} {mean : ExcName → Option PySem.Value} {mg mb : PySem.Str → Option PySem.Value} {f : PySem.Addr} {vs : List PySem.Value} {q1 q2 : PySem.Addr × PySem.Obj} {Out : PySem.Value → PySem.Heap → PySem.Heap → Prop}
    {dp un : Nat} {gd : Option (List Code)} {cn : PySem.Str} {cs : Scope} {a : PySem.Addr} {ccd : PySem.Value} {cl : List (PySem.Str × PySem.Addr)} {outer : List Env} {A₀ : Around} {base h₀ : PySem.Heap} {L : PySem.Addr} {m : PySem.Str → Option PySem.Value} {s : Shared}
    {Q E : PySem.Value → Shared → Prop} {news : Led}
    (C : Ctr lv w f [q1, q2] vs (fun h r h' => Ext h h' ∧ Out r h h'))
    (B : Below A₀ base outer h₀) (F : Fr h₀ L s.heap m) (X : (Mine.hd.heap_39 w.params).In h₀) (N : News h₀ L s.heap news) (T : Top p loose mean mg mb h₀) (hk : cs.kind = .function)
    (m1 : q1 ∈ news) (m2 : q2 ∈ news) (hd : dp + 3 * lv < recursionLimit) (hu : un + 100 * lv < cLine)
    (k : ∀ r h' tk', Out r s.heap h' → Fr h₀ L h' m → News h₀ L h' news → Ext s.heap h' → Q r { s with heap := h', toks := tk' }) :
    wpAny (model Mine.row.row.prog w) (ktrTop dp un gd cn cs L a ccd cl outer) (call (.ref f) vs) Q E s :=
  pure_use C B F X N T hk (fun q hq => by
    simp only [List.mem_cons, List.not_mem_nil, or_false] at hq
    rcases hq with rfl | rfl <;> assumption) hd hu k

/-- the part of the ledger that stayed, and the ground: all stands -/
theorem ext_of {h₀ h g h' : PySem.Heap} {L : PySem.Addr} {sub news : Led} (N : News h₀ L h sub) (kK : Keep sub h g) (kN : News h₀ L h' news) (hs : ∀ p ∈ sub, p ∈ news) (k2 : ∀ b o, g.get? b = some o → h'.get? b = some o) : Ext h h' := by
  intro b o e
  by_cases hb : b ∈ sub.map (·.1)
  · obtain ⟨q, hq, rfl⟩ := List.mem_map.mp hb
    rw [(N q hq).1] at e
    rw [(kN q (hs q hq)).1]; exact e
  · exact k2 b o (kK b o hb e)

theorem prod_bd {a b A B : Int} (ha : 0 < a) (hA : a ≤ A) (hb : 0 < b) (hB : b ≤ B) : 0 < a * b ∧ a * b ≤ A * B :=
  ⟨Int.mul_pos ha hb, Int.mul_le_mul hA hB (by omega) (by omega)⟩
def colv (top bottom step : Int) : Int := 0 - (0 - (2 * top - step * bottom)) / (2 * step * bottom)


set_option maxRecDepth 100000 in
set_option maxHeartbeats 8000000 in
theorem col_told (w : World) (pl : Addr) (x b st : Int) (t1 t2 t3 : Tok) (n : Nat) (h1 : -100000 < x) (h2 : x < 100000) (h3 : 0 < b) (h4 : b < 1000) (h5 : 0 < st) (h6 : st < 1000) :
    Ctr 3 w 35 [(pl, tupO [.int x t1, .int b t2] n)] [.ref pl, .int st t3] (fun h r h' => Ext h h' ∧ ∃ t, r = .int (colv x b st) t) := by
  w_top off
  k_with_none
  k_with "mul_fits" => ((with_reducible show PySem.IntMulOk _ _); (try simp (disch := omega) only [fmod_e, fdiv_e, show Int.toNat 0 = 0 from rfl, show Int.toNat 1 = 1 from rfl, List.getD_cons_zero, List.getD_cons_succ]); first | exact PySem.IntMulOk.of_left (PySem.intBits_le_64 (by omega) (by omega)) | exact PySem.IntMulOk.of_right (PySem.intBits_le_64 (by omega) (by omega)))
  k_with "ktr_enter" => (refine' code_sub ?k1Z9 ?k2Z9 ?k3Z9 ?k4Z9 ?k5Z9 ?kAZ9 ?kFZ9 ?kKZ9 ?k6Z9 ?k7Z9 ?k8Z9 ?k9Z9 ?kBZ9 ?_ ?c2Z9 ?c3Z9 ?c4Z9 ?c5Z9; (case kAZ9 => exact rfl); (case kFZ9 => exact rfl); (case kKZ9 => assumption); (case k1Z9 => k_asm); (case k2Z9 => k_asm); (case k3Z9 => k_asm); (case k4Z9 => k_asm); (case k5Z9 => k_asm); (case k6Z9 => k_is); (case k7Z9 => k_is); (case k8Z9 => ktr_room); (case k9Z9 => exact BindsTo.of_eq rfl); (case c5Z9 => decide); (case kBZ9 => exact locs rfl); (case c2Z9 => exact rfl); (case c3Z9 => exact rfl); (case c4Z9 => exact rfl); k_whole; refine e3 ?_; generalize c3_1 _ = gZ9', c3_2 _ = LZ9', c3_3 _ = hZ9'; intro FGZ9' FZ9' NZ9' BZ9' XZ9' TZ9' hKZ9' hSZ9' l1Z9'; (try dsimp only); (try k_lift BZ9'))
  k_with "call ref" => (k_here; k_dflt (refine wpAny_call ?_; (refine' code_def ?k1Z9 ?k2Z9 ?k3Z9 ?k4Z9 ?k5Z9 ?kAZ9 ?kFZ9 ?kKZ9 ?k6Z9 ?k7Z9 ?k8Z9 ?k9Z9 ?kBZ9 ?_ ?c2Z9 ?c3Z9 ?c4Z9 ?c5Z9; (case kAZ9 => exact rfl); (case kFZ9 => exact rfl); (case kKZ9 => first | exact rfl | assumption); (case k1Z9 => k_asm); (case k2Z9 => k_asm); (case k3Z9 => k_asm); (case k4Z9 => k_asm); (case k5Z9 => k_asm); (case k6Z9 => k_is); (case k7Z9 => k_is); (case k8Z9 => ktr_room); (case k9Z9 => exact BindsTo.of_eq rfl); (case c5Z9 => decide); (case kBZ9 => exact locs rfl); (case c2Z9 => exact rfl); (case c3Z9 => exact rfl); (case c4Z9 => exact rfl); k_whole; refine e3 ?_; generalize c3_1 _ = gZ9', c3_2 _ = LZ9', c3_3 _ = hZ9'; intro FGZ9' FZ9' NZ9' BZ9' XZ9' TZ9'; (try dsimp only); (try k_lift BZ9'); (try k_fold))))
  k_with "storeName" => (k_here; k_dflt (refine' storeX_L ?FZ9 ?NZ9 ?_ ?aZ9 ?bZ9; (case FZ9 => k_asm); (case NZ9 => k_asm); (case aZ9 => rfl); (case bZ9 => rfl); k_whole; refine e1 ?_; generalize c1_1 _ = hZ9'; intro FZ9' NZ9'; (try k_sweep)))
  revert w pl x b st t1 t2 t3 n
  refine eW ?_
  generalize cW _ = w
  refine e8 ?_
  generalize c8_1 _ = pl, c8_2 _ = x, c8_3 _ = b, c8_4 _ = st, c8_5 _ = t1, c8_6 _ = t2, c8_7 _ = t3, c8_8 _ = n
  intro h1 h2 h3 h4 h5 h6
  unfold Ctr
  k_fill
  refine eC ?_
  generalize cC_1 _ = p, cC_2 _ = loose, cC_3 _ = mean, cC_4 _ = mg, cC_5 _ = mb, cC_6 _ = dp, cC_7 _ = un, cC_8 _ = gd, cC_9 _ = cn, cC_10 _ = cs, cC_11 _ = a, cC_12 _ = ccd, cC_13 _ = cl, cC_14 _ = outer, cC_15 _ = A₀, cC_16 _ = base, cC_17 _ = h₀, cC_18 _ = L, cC_19 _ = m, cC_20 _ = s, cC_21 _ = Q, cC_22 _ = E
  intro B F X N T hk hd hu hret
  obtain ⟨hpos, hlt⟩ : 0 < 2 * st * b ∧ 2 * st * b ≤ 1998 * 999 := prod_bd (by omega) (by omega) h3 (by omega)
  refine wpAny_call ?_
  k_dflt k_extra "ktr_enter"
  k_steps
  (rename ∀ (b : PySem.Addr) (o : PySem.Obj), PySem.Heap.get? _ b = some o → _ => k2)
  (rename News _ _ _ _ => kN)
  (rename Keep _ _ _ => kK)
  refine hret _ _ _ ⟨ext_of N kK kN (fun _ h => h) k2, ⟨_, congrArg (fun z => PySem.Value.int z _) ?_⟩⟩
  rw [fdiv_e _ (Int.le_of_lt hpos)]
  rfl
end

section
open PySem PySem.W PyProof.Rows PySem.Calls
set_option maxRecDepth 100000 in
set_option maxHeartbeats 8000000 in
theorem behind_told (w : World) (pl : Addr) (c x b st : Int) (t0 t1 t2 t3 : Tok) (n : Nat) (h3 : 0 < b) (h4 : b < 1000) (h5 : 0 < st) (h6 : st < 1000) :
    Ctr 1 w 133 [(pl, tupO [.int x t1, .int b t2] n)] [.int c t0, .ref pl, .int st t3] (fun h r h' => Ext h h' ∧ r = .bool (decide (2 * x ≤ (2 * c + 1) * st * b))) := by
  w_top off
  k_with_none
  k_with "mul_fits" => ((with_reducible show PySem.IntMulOk _ _); (try simp (disch := omega) only [fmod_e, fdiv_e, show Int.toNat 0 = 0 from rfl, show Int.toNat 1 = 1 from rfl, List.getD_cons_zero, List.getD_cons_succ]); first | exact PySem.IntMulOk.of_left (PySem.intBits_le_64 (by omega) (by omega)) | exact PySem.IntMulOk.of_right (PySem.intBits_le_64 (by omega) (by omega)))
  k_with "ktr_enter" => (refine' code_sub ?k1Z9 ?k2Z9 ?k3Z9 ?k4Z9 ?k5Z9 ?kAZ9 ?kFZ9 ?kKZ9 ?k6Z9 ?k7Z9 ?k8Z9 ?k9Z9 ?kBZ9 ?_ ?c2Z9 ?c3Z9 ?c4Z9 ?c5Z9; (case kAZ9 => exact rfl); (case kFZ9 => exact rfl); (case kKZ9 => assumption); (case k1Z9 => k_asm); (case k2Z9 => k_asm); (case k3Z9 => k_asm); (case k4Z9 => k_asm); (case k5Z9 => k_asm); (case k6Z9 => k_is); (case k7Z9 => k_is); (case k8Z9 => ktr_room); (case k9Z9 => exact BindsTo.of_eq rfl); (case c5Z9 => decide); (case kBZ9 => exact locs rfl); (case c2Z9 => exact rfl); (case c3Z9 => exact rfl); (case c4Z9 => exact rfl); k_whole; refine e3 ?_; generalize c3_1 _ = gZ9', c3_2 _ = LZ9', c3_3 _ = hZ9'; intro FGZ9' FZ9' NZ9' BZ9' XZ9' TZ9' hKZ9' hSZ9' l1Z9'; (try dsimp only); (try k_lift BZ9'))
  k_with "call ref" => (k_here; k_dflt (refine wpAny_call ?_; (refine' code_def ?k1Z9 ?k2Z9 ?k3Z9 ?k4Z9 ?k5Z9 ?kAZ9 ?kFZ9 ?kKZ9 ?k6Z9 ?k7Z9 ?k8Z9 ?k9Z9 ?kBZ9 ?_ ?c2Z9 ?c3Z9 ?c4Z9 ?c5Z9; (case kAZ9 => exact rfl); (case kFZ9 => exact rfl); (case kKZ9 => first | exact rfl | assumption); (case k1Z9 => k_asm); (case k2Z9 => k_asm); (case k3Z9 => k_asm); (case k4Z9 => k_asm); (case k5Z9 => k_asm); (case k6Z9 => k_is); (case k7Z9 => k_is); (case k8Z9 => ktr_room); (case k9Z9 => exact BindsTo.of_eq rfl); (case c5Z9 => decide); (case kBZ9 => exact locs rfl); (case c2Z9 => exact rfl); (case c3Z9 => exact rfl); (case c4Z9 => exact rfl); k_whole; refine e3 ?_; generalize c3_1 _ = gZ9', c3_2 _ = LZ9', c3_3 _ = hZ9'; intro FGZ9' FZ9' NZ9' BZ9' XZ9' TZ9'; (try dsimp only); (try k_lift BZ9'); (try k_fold))))
  k_with "storeName" => (k_here; k_dflt (refine' storeX_L ?FZ9 ?NZ9 ?_ ?aZ9 ?bZ9; (case FZ9 => k_asm); (case NZ9 => k_asm); (case aZ9 => rfl); (case bZ9 => rfl); k_whole; refine e1 ?_; generalize c1_1 _ = hZ9'; intro FZ9' NZ9'; (try k_sweep)))
  revert w pl c x b st t0 t1 t2 t3 n
  refine eW ?_
  generalize cW _ = w
  refine e10 ?_
  generalize c10_1 _ = pl, c10_2 _ = c, c10_3 _ = x, c10_4 _ = b, c10_5 _ = st, c10_6 _ = t0, c10_7 _ = t1, c10_8 _ = t2, c10_9 _ = t3, c10_10 _ = n
  intro h3 h4 h5 h6
  unfold Ctr
  k_fill
  refine eC ?_
  generalize cC_1 _ = p, cC_2 _ = loose, cC_3 _ = mean, cC_4 _ = mg, cC_5 _ = mb, cC_6 _ = dp, cC_7 _ = un, cC_8 _ = gd, cC_9 _ = cn, cC_10 _ = cs, cC_11 _ = a, cC_12 _ = ccd, cC_13 _ = cl, cC_14 _ = outer, cC_15 _ = A₀, cC_16 _ = base, cC_17 _ = h₀, cC_18 _ = L, cC_19 _ = m, cC_20 _ = s, cC_21 _ = Q, cC_22 _ = E
  intro B F X N T hk hd hu hret
  refine wpAny_call ?_
  k_dflt k_extra "ktr_enter"
  k_steps
  (rename ∀ (b : PySem.Addr) (o : PySem.Obj), PySem.Heap.get? _ b = some o → _ => k2)
  (rename News _ _ _ _ => kN)
  (rename Keep _ _ _ => kK)
  refine hret _ _ _ ⟨ext_of N kK kN (fun _ h => h) k2, rfl⟩

theorem colv_least (x b st c : Int) (h3 : 0 < b) (h5 : 0 < st) : 2 * x ≤ (2 * c + 1) * st * b ↔ colv x b st ≤ c := by
  have hp : 0 < 2 * st * b := Int.mul_pos (by omega) h3
  have e1 : (2 * c + 1) * st * b = c * (2 * st * b) + st * b := by grind
  rw [e1]
  unfold colv
  have e2 : 0 - (0 - (2 * x - st * b)) / (2 * st * b) ≤ c ↔ -c ≤ (-(2 * x - st * b)) / (2 * st * b) := by
    rw [show (0 - (2 * x - st * b)) = -(2 * x - st * b) by omega]; omega
  rw [e2, Int.le_ediv_iff_mul_le hp, Int.neg_mul]
  omega


set_option maxRecDepth 100000 in
set_option maxHeartbeats 8000000 in
theorem colright_told (w : World) (pl : Addr) (x b st : Int) (t1 t2 t3 : Tok) (n : Nat) (h1 : -100000 < x) (h2 : x < 100000) (h3 : 0 < b) (h4 : b < 1000) (h5 : 0 < st) (h6 : st < 1000) :
    Ctr 4 w 140 [(pl, tupO [.int x t1, .int b t2] n)] [.ref pl, .int st t3] (fun h r h' => Ext h h' ∧ r = .bool true) := by
  w_top off
  k_with_none
  k_with "mul_fits" => ((with_reducible show PySem.IntMulOk _ _); (try simp (disch := omega) only [fmod_e, fdiv_e, show Int.toNat 0 = 0 from rfl, show Int.toNat 1 = 1 from rfl, List.getD_cons_zero, List.getD_cons_succ]); first | exact PySem.IntMulOk.of_left (PySem.intBits_le_64 (by omega) (by omega)) | exact PySem.IntMulOk.of_right (PySem.intBits_le_64 (by omega) (by omega)))
  k_with "ktr_enter" => (refine' code_sub ?k1Z9 ?k2Z9 ?k3Z9 ?k4Z9 ?k5Z9 ?kAZ9 ?kFZ9 ?kKZ9 ?k6Z9 ?k7Z9 ?k8Z9 ?k9Z9 ?kBZ9 ?_ ?c2Z9 ?c3Z9 ?c4Z9 ?c5Z9; (case kAZ9 => exact rfl); (case kFZ9 => exact rfl); (case kKZ9 => assumption); (case k1Z9 => k_asm); (case k2Z9 => k_asm); (case k3Z9 => k_asm); (case k4Z9 => k_asm); (case k5Z9 => k_asm); (case k6Z9 => k_is); (case k7Z9 => k_is); (case k8Z9 => ktr_room); (case k9Z9 => exact BindsTo.of_eq rfl); (case c5Z9 => decide); (case kBZ9 => exact locs rfl); (case c2Z9 => exact rfl); (case c3Z9 => exact rfl); (case c4Z9 => exact rfl); k_whole; refine e3 ?_; generalize c3_1 _ = gZ9', c3_2 _ = LZ9', c3_3 _ = hZ9'; intro FGZ9' FZ9' NZ9' BZ9' XZ9' TZ9' hKZ9' hSZ9' l1Z9'; (try dsimp only); (try k_lift BZ9'))
  k_with "call ref" => (k_here; k_dflt (refine wpAny_call ?_; (refine' code_def ?k1Z9 ?k2Z9 ?k3Z9 ?k4Z9 ?k5Z9 ?kAZ9 ?kFZ9 ?kKZ9 ?k6Z9 ?k7Z9 ?k8Z9 ?k9Z9 ?kBZ9 ?_ ?c2Z9 ?c3Z9 ?c4Z9 ?c5Z9; (case kAZ9 => exact rfl); (case kFZ9 => exact rfl); (case kKZ9 => first | exact rfl | assumption); (case k1Z9 => k_asm); (case k2Z9 => k_asm); (case k3Z9 => k_asm); (case k4Z9 => k_asm); (case k5Z9 => k_asm); (case k6Z9 => k_is); (case k7Z9 => k_is); (case k8Z9 => ktr_room); (case k9Z9 => exact BindsTo.of_eq rfl); (case c5Z9 => decide); (case kBZ9 => exact locs rfl); (case c2Z9 => exact rfl); (case c3Z9 => exact rfl); (case c4Z9 => exact rfl); k_whole; refine e3 ?_; generalize c3_1 _ = gZ9', c3_2 _ = LZ9', c3_3 _ = hZ9'; intro FGZ9' FZ9' NZ9' BZ9' XZ9' TZ9'; (try dsimp only); (try k_lift BZ9'); (try k_fold))))
  k_with "call ref" => (k_here; (with_reducible show wpAny _ _ (call (Value.ref 133) [Value.int _ _, Value.ref _, Value.int _ _]) _ _ _); k_dflt (refine' pure_use1 (behind_told _ _ _ _ _ _ _ _ _ _ _ ?h3Z9 ?h4Z9 ?h5Z9 ?h6Z9) ?BZ9 ?FZ9 ?XZ9 ?NZ9 ?TZ9 ?hkZ9 ?hmZ9 ?hdZ9 ?huZ9 ?_; (case BZ9 => k_asm); (case FZ9 => k_asm); (case XZ9 => k_asm); (case NZ9 => k_asm); (case hmZ9 => k_mem); (case TZ9 => k_asm); (case hkZ9 => first | exact rfl | assumption); (case h3Z9 => omega); (case h4Z9 => omega); (case h5Z9 => omega); (case h6Z9 => omega); (case hdZ9 => ktr_room); (case huZ9 => ktr_units); k_whole); refine e3 ?_; generalize c3_1 _ = rZ9', c3_2 _ = hZ9', c3_3 _ = tkZ9'; intro hrZ9' FZ9' NZ9' hXZ9'; subst hrZ9'; clear hXZ9'; (try k_sweep))
  k_with "call ref" => (k_here; (with_reducible show wpAny _ _ (call (Value.ref 35) [Value.ref _, Value.int _ _]) _ _ _); k_dflt (refine' pure_use1 (col_told _ _ _ _ _ _ _ _ _ ?h1Z9 ?h2Z9 ?h3Z9 ?h4Z9 ?h5Z9 ?h6Z9) ?BZ9 ?FZ9 ?XZ9 ?NZ9 ?TZ9 ?hkZ9 ?hmZ9 ?hdZ9 ?huZ9 ?_; (case BZ9 => k_asm); (case FZ9 => k_asm); (case XZ9 => k_asm); (case NZ9 => k_asm); (case hmZ9 => k_mem); (case TZ9 => k_asm); (case hkZ9 => first | exact rfl | assumption); (case h1Z9 => omega); (case h2Z9 => omega); (case h3Z9 => omega); (case h4Z9 => omega); (case h5Z9 => omega); (case h6Z9 => omega); (case hdZ9 => ktr_room); (case huZ9 => ktr_units); k_whole); refine e3 ?_; generalize c3_1 _ = rZ9', c3_2 _ = hZ9', c3_3 _ = tkZ9'; intro hrZ9' FZ9' NZ9' hXZ9'; (obtain ⟨trZ9', hrZ9'⟩ := hrZ9'); subst hrZ9'; clear hXZ9'; (try k_sweep))
  k_with "storeName" => (k_here; k_dflt (refine' storeX_L ?FZ9 ?NZ9 ?_ ?aZ9 ?bZ9; (case FZ9 => k_asm); (case NZ9 => k_asm); (case aZ9 => rfl); (case bZ9 => rfl); k_whole; refine e1 ?_; generalize c1_1 _ = hZ9'; intro FZ9' NZ9'; (try k_sweep)))
  revert w pl x b st t1 t2 t3 n
  refine eW ?_
  generalize cW _ = w
  refine e8 ?_
  generalize c8_1 _ = pl, c8_2 _ = x, c8_3 _ = b, c8_4 _ = st, c8_5 _ = t1, c8_6 _ = t2, c8_7 _ = t3, c8_8 _ = n
  intro h1 h2 h3 h4 h5 h6
  unfold Ctr
  k_fill
  refine eC ?_
  generalize cC_1 _ = p, cC_2 _ = loose, cC_3 _ = mean, cC_4 _ = mg, cC_5 _ = mb, cC_6 _ = dp, cC_7 _ = un, cC_8 _ = gd, cC_9 _ = cn, cC_10 _ = cs, cC_11 _ = a, cC_12 _ = ccd, cC_13 _ = cl, cC_14 _ = outer, cC_15 _ = A₀, cC_16 _ = base, cC_17 _ = h₀, cC_18 _ = L, cC_19 _ = m, cC_20 _ = s, cC_21 _ = Q, cC_22 _ = E
  intro B F X N T hk hd hu hret
  have e1 := (colv_least x b st (colv x b st) h3 h5).mpr (Int.le_refl _)
  have e2 : ¬ 2 * x ≤ (2 * (colv x b st - 1) + 1) * st * b := fun z => by have := (colv_least x b st (colv x b st - 1) h3 h5).mp z; omega
  refine wpAny_call ?_
  k_dflt k_extra "ktr_enter"
  k_steps
  (rename ∀ (b : PySem.Addr) (o : PySem.Obj), PySem.Heap.get? _ b = some o → _ => k2)
  (rename News _ _ _ _ => kN)
  (rename Keep _ _ _ => kK)
  refine hret _ _ _ ⟨ext_of N kK kN (fun _ h => h) k2, ?_⟩
  rw [decide_eq_false e2]; rfl
end

section
open PySem PySem.W PyProof.Rows PySem.Calls
/-- a call over what stands in the heap, told as facts -/
abbrev CtrH (lv : Nat) (w : World) (f : PySem.Addr) (sub : Led) (vs : List PySem.Value) (Hyp : PySem.Heap → Prop) (Ret : PySem.Heap → PySem.Value → PySem.Heap → Prop) : Prop :=
  ∀ (p : Program) (loose : List PySem.Str) (mean : ExcName → Option PySem.Value) (mg mb : PySem.Str → Option PySem.Value)
    (dp un : Nat) (gd : Option (List Code)) (cn : PySem.Str) (cs : Scope) (a : PySem.Addr) (ccd : PySem.Value) (cl : List (PySem.Str × PySem.Addr)) (outer : List Env) (A₀ : Around) (base h₀ : PySem.Heap) (L : PySem.Addr) (m : PySem.Str → Option PySem.Value) (s : Shared)
    (Q E : PySem.Value → Shared → Prop),
    Below A₀ base outer h₀ → Fr h₀ L s.heap m → (Mine.hd.heap_39 w.params).In h₀ → News h₀ L s.heap sub → Top p loose mean mg mb h₀ → cs.kind = .function → dp + 3 * lv < recursionLimit → un + 100 * lv < cLine →
    Hyp s.heap → (∀ r h' tk', Ret s.heap r h' → Q r { s with heap := h', toks := tk' }) →
    wpAny (model Mine.row.row.prog w) (ktrTop dp un gd cn cs L a ccd cl outer) (call (.ref f) vs) Q E s

theorem pureH_use {lv : Nat} {w : World} {p : Program} {loose : List PySem.Str} {mean : ExcName → Option PySem.Value} {mg mb : PySem.Str → Option PySem.Value} {f : PySem.Addr} {vs : List PySem.Value} {sub : Led} {Hyp : PySem.Heap → Prop} {Out : PySem.Value → PySem.Heap → PySem.Heap → Prop}
    {dp un : Nat} {gd : Option (List Code)} {cn : PySem.Str} {cs : Scope} {a : PySem.Addr} {ccd : PySem.Value} {cl : List (PySem.Str × PySem.Addr)} {outer : List Env} {A₀ : Around} {base h₀ : PySem.Heap} {L : PySem.Addr} {m : PySem.Str → Option PySem.Value} {s : Shared}
    {Q E : PySem.Value → Shared → Prop} {news : Led}
    (C : CtrH lv w f sub vs Hyp (fun h r h' => Ext h h' ∧ Out r h h'))
    (B : Below A₀ base outer h₀) (F : Fr h₀ L s.heap m) (X : (Mine.hd.heap_39 w.params).In h₀) (N : News h₀ L s.heap news) (T : Top p loose mean mg mb h₀) (hk : cs.kind = .function)
    (hs : ∀ p ∈ sub, p ∈ news) (hd : dp + 3 * lv < recursionLimit) (hu : un + 100 * lv < cLine) (hH : Hyp s.heap)
    (k : ∀ r h' tk', Out r s.heap h' → Fr h₀ L h' m → News h₀ L h' news → Ext s.heap h' → Q r { s with heap := h', toks := tk' }) :
    wpAny (model Mine.row.row.prog w) (ktrTop dp un gd cn cs L a ccd cl outer) (call (.ref f) vs) Q E s :=
  C p loose mean mg mb dp un gd cn cs a ccd cl outer A₀ base h₀ L m s Q E B F X (fun q hq => N q (hs q hq)) T hk hd hu hH
    fun r h' tk' h => k r h' tk' h.2 (F.kept h.1) (fun q hq => ⟨h.1 _ _ (N q hq).1, (N q hq).2⟩) h.1

theorem fresh_of {sub news : Led} {h g h' : PySem.Heap} {L x : PySem.Addr} {o : PySem.Obj} (kK : Keep sub h g) (N : News g L h' news) (hm : (x, o) ∈ news) (hx : x ∉ sub.map (·.1)) : h.get? x = none := by
  cases q : h.get? x with
  | none => rfl
  | some o' =>
    have := kK x o' hx q
    rw [(N _ hm).2.2] at this; cases this

abbrev sideEs (P : Params) (x1 y1 x2 y2 way : Int) (k1 k2 k3 k4 k5 v1 v2 v3 v4 v5 : Tok) : List DictEntry :=
  [⟨PyData.keyHash P (PySem.Str.ofString "x1"), .str (PySem.Str.ofString "x1") k1, .int x1 v1⟩, ⟨PyData.keyHash P (PySem.Str.ofString "y1"), .str (PySem.Str.ofString "y1") k2, .int y1 v2⟩,
   ⟨PyData.keyHash P (PySem.Str.ofString "x2"), .str (PySem.Str.ofString "x2") k3, .int x2 v3⟩, ⟨PyData.keyHash P (PySem.Str.ofString "y2"), .str (PySem.Str.ofString "y2") k4, .int y2 v4⟩,
   ⟨PyData.keyHash P (PySem.Str.ofString "way"), .str (PySem.Str.ofString "way") k5, .int way v5⟩]
structure Sd where
  x1 : Int
  y1 : Int
  x2 : Int
  y2 : Int
  way : Int
/-- an own side stands at v -/
def SideAt (P : Params) (h : PySem.Heap) (v : PySem.Value) (d : Sd) : Prop :=
  ∃ (x dx : PySem.Addr) (k1 k2 k3 k4 k5 v1 v2 v3 v4 v5 : Tok), v = .ref x ∧ h.get? x = some (instObj 87 dx) ∧ h.get? dx = some (dictOf (sideEs P d.x1 d.y1 d.x2 d.y2 d.way k1 k2 k3 k4 k5 v1 v2 v3 v4 v5) 5)
theorem SideAt.ext {P : Params} {h h' : PySem.Heap} {v : PySem.Value} {d : Sd} (s : SideAt P h v d) (e : Ext h h') : SideAt P h' v d := by
  obtain ⟨x, dx, k1, k2, k3, k4, k5, v1, v2, v3, v4, v5, rfl, a, b⟩ := s
  exact ⟨x, dx, k1, k2, k3, k4, k5, v1, v2, v3, v4, v5, rfl, e _ _ a, e _ _ b⟩
def sideOf (x1 y1 x2 y2 : Int) : Option Sd := if y1 = y2 then none else if y1 < y2 then some ⟨x1, y1, x2, y2, 1⟩ else some ⟨x2, y2, x1, y1, -1⟩
/-- a side just made: neither of its two objects stood before -/
def SideNew (P : Params) (h h' : PySem.Heap) (v : PySem.Value) (d : Sd) : Prop :=
  ∃ (x dx : PySem.Addr) (k1 k2 k3 k4 k5 v1 v2 v3 v4 v5 : Tok), v = .ref x ∧ h'.get? x = some (instObj 87 dx) ∧ h'.get? dx = some (dictOf (sideEs P d.x1 d.y1 d.x2 d.y2 d.way k1 k2 k3 k4 k5 v1 v2 v3 v4 v5) 5) ∧ h.get? x = none ∧ h.get? dx = none
def SideMade (P : Params) (h h' : PySem.Heap) (v : PySem.Value) : Option Sd → Prop
  | none => v = .none
  | some d => SideNew P h h' v d

theorem tup_base {h₀ h : PySem.Heap} {L a : PySem.Addr} {m : PySem.Str → Option PySem.Value} {vs : List PySem.Value} {n : Nat} (F : Fr h₀ L h m) (e : h₀.get? a = some (tupO vs n)) : IsTup h a vs.toArray := ⟨_, F.keep _ _ e, rfl, n, rfl⟩

def FreshIn (h : PySem.Heap) (v : PySem.Value) : Prop := ∀ x, v = .ref x → h.get? x = none
set_option maxRecDepth 100000 in
set_option maxHeartbeats 8000000 in
theorem between_told (w : World) (o1 o2 : Addr) (x1 y1 x2 y2 : Int) (t1 t2 t3 t4 : Tok) (n1 n2 : Nat) :
    CtrH 3 w 98 [] [.ref o1, .ref o2] (fun h => h.get? o1 = some (tupO [.int x1 t1, .int y1 t2] n1) ∧ h.get? o2 = some (tupO [.int x2 t3, .int y2 t4] n2))
      (fun h r h' => Ext h h' ∧ SideMade w.params h h' r (sideOf x1 y1 x2 y2)) := by
  w_top off
  k_with_none
  k_with "mul_fits" => ((with_reducible show PySem.IntMulOk _ _); (try simp (disch := omega) only [fmod_e, fdiv_e, show Int.toNat 0 = 0 from rfl, show Int.toNat 1 = 1 from rfl, List.getD_cons_zero, List.getD_cons_succ]); first | exact PySem.IntMulOk.of_left (PySem.intBits_le_64 (by omega) (by omega)) | exact PySem.IntMulOk.of_right (PySem.intBits_le_64 (by omega) (by omega)))
  k_with "ktr_enter" => (refine' code_sub ?k1Z9 ?k2Z9 ?k3Z9 ?k4Z9 ?k5Z9 ?kAZ9 ?kFZ9 ?kKZ9 ?k6Z9 ?k7Z9 ?k8Z9 ?k9Z9 ?kBZ9 ?_ ?c2Z9 ?c3Z9 ?c4Z9 ?c5Z9; (case kAZ9 => exact rfl); (case kFZ9 => exact rfl); (case kKZ9 => assumption); (case k1Z9 => k_asm); (case k2Z9 => k_asm); (case k3Z9 => k_asm); (case k4Z9 => k_asm); (case k5Z9 => k_asm); (case k6Z9 => k_is); (case k7Z9 => k_is); (case k8Z9 => ktr_room); (case k9Z9 => exact BindsTo.of_eq rfl); (case c5Z9 => decide); (case kBZ9 => exact locs rfl); (case c2Z9 => exact rfl); (case c3Z9 => exact rfl); (case c4Z9 => exact rfl); k_whole; refine e3 ?_; generalize c3_1 _ = gZ9', c3_2 _ = LZ9', c3_3 _ = hZ9'; intro FGZ9' FZ9' NZ9' BZ9' XZ9' TZ9' hKZ9' hSZ9' l1Z9'; (try dsimp only); (try k_lift BZ9'))
  k_with "k_room" => (ktr_room)
  k_with "k_units" => (ktr_units)
  k_with "subscriptTail" => (k_here; (with_reducible show wpAny _ _ (subscriptTail _ _ (Value.ref _) (Value.int _ _)) _ _ _); k_dflt (refine' item_tupleT ?tZ9 ?aZ9 ?bZ9 ?cZ9 ?dZ9 ?_; (case tZ9 => exact tup_base (by k_asm) (by assumption)); (case aZ9 => decide); (case bZ9 => decide); (case cZ9 => rfl); (case dZ9 => rfl); k_whole))
  k_with "storeName" => (k_here; k_dflt (refine' storeX_L ?FZ9 ?NZ9 ?_ ?aZ9 ?bZ9; (case FZ9 => k_asm); (case NZ9 => k_asm); (case aZ9 => rfl); (case bZ9 => rfl); k_whole; refine e1 ?_; generalize c1_1 _ = hZ9'; intro FZ9' NZ9'; (try k_sweep)))
  revert w o1 o2 x1 y1 x2 y2 t1 t2 t3 t4 n1 n2
  refine eW ?_
  generalize cW _ = w
  refine e12 ?_
  generalize c12_1 _ = o1, c12_2 _ = o2, c12_3 _ = x1, c12_4 _ = y1, c12_5 _ = x2, c12_6 _ = y2, c12_7 _ = t1, c12_8 _ = t2, c12_9 _ = t3, c12_10 _ = t4, c12_11 _ = n1, c12_12 _ = n2
  unfold CtrH
  k_fill
  refine eC ?_
  generalize cC_1 _ = p, cC_2 _ = loose, cC_3 _ = mean, cC_4 _ = mg, cC_5 _ = mb, cC_6 _ = dp, cC_7 _ = un, cC_8 _ = gd, cC_9 _ = cn, cC_10 _ = cs, cC_11 _ = a, cC_12 _ = ccd, cC_13 _ = cl, cC_14 _ = outer, cC_15 _ = A₀, cC_16 _ = base, cC_17 _ = h₀, cC_18 _ = L, cC_19 _ = m, cC_20 _ = s, cC_21 _ = Q, cC_22 _ = E
  intro B F X N T hk hd hu hH hret
  refine wpAny_call ?_
  k_dflt k_extra "ktr_enter"
  (rename Keep _ _ _ => kK)
  have e1 := kK _ _ (by simp) hH.1
  have e2 := kK _ _ (by simp) hH.2
  k_steps
  all_goals (rename ∀ (b : PySem.Addr) (o : PySem.Obj), PySem.Heap.get? _ b = some o → _ => k2)
  all_goals (rename News _ _ _ _ => kN)
  · refine hret _ _ _ ⟨ext_of N kK kN (fun _ h => nomatch h) k2, ?_⟩
    rw [show sideOf x1 y1 x2 y2 = none by unfold sideOf; rw [if_pos (by assumption)]]
    rfl
  · refine hret _ _ _ ⟨ext_of N kK kN (fun _ h => nomatch h) k2, ?_⟩
    rw [show sideOf x1 y1 x2 y2 = some ⟨x1, y1, x2, y2, 1⟩ by unfold sideOf; rw [if_neg (by assumption), if_pos (by assumption)]]
    exact ⟨_, _, _, _, _, _, _, _, _, _, _, _, rfl, (kN _ (.head _)).1, (kN _ (.tail _ (.head _))).1, fresh_of kK (by assumption) (.head _) (by simp), fresh_of kK (by assumption) (.tail _ (.head _)) (by simp)⟩
  · refine hret _ _ _ ⟨ext_of N kK kN (fun _ h => nomatch h) k2, ?_⟩
    rw [show sideOf x1 y1 x2 y2 = some ⟨x2, y2, x1, y1, -1⟩ by unfold sideOf; rw [if_neg (by assumption), if_neg (by assumption)]]
    exact ⟨_, _, _, _, _, _, _, _, _, _, _, _, rfl, (kN _ (.head _)).1, (kN _ (.tail _ (.head _))).1, fresh_of kK (by assumption) (.head _) (by simp), fresh_of kK (by assumption) (.tail _ (.head _)) (by simp)⟩
end

section
open PySem PySem.W PyProof.Rows PySem.Calls
section
variable {prog : Program} {w : World} {A A₀ : Around} {s : Shared} {K : Frag} {L : Addr} {h₀ base : Heap} {m mg mb : Str → Option Value} {news : List (Addr × Obj)} {p : Program} {loose : List Str} {mean : ExcName → Option Value}

/-- a def whose inner functions read some of its names: entered over a part of the ledger -/
theorem code_subC {env : Env} {outer : List Env} {A : Around} {R : Result → Shared → Prop} {name qual : Str} {params : Arguments} {body : List Stmt} {scope : Scope} {dV kV doc pm cdv ct oc : Value} {an od : Option Addr} {osl : Array (Option Value)} {f : Addr} {args : Args} {binds : List (Str × Value)}
    (B : Below A₀ base outer h₀) (F : Fr h₀ L s.heap m) (X₀ : K.In h₀) (N : News h₀ L s.heap news) (T : Top p loose mean mg mb h₀) (hA : A.frames = some (env :: outer)) (hf : env.frame = some L) (hke : env.scope.kind = .function)
    (ho : K.lookup f = some ⟨oc, od, .func (fnOf name qual params body scope dV kV doc pm an cdv ct), osl⟩) (hcd : codeIn K cdv qual = true) (hroom : A.depth < recursionLimit)
    (hbind : BindsTo s (fnOf name qual params body scope dV kV doc pm an cdv ct) args binds) (hkind : (binds.all fun y => scope.names.lookup y.1 == some .local || scope.names.lookup y.1 == some .cell) = true)
    (hnd : ((cellsFrom 0 scope.names []).map (·.1)).Nodup)
    (h : ∀ g L' h₁ tk cells, Fr h₀ L g m → Fr g L' h₁ (bindL (envOfC qual scope L' f cdv).kindOf binds fun _ => none) → News g L' h₁ (cells ++ news) →
      CellsAre (bindC (envOfC qual scope L' f cdv).kindOf binds fun _ => none) (cellsFrom (L' + 1) scope.names []) cells → Below A base (env :: outer) g → K.In g → Top p loose mean mg mb g → Keep news s.heap g → (∀ b o, g.get? b = some o → s.heap.get? b = some o) → (∀ p ∈ news, p.1 < L') →
      wpAny (model prog w) (A.deeper (envOfC qual scope L' f cdv)) (execs body (envOfC qual scope L' f cdv))
        (fun fl s' => LeaveK h₀ L m g (fun r s'' => (∀ b o, g.get? b = some o → s''.heap.get? b = some o) → R r s'') (match fl with | .ret v => v | _ => .none) s')
        (fun e s' => wpAny (model prog w) (A.deeper (envOfC qual scope L' f cdv)) (leaving (envOfC qual scope L' f cdv) e) (fun _ s'' => R (.error e) s'') (fun e' s'' => R (.error e') s'') s')
        { s with heap := h₁, toks := tk })
    (hco : scope.isCoroutine = false) (hgen : scope.isGenerator = false) (hk : scope.kind = .function) : codeAny (model prog w) A (.call (.ref f) args) R s := by
  obtain ⟨FG, BG, st, lv⟩ := groundX (R := R) B F N hA hf hke
  have Xs := X₀.keeps F.keep
  refine codeAny_call_function hroom (Xs _ _ ho) rfl hco hgen rfl (codeRec_of Xs hcd) (hbind _ _ _ _ (wpAny_newFunctionEnv_cells hk (kindsX hkind _) fun env' he s' x => ?_))
  subst he
  have kept := x.toInCall.keep
  refine ⟨(T.nolimit.keeps F.keep).keeps kept, codeAny_func ?_⟩
  obtain ⟨h₁, tk, rfl, _⟩ := x.done
  have down : ∀ b o, (hideAll s.heap (news.map (·.1))).get? b = some o → s.heap.get? b = some o := fun b o e => of_hideAll _ e
  obtain ⟨cells, NC, Y⟩ := Cl.news (h₀ := s.heap) (Nat.le_refl _) fun n c hm => ⟨x.cell n c (lookup_of_mem_nodup (cellsFrom_names scope.names 0 (s.heap.objs.size + 1) [] [] rfl ▸ hnd) hm), x.above n c hm⟩
  have NN : News (hideAll s.heap (news.map (·.1))) s.heap.objs.size h₁ (cells ++ news) := fun p hp => by
    rcases List.mem_append.mp hp with hp | hp
    · refine ⟨(NC p hp).1, (NC p hp).2.1, ?_⟩
      cases q : (hideAll s.heap (news.map (·.1))).get? p.1 with
      | none => rfl
      | some o => have := down _ _ q; rw [(NC p hp).2.2] at this; cases this
    · exact ⟨kept _ _ (N p hp).1, Nat.ne_of_lt (Heap.lt_size (N p hp).1), hideAll_none _ (List.mem_map_of_mem hp)⟩
  exact wpAny_mono (h _ s.heap.objs.size h₁ tk cells FG ⟨x.toInCall.ns, fun b o e => kept b o (down b o e), Nat.le_of_eq (hideAll_size _ _)⟩ NN Y BG (X₀.keeps st) (T.keeps st) (fun b o hb e => hideAll_get _ e hb) down fun p hp => Heap.lt_size (N p hp).1)
    (fun fl s' hl => lv _ _ (leave_kept hl)) fun _ _ y => y
end
end

section
open PySem PySem.W PyProof.Rows PySem.Calls PyProof.Rows.LCg
section
variable {prog : Program} {w : World} {A : Around} {E : Value → Shared → Prop} {s : Shared} {h₀ : Heap} {L : Addr} {m : Str → Option Value} {env : Env}

/-- how one turn of a comprehension ends, told with what the next turn needs -/
theorem CompEnd.weaken {s₁ s₂ : Shared} {I C D : Addr} {oI oC oD : Obj} {S S' : List (Addr × Obj) → Prop} {r r' : Value → List (Addr × Obj) → Prop} {y : Value} (h : CompEnd h₀ L m s₁ I oI C oC D oD S r y s₂) (hS : ∀ nx, S nx → S' nx) (hr : ∀ nx, r y nx → r' y nx) : CompEnd h₀ L m s₁ I oI C oC D oD S' r' y s₂ := by
  obtain ⟨h', tk, nx, e, a, b, c, d, f⟩ := h
  exact ⟨h', tk, nx, e, a, b, c, hS _ d, hr _ f⟩

/-- the turns of a comprehension with a name and one test, by an invariant -/
theorem turns_T {ct elt : Expr} {x : Str} {scope : Scope} {cl : List (Str × Addr)} {S : List (Addr × Obj) → Prop} {P : Nat → Value → Prop} {Fin : List Value → List (Addr × Obj) → Prop} (J : Nat → List Value → List (Addr × Obj) → Prop) (n : Nat)
    (turn : ∀ i ys news v I oI C oC D m₂ h tk (E' : Value → Shared → Prop), i < n → J i ys news → P i v → NsObj oC m₂ → m₂ x = some v → Fr h₀ L h m → News h₀ L h ((I, oI) :: (C, oC) :: (D, lst ys) :: news) → Off3 I C D news → ((@Ne Nat I C) ∧ (@Ne Nat I D) ∧ (@Ne Nat C D)) →
      wpAny (model prog w) A (isTrue ct (compEnvC scope cl C env) (eval ct (compEnvC scope cl C env))) (fun ok s' => if ok = true then
        wpAny (model prog w) A (eval elt (compEnvC scope cl C env)) (CompEnd h₀ L m { s with heap := h, toks := tk } I oI C oC D (lst ys) S (fun y nx => J (i + 1) (ys ++ [y]) nx)) E' s'
        else CompEnd h₀ L m { s with heap := h, toks := tk } I oI C oC D (lst ys) S (fun _ nx => J (i + 1) ys nx) Value.none s') E' { s with heap := h, toks := tk })
    (fin : ∀ ys news, J n ys news → Fin ys news) :
    ∀ k i ys news, k + i = n → J i ys news → LCt.CompRestT prog w A h₀ L m env ct elt x scope cl s S P Fin k i ys news
  | 0, i, ys, news, e, hJ => fin _ _ (by rw [show i = n by omega] at hJ; exact hJ)
  | k + 1, i, ys, news, e, hJ => by
    refine LCt.CompRestT.succ fun v I oI C oC D m₂ h tk E' hP hC hx F N off ne => ?_
    refine wpAny_mono (turn i ys news v I oI C oC D m₂ h tk E' (by omega) hJ hP hC hx F N off ne) (fun ok s' hs => ?_) fun _ _ q => q
    cases ok with
    | true =>
      simp only [if_true] at hs ⊢
      exact wpAny_mono hs (fun y s'' q => CompEnd.weaken q (fun _ z => z) fun nx z => turns_T J n turn fin k (i + 1) _ nx (by omega) z) fun _ _ q => q
    | false =>
      simp only [Bool.false_eq_true, if_false] at hs ⊢
      exact CompEnd.weaken hs (fun _ z => z) fun nx z => turns_T J n turn fin k (i + 1) _ nx (by omega) z

/-- the turns of a comprehension with a name and no test, by an invariant -/
theorem turns_U {elt : Expr} {x : Str} {scope : Scope} {cl : List (Str × Addr)} {S : List (Addr × Obj) → Prop} {P : Nat → Value → Prop} {Fin : List Value → List (Addr × Obj) → Prop} (J : Nat → List Value → List (Addr × Obj) → Prop) (n : Nat)
    (turn : ∀ i ys news v I oI C oC D m₂ h tk (E' : Value → Shared → Prop), i < n → J i ys news → P i v → NsObj oC m₂ → m₂ x = some v → Fr h₀ L h m → News h₀ L h ((I, oI) :: (C, oC) :: (D, lst ys) :: news) → Off3 I C D news → ((@Ne Nat I C) ∧ (@Ne Nat I D) ∧ (@Ne Nat C D)) →
      wpAny (model prog w) A (eval elt (compEnvC scope cl C env)) (CompEnd h₀ L m { s with heap := h, toks := tk } I oI C oC D (lst ys) S (fun y nx => J (i + 1) (ys ++ [y]) nx)) E' { s with heap := h, toks := tk })
    (fin : ∀ ys news, J n ys news → Fin ys news) :
    ∀ k i ys news, k + i = n → J i ys news → CompRest prog w A h₀ L m env elt x scope cl s S P Fin k i ys news
  | 0, i, ys, news, e, hJ => fin _ _ (by rw [show i = n by omega] at hJ; exact hJ)
  | k + 1, i, ys, news, e, hJ => by
    refine CompRest.succ fun v I oI C oC D m₂ h tk E' hP hC hx F N off ne => ?_
    exact wpAny_mono (turn i ys news v I oI C oC D m₂ h tk E' (by omega) hJ hP hC hx F N off ne) (fun y s'' q => CompEnd.weaken q (fun _ z => z) fun nx z => turns_U J n turn fin k (i + 1) _ nx (by omega) z) fun _ _ q => q

/-- the loop of a comprehension over pairs, with at most one test -/
theorem pt_loop {elt iter : Expr} {elts : List Expr} {kk : Nat} {tp : Pos} {ifs : List Expr} {scope : Scope} {pos : Pos} {it acc : Value} {cenv : Env} {R : Result → Shared → Prop} (Inv : Nat → Shared → Prop)
    (turn : ∀ n s, Inv n s → wpAny (model prog w) A (pyNext it) (fun r s₁ => match r with
      | none => R (.ok .next) s₁
      | some v => wpAny (model prog w) A (letOwnedTupleGo (.Tuple elts kk tp) it v) (fun _ s₂ => wpAny (model prog w) A (assign (.Tuple elts kk tp) cenv v) (fun _ s₃ =>
          wpAny (model prog w) A (forIn ifs true fun c r => if r = true then do let ok ← isTrue c cenv (eval c cenv); pure (ForInStep.yield ok) else pure (ForInStep.yield r)) (fun ok s₄ =>
            if ok = true then wpAny (model prog w) A (eval elt cenv) (fun x s₅ => wpAny (model prog w) A (call (.builtin "list.append") [acc, x]) (fun _ s₆ => ∃ q, q < n ∧ Inv q s₆) (notedBy (model prog w) A cenv fun e s' => R (.error e) s') s₅) (notedBy (model prog w) A cenv fun e s' => R (.error e) s') s₄
            else ∃ q, q < n ∧ Inv q s₄) (notedBy (model prog w) A cenv fun e s' => R (.error e) s') s₃)
          (notedBy (model prog w) A cenv fun e s' => R (.error e) s') s₂) (notedBy (model prog w) A cenv fun e s' => R (.error e) s') s₁) (notedBy (model prog w) A cenv fun e s' => R (.error e) s') s)
    (n : Nat) (h : Inv n s) : codeAny (model prog w) A (.compLoop (.ListComp elt [⟨.Tuple elts kk tp, iter, ifs, 0⟩] scope pos) 0 it acc cenv) R s := by
  refine codeAny_loop rfl Inv (fun n s hI => ?_) n h
  show wpAny _ A ((compTurn (.ListComp elt [⟨.Tuple elts kk tp, iter, ifs, 0⟩] scope pos) 0 it acc cenv).onRaise (fun x => do noteFrame x cenv; theTreesLotGoes x)) _ _ s
  refine wpAny_noted ?_
  rw [compTurn_list]
  refine wpAny_bind (wpAny_standAt (wpAny_bind (wpAny_mono (turn n s hI) (fun r s₁ h₁ => ?_) fun _ _ z => z)))
  rcases r with _ | v
  · exact wpAny_pure h₁
  refine wpAny_bind (wpAny_mono h₁ (fun _ s₂ h₂ => ?_) fun _ _ z => z)
  refine wpAny_bind (wpAny_mono h₂ (fun _ s₃ h₃ => ?_) fun _ _ z => z)
  refine wpAny_bind (wpAny_mono h₃ (fun ok s₄ h₄ => ?_) fun _ _ z => z)
  rcases ok with _ | _
  · exact wpAny_pure ⟨rfl, h₄⟩
  · refine wpAny_bind (wpAny_bind (wpAny_mono h₄ (fun x s₅ h₅ => ?_) fun _ _ z => z))
    exact wpAny_bind (wpAny_mono h₅ (fun _ s₆ h₆ => wpAny_pure (wpAny_pure ⟨rfl, h₆⟩)) fun _ _ z => z)

/-- a comprehension over a list of the ledger whose entries are pairs of the ground: from the iterable on -/
theorem pt_block {elt iter : Expr} {a b : Str} {pa pb tp : Pos} {kk : Nat} {ifs : List Expr} {scope : Scope} {cl : List (Str × Addr)} {pos : Pos} {l : Addr} {vs : List Value} {nn : Nat} {news : List (Addr × Obj)} {RR : Value → Addr → Result → Shared → Prop} (R : Nat → List Value → List (Addr × Obj) → Prop)
    (hh : A.handled = none) (hl : (l, listOf vs.toArray nn) ∈ news) (hsz : vs.length ≤ sizeLine)
    (hp : ∀ (i : Nat) (v : Value), vs[i]? = some v → ∃ t x y k, v = .ref t ∧ h₀.get? t = some (tupO [x, y] k))
    (hcell : ∀ y ∈ scope.names, y.2 ≠ .cell) (hkind : scope.kind = .function) (hxa : scope.names.lookup a = some .local) (hxb : scope.names.lookup b = some .local) (hab : ¬ a = b)
    (F : Fr h₀ L s.heap m) (N : News h₀ L s.heap news) (hR : R 0 [] news)
    (turn : ∀ i t x y k ys nx I oI C oC D m₂ h tk (E' : Value → Shared → Prop), vs[i]? = some (.ref t) → h₀.get? t = some (tupO [x, y] k) → R i ys nx → (l, listOf vs.toArray nn) ∈ nx → ys.length ≤ i →
      NsObj oC m₂ → m₂ a = some x → m₂ b = some y → Fr h₀ L h m → News h₀ L h ((I, oI) :: (C, oC) :: (D, lst ys) :: nx) → Off3 I C D nx → ((@Ne Nat I C) ∧ (@Ne Nat I D) ∧ (@Ne Nat C D)) →
      wpAny (model prog w) A (forIn ifs true fun c r => if r = true then do let ok ← isTrue c (compEnvC scope cl C env) (eval c (compEnvC scope cl C env)); pure (ForInStep.yield ok) else pure (ForInStep.yield r)) (fun ok s' => if ok = true then
        wpAny (model prog w) A (eval elt (compEnvC scope cl C env)) (CompEnd h₀ L m { s with heap := h, toks := tk } I oI C oC D (lst ys) (fun nx => (l, listOf vs.toArray nn) ∈ nx) (fun z nx => R (i + 1) (ys ++ [z]) nx)) E' s'
        else CompEnd h₀ L m { s with heap := h, toks := tk } I oI C oC D (lst ys) (fun nx => (l, listOf vs.toArray nn) ∈ nx) (fun _ nx => R (i + 1) ys nx) Value.none s') E' { s with heap := h, toks := tk })
    (hRR : ∀ D C h tk m' ys nx, Fr h₀ L h m → News h₀ L h ((D, lst ys) :: nx) → Off1 D nx → h.Ns C m' → h₀.get? C = none → h₀.get? D = none → C ≠ L → D ≠ L → C ≠ D → (∀ p ∈ nx, p.1 ≠ C) → (l, listOf vs.toArray nn) ∈ nx → R vs.length ys nx → RR (.ref D) C (.ok .next) { s with heap := h, toks := tk }) :
    wpAny (model prog w) A (pyIter (.ref l)) (fun it s₂ => wpAny (model prog w) A (newList []) (fun acc s₃ => wpAny (model prog w) A (newFunctionEnv scope env.globals cl [] env.qual none .none (some env)) (fun cenv s₄ =>
      codeAny (model prog w) A (.compStart (.ListComp elt [⟨.Tuple [.Name a pa, .Name b pb] kk tp, iter, ifs, 0⟩] scope pos) 0 it acc { cenv with scope := relabel scope env }) (RR acc cenv.locals) s₄) E s₃) E s₂) E s := by
  have hls : s.heap.IsList l vs.toArray := ⟨_, (N _ hl).1, rfl, nn, rfl⟩
  refine wpAny_pyIter_list hls ?_
  refine wpAny_newObj_type (wpAny_newFunctionEnv hcell (by intro y hy; simp at hy) (fun h₁ hns₁ hsb₁ => ?_) hkind)
  dsimp only at hns₁ hsb₁ ⊢
  -- the three new objects: the iterator, the list, the names
  obtain ⟨I, hI⟩ : ∃ I, I = s.heap.objs.size := ⟨_, rfl⟩
  generalize hH1 : s.heap.push { cls := .type "list_iterator", data := .fields #[.ref l, .int 0 0] } = H1 at hns₁ hsb₁ ⊢
  generalize hH2 : H1.push { cls := .type "list", dict := none, data := .seq ([] : List Value).toArray } = H2 at hns₁ hsb₁ ⊢
  obtain ⟨D, hD⟩ : ∃ D, D = H1.objs.size := ⟨_, rfl⟩
  obtain ⟨C, hC⟩ : ∃ C, C = H2.objs.size := ⟨_, rfl⟩
  rw [← hI, ← hD, ← hC]
  rw [← hC] at hns₁ hsb₁
  have z1 : D = I + 1 := by rw [hD, ← hH1, Heap.size_push, hI]
  have z2 : C = I + 2 := by rw [hC, ← hH2, Heap.size_push, ← hD, z1]
  have old : ∀ c o, c < I → s.heap.get? c = some o → h₁.get? c = some o := fun c o hc e => hsb₁.extBut c o (by rw [z2]; exact Nat.ne_of_lt (Nat.lt_add_right 2 hc)) (Heap.get?_push_of_some _ (hH2 ▸ Heap.get?_push_of_some _ (hH1 ▸ Heap.get?_push_of_some _ e)))
  have up : ∀ c o, s.heap.get? c = some o → c < I := fun c o e => by rw [hI]; exact Heap.lt_size e
  have nI : I ≠ C := by rw [z2]; exact Nat.ne_of_lt (Nat.lt_add_of_pos_right (by decide))
  have nID : I ≠ D := by rw [z1]; exact Nat.ne_of_lt (Nat.lt_succ_self _)
  have nDC : D ≠ C := by rw [z1, z2]; exact Nat.ne_of_lt (Nat.lt_succ_self _)
  have gI : h₁.get? I = some { cls := .type "list_iterator", data := .fields #[.ref l, .int 0 0] } :=
    hsb₁.extBut I _ nI (Heap.get?_push_of_some _ (hH2 ▸ Heap.get?_push_of_some _ (hI ▸ hH1 ▸ Heap.get?_push_size _ rfl)))
  have gD : h₁.get? D = some (lst []) := hsb₁.extBut D _ nDC (Heap.get?_push_of_some _ (hD ▸ hH2 ▸ Heap.get?_push_size _ rfl))
  have none₀ : ∀ c, I ≤ c → h₀.get? c = none := fun c hc => by
    cases e : h₀.get? c with
    | none => rfl
    | some o => exact absurd (up c o (F.keep c o e)) (Nat.not_lt.mpr hc)
  have kI := none₀ I (Nat.le_refl _)
  have kD := none₀ D (by rw [z1]; exact Nat.le_succ _)
  have kC := none₀ C (by rw [z2]; exact Nat.le_add_right _ _)
  have hL : L < I := by rw [hI]; exact F.ns.lt
  have nLI : L ≠ I := Nat.ne_of_lt hL
  have nDL : D ≠ L := by rw [z1]; exact Ne.symm (Nat.ne_of_lt (Nat.lt_succ_of_lt hL))
  have nCL : C ≠ L := by rw [z2]; exact Ne.symm (Nat.ne_of_lt (Nat.lt_add_right 2 hL))
  have below : ∀ p ∈ news, p.1 < I := fun p hp => up _ _ (N p hp).1
  have off₀ : Off3 I C D news := Off3.of fun p hp => ⟨Nat.ne_of_lt (below p hp), by rw [z2]; exact Nat.ne_of_lt (Nat.lt_add_right 2 (below p hp)), by rw [z1]; exact Nat.ne_of_lt (Nat.lt_succ_of_lt (below p hp))⟩
  have hlI : l ≠ I := Nat.ne_of_lt (below _ hl)
  have W := Walks.list (prog := prog) (w := w) (A := A) hh I l hlI vs.toArray
  have F₁ : Fr h₀ L h₁ m := F.keeps fun c o e => old c o (up c o e) e
  have N₁ : News h₀ L h₁ ((D, lst []) :: news) := fun p hp => by
    rcases List.mem_cons.mp hp with rfl | hp
    · exact ⟨gD, nDL, kD⟩
    · exact ⟨old _ _ (below p hp) (N p hp).1, (N p hp).2⟩
  have st₁ : h₁.IsListIter I l 0 ∧ h₁.IsList l vs.toArray := ⟨⟨_, gI, rfl, rfl⟩, ⟨_, (N₁ _ (.tail _ hl)).1, rfl, nn, rfl⟩⟩
  have loop : codeAny (model prog w) A (.compLoop (.ListComp elt [⟨.Tuple [.Name a pa, .Name b pb] kk tp, iter, ifs, 0⟩] scope pos) 0 (.ref I) (.ref D) (compEnvC scope cl C env)) (RR (.ref D) C)
      { s with heap := h₁, toks := s.toks + ([] : List (Str × Value)).length } := by
    refine pt_loop (fun q s' => ∃ h' tk i ys m' nx, s' = { s with heap := h', toks := tk } ∧ i ≤ vs.length ∧ q = vs.length - i ∧ ys.length ≤ i ∧ (h'.IsListIter I l i ∧ h'.IsList l vs.toArray) ∧ Fr h₀ L h' m ∧ h'.Ns C m' ∧ News h₀ L h' ((D, lst ys) :: nx) ∧ Off3 I C D nx ∧ (l, listOf vs.toArray nn) ∈ nx ∧ R i ys nx) ?_ vs.length
      ⟨h₁, _, 0, [], _, news, rfl, Nat.zero_le _, rfl, Nat.le_refl _, st₁, F₁, hns₁, N₁, off₀, hl, hR⟩
    intro q s' hJ9
    refine hideG fun C8 hC8 => ?_
    obtain ⟨h', tk, i, ys, m', nx, rfl, hi, rfl, hy, st, F', n', N', off', hl', hR'⟩ := hJ9
    refine hC8 ?_
    clear hC8
    have o3 := off'.mem
    by_cases hlt : i < vs.length
    · refine W.item i _ _ _ (by simpa using hlt) st fun v h₂ tk₂ hv st₂ k₂ => ?_
      have hv' : vs[i]? = some v := by simpa using hv
      refine hideG fun C8 hC8 => ?_
      obtain ⟨t, x, y, k, rfl, ht⟩ := hp i v hv'
      refine hC8 ?_
      clear hC8
      have k₂' : ∀ c o, c ≠ I → h'.get? c = some o → h₂.get? c = some o := fun c o hc e => k₂ c o (by simpa using hc) e
      have t₂ : h₂.IsTuple t #[x, y] := ⟨_, k₂' _ _ (fun e => by rw [e, kI] at ht; cases ht) (F'.keep _ _ ht), rfl, k, rfl⟩
      refine wpAny_letOwnedTupleGo_listiter st₂.1 ?_
      refine kcp_assign (env := compEnvC scope cl C env) hh t₂ (lookup_relabel_local hxa) (lookup_relabel_local hxb) (by simp [compEnvC, relabel, hkind]) (n'.at' fun o e => k₂' _ o (Ne.symm nI) e) fun h₃ tk₃ n₃ k₃ => ?_
      have both : ∀ c o, c ≠ I → c ≠ C → h'.get? c = some o → h₃.get? c = some o := fun c o h1 h2 e => k₃ c o h2 (k₂' c o h1 e)
      have st₃ : h₃.IsListIter I l (i + 1) ∧ h₃.IsList l vs.toArray := W.frame _ _ _ st₂ fun c hc o e => k₃ c o (by
        rcases List.mem_cons.mp hc with rfl | hc
        · exact nI
        · rw [List.mem_singleton.mp hc]; exact (o3 _ hl').2.1) e
      refine hideG fun C8 hC8 => ?_
      obtain ⟨oI, eI⟩ : ∃ o, h₃.get? I = some o := let ⟨o, e, _⟩ := st₃.1; ⟨o, e⟩
      obtain ⟨oC, eC, hoC⟩ := ns_obj n₃
      refine hC8 ?_
      clear hC8
      have F₃ : Fr h₀ L h₃ m := ⟨F'.ns.at' fun o e => both _ o nLI (Ne.symm nCL) e, fun c o e => both c o (fun z => by rw [z, kI] at e; cases e) (fun z => by rw [z, kC] at e; cases e) (F'.keep c o e), F'.above⟩
      have N₃ : News h₀ L h₃ ((I, oI) :: (C, oC) :: (D, lst ys) :: nx) := fun p hp => by
        rcases List.mem_cons.mp hp with rfl | hp
        · exact ⟨eI, Ne.symm nLI, kI⟩
        rcases List.mem_cons.mp hp with rfl | hp
        · exact ⟨eC, nCL, kC⟩
        have nn' := N' p hp
        rcases List.mem_cons.mp hp with rfl | hp
        · exact ⟨both _ _ (Ne.symm nID) nDC nn'.1, nn'.2⟩
        · exact ⟨both _ _ (o3 p hp).1 (o3 p hp).2.1 nn'.1, nn'.2⟩
      have again : ∀ (ys' : List Value) (h₅ : Heap) (tk₅ : Nat) (nx₅ : List (Addr × Obj)), ys'.length ≤ i + 1 → Fr h₀ L h₅ m → News h₀ L h₅ ((I, oI) :: (C, oC) :: (D, lst ys') :: nx₅) → Off3 I C D nx₅ → (l, listOf vs.toArray nn) ∈ nx₅ → R (i + 1) ys' nx₅ →
          ∃ q, q < vs.length - i ∧ ∃ h' tk i ys m' nx, ({ s with heap := h₅, toks := tk₅ } : Shared) = { s with heap := h', toks := tk } ∧ i ≤ vs.length ∧ q = vs.length - i ∧ ys.length ≤ i ∧ (h'.IsListIter I l i ∧ h'.IsList l vs.toArray) ∧ Fr h₀ L h' m ∧ h'.Ns C m' ∧ News h₀ L h' ((D, lst ys) :: nx) ∧ Off3 I C D nx ∧ (l, listOf vs.toArray nn) ∈ nx ∧ R i ys nx :=
        fun ys' h₅ tk₅ nx₅ hy₅ F₅ N₅ off₅ hl₅ hR₅ => by
          have e1 := (N₅ _ (.head _)).1
          have e2 := (N₅ _ (.tail _ (.head _))).1
          have e3 := (N₅ _ (.tail _ (.tail _ (.tail _ hl₅)))).1
          obtain ⟨oJ, eJ, hJ⟩ := st₃.1
          rw [eI] at eJ; cases eJ
          exact ⟨vs.length - (i + 1), by omega, h₅, tk₅, i + 1, ys', _, nx₅, rfl, hlt, rfl, hy₅, ⟨⟨oI, e1, hJ⟩, ⟨_, e3, rfl, nn, rfl⟩⟩, F₅, hoC.ns e2, fun p hp => N₅ p (.tail _ (.tail _ hp)), off₅, hl₅, hR₅⟩
      refine wpAny_mono (turn i t x y k ys nx I oI C oC D _ h₃ tk₃ _ hv' ht hR' hl' hy hoC (by simp [hab]) (by simp) F₃ N₃ off' ⟨nI, nID, Ne.symm nDC⟩) (fun ok s₄ h₄ => ?_) fun _ _ z => z
      rcases ok with _ | _
      · simp only [Bool.false_eq_true, if_false] at h₄ ⊢
        obtain ⟨h₅, tk₅, nx₅, rfl, F₅, N₅, off₅, hl₅, hR₅⟩ := h₄
        exact again ys h₅ tk₅ nx₅ (Nat.le_succ_of_le hy) F₅ N₅ off₅ hl₅ hR₅
      · simp only [if_true] at h₄ ⊢
        refine wpAny_mono h₄ (fun z s₅ h₅ => ?_) fun _ _ z => z
        obtain ⟨h₅, tk₅, nx₅, rfl, F₅, N₅, off₅, hl₅, hR₅⟩ := h₅
        have e3 := (N₅ _ (.tail _ (.tail _ (.head _)))).1
        refine append_at (hsz := by show ys.toArray.size ≤ sizeLine; rw [List.size_toArray]; exact Nat.le_trans hy (Nat.le_trans hi hsz)) e3 fun h₆ sb gD₆ => ?_
        have o5 := off₅.mem
        refine again (ys ++ [z]) h₆ _ nx₅ (by rw [List.length_append, List.length_singleton]; exact Nat.succ_le_succ hy) (F₅.change sb nDL kD) (fun p hp => ?_) off₅ hl₅ hR₅
        have nn' := fun hq => N₅ p hq
        rcases List.mem_cons.mp hp with rfl | hp
        · exact ⟨sb.extBut _ _ nID (N₅ _ (.head _)).1, Ne.symm nLI, kI⟩
        rcases List.mem_cons.mp hp with rfl | hp
        · exact ⟨sb.extBut _ _ (Ne.symm nDC) (N₅ _ (.tail _ (.head _))).1, nCL, kC⟩
        rcases List.mem_cons.mp hp with rfl | hp
        · exact ⟨gD₆.trans (congrArg some (lst_snoc ys z)), nDL, kD⟩
        · have e5 := N₅ p (.tail _ (.tail _ (.tail _ hp)))
          exact ⟨sb.extBut _ _ (o5 p hp).2.2 e5.1, e5.2⟩
    · obtain rfl : i = vs.length := Nat.le_antisymm hi (Nat.not_lt.mp hlt)
      refine W.done _ _ _ (by simpa using st) fun h₂ tk₂ k₂ => ?_
      have k₂' : ∀ c o, c ≠ I → h'.get? c = some o → h₂.get? c = some o := fun c o hc e => k₂ c o (by simpa using hc) e
      refine hRR D C h₂ tk₂ _ ys nx (fr_but F' k₂ nLI kI) (fun p hp => ?_) off'.one (n'.at' fun o e => k₂' _ o (Ne.symm nI) e) kC kD nCL nDL (Ne.symm nDC) (fun p hp => (o3 p hp).2.1) hl' hR'
      have nn' := N' p hp
      rcases List.mem_cons.mp hp with rfl | hp
      · exact ⟨k₂' _ _ (Ne.symm nID) nn'.1, nn'.2⟩
      · exact ⟨k₂' _ _ (o3 p hp).1 nn'.1, nn'.2⟩
  exact codeAny_compStart_list loop (W.self 0 _ _ _ st₁ loop)
/-- a list comprehension over pairs, as a value -/
theorem pair_eval {elt iter : Expr} {a b : Str} {pa pb tp : Pos} {kk : Nat} {ifs : List Expr} {scope : Scope} {cl : List (Str × Addr)} {pos : Pos} {l : Addr} {vs : List Value} {nn : Nat} {news : List (Addr × Obj)} {Q : Value → Shared → Prop} (R : Nat → List Value → List (Addr × Obj) → Prop)
    (hh : A.handled = none) (hl : (l, listOf vs.toArray nn) ∈ news) (hsz : vs.length ≤ sizeLine)
    (hp : ∀ (i : Nat) (v : Value), vs[i]? = some v → ∃ t x y k, v = .ref t ∧ h₀.get? t = some (tupO [x, y] k))
    (hclos : closureFor scope env = pure cl) (hcell : ∀ y ∈ scope.names, y.2 ≠ .cell) (hkind : scope.kind = .function) (hnames : ∀ y ∈ scope.names, y.2 = .local → scope.names.lookup y.1 = some .local)
    (hxa : scope.names.lookup a = some .local) (hxb : scope.names.lookup b = some .local) (hab : ¬ a = b)
    (F : Fr h₀ L s.heap m) (N : News h₀ L s.heap news) (hR : R 0 [] news)
    (hev : ∀ Q' : Value → Shared → Prop, Q' (.ref l) s → wpAny (model prog w) A (eval iter env) Q' E s)
    (turn : ∀ i t x y k ys nx I oI C oC D m₂ h tk (E' : Value → Shared → Prop), vs[i]? = some (.ref t) → h₀.get? t = some (tupO [x, y] k) → R i ys nx → (l, listOf vs.toArray nn) ∈ nx → ys.length ≤ i →
      NsObj oC m₂ → m₂ a = some x → m₂ b = some y → Fr h₀ L h m → News h₀ L h ((I, oI) :: (C, oC) :: (D, lst ys) :: nx) → Off3 I C D nx → ((@Ne Nat I C) ∧ (@Ne Nat I D) ∧ (@Ne Nat C D)) →
      wpAny (model prog w) A (forIn ifs true fun c r => if r = true then do let ok ← isTrue c (compEnvC scope cl C env) (eval c (compEnvC scope cl C env)); pure (ForInStep.yield ok) else pure (ForInStep.yield r)) (fun ok s' => if ok = true then
        wpAny (model prog w) A (eval elt (compEnvC scope cl C env)) (CompEnd h₀ L m { s with heap := h, toks := tk } I oI C oC D (lst ys) (fun nx => (l, listOf vs.toArray nn) ∈ nx) (fun z nx => R (i + 1) (ys ++ [z]) nx)) E' s'
        else CompEnd h₀ L m { s with heap := h, toks := tk } I oI C oC D (lst ys) (fun nx => (l, listOf vs.toArray nn) ∈ nx) (fun _ nx => R (i + 1) ys nx) Value.none s') E' { s with heap := h, toks := tk })
    (done : ∀ D h tk ys nx, R vs.length ys nx → (l, listOf vs.toArray nn) ∈ nx → Fr h₀ L h m → News h₀ L h ((D, lst ys) :: nx) → Off1 D nx → Q (.ref D) { s with heap := h, toks := tk })
    (hs : ∀ x, foldedSetIterable iter env x = pure x := by intro _; rfl) :
    wpAny (model prog w) A (eval (.ListComp elt [⟨.Tuple [.Name a pa, .Name b pb] kk tp, iter, ifs, 0⟩] scope pos) env) Q E s := by
  rw [eval_ListComp]
  refine wpAny_comprehension_free (use := none) rfl hs hclos hkind hnames (hev _ ?_)
  refine pt_block R hh hl hsz hp hcell hkind hxa hxb hab F N hR turn fun D C h tk m' ys nx F' N' o1 hn kC kD nCL nDL nCD oC hl' hR' => ?_
  refine ⟨m', hn, fun h'' sb => done D h'' tk ys nx hR' hl' (F'.change sb nCL kC) (fun p hp => ?_) o1⟩
  refine ⟨sb.extBut _ _ ?_ (N' p hp).1, (N' p hp).2⟩
  rcases List.mem_cons.mp hp with rfl | hp
  · exact Ne.symm nCD
  · exact oC p hp

/-- a list comprehension over pairs, put under a name -/
theorem pair_assign {elt iter : Expr} {a b z : Str} {pa pb pz tp : Pos} {kk : Nat} {ifs : List Expr} {scope : Scope} {cl : List (Str × Addr)} {pos spos : Pos} {l : Addr} {vs : List Value} {nn : Nat} {news : List (Addr × Obj)} {Q : Flow → Shared → Prop} (R : Nat → List Value → List (Addr × Obj) → Prop)
    (hLe : env.locals = L) (hsw : swapsWith (.ListComp elt [⟨.Tuple [.Name a pa, .Name b pb] kk tp, iter, ifs, 0⟩] scope pos) (some (.Name z pz)) spos.line env = pure true)
    (hz : env.kindOf z = some .local) (hpl : (env.scope.kind == .class || (env.scope.kind == .module && env.locals != env.globals)) = false)
    (hh : A.handled = none) (hl : (l, listOf vs.toArray nn) ∈ news) (hsz : vs.length ≤ sizeLine)
    (hp : ∀ (i : Nat) (v : Value), vs[i]? = some v → ∃ t x y k, v = .ref t ∧ h₀.get? t = some (tupO [x, y] k))
    (hclos : closureFor scope env = pure cl) (hcell : ∀ y ∈ scope.names, y.2 ≠ .cell) (hkind : scope.kind = .function) (hnames : ∀ y ∈ scope.names, y.2 = .local → scope.names.lookup y.1 = some .local)
    (hxa : scope.names.lookup a = some .local) (hxb : scope.names.lookup b = some .local) (hab : ¬ a = b)
    (F : Fr h₀ L s.heap m) (N : News h₀ L s.heap news) (hR : R 0 [] news)
    (hev : ∀ Q' : Value → Shared → Prop, Q' (.ref l) s → wpAny (model prog w) A (eval iter env) Q' E s)
    (turn : ∀ i t x y k ys nx I oI C oC D m₂ h tk (E' : Value → Shared → Prop), vs[i]? = some (.ref t) → h₀.get? t = some (tupO [x, y] k) → R i ys nx → (l, listOf vs.toArray nn) ∈ nx → ys.length ≤ i →
      NsObj oC m₂ → m₂ a = some x → m₂ b = some y → Fr h₀ L h m → News h₀ L h ((I, oI) :: (C, oC) :: (D, lst ys) :: nx) → Off3 I C D nx → ((@Ne Nat I C) ∧ (@Ne Nat I D) ∧ (@Ne Nat C D)) →
      wpAny (model prog w) A (forIn ifs true fun c r => if r = true then do let ok ← isTrue c (compEnvC scope cl C env) (eval c (compEnvC scope cl C env)); pure (ForInStep.yield ok) else pure (ForInStep.yield r)) (fun ok s' => if ok = true then
        wpAny (model prog w) A (eval elt (compEnvC scope cl C env)) (CompEnd h₀ L m { s with heap := h, toks := tk } I oI C oC D (lst ys) (fun nx => (l, listOf vs.toArray nn) ∈ nx) (fun z nx => R (i + 1) (ys ++ [z]) nx)) E' s'
        else CompEnd h₀ L m { s with heap := h, toks := tk } I oI C oC D (lst ys) (fun nx => (l, listOf vs.toArray nn) ∈ nx) (fun _ nx => R (i + 1) ys nx) Value.none s') E' { s with heap := h, toks := tk })
    (done : ∀ D h tk ys nx, R vs.length ys nx → (l, listOf vs.toArray nn) ∈ nx → Fr h₀ L h (fun q => if q = z then some (.ref D) else m q) → News h₀ L h ((D, lst ys) :: nx) → Off1 D nx → Q .next { s with heap := h, toks := tk })
    (hs : ∀ x, foldedSetIterable iter env x = pure x := by intro _; rfl) :
    wpAny (model prog w) A (exec (.Assign [.Name z pz] (.ListComp elt [⟨.Tuple [.Name a pa, .Name b pb] kk tp, iter, ifs, 0⟩] scope pos) spos) env) Q E s := by
  subst hLe
  rw [exec_Assign_Name_used _ _ _ _ hsw]
  refine wpAny_bind (wpAny_standAt (wpAny_bind ?_))
  show wpAny _ A (do let _ ← comprehension (.ListComp elt [⟨.Tuple [.Name a pa, .Name b pb] kk tp, iter, ifs, 0⟩] scope pos) scope env _ (newList []) false (eval iter env) (some (assign (.Name z pz) env))) _ _ s
  refine wpAny_bind (wpAny_mono (wpAny_comprehension_free (use := some (assign (.Name z pz) env)) (Q := fun _ s' => Q .next s') rfl hs hclos hkind hnames (hev _ ?_)) (fun _ s' q => wpAny_pure (wpAny_pure q)) fun _ _ q => q)
  refine pt_block R hh hl hsz hp hcell hkind hxa hxb hab F N hR turn fun D C h tk m' ys nx F' N' o1 hn kC kD nCL nDL nCD oC hl' hR' => ?_
  show wpAny _ A (assign (.Name z pz) env (.ref D)) _ _ _
  refine wpAny_assign_Name (wpAny_storeName_local hz F'.ns (fun h₂ n₂ sb₂ => ?_) hpl)
  have kL : h₀.get? env.locals = none := Heap.get?_none_of_le F'.above
  have F₂ : Fr h₀ env.locals h₂ (fun q => if q = z then some (.ref D) else m q) := ⟨n₂, fun c o e => sb₂.extBut c o (fun q => by rw [q, kL] at e; cases e) (F'.keep c o e), F'.above⟩
  refine ⟨m', hn.sameBut sb₂ nCL, fun h'' sb => done D h'' _ ys nx hR' hl' (F₂.change sb nCL kC) (fun p hp => ?_) o1⟩
  refine ⟨sb.extBut _ _ ?_ (sb₂.extBut _ _ (N' p hp).2.1 (N' p hp).1), (N' p hp).2⟩
  rcases List.mem_cons.mp hp with rfl | hp
  · exact Ne.symm nCD
  · exact oC p hp
end
end

section
open PySem PySem.W PyProof.Rows PySem.Calls PyProof.Rows.LCg
structure Halt (P : Prop) : Prop where
  go : P
section
variable {prog : Program} {w : World} {A : Around} {E : Value → Shared → Prop} {s : Shared} {h₀ : Heap} {L : Addr} {m : Str → Option Value} {env : Env}
/-- a list comprehension over pairs that changes no entry of the ledger -/
theorem pair_evalI {elt iter : Expr} {a b : Str} {pa pb tp : Pos} {kk : Nat} {ifs : List Expr} {scope : Scope} {cl : List (Str × Addr)} {pos : Pos} {l : Addr} {vs : List Value} {nn : Nat} {news : List (Addr × Obj)} {Q : Value → Shared → Prop} (P : Nat → List Value → Prop)
    (hh : A.handled = none) (hl : (l, listOf vs.toArray nn) ∈ news) (hsz : vs.length ≤ sizeLine)
    (hp : ∀ (i : Nat) (v : Value), vs[i]? = some v → ∃ t x y k, v = .ref t ∧ h₀.get? t = some (tupO [x, y] k))
    (hclos : closureFor scope env = pure cl) (hcell : ∀ y ∈ scope.names, y.2 ≠ .cell) (hkind : scope.kind = .function) (hnames : ∀ y ∈ scope.names, y.2 = .local → scope.names.lookup y.1 = some .local)
    (hxa : scope.names.lookup a = some .local) (hxb : scope.names.lookup b = some .local) (hab : ¬ a = b)
    (F : Fr h₀ L s.heap m) (N : News h₀ L s.heap news) (hR : P 0 [])
    (hev : ∀ Q' : Value → Shared → Prop, Q' (.ref l) s → wpAny (model prog w) A (eval iter env) Q' E s)
    (turn : ∀ i t x y k ys I oI C oC D m₂ h tk (E' : Value → Shared → Prop), vs[i]? = some (.ref t) → h₀.get? t = some (tupO [x, y] k) → P i ys → ys.length ≤ i →
      NsObj oC m₂ → m₂ a = some x → m₂ b = some y → Fr h₀ L h m → News h₀ L h ((I, oI) :: (C, oC) :: (D, lst ys) :: news) → Off3 I C D news → ((@Ne Nat I C) ∧ (@Ne Nat I D) ∧ (@Ne Nat C D)) →
      wpAny (model prog w) A (forIn ifs true fun c r => if r = true then do let ok ← isTrue c (compEnvC scope cl C env) (eval c (compEnvC scope cl C env)); pure (ForInStep.yield ok) else pure (ForInStep.yield r)) (fun ok s' => if ok = true then
        wpAny (model prog w) A (eval elt (compEnvC scope cl C env)) (CompEnd h₀ L m { s with heap := h, toks := tk } I oI C oC D (lst ys) (fun _ => True) (fun z nx => nx = news ∧ P (i + 1) (ys ++ [z]))) E' s'
        else CompEnd h₀ L m { s with heap := h, toks := tk } I oI C oC D (lst ys) (fun _ => True) (fun _ nx => nx = news ∧ P (i + 1) ys) Value.none s') E' { s with heap := h, toks := tk })
    (done : ∀ D h tk ys, P vs.length ys → Fr h₀ L h m → News h₀ L h ((D, lst ys) :: news) → Off1 D news → Q (.ref D) { s with heap := h, toks := tk })
    (hs : ∀ x, foldedSetIterable iter env x = pure x := by intro _; rfl) :
    wpAny (model prog w) A (eval (.ListComp elt [⟨.Tuple [.Name a pa, .Name b pb] kk tp, iter, ifs, 0⟩] scope pos) env) Q E s := by
  refine pair_eval (fun i ys nx => nx = news ∧ P i ys) hh hl hsz hp hclos hcell hkind hnames hxa hxb hab F N ⟨rfl, hR⟩ hev ?_ ?_ hs
  · rintro i t x y k ys nx I oI C oC D m₂ h tk E' hv ht ⟨rfl, hP⟩ hm hy hC h1 h2 F' N' off ne
    refine wpAny_mono (turn i t x y k ys I oI C oC D m₂ h tk E' hv ht hP hy hC h1 h2 F' N' off ne) (fun ok s' q => ?_) fun _ _ q => q
    cases ok with
    | true =>
      simp only [if_true] at q ⊢
      refine wpAny_mono q (fun z s'' e => ?_) fun _ _ q => q
      obtain ⟨h', tk', nx', e1, e2, e3, e4, _, e6, e7⟩ := e
      exact ⟨h', tk', nx', e1, e2, e3, e4, e6 ▸ hm, e6, e7⟩
    | false =>
      simp only [Bool.false_eq_true, if_false] at q ⊢
      obtain ⟨h', tk', nx', e1, e2, e3, e4, _, e6, e7⟩ := q
      exact ⟨h', tk', nx', e1, e2, e3, e4, e6 ▸ hm, e6, e7⟩
  · rintro D h tk ys nx ⟨rfl, hP⟩ hm F' N' off
    exact done D h tk ys hP F' N' off
end
end

section
open PySem PySem.W PyProof.Rows PySem.Calls
section
variable {prog : Program} {w : World} {A : Around} {E : Value → Shared → Prop} {s : Shared} {env : Env} {h₀ : Heap} {x : Str} {body : List Stmt} {Q : Flow → Shared → Prop}

/-- a for over a range -/
theorem for_range {σ : Type} {r : Addr} {a₀ b₀ : Int} {t₀ u₀ v₀ : Tok} {n : Nat} {m₀ : Str → Option Value} {news : List (Addr × Obj)} (ps : σ → List (Str × Value)) (stored : List Str) (R : Nat → σ → List (Addr × Obj) → Prop) (c₀ : σ)
    (hh : A.handled = none) (hr : IsRange s.heap r a₀ b₀ 1 t₀ u₀ v₀) (hsm : Builtin.Range.small a₀ b₀ 1 = true) (hsz : Builtin.Range.rangeSize a₀ b₀ 1 = (n : Int)) (F : Fr h₀ env.locals s.heap m₀) (N : News h₀ env.locals s.heap news)
    (hk : ∀ p ∈ ps c₀, m₀ p.1 = some p.2) (hR : R 0 c₀ news)
    (turn : ∀ (i : Nat) t (c : σ) (u : Str → Option Value) nx h tk own, i < n → OwnOff own (nx.map (·.1)) → R i c nx →
      Fr h₀ env.locals h (fun y => if y = x then some (.int (a₀ + (i : Int)) t) else kstB (fun z => if stored.contains z then u z else m₀ z) (ps c) y) → News h₀ env.locals h (nx ++ own) →
      wpAny (model prog w) A (execs body env) (InvPostG h₀ env.locals (fun m' nx => LpJ x ps stored m₀ (R (i + 1)) m' nx) own { s with heap := h, toks := tk } Q) E { s with heap := h, toks := tk })
    (done : ∀ (c : σ) (u : Str → Option Value) nx h tk, R n c nx → Fr h₀ env.locals h (fun y => if y = x then u y else kstB (fun z => if stored.contains z then u z else m₀ z) (ps c) y) → News h₀ env.locals h nx → Q .next { s with heap := h, toks := tk }) :
    wpAny (model prog w) A (pyIter (.ref r)) (fun it s₂ => LoopAtV prog w A h₀ env x body Q E it s₂) E s := by
  refine wpAny_pyIter_range hr hsm ?_
  have W := (Walks.range (prog := prog) (w := w) (A := A) hh s.heap.objs.size a₀ 1 n)
  have one : ∀ b ∈ [s.heap.objs.size], b = s.heap.objs.size := fun b hb => List.mem_singleton.mp hb
  refine kdr_loop (fun i m nx => LpJ x ps stored m₀ (R i) m nx) W (fun _ h => h) (fun _ h => h) (fun i h st b hb => ?_) (fun hb => ?_) (fun b hb => ?_) (fun p hp hb => ?_) (by show IsRangeIter _ _ _ _ _; rw [hsz]; simpa using Heap.get?_push_size _ rfl) (F.push _)
    (fun p hp => ⟨Heap.get?_push_of_some _ (N p hp).1, (N p hp).2⟩) ⟨c₀, hk, fun _ _ _ _ => rfl, hR⟩ ?_ ?_
  · rw [one b hb]; exact ⟨_, st⟩
  · exact Nat.lt_irrefl _ (one _ hb ▸ F.ns.lt)
  · rw [one b hb]; exact next_is_new F
  · exact Nat.lt_irrefl _ (one _ hb ▸ Heap.lt_size (N p hp).1)
  · rintro i v m₁ nx h tk own hi ⟨t, rfl⟩ hoff ⟨c, h1, h2, hR'⟩ F₁ N₁
    rw [Int.mul_one] at F₁
    exact turn i t c m₁ nx h tk own hi hoff hR' (kst_fr h1 h2 F₁) N₁
  · rintro m₁ nx h tk ⟨c, h1, h2, hR'⟩ F₁ N₁
    exact done c m₁ nx h tk hR' (kst_frOut h1 h2 F₁) N₁
/-- a for over a range, the target any; (l, lo) is any entry of the ledger that stays -/
theorem for_rangeT {σ : Type} {y : Str} {py : Pos} {l r : Addr} {lo : Obj} {a₀ b₀ : Int} {t₀ u₀ v₀ : Tok} {n : Nat} {m₀ : Str → Option Value} {news : List (Addr × Obj)} (ps : σ → List (Str × Value)) (stored : List Str) (R : Nat → σ → List (Addr × Obj) → Prop) (c₀ : σ)
    (hh : A.handled = none) (hl : (l, lo) ∈ news) (hr : IsRange s.heap r a₀ b₀ 1 t₀ u₀ v₀) (hsm : Builtin.Range.small a₀ b₀ 1 = true) (hsz : Builtin.Range.rangeSize a₀ b₀ 1 = (n : Int)) (F : Fr h₀ env.locals s.heap m₀) (N : News h₀ env.locals s.heap news)
    (hk : ∀ p ∈ ps c₀, m₀ p.1 = some p.2) (hR : R 0 c₀ news)
    (turn : ∀ (i : Nat) t (c : σ) (u : Str → Option Value) nx h tk own, i < n → OwnOff own (nx.map (·.1)) → (l, lo) ∈ nx → R i c nx → Fr h₀ env.locals h (lpMap stored u m₀ (ps c)) → News h₀ env.locals h (nx ++ own) →
      wpAny (model prog w) A (assign (.Name y py) env (.int (a₀ + (i : Int)) t)) (fun _ s₃ => wpAny (model prog w) A (execs body env) (InvPostG h₀ env.locals (fun m' nx => (l, lo) ∈ nx ∧ LpK ps stored m₀ (R (i + 1)) m' nx) own { s with heap := h, toks := tk } Q) E s₃) E { s with heap := h, toks := tk })
    (done : ∀ (c : σ) (u : Str → Option Value) nx h tk, R n c nx → Fr h₀ env.locals h (lpMap stored u m₀ (ps c)) → News h₀ env.locals h nx → Q .next { s with heap := h, toks := tk }) :
    wpAny (model prog w) A (pyIter (.ref r)) (fun it s₂ => TurnsAt prog w A h₀ env (.Name y py) body Q E it s₂) E s := by
  refine wpAny_pyIter_range hr hsm ?_
  have one : ∀ b ∈ [s.heap.objs.size], b = s.heap.objs.size := fun b hb => List.mem_singleton.mp hb
  refine turns_core (tk0 := s.toks) (l := l) (lo := lo) ps stored R c₀ (KTurns.ofWalks (Walks.range (prog := prog) (w := w) (A := A) hh s.heap.objs.size a₀ 1 n) fun i v s Q E st q => wpAny_pure q) (fun b hb => ?_) (fun b hb => .inl hb) (fun i h st b hb => ?_) (fun hb => ?_) (fun p hp hb => ?_) (by show IsRangeIter _ _ _ _ _; rw [hsz]; simpa using Heap.get?_push_size _ rfl) (F.push _)
    (fun p hp => ⟨Heap.get?_push_of_some _ (N p hp).1, (N p hp).2⟩) hl hk hR ?_ ?_
  · rw [one b hb]; exact next_is_new F
  · rw [one b hb]; exact ⟨_, st⟩
  · exact Nat.lt_irrefl _ (one _ hb ▸ F.ns.lt)
  · exact Nat.lt_irrefl _ (one _ hb ▸ Heap.lt_size (N p hp).1)
  · rintro i v c u nx h tk own hi ⟨t, rfl⟩ hoff hm hR' F₁ N₁
    rw [Int.mul_one]
    exact turn i t c u nx h tk own hi hoff hm hR' F₁ N₁
  · intro c u nx h tk hR' F₁ N₁
    exact done c u nx h tk hR' F₁ N₁
theorem range_end {σ : Type} {m₀ : Str → Option Value} {ps : σ → List (Str × Value)} {stored : List Str} {R : σ → List (Addr × Obj) → Prop} {L : Addr} {m' : Str → Option Value} {own news' : List (Addr × Obj)} {s₁ : Shared} {h' : Heap} {tk : Nat}
    (c : σ) (nx : List (Addr × Obj)) (F : Fr h₀ L h' m') (N : News h₀ L h' news') (hn : ∀ p ∈ nx, p ∈ news') (ho : ∀ p ∈ own, p ∈ news') (ha : OwnOff own (nx.map (·.1)))
    (hk : ∀ p ∈ ps c, m' p.1 = some p.2) (hs : ∀ z, z ≠ x → (∀ p ∈ ps c, z ≠ p.1) → stored.contains z = false → m' z = m₀ z) (hr : R c nx) :
    InvEndG h₀ L (fun m' nx => LpJ x ps stored m₀ R m' nx) own s₁ { s₁ with heap := h', toks := tk } :=
  .intro F N ⟨c, hk, hs, hr⟩ ha hn ho
end
end

section
open PySem PySem.W PyProof.Rows PySem.Calls
abbrev tab1 (c' : PySem.Addr) : PySem.Obj := tabObj (#[] ++ #[rawInt 73, rawInt 44, .ref c'])
def LamCode (oc : PySem.Obj) : Prop := ∃ (vs : Array PySem.Value) (t : Tok), oc.data = .fields vs ∧ vs[1]? = some (.str (PySem.Str.ofString "_law_side_right.<locals>.<lambda>") t)
section
variable {M : Model} {A : Around} {E : Value → Shared → Prop} {s : Shared} {h₀ : Heap} {L a c P : Addr} {m mg mb : PySem.Str → Option Value} {cn : PySem.Str} {cs : Scope} {ccd : Value} {cl : List (PySem.Str × Addr)} {news : Led} {g : PySem.Obj → Led}
  {p : Program} {loose : List PySem.Str} {mean : ExcName → Option Value} {name qual : PySem.Str} {params : Arguments} {body : PySem.Expr} {scope : Scope} {pos : Pos} {firstLine : Nat} {clos : List (PySem.Str × Addr)}
theorem updF_same {d : Addr} {o : PySem.Obj} : ∀ {l : Led} {g : PySem.Obj → Led}, UpdF d o l g → (d, o) ∈ l ∧ g o = l
  | _, _, .head h => ⟨.head _, rfl⟩
  | _, _, .tail (p := p) h r => ⟨.tail _ (updF_same r).1, congrArg (p :: ·) (updF_same r).2⟩
/-- a lambda of a called def: its code is made at the first time and found afterwards -/
theorem lam_any {Q : Value → Shared → Prop} {e : Addr} {o oe : PySem.Obj} (F : Fr h₀ L s.heap m) (N : News h₀ L s.heap news) (T : Top p loose mean mg mb h₀) (C : CodeHd h₀ c P) (hcd : ccd = .ref c)
    (hS : o = tabObj #[] ∨ o = tab1 e ∧ LamCode oe) (hm : (e, oe) ∈ news) (U : UpdF P o news g) (hp : pos.line = 73 ∧ pos.col = 44) (hq : qual = PySem.Str.ofString "_law_side_right.<locals>.<lambda>")
    (hcl : closureFor scope (envX cn cs L a ccd cl) = pure clos)
    (h : ∀ f c' oc vs t ctv h' tk, Fr h₀ L h' m →
      News h₀ L h' ((f, kla_obj name qual params body scope clos ((mg "__name__").getD .none) c' ctv) :: (c', oc) :: g (tab1 c')) →
      oc.data = .fields vs → vs[1]? = some (.str qual t) → (o = tabObj #[] ∧ h₀.get? c' = none ∧ (∀ q ∈ news, q.1 < c') ∨ o = tab1 e ∧ c' = e ∧ oc = oe) → (∀ q ∈ news, q.1 < f) → c' < f → Q (.ref f) { s with heap := h', toks := tk }) :
    wpAny M A (makeFunction name qual params (.expr body) scope (envX cn cs L a ccd cl) [] [] [] pos firstLine) Q E s := by
  rcases hS with rfl | ⟨rfl, vs, t, hd, hv⟩
  · refine kla_nest F N T C hcd U trivial rfl hcl fun f c' oc vs t ctv h' tk F' N' hd hv l1 l2 => ?_
    rw [hp.1, hp.2] at N'
    exact h f c' oc vs t ctv h' tk F' N' hd hv (.inl ⟨rfl, (N' (c', oc) (.tail _ (.head _))).2.2, l1⟩) (fun q hq => Nat.lt_trans (l1 q hq) l2) l2
  · obtain ⟨hmP, hg⟩ := updF_same U
    refine kla_hit F N T C hcd hmP trivial (by simp [codeAmong, rawInt, hp.1, hp.2]; rfl) hcl fun f ctv h' tk F' N' l1 => ?_
    refine h f e oe vs t ctv h' tk F' (fun q hq => ?_) hd (hq ▸ hv) (.inr ⟨rfl, rfl, rfl⟩) l1 (l1 _ hm)
    rcases List.mem_cons.mp hq with rfl | hq
    · exact N' _ (.head _)
    rcases List.mem_cons.mp hq with rfl | hq
    · exact N' _ (.tail _ hm)
    · exact N' _ (.tail _ (hg ▸ hq))
end
theorem fresh_at {h₀ h g h' : PySem.Heap} {L c : PySem.Addr} {sub : Led} (kK : Keep sub h g) (hn : g.get? c = none) (hc : c ∉ sub.map (·.1)) : h.get? c = none := by
  cases q : h.get? c with
  | none => rfl
  | some o' => have := kK c o' hc q; rw [hn] at this; cases this
/-- the part of the ledger that stayed, and the ground: all but the named stands -/
theorem keep_of {h₀ h g h' : PySem.Heap} {L : PySem.Addr} {sub news out : Led} (N : News h₀ L h sub) (kK : Keep sub h g) (kN : News h₀ L h' news) (hs : ∀ p ∈ sub, p.1 ∈ out.map (·.1) ∨ p ∈ news) (k2 : ∀ b o, g.get? b = some o → h'.get? b = some o) : Keep out h h' := by
  intro b o hb e
  by_cases hm : b ∈ sub.map (·.1)
  · obtain ⟨q, hq, rfl⟩ := List.mem_map.mp hm
    rcases hs q hq with h1 | h1
    · exact absurd h1 hb
    · rw [(N q hq).1] at e
      rw [(kN q h1).1]; exact e
  · exact k2 b o (kK b o hm e)
theorem law_poly (a b c d : Int) : ((a * b + c * d - a * b) * b == c * d * b) = true := by
  rw [show a * b + c * d - a * b = c * d by omega]; exact beq_self_eq_true _
/-- all that a side_right says of the heap at its end -/
theorem side_fin {h₀ h g h' : PySem.Heap} {L o1 o2 e c' : PySem.Addr} {ob1 ob2 o oe oc : PySem.Obj} {news nn : Led} {vs : Array PySem.Value} {t : Tok}
    (N : News h₀ L h [(o1, ob1), (o2, ob2), (121, o), (e, oe)]) (kK : Keep [(o1, ob1), (o2, ob2), (121, o), (e, oe)] h g) (kN : News h₀ L h' news) (k2 : ∀ b o, g.get? b = some o → h'.get? b = some o)
    (hn3 : @LT.lt Nat _ 121 e) (dO : o = tabObj #[] ∧ g.get? c' = none ∧ (∀ q ∈ nn, q.1 < c') ∨ o = tab1 e ∧ c' = e ∧ oc = oe)
    (d1 : oc.data = .fields vs) (d2 : vs[1]? = some (.str (PySem.Str.ofString "_law_side_right.<locals>.<lambda>") t))
    (m1 : (o1, ob1) ∈ news) (m2 : (o2, ob2) ∈ news) (m3 : (121, tab1 c') ∈ news) (m4 : (e, oe) ∈ news) (m5 : (c', oc) ∈ news) (n1 : (o1, ob1) ∈ nn) (n2 : (o2, ob2) ∈ nn) (n3 : (121, o) ∈ nn) (n4 : (e, oe) ∈ nn) :
    Keep [(121, o)] h h' ∧ ∃ c' oc, h'.get? 121 = some (tab1 c') ∧ h'.get? c' = some oc ∧ LamCode oc ∧ (@LT.lt Nat _ 121 c') ∧ (h.get? c' = none ∨ c' = e ∧ oc = oe) := by
  refine ⟨keep_of N kK kN (List.forall_mem_cons.mpr ⟨.inr m1, List.forall_mem_cons.mpr ⟨.inr m2, List.forall_mem_cons.mpr ⟨.inl (.head _), List.forall_mem_cons.mpr ⟨.inr m4, List.forall_mem_nil _⟩⟩⟩⟩) k2, c', oc, (kN _ m3).1, (kN _ m5).1, ⟨vs, t, d1, d2⟩, ?_, ?_⟩
  · rcases dO with ⟨_, _, l⟩ | ⟨_, e1, _⟩
    · exact l _ n3
    · rw [e1]; exact hn3
  rcases dO with ⟨_, hn, l⟩ | ⟨_, e1, e2⟩
  · refine .inl ?_
    have l1 : @LT.lt Nat _ o1 c' := l _ n1
    have l2 : @LT.lt Nat _ o2 c' := l _ n2
    have l3 : @LT.lt Nat _ 121 c' := l _ n3
    have l4 : @LT.lt Nat _ e c' := l _ n4
    have hc : c' ∉ [(o1, ob1), (o2, ob2), (121, o), (e, oe)].map (·.1) := by
      intro hm; simp only [List.map_cons, List.map_nil, List.mem_cons, List.not_mem_nil, or_false] at hm
      rcases hm with e' | e' | e' | e' <;> (have e'' : @Eq Nat _ _ := e'; omega)
    cases q : h.get? c' with
    | none => rfl
    | some o' => have := kK c' o' hc q; rw [hn] at this; cases this
  · exact .inr ⟨e1, e2⟩
end

section
open PySem PySem.W PyProof.Rows PySem.Calls
structure SdOk (d : Sd) : Prop where
  h1 : -10 ≤ d.x1
  h2 : d.x1 ≤ 10
  h3 : -10 ≤ d.x2
  h4 : d.x2 ≤ 10
  h5 : -4 ≤ d.y1
  h6 : d.y1 < d.y2
  h7 : d.y2 ≤ 4
  h8 : d.way = 1 ∨ d.way = -1
inductive SidesAt (P : Params) (h : PySem.Heap) : List PySem.Value → List Sd → Prop
  | nil : SidesAt P h [] []
  | cons {v : PySem.Value} {d : Sd} {vs : List PySem.Value} {ds : List Sd} : SideAt P h v d → SidesAt P h vs ds → SidesAt P h (v :: vs) (d :: ds)
theorem SidesAt.length {P : Params} {h : PySem.Heap} : ∀ {vs : List PySem.Value} {ds : List Sd}, SidesAt P h vs ds → vs.length = ds.length
  | _, _, .nil => rfl
  | _, _, .cons _ r => by rw [List.length_cons, List.length_cons, r.length]
theorem SidesAt.get {P : Params} {h : PySem.Heap} : ∀ {vs : List PySem.Value} {ds : List Sd} {i : Nat} {v : PySem.Value}, SidesAt P h vs ds → vs[i]? = some v → ∃ d, ds[i]? = some d ∧ SideAt P h v d
  | _, _, i, _, .nil, e => by simp at e
  | _, _, 0, _, .cons a r, e => by simp at e; exact ⟨_, rfl, e ▸ a⟩
  | _, _, i + 1, _, .cons a r, e => by
    simp at e
    obtain ⟨d, h1, h2⟩ := r.get e
    exact ⟨d, by simpa using h1, h2⟩
theorem SidesAt.keep {P : Params} {h h' : PySem.Heap} {S : PySem.Addr} {n : Nat} {its : Array PySem.Value} (k : Keep [(S, listOf its n)] h h') (hS : h.get? S = some (listOf its n)) : ∀ {vs : List PySem.Value} {ds : List Sd}, SidesAt P h vs ds → SidesAt P h' vs ds
  | _, _, .nil => .nil
  | _, _, .cons (d := d) a r => by
    refine .cons ?_ (SidesAt.keep k hS r)
    obtain ⟨x, dx, k1, k2, k3, k4, k5, v1, v2, v3, v4, v5, rfl, e1, e2⟩ := a
    refine ⟨x, dx, k1, k2, k3, k4, k5, v1, v2, v3, v4, v5, rfl, k _ _ ?_ e1, k _ _ ?_ e2⟩
    · simp only [List.map_cons, List.map_nil, List.mem_singleton]
      rintro rfl
      rw [e1] at hS; simp at hS
    · simp only [List.map_cons, List.map_nil, List.mem_singleton]
      rintro rfl
      rw [e2] at hS; simp at hS
theorem inst_base {h₀ h : PySem.Heap} {L x C dx : PySem.Addr} {m : PySem.Str → Option PySem.Value} {od : PySem.Obj} (F : Fr h₀ L h m) (e1 : h₀.get? x = some (instObj C dx)) (e2 : h₀.get? dx = some od) : InstAt h x (instObj C dx) C (some od) :=
  ⟨F.keep _ _ e1, rfl, rfl, F.keep _ _ e2⟩

def pairOf (y st : Int) (d : Sd) : Int × Int := (colv (d.x1 * (d.y2 - d.y1) + (d.x2 - d.x1) * (y - d.y1)) (d.y2 - d.y1) st, d.way)
def fnd (y st : Int) (ds : List Sd) : List (Int × Int) := (ds.filter fun d => decide (d.y1 ≤ y) && decide (y < d.y2)).map (pairOf y st)

theorem inst_base2 {h₁ h₀ h : PySem.Heap} {L L' x C dx : PySem.Addr} {m m' : PySem.Str → Option PySem.Value} {od : PySem.Obj} (F : Fr h₀ L h m) (G : Fr h₁ L' h₀ m') (e1 : h₁.get? x = some (instObj C dx)) (e2 : h₁.get? dx = some od) : InstAt h x (instObj C dx) C (some od) :=
  inst_base F (G.keep _ _ e1) (G.keep _ _ e2)

def StR (l S : PySem.Addr) (vs : List PySem.Value) (n1 : Nat) (y st : Int) (ds : List Sd) (i : Nat) (_ : Unit) (nx : Led) : Prop :=
  ∃ (fvs : List PySem.Value) (n' : Nat) (tl : Led), nx = (l, listOf fvs.toArray n') :: (S, listOf vs.toArray n1) :: tl ∧ OwnOff tl [l, S] ∧ DatAll tl fvs ((fnd y st (ds.take i)).map pd)
theorem fnd_step (y st : Int) (ds : List Sd) {i : Nat} {d : Sd} (h : ds[i]? = some d) : fnd y st (ds.take (i + 1)) = fnd y st (ds.take i) ++ (if d.y1 ≤ y ∧ y < d.y2 then [pairOf y st d] else []) := by
  unfold fnd
  rw [List.take_add_one, h, List.filter_append, List.map_append]
  congr 1
  by_cases c : d.y1 ≤ y ∧ y < d.y2
  · rw [if_pos c]; simp [c.1, c.2]
  · rw [if_neg c]
    have : (decide (d.y1 ≤ y) && decide (y < d.y2)) = false := by
      rw [← Bool.not_eq_true, Bool.and_eq_true, decide_eq_true_eq, decide_eq_true_eq]; exact c
    simp [this]

theorem prod_range {a b A B : Int} (ha : -A ≤ a) (hA : a ≤ A) (hb : -B ≤ b) (hB : b ≤ B) : -(A * B) ≤ a * b ∧ a * b ≤ A * B := by
  have h1 : 0 ≤ (A - a) * (B + b) := Int.mul_nonneg (by omega) (by omega)
  have h2 : 0 ≤ (A + a) * (B - b) := Int.mul_nonneg (by omega) (by omega)
  have h3 : 0 ≤ (A - a) * (B - b) := Int.mul_nonneg (by omega) (by omega)
  have h4 : 0 ≤ (A + a) * (B + b) := Int.mul_nonneg (by omega) (by omega)
  constructor <;> grind

theorem own_off {own : Led} {a b : PySem.Addr} {x y : PySem.Obj} {tl : Led} {D : PySem.Addr} {o : PySem.Obj} (h : OwnOff own (((a, x) :: (b, y) :: tl).map (·.1))) (hD : ∀ p ∈ own, p.1 < D) {x' : PySem.Obj} :
    OwnOff own (((a, x') :: (b, y) :: (D, o) :: tl).map (·.1)) := by
  intro p hp c hc
  simp only [List.map_cons, List.mem_cons] at hc
  rcases hc with e | e | e | e
  · exact h p hp c (by rw [e]; exact .head _)
  · exact h p hp c (by rw [e]; exact .tail _ (.head _))
  · rw [e]; exact Nat.ne_of_lt (hD p hp)
  · exact h p hp c (.tail _ (.tail _ e))
theorem steps_add {g h' : PySem.Heap} {L : PySem.Addr} {m' m₀ : PySem.Str → Option PySem.Value} {l S D D2 : PySem.Addr} {pl o : PySem.Obj} {fvs vs : List PySem.Value} {n' n1 k : Nat} {own tl : Led} {c way : Int} {t t' : Tok} {y st : Int} {ds : List Sd} {i : Nat} {s₁ : Shared} {tk : Nat}
    (F : Fr g L h' m') (N : News g L h' ((D, tupO [.int c t, .int way t'] k) :: (D2, pl) :: (l, listOf (fvs.toArray.push (PySem.Value.ref D)) (n' + 1)) :: (S, listOf vs.toArray n1) :: (tl ++ own)))
    (lD : D2 < D ∧ l < D ∧ S < D ∧ AllLt D (tl ++ own)) (ht : OwnOff tl [l, S]) (hoff : OwnOff own (((l, o) :: (S, listOf vs.toArray n1) :: tl).map (·.1))) (hD : DatAll tl fvs ((fnd y st (ds.take i)).map pd))
    (hs : fnd y st (ds.take (i + 1)) = fnd y st (ds.take i) ++ [(c, way)]) (hm : ∀ z, z ≠ (PySem.Str.ofString "side") → m' z = m₀ z) :
    InvEndG g L (fun m' nx => (S, listOf vs.toArray n1) ∈ nx ∧ LpJ (PySem.Str.ofString "side") (fun _ => []) [] m₀ (StR l S vs n1 y st ds (i + 1)) m' nx) own s₁ { s₁ with heap := h', toks := tk } := by
  obtain ⟨-, lD1, lD2, lD3⟩ := lD
  have lD4 := ktn_ltOf lD3
  rw [List.push_toArray] at N
  refine led_end () ((l, listOf (fvs ++ [PySem.Value.ref D]).toArray (n' + 1)) :: (S, listOf vs.toArray n1) :: (D, tupO [.int c t, .int way t'] k) :: tl) F N ?_ ?_ (own_off hoff fun p hp => lD4 p (List.mem_append_right _ hp)) (.tail _ (.head _)) (fun _ h => nomatch h) (fun z h1 _ _ => hm z h1) ⟨fvs ++ [PySem.Value.ref D], n' + 1, (D, tupO [.int c t, .int way t'] k) :: tl, rfl, ?_, ?_⟩
  · intro p hp
    simp only [List.mem_cons, List.mem_append] at hp ⊢
    rcases hp with e | e | e | e
    · exact .inr (.inr (.inl e))
    · exact .inr (.inr (.inr (.inl e)))
    · exact .inl e
    · exact .inr (.inr (.inr (.inr (.inl e))))
  · intro p hp
    simp only [List.mem_cons, List.mem_append]
    exact .inr (.inr (.inr (.inr (.inr hp))))
  · intro p hp b hb
    rcases List.mem_cons.mp hp with rfl | hp
    · simp only [List.mem_cons, List.not_mem_nil, or_false] at hb
      rcases hb with rfl | rfl
      · exact Nat.ne_of_gt lD1
      · exact Nat.ne_of_gt lD2
    · exact ht p hp b hb
  · rw [hs, List.map_append]
    exact (hD.mono fun _ h => .tail _ h).append (DatAll.one (DatIn.tuple (.head _) (.cons (.int _ _) (.cons (.int _ _) .nil))))
theorem steps_skip {g h' : PySem.Heap} {L : PySem.Addr} {m' m₀ : PySem.Str → Option PySem.Value} {l S : PySem.Addr} {fvs vs : List PySem.Value} {n' n1 : Nat} {own tl : Led} {y st : Int} {ds : List Sd} {i : Nat} {s₁ : Shared} {tk : Nat}
    (F : Fr g L h' m') (N : News g L h' ((l, listOf fvs.toArray n') :: (S, listOf vs.toArray n1) :: (tl ++ own)))
    (ht : OwnOff tl [l, S]) (hoff : OwnOff own (((l, listOf fvs.toArray n') :: (S, listOf vs.toArray n1) :: tl).map (·.1))) (hD : DatAll tl fvs ((fnd y st (ds.take i)).map pd))
    (hs : fnd y st (ds.take (i + 1)) = fnd y st (ds.take i)) (hm : ∀ z, z ≠ (PySem.Str.ofString "side") → m' z = m₀ z) :
    InvEndG g L (fun m' nx => (S, listOf vs.toArray n1) ∈ nx ∧ LpJ (PySem.Str.ofString "side") (fun _ => []) [] m₀ (StR l S vs n1 y st ds (i + 1)) m' nx) own s₁ { s₁ with heap := h', toks := tk } := by
  refine led_end () ((l, listOf fvs.toArray n') :: (S, listOf vs.toArray n1) :: tl) F N ?_ ?_ hoff (.tail _ (.head _)) (fun _ h => nomatch h) (fun z h1 _ _ => hm z h1) ⟨fvs, n', tl, rfl, ht, by rw [hs]; exact hD⟩
  · intro p hp
    simp only [List.mem_cons, List.mem_append] at hp ⊢
    rcases hp with e | e | e
    · exact .inl e
    · exact .inr (.inl e)
    · exact .inr (.inr (.inl e))
  · intro p hp
    simp only [List.mem_cons, List.mem_append]
    exact .inr (.inr (.inr hp))

/-- v is a new list of pairs of ints, a sorted shuffle of qs; its objects are new -/
def PairsNew (h h' : PySem.Heap) (v : PySem.Value) (qs : List (Int × Int)) : Prop :=
  ∃ (R : PySem.Addr) (ws : List PySem.Value) (ps : List (Int × Int)) (k : Nat) (nw : Led), v = .ref R ∧ (∀ q ∈ nw, h'.get? q.1 = some q.2 ∧ h.get? q.1 = none) ∧ (R, listOf ws.toArray k) ∈ nw ∧ DatAll nw ws (ps.map pd) ∧
    ps.Perm qs ∧ ps.Pairwise (fun x y => code x ≤ code y)
theorem mem_skip2 {a b c q : PySem.Addr × PySem.Obj} {tl : Led} (h : q ∈ a :: tl) : q ∈ a :: b :: c :: tl := by
  rcases List.mem_cons.mp h with rfl | h
  · exact .head _
  · exact .tail _ (.tail _ (.tail _ h))
theorem ne_sd : Nonempty Sd := ⟨⟨0, 0, 0, 0, 0⟩⟩
set_option maxRecDepth 100000 in
set_option maxHeartbeats 8000000 in
theorem steps_told (w : World) (S : Addr) (vs : List PySem.Value) (ds : List Sd) (y st : Int) (t1 t2 : Tok) (n1 : Nat) (hy1 : -4 ≤ y) (hy2 : y ≤ 4) (hs1 : 0 < st) (hs2 : st ≤ 12) (hlen : vs.length < 64) (hok : ∀ d ∈ ds, SdOk d) :
    CtrH 5 w 42 [(S, listOf vs.toArray n1)] [.ref S, .int y t1, .int st t2] (fun h => SidesAt w.params h vs ds)
      (fun h r h' => Ext h h' ∧ PairsNew h h' r (fnd y st ds)) := by
  w_top off
  k_with_none
  k_with "mul_fits" => ((with_reducible show PySem.IntMulOk _ _); (try simp (disch := omega) only [fmod_e, fdiv_e, show Int.toNat 0 = 0 from rfl, show Int.toNat 1 = 1 from rfl, List.getD_cons_zero, List.getD_cons_succ]); first | exact PySem.IntMulOk.of_left (PySem.intBits_le_64 (by omega) (by omega)) | exact PySem.IntMulOk.of_right (PySem.intBits_le_64 (by omega) (by omega)))
  k_with "ktr_enter" => (refine' code_sub ?k1Z9 ?k2Z9 ?k3Z9 ?k4Z9 ?k5Z9 ?kAZ9 ?kFZ9 ?kKZ9 ?k6Z9 ?k7Z9 ?k8Z9 ?k9Z9 ?kBZ9 ?_ ?c2Z9 ?c3Z9 ?c4Z9 ?c5Z9; (case kAZ9 => exact rfl); (case kFZ9 => exact rfl); (case kKZ9 => assumption); (case k1Z9 => k_asm); (case k2Z9 => k_asm); (case k3Z9 => k_asm); (case k4Z9 => k_asm); (case k5Z9 => k_asm); (case k6Z9 => k_is); (case k7Z9 => k_is); (case k8Z9 => ktr_room); (case k9Z9 => exact BindsTo.of_eq rfl); (case c5Z9 => decide); (case kBZ9 => exact locs rfl); (case c2Z9 => exact rfl); (case c3Z9 => exact rfl); (case c4Z9 => exact rfl); k_whole; refine e3 ?_; generalize c3_1 _ = gZ9', c3_2 _ = LZ9', c3_3 _ = hZ9'; intro FGZ9' FZ9' NZ9' BZ9' XZ9' TZ9' hKZ9' hSZ9' l1Z9'; (try dsimp only); (try k_lift BZ9'))
  k_with "k_room" => (ktr_room)
  k_with "k_units" => (ktr_units)
  k_with "call ref" => (k_here; (with_reducible show wpAny _ _ (call (Value.ref 133) [Value.int _ _, Value.ref _, Value.int _ _]) _ _ _); k_dflt (refine' pure_use1 (behind_told _ _ _ _ _ _ _ _ _ _ _ ?h3Z9 ?h4Z9 ?h5Z9 ?h6Z9) ?BZ9 ?FZ9 ?XZ9 ?NZ9 ?TZ9 ?hkZ9 ?hmZ9 ?hdZ9 ?huZ9 ?_; (case BZ9 => k_asm); (case FZ9 => k_asm); (case XZ9 => k_asm); (case NZ9 => k_asm); (case hmZ9 => k_mem); (case TZ9 => k_asm); (case hkZ9 => first | exact rfl | assumption); (case h3Z9 => omega); (case h4Z9 => omega); (case h5Z9 => omega); (case h6Z9 => omega); (case hdZ9 => ktr_room); (case huZ9 => ktr_units); k_whole); intro rZ9' hZ9' tkZ9' hrZ9' FZ9' NZ9' hXZ9'; subst hrZ9'; clear hXZ9'; (try k_sweep))
  k_with "call ref" => (k_here; (with_reducible show wpAny _ _ (call (Value.ref 35) [Value.ref _, Value.int _ _]) _ _ _); k_dflt (refine' pure_use1 (col_told _ _ _ _ _ _ _ _ _ ?h1Z9 ?h2Z9 ?h3Z9 ?h4Z9 ?h5Z9 ?h6Z9) ?BZ9 ?FZ9 ?XZ9 ?NZ9 ?TZ9 ?hkZ9 ?hmZ9 ?hdZ9 ?huZ9 ?_; (case BZ9 => k_asm); (case FZ9 => k_asm); (case XZ9 => k_asm); (case NZ9 => k_asm); (case hmZ9 => k_mem); (case TZ9 => k_asm); (case hkZ9 => first | exact rfl | assumption); (case h1Z9 => omega); (case h2Z9 => omega); (case h3Z9 => omega); (case h4Z9 => omega); (case h5Z9 => omega); (case h6Z9 => omega); (case hdZ9 => ktr_room); (case huZ9 => ktr_units); k_whole); intro rZ9' hZ9' tkZ9' hrZ9' FZ9' NZ9' hXZ9'; (obtain ⟨trZ9', hrZ9'⟩ := hrZ9'); subst hrZ9'; clear hXZ9'; (try k_sweep))
  k_with "k_inst" => (first | exact inst_base (by k_asm) (by assumption) (by assumption) | exact inst_base2 (by k_asm) (by k_asm) (by assumption) (by assumption))
  revert w S vs ds y st t1 t2 n1
  refine eW ?_
  generalize cW _ = w
  refine e8 ?_
  generalize c8_1 _ = S, c8_2 _ = vs, c8_3 _ = ds, c8_4 _ = y, c8_5 _ = st, c8_6 _ = t1, c8_7 _ = t2, c8_8 _ = n1
  intro hy1 hy2 hs1 hs2 hlen hok
  unfold CtrH
  k_fill
  refine eC ?_
  generalize cC_1 _ = p, cC_2 _ = loose, cC_3 _ = mean, cC_4 _ = mg, cC_5 _ = mb, cC_6 _ = dp, cC_7 _ = un, cC_8 _ = gd, cC_9 _ = cn, cC_10 _ = cs, cC_11 _ = a, cC_12 _ = ccd, cC_13 _ = cl, cC_14 _ = outer, cC_15 _ = A₀, cC_16 _ = base, cC_17 _ = h₀, cC_18 _ = L, cC_19 _ = m, cC_20 _ = s, cC_21 _ = Q, cC_22 _ = E
  intro B F X N T hk hd hu hH hret
  have hS := (N _ (.head _)).1
  refine wpAny_call ?_
  k_dflt k_extra "ktr_enter"
  (rename Keep _ _ _ => kK)
  have hG := SidesAt.keep kK hS hH
  k_steps
  (rename Fr _ _ _ _ => lF)
  (rename News _ _ _ _ => lN)
  (rename S < _ => lS)
  refine for_led (nn := n1) (fun _ => []) [] (StR _ S vs n1 y st ds) () rfl (.tail _ (.head _)) lF lN (fun _ h => nomatch h) ⟨[], 0, [], rfl, (fun _ h => nomatch h), .nil⟩ ?_ ?_
  · intro i v _ u nx h tk own hv hoff hl₁ hR F₁ N₁
    obtain ⟨fvs, n', tl, rfl, ht, hD⟩ := hR
    obtain ⟨d, hdi, hsd⟩ := hG.get hv
    obtain ⟨x, dx, k1, k2, k3, k4, k5, v1, v2, v3, v4, v5, rfl, e1, e2⟩ := hsd
    obtain ⟨b1, b2, b3, b4, b5, b6, b7, b8⟩ := hok d (List.mem_of_getElem? hdi)
    have hstep := fnd_step y st ds hdi
    have hil : i < 64 := by have := (List.getElem?_eq_some_iff.mp hv).1; omega
    have hfl : fvs.length ≤ i := by
      have e := hD.length
      rw [List.length_map] at e
      unfold fnd at e
      rw [List.length_map] at e
      have := List.length_filter_le (fun d : Sd => decide (d.y1 ≤ y) && decide (y < d.y2)) (ds.take i)
      have := List.length_take_le i ds
      omega
    have q1 := prod_range (a := d.x1) (b := d.y2 - d.y1) (A := 10) (B := 8) (by omega) (by omega) (by omega) (by omega)
    have q2 := prod_range (a := d.x2 - d.x1) (b := y - d.y1) (A := 20) (B := 8) (by omega) (by omega) (by omega) (by omega)
    clear lF lN
    simp only [List.cons_append] at N₁
    have offA := kd_off (adr := [_, S]) (fun q hq b hb => hoff q hq b (by simp only [List.map_cons]; exact (List.mem_cons.mp hb).elim (fun e => e ▸ .head _) fun hb => .tail _ ((List.mem_cons.mp hb).elim (fun e => e ▸ .head _) fun hb => nomatch hb))) ht
    haveI : Nonempty Sd := ne_sd
    rename_i v2d1 v2d2 v2d3 v2d4 v2d5
    revert lS hoff hl₁ N₁ ht hD hdi hv F₁ e1 e2 b1 b2 b3 b4 b5 b6 b7 b8 hstep hil hfl q1 q2 offA
    revert v2d1 v2d3 v2d4 i u h tk own fvs n' tl d x dx k1 k2 k3 k4 k5 v1 v2 v3 v4 v5
    refine e17 ?_
    generalize c17_1 _ = v2d1, c17_2 _ = v2d3, c17_3 _ = v2d4, c17_4 _ = i, c17_5 _ = u, c17_6 _ = h, c17_7 _ = tk, c17_8 _ = own, c17_9 _ = fvs, c17_10 _ = n', c17_11 _ = tl, c17_12 _ = d, c17_13 _ = x, c17_14 _ = dx, c17_15 _ = k1, c17_16 _ = k2, c17_17 _ = k3
    refine e6 ?_
    generalize c6_1 _ = k4, c6_2 _ = k5, c6_3 _ = v1, c6_4 _ = v2, c6_5 _ = v3, c6_6 _ = v4
    refine e1 ?_
    generalize c1_1 _ = v5
    intro lS hoff hl₁ N₁ ht hD hdi hv F₁ e1 e2 b1 b2 b3 b4 b5 b6 b7 b8 hstep hil hfl q1 q2 offA
    k_steps
    · (rename _ ∧ _ ∧ _ ∧ AllLt _ _ => lD)
      rw [if_pos ⟨by assumption, by assumption⟩] at hstep
      exact steps_add (by assumption) (by assumption) lD ht hoff hD hstep (fun z h1 => (if_neg h1).trans rfl)
    · rw [if_neg (fun z => by have := z.2; contradiction), List.append_nil] at hstep
      exact steps_skip (by assumption) (by assumption) ht hoff hD hstep (fun z h1 => (if_neg h1).trans rfl)
    · rw [if_neg (fun z => by have := z.1; contradiction), List.append_nil] at hstep
      exact steps_skip (by assumption) (by assumption) ht hoff hD hstep (fun z h1 => (if_neg h1).trans rfl)
  · intro _ u nx h tk hR F₁ N₁
    obtain ⟨fvs, n', tl, rfl, ht, hD⟩ := hR
    clear lF lN
    k_steps
    have hds : ds.take vs.length = ds := by rw [hH.length]; exact List.take_length
    rw [hds] at hD
    have hfl : fvs.length < 64 := by
      have e := hD.length
      rw [List.length_map] at e
      unfold fnd at e
      rw [List.length_map] at e
      have := List.length_filter_le (fun d : Sd => decide (d.y1 ≤ y) && decide (y < d.y2)) ds
      have := hH.length
      omega
    refine sorted_pairs F₁ N₁ (.head _) hD (fun _ h => .tail _ (.tail _ h)) (fun q hq => ?_) hfl ?_
    · obtain ⟨d, hd1, rfl⟩ := List.mem_map.mp hq
      exact (hok d (List.mem_filter.mp hd1).1).h8
    intro D ws ps' e h' F' N' lt hws hp hpw
    clear F₁ N₁
    k_steps
    (rename ∀ (b : PySem.Addr) (o : PySem.Obj), PySem.Heap.get? _ b = some o → _ => k2)
    (rename News h₀ _ _ _ => kN)
    refine hret _ _ _ ⟨ext_of N kK kN (fun q hq => ?_) k2, D, ws, ps', e, (D, listOf ws.toArray e) :: tl, rfl, fun q hq => ?_, .head _, hws.mono fun _ h => .tail _ h, hp, hpw⟩
    · rw [List.mem_singleton.mp hq]; exact .tail _ (.tail _ (.head _))
    · refine ⟨(N' q (mem_skip2 hq)).1, fresh_of kK N' (mem_skip2 hq) ?_⟩
      simp only [List.map_cons, List.map_nil, List.mem_singleton]
      rcases List.mem_cons.mp hq with rfl | hq
      · exact Nat.ne_of_gt (lt _ (.tail _ (.head _)))
      · exact ht q hq S (.tail _ (.head _))
end

section
open PySem PySem.W PyProof.Rows PySem.Calls
theorem bne_dec (a b : Int) : (a != b) = decide (a ≠ b) := by by_cases h : a = b <;> simp [h]


def ruleS (nz : Bool) : PySem.Str := if nz then PySem.Str.ofString "nonzero" else PySem.Str.ofString "evenodd"
set_option maxRecDepth 100000 in
set_option maxHeartbeats 4000000 in
theorem inside_told (w : World) (nz : Bool) (x : Int) (t1 t2 : Tok) :
    CtrH 1 w 21 [] [.int x t1, .str (ruleS nz) t2] (fun h => True) (fun h r h' => Ext h h' ∧ r = .bool (insideB nz x)) := by
  w_top off
  k_with_none
  k_with "mul_fits" => ((with_reducible show PySem.IntMulOk _ _); (try simp (disch := omega) only [fmod_e, fdiv_e, show Int.toNat 0 = 0 from rfl, show Int.toNat 1 = 1 from rfl, List.getD_cons_zero, List.getD_cons_succ]); first | exact PySem.IntMulOk.of_left (PySem.intBits_le_64 (by omega) (by omega)) | exact PySem.IntMulOk.of_right (PySem.intBits_le_64 (by omega) (by omega)))
  k_with "ktr_enter" => (refine' code_sub ?k1Z9 ?k2Z9 ?k3Z9 ?k4Z9 ?k5Z9 ?kAZ9 ?kFZ9 ?kKZ9 ?k6Z9 ?k7Z9 ?k8Z9 ?k9Z9 ?kBZ9 ?_ ?c2Z9 ?c3Z9 ?c4Z9 ?c5Z9; (case kAZ9 => exact rfl); (case kFZ9 => exact rfl); (case kKZ9 => assumption); (case k1Z9 => k_asm); (case k2Z9 => k_asm); (case k3Z9 => k_asm); (case k4Z9 => k_asm); (case k5Z9 => k_asm); (case k6Z9 => k_is); (case k7Z9 => k_is); (case k8Z9 => ktr_room); (case k9Z9 => exact BindsTo.of_eq rfl); (case c5Z9 => decide); (case kBZ9 => exact locs rfl); (case c2Z9 => exact rfl); (case c3Z9 => exact rfl); (case c4Z9 => exact rfl); k_whole; refine e3 ?_; generalize c3_1 _ = gZ9', c3_2 _ = LZ9', c3_3 _ = hZ9'; intro FGZ9' FZ9' NZ9' BZ9' XZ9' TZ9' hKZ9' hSZ9' l1Z9'; (try dsimp only); (try k_lift BZ9'))
  k_with "k_room" => (ktr_room)
  k_with "k_units" => (ktr_units)
  k_with "k_inst" => (first | exact inst_base (by k_asm) (by assumption) (by assumption) | exact inst_base2 (by k_asm) (by k_asm) (by assumption) (by assumption))
  k_with "storeName" => (k_here; k_dflt (refine' storeX_L ?FZ9 ?NZ9 ?_ ?aZ9 ?bZ9; (case FZ9 => k_asm); (case NZ9 => k_asm); (case aZ9 => rfl); (case bZ9 => rfl); k_whole; refine e1 ?_; generalize c1_1 _ = hZ9'; intro FZ9' NZ9'; (try k_sweep)))
  unfold CtrH
  cases nz
  all_goals (
    first | rw [show ruleS true = PySem.Str.ofString "nonzero" from rfl] | rw [show ruleS false = PySem.Str.ofString "evenodd" from rfl]
    revert w x t1 t2
    refine eW ?_
    generalize cW _ = w
    refine e3 ?_
    generalize c3_1 _ = x, c3_2 _ = t1, c3_3 _ = t2
    k_fill
    refine eC ?_
    generalize cC_1 _ = p, cC_2 _ = loose, cC_3 _ = mean, cC_4 _ = mg, cC_5 _ = mb, cC_6 _ = dp, cC_7 _ = un, cC_8 _ = gd, cC_9 _ = cn, cC_10 _ = cs, cC_11 _ = a, cC_12 _ = ccd, cC_13 _ = cl, cC_14 _ = outer, cC_15 _ = A₀, cC_16 _ = base, cC_17 _ = h₀, cC_18 _ = L, cC_19 _ = m, cC_20 _ = s, cC_21 _ = Q, cC_22 _ = E
    intro B F X N T hk hd hu hH hret
    refine wpAny_call ?_
    k_dflt k_extra "ktr_enter"
    (rename Keep _ _ _ => kK)
    k_steps
    all_goals (rename ∀ (b : PySem.Addr) (o : PySem.Obj), PySem.Heap.get? _ b = some o → _ => k2)
    all_goals (rename News h₀ _ _ _ => kN)
    all_goals (refine hret _ _ _ ⟨ext_of N kK kN (fun _ h => nomatch h) k2, ?_⟩))
  · congr 1
    rw [fmod_e _ (by decide)]
    exact bne_dec _ _
  · congr 1
    exact bne_dec _ _
set_option maxRecDepth 100000 in
set_option maxHeartbeats 4000000 in
theorem row_told (w : World) (x : Addr) (d : Sd) :
    CtrH 1 w 70 [] [.ref x] (fun h => SideAt w.params h (.ref x) d)
      (fun h r h' => Ext h h' ∧ ∃ T n t1 t2 t3 t4 t5, r = .ref T ∧ h'.get? T = some (tupO [.int d.x1 t1, .int d.y1 t2, .int d.x2 t3, .int d.y2 t4, .int d.way t5] n) ∧ h.get? T = none) := by
  w_top off
  k_with_none
  k_with "mul_fits" => ((with_reducible show PySem.IntMulOk _ _); (try simp (disch := omega) only [fmod_e, fdiv_e, show Int.toNat 0 = 0 from rfl, show Int.toNat 1 = 1 from rfl, List.getD_cons_zero, List.getD_cons_succ]); first | exact PySem.IntMulOk.of_left (PySem.intBits_le_64 (by omega) (by omega)) | exact PySem.IntMulOk.of_right (PySem.intBits_le_64 (by omega) (by omega)))
  k_with "ktr_enter" => (refine' code_sub ?k1Z9 ?k2Z9 ?k3Z9 ?k4Z9 ?k5Z9 ?kAZ9 ?kFZ9 ?kKZ9 ?k6Z9 ?k7Z9 ?k8Z9 ?k9Z9 ?kBZ9 ?_ ?c2Z9 ?c3Z9 ?c4Z9 ?c5Z9; (case kAZ9 => exact rfl); (case kFZ9 => exact rfl); (case kKZ9 => assumption); (case k1Z9 => k_asm); (case k2Z9 => k_asm); (case k3Z9 => k_asm); (case k4Z9 => k_asm); (case k5Z9 => k_asm); (case k6Z9 => k_is); (case k7Z9 => k_is); (case k8Z9 => ktr_room); (case k9Z9 => exact BindsTo.of_eq rfl); (case c5Z9 => decide); (case kBZ9 => exact locs rfl); (case c2Z9 => exact rfl); (case c3Z9 => exact rfl); (case c4Z9 => exact rfl); k_whole; refine e3 ?_; generalize c3_1 _ = gZ9', c3_2 _ = LZ9', c3_3 _ = hZ9'; intro FGZ9' FZ9' NZ9' BZ9' XZ9' TZ9' hKZ9' hSZ9' l1Z9'; (try dsimp only); (try k_lift BZ9'))
  k_with "k_room" => (ktr_room)
  k_with "k_units" => (ktr_units)
  k_with "k_inst" => (first | exact inst_base (by k_asm) (by assumption) (by assumption) | exact inst_base2 (by k_asm) (by k_asm) (by assumption) (by assumption))
  k_with "storeName" => (k_here; k_dflt (refine' storeX_L ?FZ9 ?NZ9 ?_ ?aZ9 ?bZ9; (case FZ9 => k_asm); (case NZ9 => k_asm); (case aZ9 => rfl); (case bZ9 => rfl); k_whole; refine e1 ?_; generalize c1_1 _ = hZ9'; intro FZ9' NZ9'; (try k_sweep)))
  revert w x d
  refine eW ?_
  generalize cW _ = w
  refine @e2 _ _ inferInstance ⟨⟨0, 0, 0, 0, 0⟩⟩ _ ?_
  generalize c2_1 _ = x, c2_2 _ = d
  unfold CtrH
  k_fill
  refine eC ?_
  generalize cC_1 _ = p, cC_2 _ = loose, cC_3 _ = mean, cC_4 _ = mg, cC_5 _ = mb, cC_6 _ = dp, cC_7 _ = un, cC_8 _ = gd, cC_9 _ = cn, cC_10 _ = cs, cC_11 _ = a, cC_12 _ = ccd, cC_13 _ = cl, cC_14 _ = outer, cC_15 _ = A₀, cC_16 _ = base, cC_17 _ = h₀, cC_18 _ = L, cC_19 _ = m, cC_20 _ = s, cC_21 _ = Q, cC_22 _ = E
  intro B F X N T hk hd hu hH hret
  obtain ⟨x', dx, k1, k2, k3, k4, k5, v1, v2, v3, v4, v5, e0, e1, e2⟩ := hH
  obtain rfl := PySem.Value.ref.inj e0
  refine wpAny_call ?_
  k_dflt k_extra "ktr_enter"
  (rename Keep _ _ _ => kK)
  have f1 := kK _ _ (by simp) e1
  have f2 := kK _ _ (by simp) e2
  k_steps
  (rename ∀ (b : PySem.Addr) (o : PySem.Obj), PySem.Heap.get? _ b = some o → _ => k2)
  (rename News h₀ _ _ _ => kN)
  exact hret _ _ _ ⟨ext_of N kK kN (fun _ h => nomatch h) k2, _, _, _, _, _, _, _, rfl, (kN _ (.head _)).1, fresh_of kK (by assumption) (.head _) (by simp)⟩
set_option maxRecDepth 100000 in
set_option maxHeartbeats 4000000 in
theorem covers_told (w : World) (x : Addr) (d : Sd) (y : Int) (t1 : Tok) :
    CtrH 1 w 77 [] [.ref x, .int y t1] (fun h => SideAt w.params h (.ref x) d)
      (fun h r h' => Ext h h' ∧ r = .bool (decide (d.y1 ≤ y) && decide (y < d.y2))) := by
  w_top off
  k_with_none
  k_with "mul_fits" => ((with_reducible show PySem.IntMulOk _ _); (try simp (disch := omega) only [fmod_e, fdiv_e, show Int.toNat 0 = 0 from rfl, show Int.toNat 1 = 1 from rfl, List.getD_cons_zero, List.getD_cons_succ]); first | exact PySem.IntMulOk.of_left (PySem.intBits_le_64 (by omega) (by omega)) | exact PySem.IntMulOk.of_right (PySem.intBits_le_64 (by omega) (by omega)))
  k_with "ktr_enter" => (refine' code_sub ?k1Z9 ?k2Z9 ?k3Z9 ?k4Z9 ?k5Z9 ?kAZ9 ?kFZ9 ?kKZ9 ?k6Z9 ?k7Z9 ?k8Z9 ?k9Z9 ?kBZ9 ?_ ?c2Z9 ?c3Z9 ?c4Z9 ?c5Z9; (case kAZ9 => exact rfl); (case kFZ9 => exact rfl); (case kKZ9 => assumption); (case k1Z9 => k_asm); (case k2Z9 => k_asm); (case k3Z9 => k_asm); (case k4Z9 => k_asm); (case k5Z9 => k_asm); (case k6Z9 => k_is); (case k7Z9 => k_is); (case k8Z9 => ktr_room); (case k9Z9 => exact BindsTo.of_eq rfl); (case c5Z9 => decide); (case kBZ9 => exact locs rfl); (case c2Z9 => exact rfl); (case c3Z9 => exact rfl); (case c4Z9 => exact rfl); k_whole; refine e3 ?_; generalize c3_1 _ = gZ9', c3_2 _ = LZ9', c3_3 _ = hZ9'; intro FGZ9' FZ9' NZ9' BZ9' XZ9' TZ9' hKZ9' hSZ9' l1Z9'; (try dsimp only); (try k_lift BZ9'))
  k_with "k_room" => (ktr_room)
  k_with "k_units" => (ktr_units)
  k_with "k_inst" => (first | exact inst_base (by k_asm) (by assumption) (by assumption) | exact inst_base2 (by k_asm) (by k_asm) (by assumption) (by assumption))
  k_with "storeName" => (k_here; k_dflt (refine' storeX_L ?FZ9 ?NZ9 ?_ ?aZ9 ?bZ9; (case FZ9 => k_asm); (case NZ9 => k_asm); (case aZ9 => rfl); (case bZ9 => rfl); k_whole; refine e1 ?_; generalize c1_1 _ = hZ9'; intro FZ9' NZ9'; (try k_sweep)))
  revert w x d y t1
  refine eW ?_
  generalize cW _ = w
  refine @e4 _ _ _ _ inferInstance ⟨⟨0, 0, 0, 0, 0⟩⟩ inferInstance inferInstance _ ?_
  generalize c4_1 _ = x, c4_2 _ = d, c4_3 _ = y, c4_4 _ = t1
  unfold CtrH
  k_fill
  refine eC ?_
  generalize cC_1 _ = p, cC_2 _ = loose, cC_3 _ = mean, cC_4 _ = mg, cC_5 _ = mb, cC_6 _ = dp, cC_7 _ = un, cC_8 _ = gd, cC_9 _ = cn, cC_10 _ = cs, cC_11 _ = a, cC_12 _ = ccd, cC_13 _ = cl, cC_14 _ = outer, cC_15 _ = A₀, cC_16 _ = base, cC_17 _ = h₀, cC_18 _ = L, cC_19 _ = m, cC_20 _ = s, cC_21 _ = Q, cC_22 _ = E
  intro B F X N T hk hd hu hH hret
  obtain ⟨x', dx, k1, k2, k3, k4, k5, v1, v2, v3, v4, v5, e0, e1, e2⟩ := hH
  obtain rfl := PySem.Value.ref.inj e0
  refine wpAny_call ?_
  k_dflt k_extra "ktr_enter"
  (rename Keep _ _ _ => kK)
  have f1 := kK _ _ (by simp) e1
  have f2 := kK _ _ (by simp) e2
  k_steps
  all_goals (rename ∀ (b : PySem.Addr) (o : PySem.Obj), PySem.Heap.get? _ b = some o → _ => k2)
  all_goals (rename News h₀ _ _ _ => kN)
  all_goals (refine hret _ _ _ ⟨ext_of N kK kN (fun _ h => nomatch h) k2, ?_⟩)
  all_goals (simp [*])
set_option maxRecDepth 100000 in
set_option maxHeartbeats 4000000 in
theorem place_told (w : World) (x : Addr) (d : Sd) (y : Int) (t1 : Tok) (hok : SdOk d) (hy1 : -6 ≤ y) (hy2 : y ≤ 6) :
    CtrH 1 w 84 [] [.ref x, .int y t1] (fun h => SideAt w.params h (.ref x) d)
      (fun h r h' => Ext h h' ∧ ∃ T n t1 t2, r = .ref T ∧ h'.get? T = some (tupO [.int (d.x1 * (d.y2 - d.y1) + (d.x2 - d.x1) * (y - d.y1)) t1, .int (d.y2 - d.y1) t2] n) ∧ h.get? T = none) := by
  w_top off
  k_with_none
  k_with "mul_fits" => ((with_reducible show PySem.IntMulOk _ _); (try simp (disch := omega) only [fmod_e, fdiv_e, show Int.toNat 0 = 0 from rfl, show Int.toNat 1 = 1 from rfl, List.getD_cons_zero, List.getD_cons_succ]); first | exact PySem.IntMulOk.of_left (PySem.intBits_le_64 (by omega) (by omega)) | exact PySem.IntMulOk.of_right (PySem.intBits_le_64 (by omega) (by omega)))
  k_with "ktr_enter" => (refine' code_sub ?k1Z9 ?k2Z9 ?k3Z9 ?k4Z9 ?k5Z9 ?kAZ9 ?kFZ9 ?kKZ9 ?k6Z9 ?k7Z9 ?k8Z9 ?k9Z9 ?kBZ9 ?_ ?c2Z9 ?c3Z9 ?c4Z9 ?c5Z9; (case kAZ9 => exact rfl); (case kFZ9 => exact rfl); (case kKZ9 => assumption); (case k1Z9 => k_asm); (case k2Z9 => k_asm); (case k3Z9 => k_asm); (case k4Z9 => k_asm); (case k5Z9 => k_asm); (case k6Z9 => k_is); (case k7Z9 => k_is); (case k8Z9 => ktr_room); (case k9Z9 => exact BindsTo.of_eq rfl); (case c5Z9 => decide); (case kBZ9 => exact locs rfl); (case c2Z9 => exact rfl); (case c3Z9 => exact rfl); (case c4Z9 => exact rfl); k_whole; refine e3 ?_; generalize c3_1 _ = gZ9', c3_2 _ = LZ9', c3_3 _ = hZ9'; intro FGZ9' FZ9' NZ9' BZ9' XZ9' TZ9' hKZ9' hSZ9' l1Z9'; (try dsimp only); (try k_lift BZ9'))
  k_with "k_room" => (ktr_room)
  k_with "k_units" => (ktr_units)
  k_with "k_inst" => (first | exact inst_base (by k_asm) (by assumption) (by assumption) | exact inst_base2 (by k_asm) (by k_asm) (by assumption) (by assumption))
  k_with "storeName" => (k_here; k_dflt (refine' storeX_L ?FZ9 ?NZ9 ?_ ?aZ9 ?bZ9; (case FZ9 => k_asm); (case NZ9 => k_asm); (case aZ9 => rfl); (case bZ9 => rfl); k_whole; refine e1 ?_; generalize c1_1 _ = hZ9'; intro FZ9' NZ9'; (try k_sweep)))
  revert w x d y t1
  refine eW ?_
  generalize cW _ = w
  refine @e4 _ _ _ _ inferInstance ⟨⟨0, 0, 0, 0, 0⟩⟩ inferInstance inferInstance _ ?_
  generalize c4_1 _ = x, c4_2 _ = d, c4_3 _ = y, c4_4 _ = t1
  intro hok hy1 hy2
  unfold CtrH
  k_fill
  refine eC ?_
  generalize cC_1 _ = p, cC_2 _ = loose, cC_3 _ = mean, cC_4 _ = mg, cC_5 _ = mb, cC_6 _ = dp, cC_7 _ = un, cC_8 _ = gd, cC_9 _ = cn, cC_10 _ = cs, cC_11 _ = a, cC_12 _ = ccd, cC_13 _ = cl, cC_14 _ = outer, cC_15 _ = A₀, cC_16 _ = base, cC_17 _ = h₀, cC_18 _ = L, cC_19 _ = m, cC_20 _ = s, cC_21 _ = Q, cC_22 _ = E
  intro B F X N T hk hd hu hH hret
  obtain ⟨b1, b2, b3, b4, b5, b6, b7, b8⟩ := hok
  obtain ⟨x', dx, k1, k2, k3, k4, k5, v1, v2, v3, v4, v5, e0, e1, e2⟩ := hH
  obtain rfl := PySem.Value.ref.inj e0
  refine wpAny_call ?_
  k_dflt k_extra "ktr_enter"
  (rename Keep _ _ _ => kK)
  have f1 := kK _ _ (by simp) e1
  have f2 := kK _ _ (by simp) e2
  k_steps
  (rename ∀ (b : PySem.Addr) (o : PySem.Obj), PySem.Heap.get? _ b = some o → _ => k2)
  (rename News h₀ _ _ _ => kN)
  exact hret _ _ _ ⟨ext_of N kK kN (fun _ h => nomatch h) k2, _, _, _, _, rfl, (kN _ (.head _)).1, fresh_of kK (by assumption) (.head _) (by simp)⟩
theorem new_fact {h₀ g : PySem.Heap} {L a : PySem.Addr} {m : PySem.Str → Option PySem.Value} (F : Fr h₀ L g m) (hn : g.get? a = none) : a ≠ L ∧ h₀.get? a = none := by
  constructor
  · rintro rfl
    obtain ⟨oL, es, ep, hL, _⟩ := F.ns
    rw [hn] at hL; cases hL
  · cases e : h₀.get? a with
    | none => rfl
    | some o => have := F.keep _ _ e; rw [hn] at this; cases this
/-- a side of the ledger, its objects under names -/
theorem side_op {P : Params} {h₀ h : PySem.Heap} {L x dx : PySem.Addr} {news : Led} {ox od : PySem.Obj} {d : Sd} {k1 k2 k3 k4 k5 v1 v2 v3 v4 v5 : Tok} (N : News h₀ L h news) (h1 : (x, ox) ∈ news) (e1 : ox = instObj 87 dx) (h2 : (dx, od) ∈ news) (e2 : od = dictOf (sideEs P d.x1 d.y1 d.x2 d.y2 d.way k1 k2 k3 k4 k5 v1 v2 v3 v4 v5) 5) : SideAt P h (.ref x) d :=
  ⟨x, dx, k1, k2, k3, k4, k5, v1, v2, v3, v4, v5, rfl, e1 ▸ (N _ h1).1, e2 ▸ (N _ h2).1⟩
theorem inst_op {h₀ h : PySem.Heap} {L x dx C : PySem.Addr} {news : Led} {ox od : PySem.Obj} {es : List DictEntry} {n : Nat} (N : News h₀ L h news) (h1 : (x, ox) ∈ news) (e1 : ox = instObj C dx) (h2 : (dx, od) ∈ news) (e2 : od = dictOf es n) : InstAt h x (instObj C dx) C (some (dictOf es n)) :=
  ⟨e1 ▸ (N _ h1).1, rfl, rfl, e2 ▸ (N _ h2).1⟩
theorem row_use {w : World} {p : Program} {loose : List PySem.Str} {mean : ExcName → Option PySem.Value} {mg mb : PySem.Str → Option PySem.Value}
    {dp un : Nat} {gd : Option (List Code)} {cn : PySem.Str} {cs : Scope} {a : PySem.Addr} {ccd : PySem.Value} {cl : List (PySem.Str × PySem.Addr)} {outer : List Env} {A₀ : Around} {base h₀ : PySem.Heap} {L : PySem.Addr} {m : PySem.Str → Option PySem.Value} {s : Shared}
    {Q E : PySem.Value → Shared → Prop} {news : Led} {x : PySem.Addr} {d : Sd}
    (B : Below A₀ base outer h₀) (F : Fr h₀ L s.heap m) (X : (Mine.hd.heap_39 w.params).In h₀) (N : News h₀ L s.heap news) (T : Top p loose mean mg mb h₀) (hk : cs.kind = .function) (hs : SideAt w.params s.heap (.ref x) d) (hd : dp + 3 * 1 < recursionLimit) (hu : un + 100 * 1 < cLine)
    (k : ∀ T n t1 t2 t3 t4 t5 h' tk', Fr h₀ L h' m → News h₀ L h' ((T, tupO [.int d.x1 t1, .int d.y1 t2, .int d.x2 t3, .int d.y2 t4, .int d.way t5] n) :: news) → Q (.ref T) { s with heap := h', toks := tk' }) :
    wpAny (model Mine.row.row.prog w) (ktrTop dp un gd cn cs L a ccd cl outer) (call (.ref 70) [.ref x]) Q E s := by
  refine pureH_use (row_told w x d) B F X N T hk (fun _ h => nomatch h) hd hu hs ?_
  rintro r h' tk' ⟨T', n, t1, t2, t3, t4, t5, rfl, hg, hn⟩ F' N' hX
  have nf := new_fact F hn
  exact k T' n t1 t2 t3 t4 t5 h' tk' F' (List.forall_mem_cons.mpr ⟨⟨hg, nf⟩, N'⟩)
theorem covers_use {w : World} {p : Program} {loose : List PySem.Str} {mean : ExcName → Option PySem.Value} {mg mb : PySem.Str → Option PySem.Value}
    {dp un : Nat} {gd : Option (List Code)} {cn : PySem.Str} {cs : Scope} {a : PySem.Addr} {ccd : PySem.Value} {cl : List (PySem.Str × PySem.Addr)} {outer : List Env} {A₀ : Around} {base h₀ : PySem.Heap} {L : PySem.Addr} {m : PySem.Str → Option PySem.Value} {s : Shared}
    {Q E : PySem.Value → Shared → Prop} {news : Led} {x : PySem.Addr} {d : Sd} {y : Int} {t : Tok} {b : Bool}
    (B : Below A₀ base outer h₀) (F : Fr h₀ L s.heap m) (X : (Mine.hd.heap_39 w.params).In h₀) (N : News h₀ L s.heap news) (T : Top p loose mean mg mb h₀) (hk : cs.kind = .function) (hs : SideAt w.params s.heap (.ref x) d) (hb : (decide (d.y1 ≤ y) && decide (y < d.y2)) = b) (hd : dp + 3 * 1 < recursionLimit) (hu : un + 100 * 1 < cLine)
    (k : ∀ h' tk', Fr h₀ L h' m → News h₀ L h' news → Q (.bool b) { s with heap := h', toks := tk' }) :
    wpAny (model Mine.row.row.prog w) (ktrTop dp un gd cn cs L a ccd cl outer) (call (.ref 77) [.ref x, .int y t]) Q E s := by
  refine pureH_use (covers_told w x d y t) B F X N T hk (fun _ h => nomatch h) hd hu hs ?_
  rintro r h' tk' rfl F' N' hX
  rw [hb]
  exact k h' tk' F' N'
theorem place_use {w : World} {p : Program} {loose : List PySem.Str} {mean : ExcName → Option PySem.Value} {mg mb : PySem.Str → Option PySem.Value}
    {dp un : Nat} {gd : Option (List Code)} {cn : PySem.Str} {cs : Scope} {a : PySem.Addr} {ccd : PySem.Value} {cl : List (PySem.Str × PySem.Addr)} {outer : List Env} {A₀ : Around} {base h₀ : PySem.Heap} {L : PySem.Addr} {m : PySem.Str → Option PySem.Value} {s : Shared}
    {Q E : PySem.Value → Shared → Prop} {news : Led} {x : PySem.Addr} {d : Sd} {y : Int} {t : Tok}
    (B : Below A₀ base outer h₀) (F : Fr h₀ L s.heap m) (X : (Mine.hd.heap_39 w.params).In h₀) (N : News h₀ L s.heap news) (T : Top p loose mean mg mb h₀) (hk : cs.kind = .function) (hs : SideAt w.params s.heap (.ref x) d) (hok : SdOk d) (hy1 : -6 ≤ y) (hy2 : y ≤ 6) (hd : dp + 3 * 1 < recursionLimit) (hu : un + 100 * 1 < cLine)
    (k : ∀ T n t1 t2 h' tk', Fr h₀ L h' m → News h₀ L h' ((T, tupO [.int (d.x1 * (d.y2 - d.y1) + (d.x2 - d.x1) * (y - d.y1)) t1, .int (d.y2 - d.y1) t2] n) :: news) → Q (.ref T) { s with heap := h', toks := tk' }) :
    wpAny (model Mine.row.row.prog w) (ktrTop dp un gd cn cs L a ccd cl outer) (call (.ref 84) [.ref x, .int y t]) Q E s := by
  refine pureH_use (place_told w x d y t hok hy1 hy2) B F X N T hk (fun _ h => nomatch h) hd hu hs ?_
  rintro r h' tk' ⟨T', n, t1, t2, rfl, hg, hn⟩ F' N' hX
  have nf := new_fact F hn
  exact k T' n t1 t2 h' tk' F' (List.forall_mem_cons.mpr ⟨⟨hg, nf⟩, N'⟩)
/-- side_between of two spots that are not level: a new side, its objects under names -/
theorem between_use {w : World} {p : Program} {loose : List PySem.Str} {mean : ExcName → Option PySem.Value} {mg mb : PySem.Str → Option PySem.Value}
    {dp un : Nat} {gd : Option (List Code)} {cn : PySem.Str} {cs : Scope} {a : PySem.Addr} {ccd : PySem.Value} {cl : List (PySem.Str × PySem.Addr)} {outer : List Env} {A₀ : Around} {base h₀ : PySem.Heap} {L : PySem.Addr} {m : PySem.Str → Option PySem.Value} {s : Shared}
    {Q E : PySem.Value → Shared → Prop} {news : Led} {o1 o2 : PySem.Addr} {x1 y1 x2 y2 : Int} {t1 t2 t3 t4 : Tok} {n1 n2 : Nat} {d : Sd}
    (B : Below A₀ base outer h₀) (F : Fr h₀ L s.heap m) (X : (Mine.hd.heap_39 w.params).In h₀) (N : News h₀ L s.heap news) (T : Top p loose mean mg mb h₀) (hk : cs.kind = .function) (m1 : (o1, tupO [.int x1 t1, .int y1 t2] n1) ∈ news) (m2 : (o2, tupO [.int x2 t3, .int y2 t4] n2) ∈ news) (hsd : sideOf x1 y1 x2 y2 = some d) (hd : dp + 3 * 3 < recursionLimit) (hu : un + 100 * 3 < cLine)
    (k : ∀ x dx ox od h' tk', (∃ k1 k2 k3 k4 k5 v1 v2 v3 v4 v5 : Tok, ox = instObj 87 dx ∧ od = dictOf (sideEs w.params d.x1 d.y1 d.x2 d.y2 d.way k1 k2 k3 k4 k5 v1 v2 v3 v4 v5) 5) → Fr h₀ L h' m → News h₀ L h' ((x, ox) :: (dx, od) :: news) → (∀ q ∈ news, q.1 ≠ x ∧ q.1 ≠ dx) → Q (.ref x) { s with heap := h', toks := tk' }) :
    wpAny (model Mine.row.row.prog w) (ktrTop dp un gd cn cs L a ccd cl outer) (call (.ref 98) [.ref o1, .ref o2]) Q E s := by
  refine pureH_use (between_told w o1 o2 x1 y1 x2 y2 t1 t2 t3 t4 n1 n2) B F X N T hk (fun _ h => nomatch h) hd hu ⟨(N _ m1).1, (N _ m2).1⟩ ?_
  intro r h' tk' hr F' N' hX
  rw [hsd] at hr
  obtain ⟨x, dx, k1, k2, k3, k4, k5, v1, v2, v3, v4, v5, rfl, ha, hb, hna, hnb⟩ := hr
  have nf := new_fact F hna
  have nf2 := new_fact F hnb
  refine k x dx _ _ h' tk' ⟨k1, k2, k3, k4, k5, v1, v2, v3, v4, v5, rfl, rfl⟩ F' (List.forall_mem_cons.mpr ⟨⟨ha, nf⟩, List.forall_mem_cons.mpr ⟨⟨hb, nf2⟩, N'⟩⟩) fun q hq => ⟨?_, ?_⟩
  · rintro rfl; rw [(N q hq).1] at hna; cases hna
  · rintro rfl; rw [(N q hq).1] at hnb; cases hnb
end

section
open PySem PySem.W PyProof.Rows PySem.Calls
/-- pairs of ints that stand in the heap -/
inductive PairsAt (h : PySem.Heap) : List PySem.Value → List (Int × Int) → Prop
  | nil : PairsAt h [] []
  | cons {a : PySem.Addr} {p : Int × Int} {t u : Tok} {n : Nat} {vs : List PySem.Value} {ps : List (Int × Int)} : h.get? a = some (tupO [.int p.1 t, .int p.2 u] n) → PairsAt h vs ps → PairsAt h (.ref a :: vs) (p :: ps)
theorem PairsAt.length {h : PySem.Heap} : ∀ {vs : List PySem.Value} {ps : List (Int × Int)}, PairsAt h vs ps → vs.length = ps.length
  | _, _, .nil => rfl
  | _, _, .cons _ r => by rw [List.length_cons, List.length_cons, r.length]
theorem PairsAt.get {h : PySem.Heap} : ∀ {vs : List PySem.Value} {ps : List (Int × Int)} {i : Nat}, PairsAt h vs ps → (hi : i < ps.length) → ∃ a t u n, vs[i]? = some (.ref a) ∧ h.get? a = some (tupO [.int (ps[i]'hi).1 t, .int (ps[i]'hi).2 u] n)
  | _, _, i, .nil, hi => absurd hi (Nat.not_lt_zero _)
  | _, _, 0, .cons a r, hi => ⟨_, _, _, _, rfl, a⟩
  | _, _, i + 1, .cons a r, hi => by
    obtain ⟨b, t, u, n, h1, h2⟩ := r.get (Nat.lt_of_succ_lt_succ hi)
    exact ⟨b, t, u, n, h1, h2⟩
theorem PairsAt.keep {h h' : PySem.Heap} {S : PySem.Addr} {n : Nat} {its : Array PySem.Value} (k : Keep [(S, listOf its n)] h h') (hS : h.get? S = some (listOf its n)) : ∀ {vs : List PySem.Value} {ps : List (Int × Int)}, PairsAt h vs ps → PairsAt h' vs ps
  | _, _, .nil => .nil
  | _, _, .cons a r => by
    refine .cons (k _ _ ?_ a) (PairsAt.keep k hS r)
    simp only [List.map_cons, List.map_nil, List.mem_singleton]
    rintro rfl
    rw [a] at hS; simp at hS

theorem item_led {prog : Program} {w : World} {A : Around} {E : PySem.Value → Shared → Prop} {s : Shared} {value slice : PySem.Expr} {h₀ : PySem.Heap} {L l : PySem.Addr} {vs : List PySem.Value} {n : Nat} {news : Led} {k : Int} {u : Tok} {v : PySem.Value} {Q : PySem.Value → Shared → Prop}
    (N : News h₀ L s.heap news) (hm : (l, listOf vs.toArray n) ∈ news) (h0 : 0 ≤ k) (hhi : k < 2 ^ 63) (hx : vs[k.toNat]? = some v) (h : Q v s)
    (hs : subscripted slice false (.ref l) (.int k u) = operate [.ref l, .int k u] (getItem (.ref l) (.int k u)) := by with_unfolding_all rfl) :
    wpAny (model prog w) A (subscriptTail value slice (.ref l) (.int k u)) Q E s :=
  have hl : s.heap.IsList l vs.toArray := ⟨_, N.get hm, rfl, n, rfl⟩
  tail_any hl.typeIs slot_list_getitem.lookup (wpAny_getItem_list hl h0 hhi (by simpa using hx) h) hs
theorem len_led {prog : Program} {w : World} {A : Around} {E : PySem.Value → Shared → Prop} {s : Shared} {h₀ : PySem.Heap} {L l : PySem.Addr} {vs : List PySem.Value} {n : Nat} {news : Led} {Q : PySem.Value → Shared → Prop}
    (N : News h₀ L s.heap news) (hm : (l, listOf vs.toArray n) ∈ news) (hfit : vs.length < 2 ^ 60) (h : Q (.int (vs.length : Int) (s.toks + 1)) { s with toks := s.toks + 1 + 1 }) : wpAny (model prog w) A (call (.builtin "len") [.ref l]) Q E s := by
  have hl : s.heap.IsList l vs.toArray := ⟨_, N.get hm, rfl, n, rfl⟩
  refine PyProof.Rows.len_list hl (by rw [List.size_toArray]; omega) ?_
  rw [List.size_toArray]; exact h


def bgVal (v : PySem.Value) : Option Int → Prop
  | none => v = .none
  | some b => ∃ t, v = .int b t
theorem mem_skip1 {a c q : PySem.Addr × PySem.Obj} {tl : Led} (h : q ∈ a :: tl) : q ∈ a :: c :: tl := by
  rcases List.mem_cons.mp h with rfl | h
  · exact .head _
  · exact .tail _ (.tail _ h)
def SpR (l C : PySem.Addr) (cvs : List PySem.Value) (nC : Nat) (nz : Bool) (ch : List (Int × Int)) (i : Nat) (c : PySem.Value × PySem.Value) (nx : Led) : Prop :=
  ∃ (fvs : List PySem.Value) (n' : Nat) (tl : Led), nx = (l, listOf fvs.toArray n') :: (C, listOf cvs.toArray nC) :: tl ∧ OwnOff tl [l, C] ∧ DatAll tl fvs ((spRun nz ch i).1.1.map pd) ∧
    (∃ t, c.1 = .int (spRun nz ch i).2 t) ∧ bgVal c.2 (spRun nz ch i).1.2

abbrev spPs (c : PySem.Value × PySem.Value) : List (PySem.Str × PySem.Value) := [(PySem.Str.ofString "winding", c.1), (PySem.Str.ofString "begin", c.2)]
abbrev spNames : List PySem.Str := [PySem.Str.ofString "at", PySem.Str.ofString "column", PySem.Str.ofString "way"]
theorem own_sub {own a b : Led} (h : OwnOff own (a.map (·.1))) (hs : ∀ x ∈ b.map (·.1), x ∈ a.map (·.1)) : OwnOff own (b.map (·.1)) := fun p hp x hx => h p hp x (hs x hx)
theorem sp_keep {g h' : PySem.Heap} {L : PySem.Addr} {m' m₀ : PySem.Str → Option PySem.Value} {l C : PySem.Addr} {fvs cvs : List PySem.Value} {n' nC : Nat} {own tl : Led} {nz : Bool} {ch : List (Int × Int)} {i : Nat} {s₁ : Shared} {tk : Nat} {S : SpSt × Int} {vb : PySem.Value} {t : Tok} (hS : spRun nz ch (i + 1) = S)
    (F : Fr g L h' m') (N : News g L h' ((l, listOf fvs.toArray n') :: (C, listOf cvs.toArray nC) :: (tl ++ own)))
    (ht : OwnOff tl [l, C]) (hoff : OwnOff own (((l, listOf fvs.toArray n') :: (C, listOf cvs.toArray nC) :: tl).map (·.1))) (hD : DatAll tl fvs (S.1.1.map pd))
    (hw : m' (PySem.Str.ofString "winding") = some (.int S.2 t)) (hv : m' (PySem.Str.ofString "begin") = some vb) (hb : bgVal vb S.1.2)
    (hm : ∀ z, z ≠ PySem.Str.ofString "winding" → z ≠ PySem.Str.ofString "begin" → spNames.contains z = false → m' z = m₀ z) :
    InvEndG g L (fun m' nx => (C, listOf cvs.toArray nC) ∈ nx ∧ LpK spPs spNames m₀ (SpR l C cvs nC nz ch (i + 1)) m' nx) own s₁ { s₁ with heap := h', toks := tk } := by
  refine turns_end (.int S.2 t, vb) ((l, listOf fvs.toArray n') :: (C, listOf cvs.toArray nC) :: tl) F N ?_ ?_ hoff (.tail _ (.head _)) ?_ (fun z h1 h2 => hm z (h1 _ (.head _)) (h1 _ (.tail _ (.head _))) h2) ⟨fvs, n', tl, rfl, ht, by rw [hS]; exact hD, by rw [hS]; exact ⟨t, rfl⟩, by rw [hS]; exact hb⟩
  · intro p hp
    simp only [List.mem_cons, List.mem_append] at hp ⊢
    rcases hp with e | e | e
    · exact .inl e
    · exact .inr (.inl e)
    · exact .inr (.inr (.inl e))
  · intro p hp
    simp only [List.mem_cons, List.mem_append]
    exact .inr (.inr (.inr hp))
  · intro p hp
    rcases List.mem_cons.mp hp with rfl | hp
    · exact hw
    · rw [List.mem_singleton.mp hp]; exact hv
theorem sp_add {g h' : PySem.Heap} {L : PySem.Addr} {m' m₀ : PySem.Str → Option PySem.Value} {l C D : PySem.Addr} {o : PySem.Obj} {fvs cvs : List PySem.Value} {n' nC k : Nat} {own tl : Led} {nz : Bool} {ch : List (Int × Int)} {i : Nat} {s₁ : Shared} {tk : Nat} {S : SpSt × Int} {fs : List (Int × Int)} {b c : Int} {t tb tc : Tok} (hS : spRun nz ch (i + 1) = S)
    (F : Fr g L h' m') (N : News g L h' ((D, tupO [.int b tb, .int c tc] k) :: (l, listOf (fvs.toArray.push (PySem.Value.ref D)) (n' + 1)) :: (C, listOf cvs.toArray nC) :: (tl ++ own)))
    (lD : l < D ∧ C < D ∧ AllLt D (tl ++ own)) (ht : OwnOff tl [l, C]) (hoff : OwnOff own (((l, o) :: (C, listOf cvs.toArray nC) :: tl).map (·.1))) (hD : DatAll tl fvs (fs.map pd)) (hf : S.1.1 = fs ++ [(b, c)]) (hn : S.1.2 = none)
    (hw : m' (PySem.Str.ofString "winding") = some (.int S.2 t)) (hv : m' (PySem.Str.ofString "begin") = some .none)
    (hm : ∀ z, z ≠ PySem.Str.ofString "winding" → z ≠ PySem.Str.ofString "begin" → spNames.contains z = false → m' z = m₀ z) :
    InvEndG g L (fun m' nx => (C, listOf cvs.toArray nC) ∈ nx ∧ LpK spPs spNames m₀ (SpR l C cvs nC nz ch (i + 1)) m' nx) own s₁ { s₁ with heap := h', toks := tk } := by
  obtain ⟨lD1, lD2, lD3⟩ := lD
  have lD4 := ktn_ltOf lD3
  rw [List.push_toArray] at N
  refine turns_end (.int S.2 t, .none) ((l, listOf (fvs ++ [PySem.Value.ref D]).toArray (n' + 1)) :: (C, listOf cvs.toArray nC) :: (D, tupO [.int b tb, .int c tc] k) :: tl) F N ?_ ?_ (own_off hoff fun p hp => lD4 p (List.mem_append_right _ hp)) (.tail _ (.head _)) ?_ (fun z h1 h2 => hm z (h1 _ (.head _)) (h1 _ (.tail _ (.head _))) h2)
    ⟨fvs ++ [PySem.Value.ref D], n' + 1, (D, tupO [.int b tb, .int c tc] k) :: tl, rfl, ?_, ?_, by rw [hS]; exact ⟨t, rfl⟩, by rw [hS, hn]; rfl⟩
  · intro p hp
    simp only [List.mem_cons, List.mem_append] at hp ⊢
    rcases hp with e | e | e | e
    · exact .inr (.inl e)
    · exact .inr (.inr (.inl e))
    · exact .inl e
    · exact .inr (.inr (.inr (.inl e)))
  · intro p hp
    simp only [List.mem_cons, List.mem_append]
    exact .inr (.inr (.inr (.inr hp)))
  · intro p hp
    rcases List.mem_cons.mp hp with rfl | hp
    · exact hw
    · rw [List.mem_singleton.mp hp]; exact hv
  · intro p hp b hb
    rcases List.mem_cons.mp hp with rfl | hp
    · simp only [List.mem_cons, List.not_mem_nil, or_false] at hb
      rcases hb with rfl | rfl
      · exact Nat.ne_of_gt lD1
      · exact Nat.ne_of_gt lD2
    · exact ht p hp b hb
  · rw [hS, hf, List.map_append]
    exact (hD.mono fun _ h => .tail _ h).append (DatAll.one (DatIn.tuple (.head _) (.cons (.int _ _) (.cons (.int _ _) .nil))))

theorem sp_len (nz : Bool) (ch : List (Int × Int)) : ∀ i, (spRun nz ch i).1.1.length ≤ i
  | 0 => Nat.le_refl _
  | i + 1 => by
    have ih := sp_len nz ch i
    show (spStep nz ch i (spRun nz ch i)).1.1.length ≤ _
    unfold spStep
    split
    · exact Nat.le_succ_of_le ih
    · unfold stepR
      dsimp only
      split
      · exact Nat.le_succ_of_le ih
      · split
        · simp only [List.length_append, List.length_cons, List.length_nil]; omega
        · exact Nat.le_succ_of_le ih
theorem getD_at {ch : List (Int × Int)} {i : Nat} (hi : i < ch.length) : ch.getD i (0, 0) = ch[i] := by simp [List.getD_eq_getElem?_getD, hi]
theorem sp_skip {nz : Bool} {ch : List (Int × Int)} {i : Nat} (hi : i < ch.length) (hl : i + 1 < ch.length) (hc : ch[i + 1].1 = ch[i].1) : spRun nz ch (i + 1) = ((spRun nz ch i).1, (spRun nz ch i).2 + ch[i].2) := by
  show spStep nz ch i _ = _
  unfold spStep
  rw [getD_at hi, getD_at hl, if_pos ⟨hl, hc⟩]
theorem sp_go {nz : Bool} {ch : List (Int × Int)} {i : Nat} (hi : i < ch.length) (hgo : ∀ hl : i + 1 < ch.length, ch[i + 1].1 ≠ ch[i].1) :
    spRun nz ch (i + 1) = (stepR (insideB nz ((spRun nz ch i).2 + ch[i].2)) (spRun nz ch i).1 ch[i].1, (spRun nz ch i).2 + ch[i].2) := by
  show spStep nz ch i _ = _
  unfold spStep
  rw [getD_at hi, if_neg (fun z => hgo z.1 (by rw [← getD_at z.1]; exact z.2))]
theorem sp_in {nz : Bool} {ch : List (Int × Int)} {i : Nat} (hi : i < ch.length) (hgo : ∀ hl : i + 1 < ch.length, ch[i + 1].1 ≠ ch[i].1) (hin : insideB nz ((spRun nz ch i).2 + ch[i].2) = true) :
    spRun nz ch (i + 1) = (((spRun nz ch i).1.1, some ((spRun nz ch i).1.2.getD ch[i].1)), (spRun nz ch i).2 + ch[i].2) := by
  rw [sp_go hi hgo, hin]; rfl
theorem sp_out0 {nz : Bool} {ch : List (Int × Int)} {i : Nat} (hi : i < ch.length) (hgo : ∀ hl : i + 1 < ch.length, ch[i + 1].1 ≠ ch[i].1) (hin : insideB nz ((spRun nz ch i).2 + ch[i].2) = false) (hb : (spRun nz ch i).1.2 = none) :
    spRun nz ch (i + 1) = ((spRun nz ch i).1, (spRun nz ch i).2 + ch[i].2) := by
  rw [sp_go hi hgo, hin]
  unfold stepR
  rw [hb]; rfl
theorem sp_out1 {nz : Bool} {ch : List (Int × Int)} {i : Nat} {b : Int} (hi : i < ch.length) (hgo : ∀ hl : i + 1 < ch.length, ch[i + 1].1 ≠ ch[i].1) (hin : insideB nz ((spRun nz ch i).2 + ch[i].2) = false) (hb : (spRun nz ch i).1.2 = some b) :
    spRun nz ch (i + 1) = (((spRun nz ch i).1.1 ++ [(b, ch[i].1)], none), (spRun nz ch i).2 + ch[i].2) := by
  rw [sp_go hi hgo, hin]
  unfold stepR
  rw [hb]; rfl
theorem ins_tt {nz : Bool} {x : Int} (hz : nz = true) (h : x ≠ 0) : insideB nz x = true := by subst hz; simp [insideB, h]
theorem ins_tf {nz : Bool} {x : Int} (hz : nz = true) (h : x = 0) : insideB nz x = false := by subst hz; simp [insideB, h]
theorem ins_ft {nz : Bool} {x : Int} (hz : nz = false) (h : x.fmod 2 ≠ 0) : insideB nz x = true := by subst hz; rw [fmod_e _ (by decide)] at h; simp [insideB, h]
theorem ins_ff {nz : Bool} {x : Int} (hz : nz = false) (h : x.fmod 2 = 0) : insideB nz x = false := by subst hz; rw [fmod_e _ (by decide)] at h; simp [insideB, h]
theorem names_off {z : PySem.Str} (h : spNames.contains z = false) : z ≠ PySem.Str.ofString "at" ∧ z ≠ PySem.Str.ofString "column" ∧ z ≠ PySem.Str.ofString "way" := by
  simp only [spNames, List.contains_cons, List.contains_nil, Bool.or_false, Bool.or_eq_false_iff, beq_eq_false_iff_ne, ne_eq] at h
  exact ⟨h.1, h.2.1, h.2.2⟩
/-- v is a new list of pairs of ints; its objects are new -/
def ListNew (h h' : PySem.Heap) (v : PySem.Value) (qs : List (Int × Int)) : Prop :=
  ∃ (R : PySem.Addr) (ws : List PySem.Value) (k : Nat) (nw : Led), v = .ref R ∧ (∀ q ∈ nw, h'.get? q.1 = some q.2 ∧ h.get? q.1 = none) ∧ (R, listOf ws.toArray k) ∈ nw ∧ DatAll nw ws (qs.map pd)
set_option maxRecDepth 100000 in
set_option maxHeartbeats 8000000 in
theorem spans_told (w : World) (C : Addr) (cvs : List PySem.Value) (ch : List (Int × Int)) (nz : Bool) (t1 : Tok) (nC : Nat) (hlen : cvs.length < 8)  :
    CtrH 5 w 49 [(C, listOf cvs.toArray nC)] [.ref C, .str (ruleS nz) t1] (fun h => PairsAt h cvs ch)
      (fun h r h' => Ext h h' ∧ ListNew h h' r (spans nz ch)) := by
  w_top off
  k_with_none
  k_with "mul_fits" => ((with_reducible show PySem.IntMulOk _ _); (try simp (disch := omega) only [fmod_e, fdiv_e, show Int.toNat 0 = 0 from rfl, show Int.toNat 1 = 1 from rfl, List.getD_cons_zero, List.getD_cons_succ]); first | exact PySem.IntMulOk.of_left (PySem.intBits_le_64 (by omega) (by omega)) | exact PySem.IntMulOk.of_right (PySem.intBits_le_64 (by omega) (by omega)))
  k_with "ktr_enter" => (refine' code_sub ?k1Z9 ?k2Z9 ?k3Z9 ?k4Z9 ?k5Z9 ?kAZ9 ?kFZ9 ?kKZ9 ?k6Z9 ?k7Z9 ?k8Z9 ?k9Z9 ?kBZ9 ?_ ?c2Z9 ?c3Z9 ?c4Z9 ?c5Z9; (case kAZ9 => exact rfl); (case kFZ9 => exact rfl); (case kKZ9 => assumption); (case k1Z9 => k_asm); (case k2Z9 => k_asm); (case k3Z9 => k_asm); (case k4Z9 => k_asm); (case k5Z9 => k_asm); (case k6Z9 => k_is); (case k7Z9 => k_is); (case k8Z9 => ktr_room); (case k9Z9 => exact BindsTo.of_eq rfl); (case c5Z9 => decide); (case kBZ9 => exact locs rfl); (case c2Z9 => exact rfl); (case c3Z9 => exact rfl); (case c4Z9 => exact rfl); k_whole; refine e3 ?_; generalize c3_1 _ = gZ9', c3_2 _ = LZ9', c3_3 _ = hZ9'; intro FGZ9' FZ9' NZ9' BZ9' XZ9' TZ9' hKZ9' hSZ9' l1Z9'; (try dsimp only); (try k_lift BZ9'))
  k_with "k_in" => (exact Frag.In.keeps (by k_asm) (Fr.keep (by k_asm)))
  k_with "callWith ref" => (k_here; k_dflt (refine' callWith_K ?k1Z9 ?k2Z9 ?_; (case k1Z9 => k_asm); (case k2Z9 => k_is); k_whole))
  k_with "k_room" => (ktr_room)
  k_with "k_units" => (ktr_units)
  k_with "call ref" => (k_here; (with_reducible show wpAny _ _ (call (Value.ref 133) [Value.int _ _, Value.ref _, Value.int _ _]) _ _ _); k_dflt (refine' pure_use1 (behind_told _ _ _ _ _ _ _ _ _ _ _ ?h3Z9 ?h4Z9 ?h5Z9 ?h6Z9) ?BZ9 ?FZ9 ?XZ9 ?NZ9 ?TZ9 ?hkZ9 ?hmZ9 ?hdZ9 ?huZ9 ?_; (case BZ9 => k_asm); (case FZ9 => k_asm); (case XZ9 => k_asm); (case NZ9 => k_asm); (case hmZ9 => k_mem); (case TZ9 => k_asm); (case hkZ9 => first | exact rfl | assumption); (case h3Z9 => omega); (case h4Z9 => omega); (case h5Z9 => omega); (case h6Z9 => omega); (case hdZ9 => ktr_room); (case huZ9 => ktr_units); k_whole); intro rZ9' hZ9' tkZ9' hrZ9' FZ9' NZ9' hXZ9'; subst hrZ9'; clear hXZ9'; (try k_sweep))
  k_with "call ref" => (k_here; (with_reducible show wpAny _ _ (call (Value.ref 35) [Value.ref _, Value.int _ _]) _ _ _); k_dflt (refine' pure_use1 (col_told _ _ _ _ _ _ _ _ _ ?h1Z9 ?h2Z9 ?h3Z9 ?h4Z9 ?h5Z9 ?h6Z9) ?BZ9 ?FZ9 ?XZ9 ?NZ9 ?TZ9 ?hkZ9 ?hmZ9 ?hdZ9 ?huZ9 ?_; (case BZ9 => k_asm); (case FZ9 => k_asm); (case XZ9 => k_asm); (case NZ9 => k_asm); (case hmZ9 => k_mem); (case TZ9 => k_asm); (case hkZ9 => first | exact rfl | assumption); (case h1Z9 => omega); (case h2Z9 => omega); (case h3Z9 => omega); (case h4Z9 => omega); (case h5Z9 => omega); (case h6Z9 => omega); (case hdZ9 => ktr_room); (case huZ9 => ktr_units); k_whole); intro rZ9' hZ9' tkZ9' hrZ9' FZ9' NZ9' hXZ9'; (obtain ⟨trZ9', hrZ9'⟩ := hrZ9'); subst hrZ9'; clear hXZ9'; (try k_sweep))
  k_with "call builtin:len" => (k_here; (with_reducible show wpAny _ _ (call (Value.builtin "len") [Value.ref _]) _ _ _); k_dflt (refine' len_led ?NZ9 ?mZ9 ?fZ9 ?_; (case NZ9 => k_asm); (case mZ9 => k_mem); (case fZ9 => omega); k_whole))
  k_with "subscriptTail" => (k_here; (with_reducible show wpAny _ _ (subscriptTail _ _ (Value.ref _) (Value.int _ _)) _ _ _); k_dflt (first | (refine' item_tupleT ?tZ9 ?aZ9 ?bZ9 ?cZ9 ?dZ9 ?_; (case tZ9 => exact tup_base (by k_asm) (by assumption)); (case aZ9 => decide); (case bZ9 => decide); (case cZ9 => rfl); (case dZ9 => rfl); k_whole) | (refine' item_led ?NZ9 ?mZ9 ?aZ9 ?bZ9 ?xZ9 ?_; (case NZ9 => k_asm); (case mZ9 => k_mem); (case xZ9 => assumption); (case aZ9 => omega); (case bZ9 => omega); k_whole)))
  k_with "subscriptTail Name Constant ref int" => (k_here; (with_reducible show wpAny _ _ (subscriptTail _ _ (Value.ref _) (Value.int _ _)) _ _ _); k_dflt (first | (refine' item_tupleT ?tZ9 ?aZ9 ?bZ9 ?cZ9 ?dZ9 ?_; (case tZ9 => exact tup_base (by k_asm) (by assumption)); (case aZ9 => decide); (case bZ9 => decide); (case cZ9 => rfl); (case dZ9 => rfl); k_whole) | (refine' item_led ?NZ9 ?mZ9 ?aZ9 ?bZ9 ?xZ9 ?_; (case NZ9 => k_asm); (case mZ9 => k_mem); (case xZ9 => assumption); (case aZ9 => omega); (case bZ9 => omega); k_whole)))
  k_with "subscriptTail Name BinOp ref int" => (k_here; (with_reducible show wpAny _ _ (subscriptTail _ _ (Value.ref _) (Value.int _ _)) _ _ _); k_dflt (first | (refine' item_tupleT ?tZ9 ?aZ9 ?bZ9 ?cZ9 ?dZ9 ?_; (case tZ9 => exact tup_base (by k_asm) (by assumption)); (case aZ9 => decide); (case bZ9 => decide); (case cZ9 => rfl); (case dZ9 => rfl); k_whole) | (refine' item_led ?NZ9 ?mZ9 ?aZ9 ?bZ9 ?xZ9 ?_; (case NZ9 => k_asm); (case mZ9 => k_mem); (case xZ9 => assumption); (case aZ9 => omega); (case bZ9 => omega); k_whole)))
  k_with "subscriptTail Name UnaryOp ref int" => (k_here; (with_reducible show wpAny _ _ (subscriptTail _ _ (Value.ref _) (Value.int _ _)) _ _ _); k_dflt (first | (refine' item_tupleT ?tZ9 ?aZ9 ?bZ9 ?cZ9 ?dZ9 ?_; (case tZ9 => exact tup_base (by k_asm) (by assumption)); (case aZ9 => decide); (case bZ9 => decide); (case cZ9 => rfl); (case dZ9 => rfl); k_whole) | (refine' item_led ?NZ9 ?mZ9 ?aZ9 ?bZ9 ?xZ9 ?_; (case NZ9 => k_asm); (case mZ9 => k_mem); (case xZ9 => assumption); (case aZ9 => omega); (case bZ9 => omega); k_whole)))
  k_with "subscriptTail Subscript Constant ref int" => (k_here; (with_reducible show wpAny _ _ (subscriptTail _ _ (Value.ref _) (Value.int _ _)) _ _ _); k_dflt (first | (refine' item_tupleT ?tZ9 ?aZ9 ?bZ9 ?cZ9 ?dZ9 ?_; (case tZ9 => exact tup_base (by k_asm) (by assumption)); (case aZ9 => decide); (case bZ9 => decide); (case cZ9 => rfl); (case dZ9 => rfl); k_whole) | (refine' item_led ?NZ9 ?mZ9 ?aZ9 ?bZ9 ?xZ9 ?_; (case NZ9 => k_asm); (case mZ9 => k_mem); (case xZ9 => assumption); (case aZ9 => omega); (case bZ9 => omega); k_whole)))
  k_with "call ref" => (k_here; (with_reducible show wpAny _ _ (call (Value.ref 21) [Value.int _ _, Value.str _ _]) _ _ _); k_dflt (refine' pureH_use (inside_told _ _ _ _ _) ?BZ9 ?FZ9 ?XZ9 ?NZ9 ?TZ9 ?hkZ9 ?hsZ9 ?hdZ9 ?huZ9 ?hHZ9 ?_; (case BZ9 => k_asm); (case FZ9 => k_asm); (case XZ9 => k_asm); (case NZ9 => k_asm); (case hsZ9 => exact fun _ h => nomatch h); (case TZ9 => k_asm); (case hkZ9 => first | exact rfl | assumption); (case hHZ9 => exact True.intro); (case hdZ9 => ktr_room); (case huZ9 => ktr_units); k_whole); intro rZ9' hZ9' tkZ9' hrZ9' FZ9' NZ9' hXZ9'; subst hrZ9'; clear hXZ9'; (try k_sweep))
  revert w C cvs ch nz t1 nC
  refine eW ?_
  generalize cW _ = w
  refine e6 ?_
  generalize c6_1 _ = C, c6_2 _ = cvs, c6_3 _ = ch, c6_4 _ = nz, c6_5 _ = t1, c6_6 _ = nC
  intro hlen
  unfold CtrH
  k_fill
  refine eC ?_
  generalize cC_1 _ = p, cC_2 _ = loose, cC_3 _ = mean, cC_4 _ = mg, cC_5 _ = mb, cC_6 _ = dp, cC_7 _ = un, cC_8 _ = gd, cC_9 _ = cn, cC_10 _ = cs, cC_11 _ = a, cC_12 _ = ccd, cC_13 _ = cl, cC_14 _ = outer, cC_15 _ = A₀, cC_16 _ = base, cC_17 _ = h₀, cC_18 _ = L, cC_19 _ = m, cC_20 _ = s, cC_21 _ = Q, cC_22 _ = E
  intro B F X N T hk hd hu hH hret
  have hC := (N _ (.head _)).1
  refine wpAny_call ?_
  k_dflt k_extra "ktr_enter"
  (rename Keep _ _ _ => kK)
  have hG := PairsAt.keep kK hC hH
  (rename Fr _ _ _ _ => lF)
  obtain ⟨m0, lF⟩ := fr_many [(PySem.Str.ofString "changes", _), (PySem.Str.ofString "rule", _)] lF (List.forall_mem_cons.mpr ⟨rfl, List.forall_mem_cons.mpr ⟨rfl, List.forall_mem_nil _⟩⟩)
  refine hideQ fun Q1 hQ1 => ?_
  rename_i u1p1
  revert lF hQ1
  revert m0 Q1
  refine e2 ?_
  generalize c2_1 _ = m0, c2_2 _ = Q1
  intro lF hQ1
  k_steps
  (rename Fr _ _ _ _ => lF)
  (rename News _ _ _ _ => lN)
  refine For_turns lF ?_
  k_steps
  refine for_enum (nn := nC) spPs spNames (SpR _ C cvs nC nz ch) (.int 0 _, .none) rfl (.tail _ (.head _)) lF (fun q hq => lN q (.tail _ hq)) (List.forall_mem_cons.mpr ⟨rfl, List.forall_mem_cons.mpr ⟨rfl, List.forall_mem_nil _⟩⟩) ⟨[], 0, [], rfl, (fun _ h => nomatch h), .nil, ⟨_, rfl⟩, rfl⟩ ?_ ?_
  · intro i x T t c u nx h tk own hv hT hoff hl₁ hR F₁ N₁
    obtain ⟨fvs, n', tl, rfl, ht, hD, ⟨tw, hw⟩, hb⟩ := hR
    obtain ⟨vw, vb⟩ := c
    dsimp only at hw hb
    subst hw
    have hi : i < ch.length := by rw [← hG.length]; exact (List.getElem?_eq_some_iff.mp hv).1
    obtain ⟨a1, ta, tb, na, hx, hga⟩ := hG.get hi
    rw [hx] at hv
    obtain rfl := Option.some.inj hv
    have hcl : cvs.length = ch.length := hG.length
    have hfl : fvs.length ≤ i := by
      have e := hD.length
      rw [List.length_map] at e
      have := sp_len nz ch i
      omega
    refine assign_three (X := a1) rfl hT ⟨_, F₁.keep _ _ hga, rfl, _, rfl⟩ (fun e => ?_) rfl rfl rfl rfl F₁ N₁ fun h' tk' F' N' => ?_
    · exact absurd (Nat.lt_of_lt_of_le (Heap.lt_size hga) F₁.above) (e ▸ Nat.lt_irrefl _)
    clear F₁ N₁ lF lN
    refine hideQ fun Q2 hQ2 => ?_
    simp only [List.cons_append] at N'
    have offA := kd_off (adr := [_, C]) (fun q hq b hb => hoff q hq b (by simp only [List.map_cons]; exact (List.mem_cons.mp hb).elim (fun e => e ▸ .head _) fun hb => .tail _ ((List.mem_cons.mp hb).elim (fun e => e ▸ .head _) fun hb => nomatch hb))) ht
    rename_i u2p1 u2d2 u2d3 u2d4 u2p5 u2d6 u2d7 u2p8 u2d9 u2d10 u2d11 u2d12 u2d13
    revert u2p5 u2p8 hoff hl₁ ht hD hb hi hx hga hT hv hfl F' N' hQ2 offA
    revert u2d2 u2d3 u2d6 u2d12 u2d13 i T t u h tk own fvs n' tl tw vb a1 ta tb na h' tk' Q2
    refine e17 ?_
    generalize c17_1 _ = u2d2, c17_2 _ = u2d3, c17_3 _ = u2d6, c17_4 _ = u2d12, c17_5 _ = u2d13, c17_6 _ = i, c17_7 _ = T, c17_8 _ = t, c17_9 _ = u, c17_10 _ = h, c17_11 _ = tk, c17_12 _ = own, c17_13 _ = fvs, c17_14 _ = n', c17_15 _ = tl, c17_16 _ = tw, c17_17 _ = vb
    refine e6 ?_
    generalize c6_1 _ = a1, c6_2 _ = ta, c6_3 _ = tb, c6_4 _ = na, c6_5 _ = h', c6_6 _ = tk'
    refine e1 ?_
    generalize c1_1 _ = Q2
    intro u2p5 u2p8 hoff hl₁ ht hD hb hi hx hga hT hv hfl F' N' hQ2 offA
    rcases hbg : (spRun nz ch i).1.2 with _ | bg
    · rw [hbg] at hb
      obtain rfl : vb = .none := hb
      by_cases hla : i + 1 < ch.length
      · obtain ⟨a2, tc, td, nb, hx2, hga2⟩ := hG.get hla
        have hx3 : cvs[((i : Int) + 1).toNat]? = some (.ref a2) := by rw [show ((i : Int) + 1).toNat = i + 1 by omega]; exact hx2
        k_steps
        all_goals (refine hQ2 _ _ ?_)
        k_steps
        · exact sp_keep (sp_skip hi hla (by assumption)) (by assumption) (by assumption) ht hoff hD (by rfl) (by rfl) (by rw [hbg]; exact rfl) (fun z h1 h2 h3 => by obtain ⟨h4, h5, h6⟩ := names_off h3; simp only [lpMap, kstB, h1, h2, h4, h5, h6, h3, if_false, Bool.false_eq_true])
        · exact sp_keep (sp_in hi (fun _ => by assumption) (by assumption)) (by assumption) (by assumption) ht hoff hD (by rfl) (by rfl) (by rw [hbg]; exact ⟨_, rfl⟩) (fun z h1 h2 h3 => by obtain ⟨h4, h5, h6⟩ := names_off h3; simp only [lpMap, kstB, h1, h2, h4, h5, h6, h3, if_false, Bool.false_eq_true])
        · exact sp_keep (sp_out0 hi (fun _ => by assumption) (by first | assumption | exact Bool.eq_false_iff.mpr (by assumption) | exact Bool.not_eq_true _ ▸ (by assumption)) hbg) (by assumption) (by assumption) ht hoff hD (by rfl) (by rfl) (by rw [hbg]; exact rfl) (fun z h1 h2 h3 => by obtain ⟨h4, h5, h6⟩ := names_off h3; simp only [lpMap, kstB, h1, h2, h4, h5, h6, h3, if_false, Bool.false_eq_true])
      · skip
        k_steps
        all_goals (refine hQ2 _ _ ?_)
        k_steps
        · exact sp_keep (sp_in hi (fun q => absurd q hla) (by assumption)) (by assumption) (by assumption) ht hoff hD (by rfl) (by rfl) (by rw [hbg]; exact ⟨_, rfl⟩) (fun z h1 h2 h3 => by obtain ⟨h4, h5, h6⟩ := names_off h3; simp only [lpMap, kstB, h1, h2, h4, h5, h6, h3, if_false, Bool.false_eq_true])
        · exact sp_keep (sp_out0 hi (fun q => absurd q hla) (by first | assumption | exact Bool.eq_false_iff.mpr (by assumption) | exact Bool.not_eq_true _ ▸ (by assumption)) hbg) (by assumption) (by assumption) ht hoff hD (by rfl) (by rfl) (by rw [hbg]; exact rfl) (fun z h1 h2 h3 => by obtain ⟨h4, h5, h6⟩ := names_off h3; simp only [lpMap, kstB, h1, h2, h4, h5, h6, h3, if_false, Bool.false_eq_true])
    · rw [hbg] at hb
      obtain ⟨tbg, rfl⟩ : ∃ t, vb = .int bg t := hb
      by_cases hla : i + 1 < ch.length
      · obtain ⟨a2, tc, td, nb, hx2, hga2⟩ := hG.get hla
        have hx3 : cvs[((i : Int) + 1).toNat]? = some (.ref a2) := by rw [show ((i : Int) + 1).toNat = i + 1 by omega]; exact hx2
        k_steps
        all_goals (refine hQ2 _ _ ?_)
        k_steps
        · exact sp_keep (sp_skip hi hla (by assumption)) (by assumption) (by assumption) ht hoff hD (by rfl) (by rfl) (by rw [hbg]; exact ⟨_, rfl⟩) (fun z h1 h2 h3 => by obtain ⟨h4, h5, h6⟩ := names_off h3; simp only [lpMap, kstB, h1, h2, h4, h5, h6, h3, if_false, Bool.false_eq_true])
        · exact sp_keep (sp_in hi (fun _ => by assumption) (by assumption)) (by assumption) (by assumption) ht hoff hD (by rfl) (by rfl) (by rw [hbg]; exact ⟨_, rfl⟩) (fun z h1 h2 h3 => by obtain ⟨h4, h5, h6⟩ := names_off h3; simp only [lpMap, kstB, h1, h2, h4, h5, h6, h3, if_false, Bool.false_eq_true])
        · exact sp_add (sp_out1 hi (fun _ => by assumption) (by first | assumption | exact Bool.eq_false_iff.mpr (by assumption) | exact Bool.not_eq_true _ ▸ (by assumption)) hbg) (by assumption) (by assumption) (by assumption) ht hoff hD rfl rfl (by rfl) (by rfl) (fun z h1 h2 h3 => by obtain ⟨h4, h5, h6⟩ := names_off h3; simp only [lpMap, kstB, h1, h2, h4, h5, h6, h3, if_false, Bool.false_eq_true])
      · skip
        k_steps
        all_goals (refine hQ2 _ _ ?_)
        k_steps
        · exact sp_keep (sp_in hi (fun q => absurd q hla) (by assumption)) (by assumption) (by assumption) ht hoff hD (by rfl) (by rfl) (by rw [hbg]; exact ⟨_, rfl⟩) (fun z h1 h2 h3 => by obtain ⟨h4, h5, h6⟩ := names_off h3; simp only [lpMap, kstB, h1, h2, h4, h5, h6, h3, if_false, Bool.false_eq_true])
        · exact sp_add (sp_out1 hi (fun q => absurd q hla) (by first | assumption | exact Bool.eq_false_iff.mpr (by assumption) | exact Bool.not_eq_true _ ▸ (by assumption)) hbg) (by assumption) (by assumption) (by assumption) ht hoff hD rfl rfl (by rfl) (by rfl) (fun z h1 h2 h3 => by obtain ⟨h4, h5, h6⟩ := names_off h3; simp only [lpMap, kstB, h1, h2, h4, h5, h6, h3, if_false, Bool.false_eq_true])
  · intro c u nx h tk hR F₁ N₁
    obtain ⟨fvs, n', tl, rfl, ht, hD, ⟨tw, hw⟩, hb⟩ := hR
    obtain ⟨vw, vb⟩ := c
    dsimp only at hw
    subst hw
    clear lF lN
    k_steps
    refine hQ1 _ _ ?_
    k_steps
    (rename ∀ (b : PySem.Addr) (o : PySem.Obj), PySem.Heap.get? _ b = some o → _ => k2)
    (rename News h₀ _ _ _ => kN)
    rw [hG.length] at hD
    refine hret _ _ _ ⟨ext_of N kK kN (fun q hq => ?_) k2, _, fvs, n', (_, listOf fvs.toArray n') :: tl, rfl, fun q hq => ⟨(N₁ q (mem_skip1 hq)).1, fresh_of kK N₁ (mem_skip1 hq) ?_⟩, .head _, hD.mono fun _ h => .tail _ h⟩
    · rw [List.mem_singleton.mp hq]; exact .tail _ (.head _)
    · simp only [List.map_cons, List.map_nil, List.mem_singleton]
      rcases List.mem_cons.mp hq with rfl | hq
      · exact Nat.ne_of_gt (by assumption)
      · exact ht q hq C (.tail _ (.head _))
end

section
open PySem PySem.W PyProof.Rows PySem.Calls PyProof.Rows.LCg
section
variable {prog : Program} {w : World} {A : Around} {E : Value → Shared → Prop} {s : Shared} {h₀ : Heap} {L l l2 : Addr} {m : PySem.Str → Option Value} {news : Led} {vs : List Value} {v0 v : Value} {n n2 : Nat} {Q : Value → Shared → Prop}
theorem eq_nil_led (N : News h₀ L s.heap news) (hm : (l, listOf (v0 :: vs).toArray n) ∈ news) (hm2 : (l2, listOf #[] n2) ∈ news) (hu : A.units < cLine) (h : Q (.bool false) s) : wpAny (model prog w) A (compareOp .Eq (.ref l) (.ref l2)) Q E s := by
  have hl : s.heap.IsList l (v0 :: vs).toArray := ⟨_, N.get hm, rfl, n, rfl⟩
  have hl2 : s.heap.IsList l2 #[] := ⟨_, N.get hm2, rfl, n2, rfl⟩
  exact PySem.SeqAt.eq_list_lengthsAt hl hl2 (by simp) hu h
theorem item_last {value slice : PySem.Expr} {u : Tok} (N : News h₀ L s.heap news) (hm : (l, listOf vs.toArray n) ∈ news) (h0 : 0 < vs.length) (hx : vs[vs.length - 1]? = some v) (h : Q v s)
    (hs : subscripted slice false (.ref l) (.int (0 - 1) u) = operate [.ref l, .int (0 - 1) u] (getItem (.ref l) (.int (0 - 1) u)) := by with_unfolding_all rfl) :
    wpAny (model prog w) A (subscriptTail value slice (.ref l) (.int (0 - 1) u)) Q E s :=
  have hl : s.heap.IsList l vs.toArray := ⟨_, N.get hm, rfl, n, rfl⟩
  tail_any hl.typeIs slot_list_getitem.lookup (wpAny_getItem_list_neg hl (by decide) (by rw [List.size_toArray]; omega) (by decide) (by rw [List.size_toArray, show (0 - 1 + (vs.length : Int)).toNat = vs.length - 1 by omega]; simpa using hx) h) hs
theorem sum_led {ns : List Int} (hh : A.handled = none) (F : Fr h₀ L s.heap m) (N : News h₀ L s.heap news) (hm : (l, lst vs) ∈ news) (hi : IntsAre vs ns)
    (h : ∀ h' tk t', Fr h₀ L h' m → News h₀ L h' news → Q (.int ns.sum t') { s with heap := h', toks := tk }) :
    wpAny (model prog w) A (call (.builtin "sum") [.ref l]) Q E s := by
  obtain ⟨o, ho⟩ : ∃ k, lst vs = listOf vs.toArray k := ⟨_, rfl⟩
  exact sumK hh F N ⟨_, N.get hm, rfl, _, rfl⟩ hi h
end
abbrev ruPs (c : PySem.Value) : List (PySem.Str × PySem.Value) := [(PySem.Str.ofString "begin", c)]
abbrev ruNames : List PySem.Str := [PySem.Str.ofString "turns", PySem.Str.ofString "is_in"]
def RuR (l K C : PySem.Addr) (cvs : List PySem.Value) (nC : Nat) (nz : Bool) (ch : List (Int × Int)) (i : Nat) (c : PySem.Value) (nx : Led) : Prop :=
  ∃ (fvs : List PySem.Value) (n' : Nat) (oc : PySem.Obj) (v : Option PySem.Value) (tl : Led), nx = (l, listOf fvs.toArray n') :: (K, oc) :: (C, listOf cvs.toArray nC) :: tl ∧ oc.data = .cell v ∧ OwnOff tl [l, K, C] ∧ DatAll tl fvs ((ruRun nz ch (firstC ch) i).1.map pd) ∧ bgVal c (ruRun nz ch (firstC ch) i).2
theorem range_nat (a b : Int) : Builtin.Range.rangeSize a b 1 = ((b - a).toNat : Int) := rangeSize_nat a b
theorem range_small {a b : Int} (h1 : -1000 ≤ a) (h2 : a ≤ 1000) (h3 : -1000 ≤ b) (h4 : b ≤ 1000) : Builtin.Range.small a b 1 = true := by
  unfold Builtin.Range.small
  rw [range_nat]
  simp only [Builtin.Range.rangeFitsLong, Bool.and_eq_true, Bool.or_eq_true, decide_eq_true_eq, beq_iff_eq, show (1 : Int) > 0 by decide, if_true]
  omega
theorem tup_two {a b x y : PySem.Value} {n k : Nat} (h : tupO [a, b] n = tupO [x, y] k) : x = a ∧ y = b := by
  simp [tupO] at h
  exact ⟨h.1.1.symm, h.1.2.symm⟩
theorem ways_yes {ch : List (Int × Int)} {k : Nat} {c : Int} {ys : List PySem.Value} {t : Tok} (hk : k < ch.length) (h : ch[k].1 ≤ c) (hP : IntsAre ys (((ch.take k).filter (fun p => decide (p.1 ≤ c))).map (·.2))) :
    IntsAre (ys ++ [.int ch[k].2 t]) (((ch.take (k + 1)).filter (fun p => decide (p.1 ≤ c))).map (·.2)) := by
  rw [List.take_add_one, List.getElem?_eq_getElem hk, Option.toList_some, List.filter_append, List.map_append, List.filter_cons_of_pos (by simpa using h)]
  exact hP.append (.cons _ _ .nil)
theorem ways_no {ch : List (Int × Int)} {k : Nat} {c : Int} {ys : List PySem.Value} (hk : k < ch.length) (h : ¬ ch[k].1 ≤ c) (hP : IntsAre ys (((ch.take k).filter (fun p => decide (p.1 ≤ c))).map (·.2))) :
    IntsAre ys (((ch.take (k + 1)).filter (fun p => decide (p.1 ≤ c))).map (·.2)) := by
  rw [List.take_add_one, List.getElem?_eq_getElem hk, Option.toList_some, List.filter_append, List.map_append, List.filter_cons_of_neg (by simpa using h)]
  simpa using hP
theorem ru_keep {g h' : PySem.Heap} {L : PySem.Addr} {m' m₀ : PySem.Str → Option PySem.Value} {l K C : PySem.Addr} {o oc : PySem.Obj} {v : Option PySem.Value} {x : PySem.Addr × PySem.Obj} {fvs cvs : List PySem.Value} {n' nC : Nat} {own tl : Led} {nz : Bool} {ch : List (Int × Int)} {i : Nat} {s₁ : Shared} {tk : Nat} {S : SpSt} {vb : PySem.Value} (hS : ruRun nz ch (firstC ch) (i + 1) = S)
    (F : Fr g L h' m') (N : News g L h' (x :: (l, listOf fvs.toArray n') :: (K, oc) :: (C, listOf cvs.toArray nC) :: (tl ++ own))) (hcd : oc.data = .cell v)
    (ht : OwnOff tl [l, K, C]) (hoff : OwnOff own (((l, listOf fvs.toArray n') :: (K, o) :: (C, listOf cvs.toArray nC) :: tl).map (·.1))) (hD : DatAll tl fvs (S.1.map pd))
    (hv : m' (PySem.Str.ofString "begin") = some vb) (hb : bgVal vb S.2)
    (hm : ∀ z, z ≠ PySem.Str.ofString "begin" → ruNames.contains z = false → m' z = m₀ z) :
    InvEndG g L (fun m' nx => (C, listOf cvs.toArray nC) ∈ nx ∧ LpK ruPs ruNames m₀ (RuR l K C cvs nC nz ch (i + 1)) m' nx) own s₁ { s₁ with heap := h', toks := tk } := by
  refine turns_end vb ((l, listOf fvs.toArray n') :: (K, oc) :: (C, listOf cvs.toArray nC) :: tl) F N ?_ ?_ hoff (.tail _ (.tail _ (.head _))) ?_ (fun z h1 h2 => hm z (h1 _ (.head _)) h2) ⟨fvs, n', oc, v, tl, rfl, hcd, ht, by rw [hS]; exact hD, by rw [hS]; exact hb⟩
  · intro p hp
    simp only [List.mem_cons, List.mem_append] at hp ⊢
    rcases hp with e | e | e | e
    · exact .inr (.inl e)
    · exact .inr (.inr (.inl e))
    · exact .inr (.inr (.inr (.inl e)))
    · exact .inr (.inr (.inr (.inr (.inl e))))
  · intro p hp
    simp only [List.mem_cons, List.mem_append]
    exact .inr (.inr (.inr (.inr (.inr hp))))
  · intro p hp
    rw [List.mem_singleton.mp hp]; exact hv
theorem ru_add {g h' : PySem.Heap} {L : PySem.Addr} {m' m₀ : PySem.Str → Option PySem.Value} {l K C D : PySem.Addr} {o oo oc : PySem.Obj} {v : Option PySem.Value} {x : PySem.Addr × PySem.Obj} {fvs cvs : List PySem.Value} {n' nC k : Nat} {own tl : Led} {nz : Bool} {ch : List (Int × Int)} {i : Nat} {s₁ : Shared} {tk : Nat} {S : SpSt} {fs : List (Int × Int)} {b c : Int} {tb tc : Tok} (hS : ruRun nz ch (firstC ch) (i + 1) = S)
    (F : Fr g L h' m') (N : News g L h' ((D, tupO [.int b tb, .int c tc] k) :: x :: (l, listOf (fvs.toArray.push (PySem.Value.ref D)) (n' + 1)) :: (K, oc) :: (C, listOf cvs.toArray nC) :: (tl ++ own))) (hcd : oc.data = .cell v)
    (lD : x.1 < D ∧ l < D ∧ K < D ∧ C < D ∧ AllLt D (tl ++ own)) (ht : OwnOff tl [l, K, C]) (hoff : OwnOff own (((l, oo) :: (K, o) :: (C, listOf cvs.toArray nC) :: tl).map (·.1))) (hD : DatAll tl fvs (fs.map pd)) (hf : S.1 = fs ++ [(b, c)]) (hn : S.2 = none)
    (hv : m' (PySem.Str.ofString "begin") = some .none)
    (hm : ∀ z, z ≠ PySem.Str.ofString "begin" → ruNames.contains z = false → m' z = m₀ z) :
    InvEndG g L (fun m' nx => (C, listOf cvs.toArray nC) ∈ nx ∧ LpK ruPs ruNames m₀ (RuR l K C cvs nC nz ch (i + 1)) m' nx) own s₁ { s₁ with heap := h', toks := tk } := by
  obtain ⟨_, lD1, lD2, lD3, lD4⟩ := lD
  have lD5 := ktn_ltOf lD4
  rw [List.push_toArray] at N
  refine turns_end .none ((l, listOf (fvs ++ [PySem.Value.ref D]).toArray (n' + 1)) :: (K, oc) :: (C, listOf cvs.toArray nC) :: (D, tupO [.int b tb, .int c tc] k) :: tl) F N ?_ ?_ (fun p hp y hy => ?_) (.tail _ (.tail _ (.head _))) ?_ (fun z h1 h2 => hm z (h1 _ (.head _)) h2)
    ⟨fvs ++ [PySem.Value.ref D], n' + 1, oc, v, (D, tupO [.int b tb, .int c tc] k) :: tl, rfl, hcd, ?_, ?_, by rw [hS, hn]; rfl⟩
  · intro p hp
    simp only [List.mem_cons, List.mem_append] at hp ⊢
    rcases hp with e | e | e | e | e
    · exact .inr (.inr (.inl e))
    · exact .inr (.inr (.inr (.inl e)))
    · exact .inr (.inr (.inr (.inr (.inl e))))
    · exact .inl e
    · exact .inr (.inr (.inr (.inr (.inr (.inl e)))))
  · intro p hp
    simp only [List.mem_cons, List.mem_append]
    exact .inr (.inr (.inr (.inr (.inr (.inr hp)))))
  · simp only [List.map_cons, List.mem_cons] at hy
    rcases hy with rfl | rfl | rfl | rfl | hy
    · exact hoff p hp _ (.head _)
    · exact hoff p hp _ (.tail _ (.head _))
    · exact hoff p hp _ (.tail _ (.tail _ (.head _)))
    · exact Nat.ne_of_lt (lD5 p (List.mem_append_right _ hp))
    · exact hoff p hp _ (.tail _ (.tail _ (.tail _ hy)))
  · intro p hp
    rw [List.mem_singleton.mp hp]; exact hv
  · intro p hp b hb
    rcases List.mem_cons.mp hp with rfl | hp
    · simp only [List.mem_cons, List.not_mem_nil, or_false] at hb
      rcases hb with rfl | rfl | rfl
      · exact Nat.ne_of_gt lD1
      · exact Nat.ne_of_gt lD2
      · exact Nat.ne_of_gt lD3
    · exact ht p hp b hb
  · rw [hS, hf, List.map_append]
    exact (hD.mono fun _ h => .tail _ h).append (DatAll.one (DatIn.tuple (.head _) (.cons (.int _ _) (.cons (.int _ _) .nil))))
theorem ru_names_off {z : PySem.Str} (h : ruNames.contains z = false) : z ≠ PySem.Str.ofString "turns" ∧ z ≠ PySem.Str.ofString "is_in" := by
  simp only [ruNames, List.contains_cons, List.contains_nil, Bool.or_false, Bool.or_eq_false_iff, beq_eq_false_iff_ne, ne_eq] at h
  exact ⟨h.1, h.2⟩
theorem ru_in0 {nz : Bool} {ch : List (Int × Int)} {i : Nat} {S : SpSt} (e : ruRun nz ch (firstC ch) i = S) (hi : insideB nz (turnsAt ch (firstC ch + (i : Int))) = true) : ruRun nz ch (firstC ch) (i + 1) = (S.1, some (S.2.getD (firstC ch + (i : Int)))) := by
  show stepR _ _ _ = _
  rw [hi, e]; rfl
theorem ru_out0 {nz : Bool} {ch : List (Int × Int)} {i : Nat} {S : SpSt} (e : ruRun nz ch (firstC ch) i = S) (hi : insideB nz (turnsAt ch (firstC ch + (i : Int))) = false) (hb : S.2 = none) : ruRun nz ch (firstC ch) (i + 1) = S := by
  show stepR _ _ _ = _
  rw [hi, e]; unfold stepR; rw [hb]; rfl
theorem ru_out1 {nz : Bool} {ch : List (Int × Int)} {i : Nat} {S : SpSt} {b : Int} (e : ruRun nz ch (firstC ch) i = S) (hi : insideB nz (turnsAt ch (firstC ch + (i : Int))) = false) (hb : S.2 = some b) : ruRun nz ch (firstC ch) (i + 1) = (S.1 ++ [(b, firstC ch + (i : Int))], none) := by
  show stepR _ _ _ = _
  rw [hi, e]; unfold stepR; rw [hb]; rfl
theorem ru_len (nz : Bool) (ch : List (Int × Int)) (c0 : Int) : ∀ i, (ruRun nz ch c0 i).1.length ≤ i
  | 0 => Nat.le_refl _
  | i + 1 => by
    have ih := ru_len nz ch c0 i
    show (stepR _ _ _).1.length ≤ _
    unfold stepR
    split
    · exact Nat.le_succ_of_le ih
    · split
      · simp only [List.length_append, List.length_cons, List.length_nil]; omega
      · exact Nat.le_succ_of_le ih
theorem mem_skip2b {a b c q : PySem.Addr × PySem.Obj} {tl : Led} (h : q ∈ a :: tl) : q ∈ a :: b :: c :: tl := by
  rcases List.mem_cons.mp h with rfl | h
  · exact .head _
  · exact .tail _ (.tail _ (.tail _ h))
theorem pairs_tups {h : PySem.Heap} {vs : List PySem.Value} {ch : List (Int × Int)} (G : PairsAt h vs ch) : ∀ (i : Nat) (v : PySem.Value), vs[i]? = some v → ∃ t x y k, v = .ref t ∧ h.get? t = some (tupO [x, y] k) := by
  intro k v hv
  obtain ⟨a1, t, u, n, h1, h2⟩ := G.get (i := k) (by rw [← G.length]; exact (List.getElem?_eq_some_iff.mp hv).1)
  rw [h1] at hv; exact ⟨a1, _, _, n, (Option.some.inj hv).symm, h2⟩
end

section
open PySem PySem.W PyProof.Rows PySem.Calls PyProof.Rows.LCg
set_option maxRecDepth 100000 in
set_option maxHeartbeats 4000000 in
theorem runs_told (w : World) (C : Addr) (cvs : List PySem.Value) (ch : List (Int × Int)) (nz : Bool) (t1 : Tok) (nC : Nat) (hlen : cvs.length < 8) (hcol : ∀ p ∈ ch, 0 ≤ p.1 ∧ p.1 < 6) :
    CtrH 5 w 145 [(C, listOf cvs.toArray nC)] [.ref C, .str (ruleS nz) t1] (fun h => PairsAt h cvs ch)
      (fun h r h' => Ext h h' ∧ ListNew h h' r (runs nz ch)) := by
  w_top off
  k_with_none
  k_with "mul_fits" => ((with_reducible show PySem.IntMulOk _ _); (try simp (disch := omega) only [fmod_e, fdiv_e, show Int.toNat 0 = 0 from rfl, show Int.toNat 1 = 1 from rfl, List.getD_cons_zero, List.getD_cons_succ]); first | exact PySem.IntMulOk.of_left (PySem.intBits_le_64 (by omega) (by omega)) | exact PySem.IntMulOk.of_right (PySem.intBits_le_64 (by omega) (by omega)))
  k_with "ktr_enter" => (refine' code_subC ?k1Z9 ?k2Z9 ?k3Z9 ?k4Z9 ?k5Z9 ?kAZ9 ?kFZ9 ?kKZ9 ?k6Z9 ?k7Z9 ?k8Z9 ?k9Z9 ?kBZ9 ?kDZ9 ?_ ?c2Z9 ?c3Z9 ?c4Z9; (case kAZ9 => exact rfl); (case kFZ9 => exact rfl); (case kKZ9 => assumption); (case k1Z9 => k_asm); (case k2Z9 => k_asm); (case k3Z9 => k_asm); (case k4Z9 => k_asm); (case k5Z9 => k_asm); (case k6Z9 => k_is); (case k7Z9 => k_is); (case k8Z9 => ktr_room); (case k9Z9 => exact BindsTo.of_eq rfl); (case kBZ9 => exact rfl); (case kDZ9 => decide +kernel); (case c2Z9 => exact rfl); (case c3Z9 => exact rfl); (case c4Z9 => exact rfl); k_whole; refine e5 ?_; generalize c5_1 _ = gZ9', c5_2 _ = LZ9', c5_3 _ = hZ9', c5_4 _ = tkZ9', c5_5 _ = cellsZ9'; intro FGZ9' FZ9' NZ9' YZ9' BZ9' XZ9' TZ9' hKZ9' hSZ9' l1Z9; (try k_lt l1Z9); k_cells YZ9'; (try simp only [List.cons_append, List.nil_append] at NZ9'); (try dsimp only); (try k_lift BZ9'))
  k_with "k_in" => (exact Frag.In.keeps (by k_asm) (Fr.keep (by k_asm)))
  k_with "callWith ref" => (k_here; k_dflt (refine' callWith_K ?k1Z9 ?k2Z9 ?_; (case k1Z9 => k_asm); (case k2Z9 => k_is); k_whole))
  k_with "k_room" => (ktr_room)
  k_with "k_units" => (ktr_units)
  k_with "compareOp Eq ref ref" => (k_here; (with_reducible show wpAny _ _ (compareOp CmpOp.Eq (Value.ref _) (Value.ref _)) _ _ _); k_dflt (refine' eq_nil_led ?NZ9 ?mZ9 ?m2Z9 ?uZ9 ?_; (case NZ9 => k_asm); (case mZ9 => k_mem); (case m2Z9 => k_mem); (case uZ9 => ke_room); k_whole))
  k_with "call builtin:sum" => (k_here; (with_reducible show wpAny _ _ (call (Value.builtin "sum") [Value.ref _]) _ _ _); k_dflt (refine' sum_led ?k0Z9 ?k1Z9 ?k2Z9 ?k3Z9 ?k4Z9 ?_; (case k0Z9 => exact rfl); (case k1Z9 => k_asm); (case k2Z9 => k_asm); (case k3Z9 => k_mem); (case k4Z9 => assumption); k_whole); intro hZ9' tkZ9' tZ9' FZ9' NZ9')
  k_with "subscriptTail" => (k_here; (with_reducible show wpAny _ _ (subscriptTail _ _ (Value.ref _) (Value.int _ _)) _ _ _); k_dflt (first | (refine' item_tupleT ?tZ9 ?aZ9 ?bZ9 ?cZ9 ?dZ9 ?_; (case tZ9 => exact tup_base (by k_asm) (by assumption)); (case aZ9 => decide); (case bZ9 => decide); (case cZ9 => rfl); (case dZ9 => rfl); k_whole) | (refine' item_led ?NZ9 ?mZ9 ?aZ9 ?bZ9 ?xZ9 ?_; (case NZ9 => k_asm); (case mZ9 => k_mem); (case aZ9 => omega); (case bZ9 => omega); (case xZ9 => assumption); k_whole) | (refine' item_last ?NZ9 ?mZ9 ?aZ9 ?xZ9 ?_; (case NZ9 => k_asm); (case mZ9 => k_mem); (case xZ9 => assumption); (case aZ9 => assumption); k_whole)))
  k_with "subscriptTail Name Constant ref int" => (k_here; (with_reducible show wpAny _ _ (subscriptTail _ _ (Value.ref _) (Value.int _ _)) _ _ _); k_dflt (first | (refine' item_tupleT ?tZ9 ?aZ9 ?bZ9 ?cZ9 ?dZ9 ?_; (case tZ9 => exact tup_base (by k_asm) (by assumption)); (case aZ9 => decide); (case bZ9 => decide); (case cZ9 => rfl); (case dZ9 => rfl); k_whole) | (refine' item_led ?NZ9 ?mZ9 ?aZ9 ?bZ9 ?xZ9 ?_; (case NZ9 => k_asm); (case mZ9 => k_mem); (case aZ9 => omega); (case bZ9 => omega); (case xZ9 => assumption); k_whole) | (refine' item_last ?NZ9 ?mZ9 ?aZ9 ?xZ9 ?_; (case NZ9 => k_asm); (case mZ9 => k_mem); (case xZ9 => assumption); (case aZ9 => assumption); k_whole)))
  k_with "subscriptTail Name BinOp ref int" => (k_here; (with_reducible show wpAny _ _ (subscriptTail _ _ (Value.ref _) (Value.int _ _)) _ _ _); k_dflt (first | (refine' item_tupleT ?tZ9 ?aZ9 ?bZ9 ?cZ9 ?dZ9 ?_; (case tZ9 => exact tup_base (by k_asm) (by assumption)); (case aZ9 => decide); (case bZ9 => decide); (case cZ9 => rfl); (case dZ9 => rfl); k_whole) | (refine' item_led ?NZ9 ?mZ9 ?aZ9 ?bZ9 ?xZ9 ?_; (case NZ9 => k_asm); (case mZ9 => k_mem); (case aZ9 => omega); (case bZ9 => omega); (case xZ9 => assumption); k_whole) | (refine' item_last ?NZ9 ?mZ9 ?aZ9 ?xZ9 ?_; (case NZ9 => k_asm); (case mZ9 => k_mem); (case xZ9 => assumption); (case aZ9 => assumption); k_whole)))
  k_with "subscriptTail Name UnaryOp ref int" => (k_here; (with_reducible show wpAny _ _ (subscriptTail _ _ (Value.ref _) (Value.int _ _)) _ _ _); k_dflt (first | (refine' item_tupleT ?tZ9 ?aZ9 ?bZ9 ?cZ9 ?dZ9 ?_; (case tZ9 => exact tup_base (by k_asm) (by assumption)); (case aZ9 => decide); (case bZ9 => decide); (case cZ9 => rfl); (case dZ9 => rfl); k_whole) | (refine' item_led ?NZ9 ?mZ9 ?aZ9 ?bZ9 ?xZ9 ?_; (case NZ9 => k_asm); (case mZ9 => k_mem); (case aZ9 => omega); (case bZ9 => omega); (case xZ9 => assumption); k_whole) | (refine' item_last ?NZ9 ?mZ9 ?aZ9 ?xZ9 ?_; (case NZ9 => k_asm); (case mZ9 => k_mem); (case xZ9 => assumption); (case aZ9 => assumption); k_whole)))
  k_with "subscriptTail Subscript Constant ref int" => (k_here; (with_reducible show wpAny _ _ (subscriptTail _ _ (Value.ref _) (Value.int _ _)) _ _ _); k_dflt (first | (refine' item_tupleT ?tZ9 ?aZ9 ?bZ9 ?cZ9 ?dZ9 ?_; (case tZ9 => exact tup_base (by k_asm) (by assumption)); (case aZ9 => decide); (case bZ9 => decide); (case cZ9 => rfl); (case dZ9 => rfl); k_whole) | (refine' item_led ?NZ9 ?mZ9 ?aZ9 ?bZ9 ?xZ9 ?_; (case NZ9 => k_asm); (case mZ9 => k_mem); (case aZ9 => omega); (case bZ9 => omega); (case xZ9 => assumption); k_whole) | (refine' item_last ?NZ9 ?mZ9 ?aZ9 ?xZ9 ?_; (case NZ9 => k_asm); (case mZ9 => k_mem); (case xZ9 => assumption); (case aZ9 => assumption); k_whole)))
  k_with "eval ListComp" => (refine Halt.go ?_)
  revert w C cvs ch nz t1 nC
  refine eW ?_
  generalize cW _ = w
  refine e6 ?_
  generalize c6_1 _ = C, c6_2 _ = cvs, c6_3 _ = ch, c6_4 _ = nz, c6_5 _ = t1, c6_6 _ = nC
  intro hlen hcol
  unfold CtrH
  k_fill
  refine eC ?_
  generalize cC_1 _ = p, cC_2 _ = loose, cC_3 _ = mean, cC_4 _ = mg, cC_5 _ = mb, cC_6 _ = dp, cC_7 _ = un, cC_8 _ = gd, cC_9 _ = cn, cC_10 _ = cs, cC_11 _ = a, cC_12 _ = ccd, cC_13 _ = cl, cC_14 _ = outer, cC_15 _ = A₀, cC_16 _ = base, cC_17 _ = h₀, cC_18 _ = L, cC_19 _ = m, cC_20 _ = s, cC_21 _ = Q, cC_22 _ = E
  intro B F X N T hk hd hu hH hret
  have hC := (N _ (.head _)).1
  cases cvs with
  | nil =>
    refine wpAny_call ?_
    k_dflt k_extra "ktr_enter"
    k_steps
    cases hH
    (rename ∀ (b : PySem.Addr) (o : PySem.Obj), PySem.Heap.get? _ b = some o → _ => k2)
    (rename News h₀ _ _ _ => kN)
    revert kN
    (rename News _ _ _ _ => kQ1)
    intro kN
    refine hret _ _ _ ⟨ext_of N (by assumption) kN (fun q hq => by rw [List.mem_singleton.mp hq]; k_mem) k2, _, [], 0, [(_, listOf #[] 0)], rfl, fun q hq => ?_, .head _, .nil⟩
    rw [List.mem_singleton.mp hq]
    exact ⟨(kN _ (.head _)).1, fresh_of (by assumption) kQ1 (.head _) (by simp only [List.map_cons, List.map_nil, List.mem_singleton]; exact Nat.ne_of_gt (by omega))⟩
  | cons v0 vs =>
    revert hlen N hH hC
    revert v0 vs
    refine e2 ?_
    generalize c2_1 _ = v0, c2_2 _ = vs
    intro hlen N hH hC
    refine wpAny_call ?_
    k_dflt k_extra "ktr_enter"
    (rename Keep _ _ _ => kK)
    have hG := PairsAt.keep kK hC hH
    have hcl : (v0 :: vs).length = ch.length := hG.length
    have hl0 : 0 < (v0 :: vs).length := Nat.succ_pos _
    refine hideG fun C0 hC0 => ?_
    obtain ⟨b1, ta, tb, na, hx0, hg0⟩ := hG.get (i := 0) (by omega)
    obtain ⟨b2, tc, td, nb, hxL, hg2⟩ := hG.get (i := (v0 :: vs).length - 1) (by omega)
    refine hC0 ?_
    clear hC0
    (rename Fr _ _ _ _ => lF)
    obtain ⟨m0, lF⟩ := fr_many [(PySem.Str.ofString "changes", _), (PySem.Str.ofString "rule", _)] lF (List.forall_mem_cons.mpr ⟨rfl, List.forall_mem_cons.mpr ⟨rfl, List.forall_mem_nil _⟩⟩)
    refine hideQ fun Q1 hQ1 => ?_
    have hx0' : (v0 :: vs)[(0 : Int).toNat]? = some (.ref b1) := hx0
    rename_i r1p1 r1d2 r1p3
    revert r1p3 NZ9' lF hQ1
    revert r1d2 m0 Q1
    refine e3 ?_
    generalize c3_1 _ = r1d2, c3_2 _ = m0, c3_3 _ = Q1
    intro r1p3 NZ9' lF hQ1
    k_steps
    (rename Fr _ _ _ _ => lF)
    (rename News _ _ _ _ => lN)
    refine For_turns lF ?_
    k_steps

    (rename Fr _ _ _ _ => lF)
    (rename News _ _ _ _ => lN)
    (rename IsRange _ _ _ _ _ _ _ _ => hr)
    (rename _ = PySem.Data.cell _ => hcd)
    have hf0 : ch[0].1 = firstC ch := by unfold firstC; rw [getD_at (by omega)]
    have hf1 : ch[(v0 :: vs).length - 1].1 = lastC ch := by have e := getD_at (ch := ch) (i := (v0 :: vs).length - 1) (by omega); rw [← e, hcl]; rfl
    have hb0 := hcol _ (List.getElem_mem (l := ch) (n := 0) (by omega))
    have hb1 := hcol _ (List.getElem_mem (l := ch) (n := (v0 :: vs).length - 1) (by omega))
    rw [hf0, hf1] at hr
    rw [hf0] at hb0
    rw [hf1] at hb1
    refine for_rangeT (l := C) ruPs ruNames (RuR _ _ C (v0 :: vs) nC nz ch) .none rfl (.tail _ (.tail _ (.head _))) hr (range_small (by omega) (by omega) (by omega) (by omega)) (range_nat _ _) lF (List.forall_mem_cons.mpr ⟨lN _ (.tail _ (.head _)), List.forall_mem_cons.mpr ⟨lN _ (.tail _ (.tail _ (.tail _ (.head _)))), List.forall_mem_cons.mpr ⟨lN _ (.tail _ (.tail _ (.tail _ (.tail _ (.head _))))), List.forall_mem_nil _⟩⟩⟩) (List.forall_mem_cons.mpr ⟨rfl, List.forall_mem_nil _⟩) ⟨[], 0, _, _, [], rfl, hcd, (fun _ h => nomatch h), .nil, rfl⟩ ?_ ?_
    · intro i t c u nx h tk own hi hoff hl₁ hR F₁ N₁
      refine hideG fun C0 hC0 => ?_
      obtain ⟨fvs, n', oc, v, tl, rfl, hv, ht, hD, hb⟩ := hR
      refine hC0 ?_
      clear hC0
      clear lF lN hr
      simp only [List.cons_append] at N₁
      have offA := kd_off (adr := [_, _, C]) (fun q hq b hb => hoff q hq b (by simp only [List.map_cons]; exact (List.mem_cons.mp hb).elim (fun e => e ▸ .head _) fun hb => .tail _ ((List.mem_cons.mp hb).elim (fun e => e ▸ .head _) fun hb => .tail _ ((List.mem_cons.mp hb).elim (fun e => e ▸ .head _) fun hb => nomatch hb)))) ht
      k_steps
      refine ⟨?_⟩
      (rename Fr _ _ _ _ => lF)
      (rename News _ _ _ _ => lN)
      refine pair_evalI (fun k ys => IntsAre ys (((ch.take k).filter (fun p => decide (p.1 ≤ firstC ch + (i : Int)))).map (·.2))) rfl (.tail _ (.tail _ (.head _))) (Nat.le_trans (Nat.le_of_lt hlen) (by decide)) ?_ rfl (by decide) rfl (by decide) rfl rfl (by decide) lF lN .nil ?_ ?_ ?_
      · exact pairs_tups hG
      · intro Q' hq
        k_steps
        exact hq
      · intro k t1 x1 y1 k1 ys I oI C' oC D m₂ h1 tk1 E' hv1 ht1 hP hyl hC hxa hxb F2 N2 off ne
        have hk : k < ch.length := by rw [← hcl]; exact (List.getElem?_eq_some_iff.mp hv1).1
        refine hideG fun C0 hC0 => ?_
        obtain ⟨a1, ta1, tb1, na1, hx1, hga1⟩ := hG.get hk
        rw [hx1] at hv1
        obtain rfl := PySem.Value.ref.inj (Option.some.inj hv1)
        obtain ⟨rfl, rfl⟩ := tup_two (Option.some.inj (hga1.symm.trans ht1))
        refine hC0 ?_
        clear hC0
        clear lF lN
        refine wpAny_tests_one ?_
        k_steps
        all_goals (rename News _ _ _ _ => kN)
        · exact CompEnd.intro (by assumption) kN _ (fun _ h => h) off True.intro ⟨rfl, ways_yes hk (by assumption) hP⟩
        · exact CompEnd.intro (by assumption) kN _ (fun _ h => h) off True.intro ⟨rfl, ways_no hk (by assumption) hP⟩
      · intro D h1 tk1 ys hP F2 N2 off
        simp only [LCg.Off1] at off
        refine hideQ fun Q2 hQ2 => ?_
        refine hideG fun C0 hC0 => ?_
        obtain ⟨ns, hns, hsum⟩ : ∃ ns, IntsAre ys ns ∧ ns.sum = turnsAt ch (firstC ch + (i : Int)) := ⟨_, hP, by rw [hcl, List.take_length]; rfl⟩
        refine hC0 ?_
        clear hC0
        clear lF lN
        have hfl : fvs.length ≤ i := by
          have e := hD.length
          rw [List.length_map] at e
          have := ru_len nz ch (firstC ch) i
          omega
        have hi6 : i < 7 := by omega
        rcases Bool.eq_false_or_eq_true nz with hz | hz
        · have hr9 : ruleS nz = PySem.Str.ofString "nonzero" := by rw [hz]; rfl
          rw [hr9] at F2
          by_cases hz0 : ns.sum = 0
          · have hb1 : (ns.sum != 0) = false := by rw [hz0]; rfl
            have hins := ins_tf hz (hsum.symm.trans hz0)
            rcases hbg : (ruRun nz ch (firstC ch) i).2 with _ | bg
            · rw [hbg] at hb
              obtain rfl : c = .none := hb
              k_steps
              all_goals (refine hQ2 _ _ ?_)
              k_steps
              all_goals (rename _ = PySem.Data.cell _ => hcd2)
              exact ru_keep (ru_out0 rfl hins hbg) (by assumption) (by assumption) hcd2 ht hoff hD (by rfl) (by rw [hbg]; exact rfl) (fun z h1 h2 => by obtain ⟨h3, h4⟩ := ru_names_off h2; simp only [lpMap, kstB, h1, h2, h3, h4, hr9, if_false, Bool.false_eq_true])
            · rw [hbg] at hb
              obtain ⟨tbg, rfl⟩ : ∃ t, c = .int bg t := hb
              k_steps
              all_goals (refine hQ2 _ _ ?_)
              k_steps
              all_goals (rename _ = PySem.Data.cell _ => hcd2)
              exact ru_add (ru_out1 rfl hins hbg) (by assumption) (by assumption) hcd2 (by assumption) ht hoff hD rfl rfl (by rfl) (fun z h1 h2 => by obtain ⟨h3, h4⟩ := ru_names_off h2; simp only [lpMap, kstB, h1, h2, h3, h4, hr9, if_false, Bool.false_eq_true])
          · have hb1 : (ns.sum != 0) = true := bne_iff_ne.mpr hz0
            have hins := ins_tt hz (fun e => hz0 (hsum.trans e))
            rcases hbg : (ruRun nz ch (firstC ch) i).2 with _ | bg
            · rw [hbg] at hb
              obtain rfl : c = .none := hb
              k_steps
              all_goals (refine hQ2 _ _ ?_)
              k_steps
              all_goals (rename _ = PySem.Data.cell _ => hcd2)
              exact ru_keep (ru_in0 rfl hins) (by assumption) (by assumption) hcd2 ht hoff hD (by rfl) (by rw [hbg]; exact ⟨_, rfl⟩) (fun z h1 h2 => by obtain ⟨h3, h4⟩ := ru_names_off h2; simp only [lpMap, kstB, h1, h2, h3, h4, hr9, if_false, Bool.false_eq_true])
            · rw [hbg] at hb
              obtain ⟨tbg, rfl⟩ : ∃ t, c = .int bg t := hb
              k_steps
              all_goals (refine hQ2 _ _ ?_)
              k_steps
              all_goals (rename _ = PySem.Data.cell _ => hcd2)
              exact ru_keep (ru_in0 rfl hins) (by assumption) (by assumption) hcd2 ht hoff hD (by rfl) (by rw [hbg]; exact ⟨_, rfl⟩) (fun z h1 h2 => by obtain ⟨h3, h4⟩ := ru_names_off h2; simp only [lpMap, kstB, h1, h2, h3, h4, hr9, if_false, Bool.false_eq_true])
        · have hr9 : ruleS nz = PySem.Str.ofString "evenodd" := by rw [hz]; rfl
          rw [hr9] at F2
          by_cases hz0 : ns.sum.fmod 2 = 0
          · have hb1 : (ns.sum.fmod 2 == 1) = false := by rw [hz0]; rfl
            have hins := ins_ff hz (hsum ▸ hz0)
            rcases hbg : (ruRun nz ch (firstC ch) i).2 with _ | bg
            · rw [hbg] at hb
              obtain rfl : c = .none := hb
              k_steps
              all_goals (refine hQ2 _ _ ?_)
              k_steps
              all_goals (rename _ = PySem.Data.cell _ => hcd2)
              exact ru_keep (ru_out0 rfl hins hbg) (by assumption) (by assumption) hcd2 ht hoff hD (by rfl) (by rw [hbg]; exact rfl) (fun z h1 h2 => by obtain ⟨h3, h4⟩ := ru_names_off h2; simp only [lpMap, kstB, h1, h2, h3, h4, hr9, if_false, Bool.false_eq_true])
            · rw [hbg] at hb
              obtain ⟨tbg, rfl⟩ : ∃ t, c = .int bg t := hb
              k_steps
              all_goals (refine hQ2 _ _ ?_)
              k_steps
              all_goals (rename _ = PySem.Data.cell _ => hcd2)
              exact ru_add (ru_out1 rfl hins hbg) (by assumption) (by assumption) hcd2 (by assumption) ht hoff hD rfl rfl (by rfl) (fun z h1 h2 => by obtain ⟨h3, h4⟩ := ru_names_off h2; simp only [lpMap, kstB, h1, h2, h3, h4, hr9, if_false, Bool.false_eq_true])
          · have hb1 : (ns.sum.fmod 2 == 1) = true := by rw [beq_iff_eq]; rw [fmod_e _ (by decide)] at hz0 ⊢; omega
            have hins := ins_ft hz (fun e => hz0 (hsum ▸ e))
            rcases hbg : (ruRun nz ch (firstC ch) i).2 with _ | bg
            · rw [hbg] at hb
              obtain rfl : c = .none := hb
              k_steps
              all_goals (refine hQ2 _ _ ?_)
              k_steps
              all_goals (rename _ = PySem.Data.cell _ => hcd2)
              exact ru_keep (ru_in0 rfl hins) (by assumption) (by assumption) hcd2 ht hoff hD (by rfl) (by rw [hbg]; exact ⟨_, rfl⟩) (fun z h1 h2 => by obtain ⟨h3, h4⟩ := ru_names_off h2; simp only [lpMap, kstB, h1, h2, h3, h4, hr9, if_false, Bool.false_eq_true])
            · rw [hbg] at hb
              obtain ⟨tbg, rfl⟩ : ∃ t, c = .int bg t := hb
              k_steps
              all_goals (refine hQ2 _ _ ?_)
              k_steps
              all_goals (rename _ = PySem.Data.cell _ => hcd2)
              exact ru_keep (ru_in0 rfl hins) (by assumption) (by assumption) hcd2 ht hoff hD (by rfl) (by rw [hbg]; exact ⟨_, rfl⟩) (fun z h1 h2 => by obtain ⟨h3, h4⟩ := ru_names_off h2; simp only [lpMap, kstB, h1, h2, h3, h4, hr9, if_false, Bool.false_eq_true])
    · intro c u nx h tk hR F₁ N₁
      refine hideG fun C0 hC0 => ?_
      obtain ⟨fvs, n', oc, v, tl, rfl, hv, ht, hD, hb⟩ := hR
      refine hC0 ?_
      clear hC0
      clear lF lN hr
      k_steps
      refine hQ1 _ _ ?_
      k_steps
      (rename ∀ (b : PySem.Addr) (o : PySem.Obj), PySem.Heap.get? _ b = some o → _ => k2)
      (rename News h₀ _ _ _ => kN)
      have hne : ch ≠ [] := fun e => by rw [e] at hcl; exact absurd hcl (Nat.succ_ne_zero _)
      refine hret _ _ _ ⟨ext_of N kK kN (fun q hq => ?_) k2, _, fvs, n', (_, listOf fvs.toArray n') :: tl, rfl, fun q hq => ⟨(N₁ q (mem_skip2b hq)).1, fresh_of kK N₁ (mem_skip2b hq) ?_⟩, .head _, by rw [runs, if_neg hne]; exact hD.mono fun _ h => .tail _ h⟩
      · rw [List.mem_singleton.mp hq]; exact .tail _ (.tail _ (.head _))
      · simp only [List.map_cons, List.map_nil, List.mem_singleton]
        rcases List.mem_cons.mp hq with rfl | hq
        · exact Nat.ne_of_gt (by omega)
        · exact ht q hq C (.tail _ (.tail _ (.head _)))
end

section
open PySem PySem.W PyProof.Rows PySem.Calls
theorem cover_no1 {p q : Prop} [Decidable p] [Decidable q] (hb : ((decide p && decide q) != decide p) = true) (h : ¬ p) : False := by simp [h] at hb
theorem cover_no2 {p q : Prop} [Decidable p] [Decidable q] (hb : ((decide p && decide q) != decide q) = true) (h : p) : False := by simp [h] at hb
theorem join_ways {T : Nat → Prop} {G : Prop} (a : (∀ k, T k) → G) (b : ∀ k, T k) : G := a b
theorem tok_any {α : Type} {M : Model} {A : Around} {t : Sem α} {Q : α → Shared → Prop} {E : PySem.Value → Shared → Prop} {h : PySem.Heap} {g : Array GenState} {d : Drawn} {tk : Nat} {o : OsState} (H : ∀ k, wpAny M A t Q E ⟨h, g, d, k, o⟩) : wpAny M A t Q E ⟨h, g, d, tk, o⟩ := H tk
theorem cover_cases (a b y : Int) : (¬ a ≤ y ∧ (decide (a ≤ y) && decide (y < b)) = false) ∨ (a ≤ y ∧ y < b ∧ (decide (a ≤ y) && decide (y < b)) = true) ∨ (a ≤ y ∧ ¬ y < b ∧ (decide (a ≤ y) && decide (y < b)) = false) := by
  by_cases h1 : a ≤ y
  · by_cases h2 : y < b
    · exact .inr (.inl ⟨h1, h2, by simp [h1, h2]⟩)
    · exact .inr (.inr ⟨h1, h2, by simp [h2]⟩)
  · exact .inl ⟨h1, by simp [h1]⟩
set_option maxRecDepth 100000 in
set_option maxHeartbeats 8000000 in
theorem sideright_ne (w : World) (o1 o2 e : Addr) (o oe : PySem.Obj) (x1 y1 x2 y2 y : Int) (t1 t2 t3 t4 t5 : Tok) (n1 n2 : Nat) (hx1 : -10 ≤ x1) (hx2 : x1 ≤ 10) (hx3 : -10 ≤ x2) (hx4 : x2 ≤ 10) (hy1 : -4 ≤ y1) (hy2 : y1 ≤ 4) (hy3 : -4 ≤ y2) (hy4 : y2 ≤ 4) (hy5 : -6 ≤ y) (hy6 : y ≤ 6) (hn1 : @LT.lt Nat _ 121 o1) (hn2 : @LT.lt Nat _ 121 o2) (hn3 : @LT.lt Nat _ 121 e) (hne : y1 ≠ y2)
    (hS : o = tabObj #[] ∨ o = tab1 e ∧ LamCode oe) :
    Ctr 5 w 126 [(o1, tupO [.int x1 t1, .int y1 t2] n1), (o2, tupO [.int x2 t3, .int y2 t4] n2), (121, o), (e, oe)] [.ref o1, .ref o2, .int y t5]
      (fun h r h' => r = .bool true ∧ Keep [(121, o)] h h' ∧ ∃ c' oc, h'.get? 121 = some (tab1 c') ∧ h'.get? c' = some oc ∧ LamCode oc ∧ (@LT.lt Nat _ 121 c') ∧ (h.get? c' = none ∨ c' = e ∧ oc = oe)) := by
  w_top off
  k_with_none
  k_with "mul_fits" => ((with_reducible show PySem.IntMulOk _ _); (try simp (disch := omega) only [fmod_e, fdiv_e, show Int.toNat 0 = 0 from rfl, show Int.toNat 1 = 1 from rfl, List.getD_cons_zero, List.getD_cons_succ]); first | exact PySem.IntMulOk.of_left (PySem.intBits_le_64 (by omega) (by omega)) | exact PySem.IntMulOk.of_right (PySem.intBits_le_64 (by omega) (by omega)))
  k_with "ktr_enter" => (refine' code_sub ?k1Z9 ?k2Z9 ?k3Z9 ?k4Z9 ?k5Z9 ?kAZ9 ?kFZ9 ?kKZ9 ?k6Z9 ?k7Z9 ?k8Z9 ?k9Z9 ?kBZ9 ?_ ?c2Z9 ?c3Z9 ?c4Z9 ?c5Z9; (case kAZ9 => exact rfl); (case kFZ9 => exact rfl); (case kKZ9 => assumption); (case k1Z9 => k_asm); (case k2Z9 => k_asm); (case k3Z9 => k_asm); (case k4Z9 => k_asm); (case k5Z9 => k_asm); (case k6Z9 => k_is); (case k7Z9 => k_is); (case k8Z9 => ktr_room); (case k9Z9 => exact BindsTo.of_eq rfl); (case c5Z9 => decide); (case kBZ9 => exact locs rfl); (case c2Z9 => exact rfl); (case c3Z9 => exact rfl); (case c4Z9 => exact rfl); k_whole; refine e3 ?_; generalize c3_1 _ = gZ9', c3_2 _ = LZ9', c3_3 _ = hZ9'; intro FGZ9' FZ9' NZ9' BZ9' XZ9' TZ9' hKZ9' hSZ9' l1Z9'; (try dsimp only); (try k_lift BZ9'))
  k_with "k_in" => (exact Frag.In.keeps (by k_asm) (Fr.keep (by k_asm)))
  k_with "callWith ref" => (k_here; k_dflt (refine' callWith_K ?k1Z9 ?k2Z9 ?_; (case k1Z9 => k_asm); (case k2Z9 => k_is); k_whole))
  k_with "k_room" => (ktr_room)
  k_with "k_units" => (ktr_units)
  k_with "kn_code" => (exact codeHd_of_K (c := 125) (P := 121) (by assumption) (by kernel_rfl))
  k_with "KasNext" => (exfalso; omega)
  k_with "eval Lambda" => (k_here; k_dflt (refine' kla_eval ?d0Z9 ?_; (case d0Z9 => exact rfl)); k_dflt (refine' lam_any ?FZ9 ?NZ9 ?TZ9 ?CZ9 ?cdZ9 ?SZ9 ?MZ9 ?UZ9 ?ppZ9 ?qqZ9 ?clZ9 ?_; (case FZ9 => k_asm); (case NZ9 => k_asm); (case TZ9 => k_asm); (case cdZ9 => exact rfl); (case CZ9 => kn_code); (case SZ9 => assumption); (case MZ9 => k_mem); (case UZ9 => k_updF); (case ppZ9 => exact ⟨rfl, rfl⟩); (case qqZ9 => exact rfl); (case clZ9 => exact rfl); k_whole); intro fZ9' cZ9' ocZ9' vsZ9' tZ9' ctZ9' hZ9' tkZ9' FZ9' NZ9' d1Z9' d2Z9' lO l1Z9 l2; (try dsimp only at NZ9'); (try k_lt l1Z9); (try k_lt2 l2))
  k_with "call ref" => (k_here; (with_reducible show wpAny _ _ (call (Value.ref 70) [Value.ref _]) _ _ _); k_dflt (refine' row_use ?BZ9 ?FZ9 ?XZ9 ?NZ9 ?TZ9 ?hkZ9 ?hsZ9 ?hdZ9 ?huZ9 ?_; (case BZ9 => k_asm); (case FZ9 => k_asm); (case XZ9 => k_asm); (case NZ9 => k_asm); (case TZ9 => k_asm); (case hkZ9 => first | exact rfl | assumption); (case hdZ9 => ktr_room); (case huZ9 => ktr_units); (case hsZ9 => exact side_op (by k_asm) (by k_mem) (by assumption) (by k_mem) (by assumption)); k_whole); intro TZ9' nZ9' t1Z9' t2Z9' t3Z9' t4Z9' t5Z9' hZ9' tkZ9' FZ9' NZ9'; (try dsimp only at NZ9'); (try k_sweep))
  k_with "call ref" => (k_here; (with_reducible show wpAny _ _ (call (Value.ref 77) _) _ _ _); refine Halt.go ?_)
  k_with "call ref" => (k_here; (with_reducible show wpAny _ _ (call (Value.ref 84) [Value.ref _, Value.int _ _]) _ _ _); k_dflt (refine' place_use ?BZ9 ?FZ9 ?XZ9 ?NZ9 ?TZ9 ?hkZ9 ?hsZ9 ?hokZ9 ?hy1Z9 ?hy2Z9 ?hdZ9 ?huZ9 ?_; (case BZ9 => k_asm); (case FZ9 => k_asm); (case XZ9 => k_asm); (case NZ9 => k_asm); (case TZ9 => k_asm); (case hkZ9 => first | exact rfl | assumption); (case hdZ9 => ktr_room); (case huZ9 => ktr_units); (case hsZ9 => exact side_op (by k_asm) (by k_mem) (by assumption) (by k_mem) (by assumption)); (case hokZ9 => assumption); (case hy1Z9 => assumption); (case hy2Z9 => assumption); k_whole); intro TZ9' nZ9' t1Z9' t2Z9' hZ9' tkZ9' FZ9' NZ9'; (try dsimp only at NZ9'); (try k_sweep))
  k_with "call ref" => (k_here; (with_reducible show wpAny _ _ (call (Value.ref 98) _) _ _ _); refine Halt.go ?_)
  k_with "k_inst" => (exact inst_op (by k_asm) (by k_mem) (by assumption) (by k_mem) (by assumption))
  k_with "execs cons Assign cons" => ((rename Halt (True ∧ True) => hm8Z9'); clear hm8Z9'; refine Halt.go ?_)
  k_with "eval IfExp" => ((rename Halt True => hm9Z9'); clear hm9Z9'; refine Halt.go ?_)
  revert w o1 o2 e o oe x1 y1 x2 y2 y t1 t2 t3 t4 t5 n1 n2
  refine eW ?_
  generalize cW _ = w
  refine e17 ?_
  generalize c17_1 _ = o1, c17_2 _ = o2, c17_3 _ = e, c17_4 _ = o, c17_5 _ = oe, c17_6 _ = x1, c17_7 _ = y1, c17_8 _ = x2, c17_9 _ = y2, c17_10 _ = y, c17_11 _ = t1, c17_12 _ = t2, c17_13 _ = t3, c17_14 _ = t4, c17_15 _ = t5, c17_16 _ = n1, c17_17 _ = n2
  intro hx1 hx2 hx3 hx4 hy1 hy2 hy3 hy4 hy5 hy6 hn1 hn2 hn3 hne hS
  unfold Ctr
  k_fill
  refine eC ?_
  generalize cC_1 _ = p, cC_2 _ = loose, cC_3 _ = mean, cC_4 _ = mg, cC_5 _ = mb, cC_6 _ = dp, cC_7 _ = un, cC_8 _ = gd, cC_9 _ = cn, cC_10 _ = cs, cC_11 _ = a, cC_12 _ = ccd, cC_13 _ = cl, cC_14 _ = outer, cC_15 _ = A₀, cC_16 _ = base, cC_17 _ = h₀, cC_18 _ = L, cC_19 _ = m, cC_20 _ = s, cC_21 _ = Q, cC_22 _ = E
  intro B F X N T hk hd hu hret
  have hCH : CodeHd h₀ 125 121 := codeHd_of_K X (by kernel_rfl)
  have hc1 : (y1 == y2) = false := beq_eq_false_iff_ne.mpr (by omega)
  have hc2 : (y2 == y1) = false := beq_eq_false_iff_ne.mpr (by omega)
  have hc3 : (x2 == x1 && y2 == y1) = false := by rw [hc2, Bool.and_false]
  rcases Int.lt_trichotomy y1 y2 with hc | hc | hc
  · have hs1 : sideOf x1 y1 x2 y2 = some ⟨x1, y1, x2, y2, 1⟩ := by unfold sideOf; rw [if_neg hne, if_pos hc]
    have hs2 : sideOf x2 y2 x1 y1 = some ⟨x1, y1, x2, y2, -1⟩ := by unfold sideOf; rw [if_neg (Ne.symm hne), if_neg (by omega)]
    refine wpAny_call ?_
    k_dflt k_extra "ktr_enter"
    (rename Keep _ _ _ => kK)
    (rename Fr _ _ _ _ => lF)
    obtain ⟨m0, lF⟩ := fr_many [(PySem.Str.ofString "one", _), (PySem.Str.ofString "other", _), (PySem.Str.ofString "y", _)] lF (List.forall_mem_cons.mpr ⟨rfl, List.forall_mem_cons.mpr ⟨rfl, List.forall_mem_cons.mpr ⟨rfl, List.forall_mem_nil _⟩⟩⟩)
    refine hideQ fun Q1 hQ1 => ?_
    have hmark : Halt True := ⟨trivial⟩
    rename_i b1p1
    revert hQ1
    revert Q1
    refine e1 ?_
    generalize c1_1 _ = Q1
    intro hQ1
    k_steps
    refine ⟨?_⟩
    (rename Fr _ _ _ _ => lF)
    (rename News _ _ _ _ => lN)
    refine between_use (by k_asm) lF (by k_asm) lN (by k_asm) rfl (by k_mem) (by k_mem) hs1 (by ktr_room) (by ktr_units) ?_
    intro xa da oxa oda h5 tk5 hop1 F5 N5 hoff1
    refine hideG fun C0 hC0 => ?_
    obtain ⟨ka1, ka2, ka3, ka4, ka5, va1, va2, va3, va4, va5, hxa, hda⟩ := hop1
    refine hC0 ?_
    clear hC0 lF lN
    have ne1 := hoff1 _ (.head _)
    have ne2 := hoff1 _ (.tail _ (.head _))
    have ne3 : @Ne Nat 121 xa ∧ @Ne Nat 121 da := hoff1 _ (.tail _ (.tail _ (.head _)))
    clear hoff1
    k_steps
    refine ⟨?_⟩
    (rename Fr _ _ _ _ => lF)
    (rename News _ _ _ _ => lN)
    refine between_use (by k_asm) lF (by k_asm) lN (by k_asm) rfl (by k_mem) (by k_mem) hs2 (by ktr_room) (by ktr_units) ?_
    intro xb db oxb odb h6 tk6 hop2 F6 N6 hoff2
    refine hideG fun C0 hC0 => ?_
    obtain ⟨kb1, kb2, kb3, kb4, kb5, vb1, vb2, vb3, vb4, vb5, hxb, hdb⟩ := hop2
    refine hC0 ?_
    clear hC0 lF lN
    have ne4 : @Ne Nat 121 xb ∧ @Ne Nat 121 db := hoff2 _ (.tail _ (.tail _ (.tail _ (.tail _ (.head _)))))
    clear hoff2
    rename_i b3d1
    revert hxa hda ne1 ne2 ne3 F6 N6 hxb hdb ne4
    revert m0 xa da oxa oda h5 tk5 ka1 ka2 ka3 ka4 ka5 va1 va2 va3 va4 va5 xb db oxb odb h6 tk6 kb1 kb2 kb3 kb4 kb5 vb1 vb2 vb3 vb4 vb5
    refine e17 ?_
    generalize c17_1 _ = m0, c17_2 _ = xa, c17_3 _ = da, c17_4 _ = oxa, c17_5 _ = oda, c17_6 _ = h5, c17_7 _ = tk5, c17_8 _ = ka1, c17_9 _ = ka2, c17_10 _ = ka3, c17_11 _ = ka4, c17_12 _ = ka5, c17_13 _ = va1, c17_14 _ = va2, c17_15 _ = va3, c17_16 _ = va4, c17_17 _ = va5
    refine e13 ?_
    generalize c13_1 _ = xb, c13_2 _ = db, c13_3 _ = oxb, c13_4 _ = odb, c13_5 _ = h6, c13_6 _ = tk6, c13_7 _ = kb1, c13_8 _ = kb2, c13_9 _ = kb3, c13_10 _ = kb4, c13_11 _ = kb5, c13_12 _ = vb1, c13_13 _ = vb2
    refine e3 ?_
    generalize c3_1 _ = vb3, c3_2 _ = vb4, c3_3 _ = vb5
    intro hxa hda ne1 ne2 ne3 F6 N6 hxb hdb ne4
    k_steps
    refine ⟨?_⟩
    (rename Fr _ _ _ _ => lF)
    (rename News _ _ _ _ => lN)
    (rename PySem.Obj => oc9)
    (rename _ = PySem.Data.fields _ => d1)
    (rename _ = some (PySem.Value.str _ _) => d2)
    (rename _ ∨ _ ∧ _ ∧ _ = oe => dO)
    have N9 : News _ _ _ _ := fun q hq => lN q (.tail _ (.tail _ (.tail _ hq)))
    clear lN
    obtain ⟨m1, lF⟩ := fr_many [(PySem.Str.ofString "one", _), (PySem.Str.ofString "other", _), (PySem.Str.ofString "y", _), (PySem.Str.ofString "made", _), (PySem.Str.ofString "turned", _), (PySem.Str.ofString "upper", _), (PySem.Str.ofString "lower", _)] lF (List.forall_mem_cons.mpr ⟨rfl, List.forall_mem_cons.mpr ⟨rfl, List.forall_mem_cons.mpr ⟨rfl, List.forall_mem_cons.mpr ⟨rfl, List.forall_mem_cons.mpr ⟨rfl, List.forall_mem_cons.mpr ⟨rfl, List.forall_mem_cons.mpr ⟨rfl, List.forall_mem_nil _⟩⟩⟩⟩⟩⟩⟩)
    have hok : SdOk ⟨x1, y1, x2, y2, 1⟩ := ⟨hx1, hx2, hx3, hx4, hy1, hc, hy4, .inl rfl⟩
    k_steps
    all_goals (try (exfalso; (rename _ = ([] : List Int) => hb); simp at hb; done))
    refine ⟨?_⟩
    (rename Fr _ _ _ _ => lF)
    (rename News _ _ _ _ => lN)
    refine covers_use (by k_asm) lF (by k_asm) lN (by k_asm) rfl (side_op lN (by k_mem) hxa (by k_mem) hda) rfl (by ktr_room) (by ktr_units) ?_
    intro h7 tk7 F7 N7
    clear lF lN
    refine' join_ways ?aJ ?bJ
    case aJ =>
      intro hT
      have hmark2 : Halt (True ∧ True) := ⟨True.intro, True.intro⟩
      k_steps
      all_goals (first | (exfalso; (rename (_ != _) = true => hb); first | exact cover_no1 hb (by omega) | exact cover_no2 hb (by omega)) | skip)
      all_goals (refine ⟨?_⟩; refine tok_any ?_; exact hT)
    intro k7
    k_steps
    all_goals (refine hQ1 _ _ ?_)
    k_steps
    all_goals (rename ∀ (b : PySem.Addr) (o : PySem.Obj), PySem.Heap.get? _ b = some o → _ => k2)
    all_goals (rename News h₀ _ _ _ => kN)
    all_goals (refine hret _ _ _ ⟨congrArg PySem.Value.bool (law_poly _ _ _ _), ?_⟩)
    all_goals (exact side_fin N kK kN k2 hn3 dO d1 d2 (by k_mem) (by k_mem) (by k_mem) (by k_mem) (by k_mem) (by k_mem) (by k_mem) (by k_mem) (by k_mem))
  · exact absurd hc hne
  · have hs1 : sideOf x1 y1 x2 y2 = some ⟨x2, y2, x1, y1, -1⟩ := by unfold sideOf; rw [if_neg hne, if_neg (by omega)]
    have hs2 : sideOf x2 y2 x1 y1 = some ⟨x2, y2, x1, y1, 1⟩ := by unfold sideOf; rw [if_neg (Ne.symm hne), if_pos hc]
    refine wpAny_call ?_
    k_dflt k_extra "ktr_enter"
    (rename Keep _ _ _ => kK)
    (rename Fr _ _ _ _ => lF)
    obtain ⟨m0, lF⟩ := fr_many [(PySem.Str.ofString "one", _), (PySem.Str.ofString "other", _), (PySem.Str.ofString "y", _)] lF (List.forall_mem_cons.mpr ⟨rfl, List.forall_mem_cons.mpr ⟨rfl, List.forall_mem_cons.mpr ⟨rfl, List.forall_mem_nil _⟩⟩⟩)
    refine hideQ fun Q1 hQ1 => ?_
    have hmark : Halt True := ⟨trivial⟩
    rename_i b5p1
    revert hQ1
    revert Q1
    refine e1 ?_
    generalize c1_1 _ = Q1
    intro hQ1
    k_steps
    refine ⟨?_⟩
    (rename Fr _ _ _ _ => lF)
    (rename News _ _ _ _ => lN)
    refine between_use (by k_asm) lF (by k_asm) lN (by k_asm) rfl (by k_mem) (by k_mem) hs1 (by ktr_room) (by ktr_units) ?_
    intro xa da oxa oda h5 tk5 hop1 F5 N5 hoff1
    refine hideG fun C0 hC0 => ?_
    obtain ⟨ka1, ka2, ka3, ka4, ka5, va1, va2, va3, va4, va5, hxa, hda⟩ := hop1
    refine hC0 ?_
    clear hC0 lF lN
    have ne1 := hoff1 _ (.head _)
    have ne2 := hoff1 _ (.tail _ (.head _))
    have ne3 : @Ne Nat 121 xa ∧ @Ne Nat 121 da := hoff1 _ (.tail _ (.tail _ (.head _)))
    clear hoff1
    k_steps
    refine ⟨?_⟩
    (rename Fr _ _ _ _ => lF)
    (rename News _ _ _ _ => lN)
    refine between_use (by k_asm) lF (by k_asm) lN (by k_asm) rfl (by k_mem) (by k_mem) hs2 (by ktr_room) (by ktr_units) ?_
    intro xb db oxb odb h6 tk6 hop2 F6 N6 hoff2
    refine hideG fun C0 hC0 => ?_
    obtain ⟨kb1, kb2, kb3, kb4, kb5, vb1, vb2, vb3, vb4, vb5, hxb, hdb⟩ := hop2
    refine hC0 ?_
    clear hC0 lF lN
    have ne4 : @Ne Nat 121 xb ∧ @Ne Nat 121 db := hoff2 _ (.tail _ (.tail _ (.tail _ (.tail _ (.head _)))))
    clear hoff2
    rename_i b6d1
    revert hxa hda ne1 ne2 ne3 F6 N6 hxb hdb ne4
    revert m0 xa da oxa oda h5 tk5 ka1 ka2 ka3 ka4 ka5 va1 va2 va3 va4 va5 xb db oxb odb h6 tk6 kb1 kb2 kb3 kb4 kb5 vb1 vb2 vb3 vb4 vb5
    refine e17 ?_
    generalize c17_1 _ = m0, c17_2 _ = xa, c17_3 _ = da, c17_4 _ = oxa, c17_5 _ = oda, c17_6 _ = h5, c17_7 _ = tk5, c17_8 _ = ka1, c17_9 _ = ka2, c17_10 _ = ka3, c17_11 _ = ka4, c17_12 _ = ka5, c17_13 _ = va1, c17_14 _ = va2, c17_15 _ = va3, c17_16 _ = va4, c17_17 _ = va5
    refine e13 ?_
    generalize c13_1 _ = xb, c13_2 _ = db, c13_3 _ = oxb, c13_4 _ = odb, c13_5 _ = h6, c13_6 _ = tk6, c13_7 _ = kb1, c13_8 _ = kb2, c13_9 _ = kb3, c13_10 _ = kb4, c13_11 _ = kb5, c13_12 _ = vb1, c13_13 _ = vb2
    refine e3 ?_
    generalize c3_1 _ = vb3, c3_2 _ = vb4, c3_3 _ = vb5
    intro hxa hda ne1 ne2 ne3 F6 N6 hxb hdb ne4
    k_steps
    refine ⟨?_⟩
    (rename Fr _ _ _ _ => lF)
    (rename News _ _ _ _ => lN)
    (rename PySem.Obj => oc9)
    (rename _ = PySem.Data.fields _ => d1)
    (rename _ = some (PySem.Value.str _ _) => d2)
    (rename _ ∨ _ ∧ _ ∧ _ = oe => dO)
    have N9 : News _ _ _ _ := fun q hq => lN q (.tail _ (.tail _ (.tail _ hq)))
    clear lN
    obtain ⟨m1, lF⟩ := fr_many [(PySem.Str.ofString "one", _), (PySem.Str.ofString "other", _), (PySem.Str.ofString "y", _), (PySem.Str.ofString "made", _), (PySem.Str.ofString "turned", _), (PySem.Str.ofString "upper", _), (PySem.Str.ofString "lower", _)] lF (List.forall_mem_cons.mpr ⟨rfl, List.forall_mem_cons.mpr ⟨rfl, List.forall_mem_cons.mpr ⟨rfl, List.forall_mem_cons.mpr ⟨rfl, List.forall_mem_cons.mpr ⟨rfl, List.forall_mem_cons.mpr ⟨rfl, List.forall_mem_cons.mpr ⟨rfl, List.forall_mem_nil _⟩⟩⟩⟩⟩⟩⟩)
    have hok : SdOk ⟨x2, y2, x1, y1, -1⟩ := ⟨hx3, hx4, hx1, hx2, hy3, hc, hy2, .inr rfl⟩
    k_steps
    all_goals (try (exfalso; (rename _ = ([] : List Int) => hb); simp at hb; done))
    refine ⟨?_⟩
    (rename Fr _ _ _ _ => lF)
    (rename News _ _ _ _ => lN)
    refine covers_use (by k_asm) lF (by k_asm) lN (by k_asm) rfl (side_op lN (by k_mem) hxa (by k_mem) hda) rfl (by ktr_room) (by ktr_units) ?_
    intro h7 tk7 F7 N7
    clear lF lN
    refine' join_ways ?aJ2 ?bJ2
    case aJ2 =>
      intro hT
      have hmark2 : Halt (True ∧ True) := ⟨True.intro, True.intro⟩
      k_steps
      all_goals (first | (exfalso; (rename (_ != _) = true => hb); first | exact cover_no1 hb (by omega) | exact cover_no2 hb (by omega)) | skip)
      all_goals (refine ⟨?_⟩; refine tok_any ?_; exact hT)
    intro k7
    k_steps
    all_goals (refine hQ1 _ _ ?_)
    k_steps
    all_goals (rename ∀ (b : PySem.Addr) (o : PySem.Obj), PySem.Heap.get? _ b = some o → _ => k2)
    all_goals (rename News h₀ _ _ _ => kN)
    all_goals (refine hret _ _ _ ⟨congrArg PySem.Value.bool (law_poly _ _ _ _), ?_⟩)
    all_goals (exact side_fin N kK kN k2 hn3 dO d1 d2 (by k_mem) (by k_mem) (by k_mem) (by k_mem) (by k_mem) (by k_mem) (by k_mem) (by k_mem) (by k_mem))
set_option maxRecDepth 100000 in
set_option maxHeartbeats 8000000 in
theorem sideright_eq (w : World) (o1 o2 : Addr) (x1 x2 y1 y : Int) (t1 t2 t3 t4 t5 : Tok) (n1 n2 : Nat) :
    Ctr 5 w 126 [(o1, tupO [.int x1 t1, .int y1 t2] n1), (o2, tupO [.int x2 t3, .int y1 t4] n2)] [.ref o1, .ref o2, .int y t5]
      (fun h r h' => Ext h h' ∧ r = .bool true) := by
  w_top off
  k_with_none
  k_with "mul_fits" => ((with_reducible show PySem.IntMulOk _ _); (try simp (disch := omega) only [fmod_e, fdiv_e, show Int.toNat 0 = 0 from rfl, show Int.toNat 1 = 1 from rfl, List.getD_cons_zero, List.getD_cons_succ]); first | exact PySem.IntMulOk.of_left (PySem.intBits_le_64 (by omega) (by omega)) | exact PySem.IntMulOk.of_right (PySem.intBits_le_64 (by omega) (by omega)))
  k_with "ktr_enter" => (refine' code_sub ?k1Z9 ?k2Z9 ?k3Z9 ?k4Z9 ?k5Z9 ?kAZ9 ?kFZ9 ?kKZ9 ?k6Z9 ?k7Z9 ?k8Z9 ?k9Z9 ?kBZ9 ?_ ?c2Z9 ?c3Z9 ?c4Z9 ?c5Z9; (case kAZ9 => exact rfl); (case kFZ9 => exact rfl); (case kKZ9 => assumption); (case k1Z9 => k_asm); (case k2Z9 => k_asm); (case k3Z9 => k_asm); (case k4Z9 => k_asm); (case k5Z9 => k_asm); (case k6Z9 => k_is); (case k7Z9 => k_is); (case k8Z9 => ktr_room); (case k9Z9 => exact BindsTo.of_eq rfl); (case c5Z9 => decide); (case kBZ9 => exact locs rfl); (case c2Z9 => exact rfl); (case c3Z9 => exact rfl); (case c4Z9 => exact rfl); k_whole; refine e3 ?_; generalize c3_1 _ = gZ9', c3_2 _ = LZ9', c3_3 _ = hZ9'; intro FGZ9' FZ9' NZ9' BZ9' XZ9' TZ9' hKZ9' hSZ9' l1Z9'; (try dsimp only); (try k_lift BZ9'))
  k_with "k_in" => (exact Frag.In.keeps (by k_asm) (Fr.keep (by k_asm)))
  k_with "callWith ref" => (k_here; k_dflt (refine' callWith_K ?k1Z9 ?k2Z9 ?_; (case k1Z9 => k_asm); (case k2Z9 => k_is); k_whole))
  k_with "k_room" => (ktr_room)
  k_with "k_units" => (ktr_units)
  k_with "kn_code" => (exact codeHd_of_K (c := 125) (P := 121) (by assumption) (by kernel_rfl))
  k_with "KasNext" => (exfalso; omega)
  k_with "eval Lambda" => (k_here; k_dflt (refine' kla_eval ?d0Z9 ?_; (case d0Z9 => exact rfl)); k_dflt (refine' lam_any ?FZ9 ?NZ9 ?TZ9 ?CZ9 ?cdZ9 ?SZ9 ?MZ9 ?UZ9 ?ppZ9 ?qqZ9 ?clZ9 ?_; (case FZ9 => k_asm); (case NZ9 => k_asm); (case TZ9 => k_asm); (case cdZ9 => exact rfl); (case CZ9 => kn_code); (case SZ9 => assumption); (case MZ9 => k_mem); (case UZ9 => k_updF); (case ppZ9 => exact ⟨rfl, rfl⟩); (case qqZ9 => exact rfl); (case clZ9 => exact rfl); k_whole); intro fZ9' cZ9' ocZ9' vsZ9' tZ9' ctZ9' hZ9' tkZ9' FZ9' NZ9' d1Z9' d2Z9' lO l1Z9 l2; (try dsimp only at NZ9'); (try k_lt l1Z9); (try k_lt2 l2))
  k_with "call ref" => (k_here; (with_reducible show wpAny _ _ (call (Value.ref 70) [Value.ref _]) _ _ _); k_dflt (refine' row_use ?BZ9 ?FZ9 ?XZ9 ?NZ9 ?TZ9 ?hkZ9 ?hsZ9 ?hdZ9 ?huZ9 ?_; (case BZ9 => k_asm); (case FZ9 => k_asm); (case XZ9 => k_asm); (case NZ9 => k_asm); (case TZ9 => k_asm); (case hkZ9 => first | exact rfl | assumption); (case hdZ9 => ktr_room); (case huZ9 => ktr_units); (case hsZ9 => exact side_op (by k_asm) (by k_mem) (by assumption) (by k_mem) (by assumption)); k_whole); intro TZ9' nZ9' t1Z9' t2Z9' t3Z9' t4Z9' t5Z9' hZ9' tkZ9' FZ9' NZ9'; (try dsimp only at NZ9'); (try k_sweep))
  k_with "call ref" => (k_here; (with_reducible show wpAny _ _ (call (Value.ref 77) _) _ _ _); refine Halt.go ?_)
  k_with "call ref" => (k_here; (with_reducible show wpAny _ _ (call (Value.ref 84) [Value.ref _, Value.int _ _]) _ _ _); k_dflt (refine' place_use ?BZ9 ?FZ9 ?XZ9 ?NZ9 ?TZ9 ?hkZ9 ?hsZ9 ?hokZ9 ?hy1Z9 ?hy2Z9 ?hdZ9 ?huZ9 ?_; (case BZ9 => k_asm); (case FZ9 => k_asm); (case XZ9 => k_asm); (case NZ9 => k_asm); (case TZ9 => k_asm); (case hkZ9 => first | exact rfl | assumption); (case hdZ9 => ktr_room); (case huZ9 => ktr_units); (case hsZ9 => exact side_op (by k_asm) (by k_mem) (by assumption) (by k_mem) (by assumption)); (case hokZ9 => assumption); (case hy1Z9 => assumption); (case hy2Z9 => assumption); k_whole); intro TZ9' nZ9' t1Z9' t2Z9' hZ9' tkZ9' FZ9' NZ9'; (try dsimp only at NZ9'); (try k_sweep))
  k_with "call ref" => (k_here; (with_reducible show wpAny _ _ (call (Value.ref 98) _) _ _ _); refine Halt.go ?_)
  k_with "k_inst" => (exact inst_op (by k_asm) (by k_mem) (by assumption) (by k_mem) (by assumption))
  k_with "execs cons Assign cons" => ((rename Halt (True ∧ True) => hm8Z9'); clear hm8Z9'; refine Halt.go ?_)
  k_with "eval IfExp" => ((rename Halt True => hm9Z9'); clear hm9Z9'; refine Halt.go ?_)
  revert w o1 o2 x1 x2 y1 y t1 t2 t3 t4 t5 n1 n2
  refine eW ?_
  generalize cW _ = w
  refine e13 ?_
  generalize c13_1 _ = o1, c13_2 _ = o2, c13_3 _ = x1, c13_4 _ = x2, c13_5 _ = y1, c13_6 _ = y, c13_7 _ = t1, c13_8 _ = t2, c13_9 _ = t3, c13_10 _ = t4, c13_11 _ = t5, c13_12 _ = n1, c13_13 _ = n2
  unfold Ctr
  k_fill
  refine eC ?_
  generalize cC_1 _ = p, cC_2 _ = loose, cC_3 _ = mean, cC_4 _ = mg, cC_5 _ = mb, cC_6 _ = dp, cC_7 _ = un, cC_8 _ = gd, cC_9 _ = cn, cC_10 _ = cs, cC_11 _ = a, cC_12 _ = ccd, cC_13 _ = cl, cC_14 _ = outer, cC_15 _ = A₀, cC_16 _ = base, cC_17 _ = h₀, cC_18 _ = L, cC_19 _ = m, cC_20 _ = s, cC_21 _ = Q, cC_22 _ = E
  intro B F X N T hk hd hu hret
  have hc1 : (y1 == y1) = true := beq_self_eq_true _
  refine wpAny_call ?_
  k_dflt k_extra "ktr_enter"
  k_steps
  refine ⟨?_⟩
  (rename Fr _ _ _ _ => lF)
  (rename News _ _ _ _ => lN)
  refine pureH_use (between_told w _ _ _ _ _ _ _ _ _ _ _ _) (by k_asm) lF (by k_asm) lN (by k_asm) rfl (fun _ h => nomatch h) (by ktr_room) (by ktr_units) ⟨(lN _ (.head _)).1, (lN _ (.tail _ (.head _))).1⟩ ?_
  intro r5 h5 tk5 hr5 F5 N5 hX5
  rw [show ∀ a b, sideOf a y1 b y1 = none from fun a b => by unfold sideOf; rw [if_pos rfl]] at hr5
  obtain rfl : r5 = .none := hr5
  clear lF lN hX5
  k_steps
  refine ⟨?_⟩
  (rename Fr _ _ _ _ => lF)
  (rename News _ _ _ _ => lN)
  refine pureH_use (between_told w _ _ _ _ _ _ _ _ _ _ _ _) (by k_asm) lF (by k_asm) lN (by k_asm) rfl (fun _ h => nomatch h) (by ktr_room) (by ktr_units) ⟨(lN _ (.tail _ (.head _))).1, (lN _ (.head _)).1⟩ ?_
  intro r5 h5 tk5 hr5 F5 N5 hX5
  rw [show ∀ a b, sideOf a y1 b y1 = none from fun a b => by unfold sideOf; rw [if_pos rfl]] at hr5
  obtain rfl : r5 = .none := hr5
  clear lF lN hX5
  k_steps
  all_goals (rename ∀ (b : PySem.Addr) (o : PySem.Obj), PySem.Heap.get? _ b = some o → _ => k2)
  all_goals (rename News h₀ _ _ _ => kN)
  all_goals (rename Keep _ _ _ => kK)
  all_goals (refine hret _ _ _ ⟨ext_of N kK kN (List.forall_mem_cons.mpr ⟨by k_mem, List.forall_mem_cons.mpr ⟨by k_mem, List.forall_mem_nil _⟩⟩) k2, rfl⟩)
end

section
open PySem PySem.W PyProof.Rows PySem.Calls PyProof.Rows.LCg
inductive All2 {α β : Type} (P : α → β → Prop) : List α → List β → Prop
  | nil : All2 P [] []
  | cons {a : α} {b : β} {as : List α} {bs : List β} : P a b → All2 P as bs → All2 P (a :: as) (b :: bs)
section
variable {α β : Type} {P P' : α → β → Prop}
theorem All2.length : ∀ {as : List α} {bs : List β}, All2 P as bs → as.length = bs.length
  | _, _, .nil => rfl
  | _, _, .cons _ r => by rw [List.length_cons, List.length_cons, r.length]
theorem All2.get : ∀ {as : List α} {bs : List β} {i : Nat} {a : α}, All2 P as bs → as[i]? = some a → ∃ b, bs[i]? = some b ∧ P a b
  | _, _, i, _, .nil, e => by simp at e
  | _, _, 0, _, .cons a r, e => by simp at e; exact ⟨_, rfl, e ▸ a⟩
  | _, _, i + 1, _, .cons a r, e => by
    simp at e
    obtain ⟨d, h1, h2⟩ := r.get e
    exact ⟨d, by simpa using h1, h2⟩
theorem All2.mono (h : ∀ a b, P a b → P' a b) : ∀ {as : List α} {bs : List β}, All2 P as bs → All2 P' as bs
  | _, _, .nil => .nil
  | _, _, .cons a r => .cons (h _ _ a) (r.mono h)
theorem All2.append {as' : List α} {bs' : List β} (k : All2 P as' bs') : ∀ {as : List α} {bs : List β}, All2 P as bs → All2 P (as ++ as') (bs ++ bs')
  | _, _, .nil => k
  | _, _, .cons a r => .cons a (All2.append k r)
theorem All2.one {a : α} {b : β} (h : P a b) : All2 P [a] [b] := .cons h .nil
end

structure Rwd where
  x1 : Int
  y1 : Int
  x2 : Int
  y2 : Int
structure RwOk (r : Rwd) : Prop where
  h1 : -10 ≤ r.x1
  h2 : r.x1 ≤ 10
  h3 : -10 ≤ r.x2
  h4 : r.x2 ≤ 10
  h5 : -4 ≤ r.y1
  h6 : r.y1 ≤ 4
  h7 : -4 ≤ r.y2
  h8 : r.y2 ≤ 4
/-- a row stands at v -/
def RowAt (h : PySem.Heap) (v : PySem.Value) (r : Rwd) : Prop :=
  ∃ (a o1 o2 : PySem.Addr) (t1 t2 t3 t4 : Tok) (n n1 n2 : Nat), v = .ref a ∧ h.get? a = some (tupO [.ref o1, .ref o2] n) ∧ h.get? o1 = some (tupO [.int r.x1 t1, .int r.y1 t2] n1) ∧ h.get? o2 = some (tupO [.int r.x2 t3, .int r.y2 t4] n2)
theorem RowAt.keep {h h' : PySem.Heap} {S : PySem.Addr} {n : Nat} {its : Array PySem.Value} {v : PySem.Value} {r : Rwd} (k : Keep [(S, listOf its n)] h h') (hS : h.get? S = some (listOf its n)) (x : RowAt h v r) : RowAt h' v r := by
  obtain ⟨a, o1, o2, t1, t2, t3, t4, n0, n1, n2, rfl, e1, e2, e3⟩ := x
  have off : ∀ {b : PySem.Addr} {vs : List PySem.Value} {k : Nat}, h.get? b = some (tupO vs k) → b ∉ [(S, listOf its n)].map (·.1) := by
    intro b vs k e hm
    simp only [List.map_cons, List.map_nil, List.mem_singleton] at hm
    subst hm
    rw [e] at hS; simp at hS
  exact ⟨a, o1, o2, t1, t2, t3, t4, n0, n1, n2, rfl, k _ _ (off e1) e1, k _ _ (off e2) e2, k _ _ (off e3) e3⟩

def rowSide (r : Rwd) : Option Sd := sideOf r.x1 r.y1 r.x2 r.y2
theorem rowSide_ok {r : Rwd} {d : Sd} (k : RwOk r) (h : rowSide r = some d) : SdOk d := by
  obtain ⟨h1, h2, h3, h4, h5, h6, h7, h8⟩ := k
  unfold rowSide sideOf at h
  by_cases c : r.y1 = r.y2
  · rw [if_pos c] at h; cases h
  · rw [if_neg c] at h
    by_cases c2 : r.y1 < r.y2
    · rw [if_pos c2] at h
      obtain rfl := Option.some.inj h
      exact ⟨h1, h2, h3, h4, h5, c2, h8, .inl rfl⟩
    · rw [if_neg c2] at h
      obtain rfl := Option.some.inj h
      refine ⟨h3, h4, h1, h2, h7, ?_, h6, .inr rfl⟩
      show r.y2 < r.y1
      omega
/-- a side of the ledger, or none -/
def SideIn (P : Params) (tl : Led) (v : PySem.Value) : Option Sd → Prop
  | none => v = .none
  | some d => ∃ (x dx : PySem.Addr) (k1 k2 k3 k4 k5 v1 v2 v3 v4 v5 : Tok), v = .ref x ∧ (x, instObj 87 dx) ∈ tl ∧ (dx, dictOf (sideEs P d.x1 d.y1 d.x2 d.y2 d.way k1 k2 k3 k4 k5 v1 v2 v3 v4 v5) 5) ∈ tl
theorem SideIn.mono {P : Params} {tl tl' : Led} {v : PySem.Value} {d : Option Sd} (hs : ∀ p ∈ tl, p ∈ tl') (x : SideIn P tl v d) : SideIn P tl' v d := by
  cases d with
  | none => exact x
  | some d =>
    obtain ⟨x, dx, k1, k2, k3, k4, k5, v1, v2, v3, v4, v5, rfl, a, b⟩ := x
    exact ⟨x, dx, k1, k2, k3, k4, k5, v1, v2, v3, v4, v5, rfl, hs _ a, hs _ b⟩
theorem sides_at {P : Params} {tl : Led} {h : PySem.Heap} (N : ∀ q ∈ tl, h.get? q.1 = some q.2) : ∀ {vs : List PySem.Value} {ds : List Sd}, All2 (fun v d => SideIn P tl v (some d)) vs ds → SidesAt P h vs ds
  | _, _, .nil => .nil
  | _, _, .cons a r => by
    obtain ⟨x, dx, k1, k2, k3, k4, k5, v1, v2, v3, v4, v5, rfl, a, b⟩ := a
    exact .cons ⟨x, dx, k1, k2, k3, k4, k5, v1, v2, v3, v4, v5, rfl, N _ a, N _ b⟩ (sides_at N r)

theorem take_map_step {α β : Type} (f : α → β) (l : List α) {i : Nat} {r : α} (h : l[i]? = some r) : (l.take (i + 1)).map f = (l.take i).map f ++ [f r] := by
  rw [List.take_add_one, h, List.map_append]; rfl
theorem take_fm_some {α β : Type} (f : α → Option β) (l : List α) {i : Nat} {r : α} {d : β} (h : l[i]? = some r) (e : f r = some d) : (l.take (i + 1)).filterMap f = (l.take i).filterMap f ++ [d] := by
  rw [List.take_add_one, h, List.filterMap_append]
  simp [e]
theorem take_fm_none {α β : Type} (f : α → Option β) (l : List α) {i : Nat} {r : α} (h : l[i]? = some r) (e : f r = none) : (l.take (i + 1)).filterMap f = (l.take i).filterMap f := by
  rw [List.take_add_one, h, List.filterMap_append]
  simp [e]
theorem fnd_append (y st : Int) (a b : List Sd) : fnd y st (a ++ b) = fnd y st a ++ fnd y st b := by
  unfold fnd; rw [List.filter_append, List.map_append]
theorem fnd_in (y st : Int) (d : Sd) (h : d.y1 ≤ y ∧ y < d.y2) : fnd y st [d] = [pairOf y st d] := by
  unfold fnd; simp [h.1, h.2]
theorem fnd_out (y st : Int) (d : Sd) (h : ¬ (d.y1 ≤ y ∧ y < d.y2)) : fnd y st [d] = [] := by
  unfold fnd
  have : (decide (d.y1 ≤ y) && decide (y < d.y2)) = false := by
    rw [← Bool.not_eq_true, Bool.and_eq_true, decide_eq_true_eq, decide_eq_true_eq]; exact h
  simp [this]
/-- what is due of the first i rows -/
def dueL (y st : Int) (rows : List Rwd) (i : Nat) : List (Int × Int) := fnd y st ((rows.take i).filterMap rowSide)
theorem due_none {y st : Int} {rows : List Rwd} {i : Nat} {r : Rwd} (h : rows[i]? = some r) (e : r.y1 = r.y2) : dueL y st rows (i + 1) = dueL y st rows i := by
  unfold dueL
  rw [take_fm_none rowSide rows h]
  unfold rowSide sideOf; rw [if_pos e]
theorem rowSide_up {r : Rwd} (e : r.y1 < r.y2) : rowSide r = some ⟨r.x1, r.y1, r.x2, r.y2, 1⟩ := by
  unfold rowSide sideOf; rw [if_neg (by omega), if_pos e]
theorem rowSide_down {r : Rwd} (e : r.y2 < r.y1) : rowSide r = some ⟨r.x2, r.y2, r.x1, r.y1, -1⟩ := by
  unfold rowSide sideOf; rw [if_neg (by omega), if_neg (by omega)]
theorem due_up {y st : Int} {rows : List Rwd} {i : Nat} {r : Rwd} (h : rows[i]? = some r) (e : r.y1 < r.y2) (c : r.y1 ≤ y ∧ y < r.y2) :
    dueL y st rows (i + 1) = dueL y st rows i ++ [(colv (r.x1 * (r.y2 - r.y1) + (r.x2 - r.x1) * (y - r.y1)) (r.y2 - r.y1) st, 1)] := by
  unfold dueL
  rw [take_fm_some rowSide rows h (rowSide_up e), fnd_append, fnd_in _ _ _ c]
  rfl
theorem due_up_out {y st : Int} {rows : List Rwd} {i : Nat} {r : Rwd} (h : rows[i]? = some r) (e : r.y1 < r.y2) (c : ¬ (r.y1 ≤ y ∧ y < r.y2)) : dueL y st rows (i + 1) = dueL y st rows i := by
  unfold dueL
  rw [take_fm_some rowSide rows h (rowSide_up e), fnd_append, fnd_out _ _ _ c, List.append_nil]
theorem turn_top (x1 y1 x2 y2 y : Int) : x2 * (y1 - y2) + (x1 - x2) * (y - y2) = 0 - (x1 * (y2 - y1) + (x2 - x1) * (y - y1)) := by grind
theorem due_down {y st : Int} {rows : List Rwd} {i : Nat} {r : Rwd} (h : rows[i]? = some r) (e : r.y2 < r.y1) (c : r.y2 ≤ y ∧ y < r.y1) :
    dueL y st rows (i + 1) = dueL y st rows i ++ [(colv (0 - (r.x1 * (r.y2 - r.y1) + (r.x2 - r.x1) * (y - r.y1))) (0 - (r.y2 - r.y1)) st, -1)] := by
  unfold dueL
  rw [take_fm_some rowSide rows h (rowSide_down e), fnd_append, fnd_in _ _ _ c, ← turn_top, show 0 - (r.y2 - r.y1) = r.y1 - r.y2 by omega]
  rfl
theorem due_down_out {y st : Int} {rows : List Rwd} {i : Nat} {r : Rwd} (h : rows[i]? = some r) (e : r.y2 < r.y1) (c : ¬ (r.y2 ≤ y ∧ y < r.y1)) : dueL y st rows (i + 1) = dueL y st rows i := by
  unfold dueL
  rw [take_fm_some rowSide rows h (rowSide_down e), fnd_append, fnd_out _ _ _ c, List.append_nil]

/-- a place upon a row lies between the ends -/
theorem on_row {x1 x2 y1 y2 y : Int} (h1 : -10 ≤ x1) (h2 : x1 ≤ 10) (h3 : -10 ≤ x2) (h4 : x2 ≤ 10) (ha : y1 ≤ y) (hb : y < y2) :
    -10 * (y2 - y1) ≤ x1 * (y2 - y1) + (x2 - x1) * (y - y1) ∧ x1 * (y2 - y1) + (x2 - x1) * (y - y1) ≤ 10 * (y2 - y1) := by
  have e : x1 * (y2 - y1) + (x2 - x1) * (y - y1) = x1 * (y2 - y) + x2 * (y - y1) := by grind
  have p1 : -10 * (y2 - y) ≤ x1 * (y2 - y) := Int.mul_le_mul_of_nonneg_right h1 (by omega)
  have p2 : x1 * (y2 - y) ≤ 10 * (y2 - y) := Int.mul_le_mul_of_nonneg_right h2 (by omega)
  have p3 : -10 * (y - y1) ≤ x2 * (y - y1) := Int.mul_le_mul_of_nonneg_right h3 (by omega)
  have p4 : x2 * (y - y1) ≤ 10 * (y - y1) := Int.mul_le_mul_of_nonneg_right h4 (by omega)
  rw [e]
  omega
/-- its column is one of the 25 -/
theorem col_in {x b st : Int} (hb : 0 < b) (hs : 0 < st) (h1 : -10 * b ≤ x) (h2 : x ≤ 10 * b) : -12 ≤ colv x b st ∧ colv x b st ≤ 12 := by
  have hp : b ≤ st * b := by
    have := Int.mul_le_mul_of_nonneg_right (show (1 : Int) ≤ st by omega) (show 0 ≤ b by omega)
    omega
  constructor
  · refine Int.not_lt.mp fun c => ?_
    have q := (colv_least x b st (-13) hb hs).mpr (by omega)
    rw [show (2 * (-13 : Int) + 1) * st * b = -25 * (st * b) by grind] at q
    omega
  · refine (colv_least x b st 12 hb hs).mp ?_
    rw [show (2 * (12 : Int) + 1) * st * b = 25 * (st * b) by grind]
    omega
/-- the columns found among the first i -/
def SomeR (cv : Int) (i : Nat) (ys : List PySem.Value) : Prop := if cv < -12 + (i : Int) then ∃ t r, ys = .int cv t :: r else ys = []
theorem some_yes {cv : Int} {i : Nat} {ys : List PySem.Value} {t : Tok} (h0 : -12 ≤ cv) (h : SomeR cv i ys) (c : cv ≤ -12 + (i : Int)) : SomeR cv (i + 1) (ys ++ [.int (-12 + (i : Int)) t]) := by
  unfold SomeR at h ⊢
  rw [if_pos (by omega)]
  by_cases q : cv < -12 + (i : Int)
  · rw [if_pos q] at h
    obtain ⟨t', r, rfl⟩ := h
    exact ⟨t', r ++ [_], rfl⟩
  · rw [if_neg q] at h
    subst h
    exact ⟨t, [], by rw [show cv = -12 + (i : Int) by omega]; rfl⟩
theorem some_no {cv : Int} {i : Nat} {ys : List PySem.Value} (h : SomeR cv i ys) (c : ¬ cv ≤ -12 + (i : Int)) : SomeR cv (i + 1) ys := by
  unfold SomeR at h ⊢
  rw [if_neg (by omega)] at h
  rw [if_neg (by omega)]; exact h
theorem some_end {cv : Int} {ys : List PySem.Value} (h : SomeR cv 25 ys) (c : cv ≤ 12) : ∃ t r, ys = .int cv t :: r := by
  unfold SomeR at h
  rw [if_pos (by omega)] at h; exact h

def MadeR (P : Params) (rows : List Rwd) (b : Led) (i : Nat) (ys : List PySem.Value) (nx : Led) : Prop :=
  ∃ tl, nx = b ++ tl ∧ All2 (SideIn P tl) ys ((rows.take i).map rowSide)
theorem made_end {h₀ g h' : PySem.Heap} {L I C D Rw : PySem.Addr} {m : PySem.Str → Option PySem.Value} {oI oC oR : PySem.Obj} {ys : List PySem.Value} {base tl : Led} {P : Params} {r : Rwd} {v : PySem.Value} {rows : List Rwd} {i : Nat} {s₁ : Shared} {tk : Nat}
    (F : Fr h₀ L h' m) (N : News h₀ L h' ((I, oI) :: (C, oC) :: (D, lst ys) :: (base ++ tl))) (F0 : Fr h₀ L g m) (N0 : News h₀ L g ((I, oI) :: (C, oC) :: (D, lst ys) :: (base ++ tl)))
    (off : Off3 I C D (base ++ tl)) (hs : SideMade P g h' v (rowSide r)) (hr : rows[i]? = some r) (hA : All2 (SideIn P tl) ys ((rows.take i).map rowSide)) (hm : (Rw, oR) ∈ base ++ tl) :
    CompEnd h₀ L m s₁ I oI C oC D (lst ys) (fun nx => (Rw, oR) ∈ nx) (fun z nx => MadeR P rows base (i + 1) (ys ++ [z]) nx) v { s₁ with heap := h', toks := tk } := by
  have hmap := take_map_step rowSide rows hr
  cases hd : rowSide r with
  | none =>
    rw [hd] at hs hmap
    have hv : v = .none := hs
    exact CompEnd.intro F N _ (fun _ h => h) off hm ⟨tl, rfl, by rw [hmap]; exact All2.append (All2.one (P := SideIn P tl) (b := none) hv) hA⟩
  | some d =>
    rw [hd] at hs hmap
    obtain ⟨x, dx, k1, k2, k3, k4, k5, v1, v2, v3, v4, v5, rfl, e1, e2, f1, f2⟩ := hs
    have nL : ∀ {z : PySem.Addr}, g.get? z = none → z ≠ L := by
      rintro z hz rfl
      obtain ⟨oL, es, ep, hL, _⟩ := F0.ns
      rw [hz] at hL; cases hL
    have nB : ∀ {z : PySem.Addr}, g.get? z = none → h₀.get? z = none := by
      intro z hz
      cases e : h₀.get? z with
      | none => rfl
      | some o => have := F0.keep _ _ e; rw [hz] at this; cases this
    have nN : ∀ {z : PySem.Addr} {q : PySem.Addr × PySem.Obj}, g.get? z = none → q ∈ (I, oI) :: (C, oC) :: (D, lst ys) :: (base ++ tl) → z ≠ q.1 := by
      rintro z q hz hq rfl
      have := (N0 q hq).1; rw [hz] at this; cases this
    have o3 := off.mem
    refine ⟨h', tk, base ++ ((x, instObj 87 dx) :: (dx, dictOf (sideEs P d.x1 d.y1 d.x2 d.y2 d.way k1 k2 k3 k4 k5 v1 v2 v3 v4 v5) 5) :: tl), rfl, F, ?_, Off3.of fun q hq => ?_, ?_, _, rfl, ?_⟩
    · intro q hq
      have hq' : q = (x, instObj 87 dx) ∨ q = (dx, dictOf (sideEs P d.x1 d.y1 d.x2 d.y2 d.way k1 k2 k3 k4 k5 v1 v2 v3 v4 v5) 5) ∨ q ∈ (I, oI) :: (C, oC) :: (D, lst ys) :: (base ++ tl) := by
        simp only [List.mem_cons, List.mem_append] at hq ⊢
        rcases hq with h | h | h | h | h | h | h
        · exact .inr (.inr (.inl h))
        · exact .inr (.inr (.inr (.inl h)))
        · exact .inr (.inr (.inr (.inr (.inl h))))
        · exact .inr (.inr (.inr (.inr (.inr (.inl h)))))
        · exact .inl h
        · exact .inr (.inl h)
        · exact .inr (.inr (.inr (.inr (.inr (.inr h)))))
      rcases hq' with rfl | rfl | hq
      · exact ⟨e1, nL f1, nB f1⟩
      · exact ⟨e2, nL f2, nB f2⟩
      · exact N q hq
    · simp only [List.mem_cons, List.mem_append] at hq
      rcases hq with h | rfl | rfl | h
      · exact o3 q (List.mem_append_left _ h)
      · exact ⟨nN f1 (.head _), nN f1 (.tail _ (.head _)), nN f1 (.tail _ (.tail _ (.head _)))⟩
      · exact ⟨nN f2 (.head _), nN f2 (.tail _ (.head _)), nN f2 (.tail _ (.tail _ (.head _)))⟩
      · exact o3 q (List.mem_append_right _ h)
    · rcases List.mem_append.mp hm with h | h
      · exact List.mem_append_left _ h
      · exact List.mem_append_right _ (.tail _ (.tail _ h))
    · rw [hmap]
      exact All2.append (.one ⟨x, dx, k1, k2, k3, k4, k5, v1, v2, v3, v4, v5, rfl, .head _, .tail _ (.head _)⟩) (All2.mono (fun _ _ z => SideIn.mono (fun _ h => .tail _ (.tail _ h)) z) hA)
/-- the sides among the made -/
def FiltR (P : Params) (rows : List Rwd) (tl base : Led) (i : Nat) (zs : List PySem.Value) (nx : Led) : Prop :=
  nx = base ∧ All2 (fun v d => SideIn P tl v (some d)) zs ((rows.take i).filterMap rowSide)
theorem map_get {α β : Type} {f : α → β} {l : List α} {i : Nat} {b : β} (h : (l.map f)[i]? = some b) : ∃ a, l[i]? = some a ∧ f a = b := by
  rw [List.getElem?_map] at h
  cases e : l[i]? with
  | none => rw [e] at h; cases h
  | some a => rw [e] at h; exact ⟨a, rfl, Option.some.inj h⟩
/-- what a call has newly made joins the ledger -/
theorem news_join {h₀ g h' : PySem.Heap} {L : PySem.Addr} {m : PySem.Str → Option PySem.Value} {news nw : Led} (F0 : Fr h₀ L g m) (N : News h₀ L h' news) (hn : ∀ q ∈ nw, h'.get? q.1 = some q.2 ∧ g.get? q.1 = none) : News h₀ L h' (news ++ nw) := by
  intro q hq
  rcases List.mem_append.mp hq with hq | hq
  · exact N q hq
  · obtain ⟨a, b⟩ := hn q hq
    refine ⟨a, ?_, ?_⟩
    · intro e
      obtain ⟨oL, es, ep, hL, _⟩ := F0.ns
      rw [← e, b] at hL; cases hL
    · cases e : h₀.get? q.1 with
      | none => rfl
      | some o => have := F0.keep _ _ e; rw [b] at this; cases this
/-- and it lies apart from what stood -/
theorem news_off {h₀ g : PySem.Heap} {L : PySem.Addr} {news nw : Led} {h' : PySem.Heap} {adr : List PySem.Addr} (N0 : News h₀ L g news) (hn : ∀ q ∈ nw, h'.get? q.1 = some q.2 ∧ g.get? q.1 = none) (ha : ∀ a ∈ adr, a ∈ news.map (·.1)) : OwnOff nw adr := by
  intro q hq a hadr e
  obtain ⟨q', hq', rfl⟩ := List.mem_map.mp (ha a hadr)
  have := (N0 q' hq').1
  rw [← e, (hn q hq).2] at this; cases this
theorem led_cut {h₀ h : PySem.Heap} {L : PySem.Addr} {x1 x2 a b c : PySem.Addr × PySem.Obj} {tl nw : Led} (N : News h₀ L h ((x1 :: x2 :: a :: b :: c :: tl) ++ nw)) : News h₀ L h (a :: b :: c :: nw) := by
  intro q hq
  refine N q ?_
  simp only [List.mem_cons, List.mem_append] at hq ⊢
  rcases hq with h | h | h | h
  · exact .inl (.inr (.inr (.inl h)))
  · exact .inl (.inr (.inr (.inr (.inl h))))
  · exact .inl (.inr (.inr (.inr (.inr (.inl h)))))
  · exact .inr h
theorem All2.len_le {α β γ : Type} {P : α → β → Prop} {as : List α} {f : γ → Option β} {l : List γ} (h : All2 P as (l.filterMap f)) : as.length ≤ l.length := by
  rw [h.length]; exact List.length_filterMap_le f l
abbrev dueNames : List PySem.Str := [PySem.Str.ofString "one", PySem.Str.ofString "other", PySem.Str.ofString "low", PySem.Str.ofString "high", PySem.Str.ofString "bottom", PySem.Str.ofString "top", PySem.Str.ofString "some"]
abbrev duePs (_ : Unit) : List (PySem.Str × PySem.Value) := []
def DueR (l K2 K1 Rw : PySem.Addr) (o1 : PySem.Obj) (rvs : List PySem.Value) (nR : Nat) (nw : Led) (y st : Int) (rows : List Rwd) (i : Nat) (_ : Unit) (nx : Led) : Prop :=
  ∃ (fvs : List PySem.Value) (n' : Nat) (oc : PySem.Obj) (v : Option PySem.Value) (tl : Led), nx = (l, listOf fvs.toArray n') :: (K2, oc) :: (K1, o1) :: (Rw, listOf rvs.toArray nR) :: tl ∧ oc.data = .cell v ∧ OwnOff tl [l, K2, K1, Rw] ∧
    (∀ q ∈ nw, q ∈ tl) ∧ DatAll tl fvs ((dueL y st rows i).map pd)
theorem due_len (y st : Int) (rows : List Rwd) (i : Nat) : (dueL y st rows i).length ≤ i := by
  unfold dueL fnd
  rw [List.length_map]
  have h1 := List.length_filter_le (fun d : Sd => decide (d.y1 ≤ y) && decide (y < d.y2)) ((rows.take i).filterMap rowSide)
  have h2 := List.length_filterMap_le rowSide (rows.take i)
  have h3 := List.length_take_le i rows
  omega
theorem news_off3 {h₀ g : PySem.Heap} {L : PySem.Addr} {x1 x2 a b c : PySem.Addr × PySem.Obj} {tl nw : Led} {h' : PySem.Heap} (N0 : News h₀ L g (x1 :: x2 :: a :: b :: c :: tl)) (hn : ∀ q ∈ nw, h'.get? q.1 = some q.2 ∧ g.get? q.1 = none) : OwnOff nw [a.1, b.1, c.1] := by
  refine news_off N0 hn fun z hz => ?_
  simp only [List.mem_cons, List.not_mem_nil, or_false, List.map_cons] at hz ⊢
  rcases hz with rfl | rfl | rfl
  · exact .inr (.inr (.inl rfl))
  · exact .inr (.inr (.inr (.inl rfl)))
  · exact .inr (.inr (.inr (.inr (.inl rfl))))
theorem own_cons {nw : Led} {l : PySem.Addr} {adr : List PySem.Addr} (h : OwnOff nw adr) (hl : AllLt l nw) : OwnOff nw (l :: adr) := by
  intro q hq a ha
  rcases List.mem_cons.mp ha with rfl | ha
  · exact Nat.ne_of_lt (ktn_ltOf hl q hq)
  · exact h q hq a ha
theorem due_names_off {z : PySem.Str} (h : dueNames.contains z = false) : z ≠ PySem.Str.ofString "one" ∧ z ≠ PySem.Str.ofString "other" ∧ z ≠ PySem.Str.ofString "low" ∧ z ≠ PySem.Str.ofString "high" ∧ z ≠ PySem.Str.ofString "bottom" ∧ z ≠ PySem.Str.ofString "top" ∧ z ≠ PySem.Str.ofString "some" := by
  simp only [dueNames, List.contains_cons, List.contains_nil, Bool.or_false, Bool.or_eq_false_iff, beq_eq_false_iff_ne, ne_eq] at h
  exact h
theorem due_keep {g h' : PySem.Heap} {L : PySem.Addr} {m' m₀ : PySem.Str → Option PySem.Value} {l K2 K1 Rw : PySem.Addr} {oc o1 : PySem.Obj} {cv : Option PySem.Value} {x : PySem.Addr × PySem.Obj} {fvs rvs : List PySem.Value} {n' nR : Nat} {own tl nw : Led} {y st : Int} {rows : List Rwd} {i : Nat} {s₁ : Shared} {tk : Nat}
    (hS : dueL y st rows (i + 1) = dueL y st rows i) (F : Fr g L h' m') (N : News g L h' (x :: (l, listOf fvs.toArray n') :: (K2, oc) :: (K1, o1) :: (Rw, listOf rvs.toArray nR) :: (tl ++ own))) (hcd : oc.data = .cell cv)
    (ht : OwnOff tl [l, K2, K1, Rw]) (hoff : OwnOff own (((l, listOf fvs.toArray n') :: (K2, oc) :: (K1, o1) :: (Rw, listOf rvs.toArray nR) :: tl).map (·.1))) (hnt : ∀ q ∈ nw, q ∈ tl) (hD : DatAll tl fvs ((dueL y st rows i).map pd))
    (hm : ∀ z, dueNames.contains z = false → m' z = m₀ z) :
    InvEndG g L (fun m' nx => (Rw, listOf rvs.toArray nR) ∈ nx ∧ LpK duePs dueNames m₀ (DueR l K2 K1 Rw o1 rvs nR nw y st rows (i + 1)) m' nx) own s₁ { s₁ with heap := h', toks := tk } := by
  refine turns_end () ((l, listOf fvs.toArray n') :: (K2, oc) :: (K1, o1) :: (Rw, listOf rvs.toArray nR) :: tl) F N ?_ ?_ hoff (.tail _ (.tail _ (.tail _ (.head _)))) (fun _ h => nomatch h) (fun z _ h2 => hm z h2) ⟨fvs, n', oc, cv, tl, rfl, hcd, ht, hnt, by rw [hS]; exact hD⟩
  · intro p hp
    simp only [List.mem_cons, List.mem_append] at hp ⊢
    rcases hp with e | e | e | e | e
    · exact .inr (.inl e)
    · exact .inr (.inr (.inl e))
    · exact .inr (.inr (.inr (.inl e)))
    · exact .inr (.inr (.inr (.inr (.inl e))))
    · exact .inr (.inr (.inr (.inr (.inr (.inl e)))))
  · intro p hp
    simp only [List.mem_cons, List.mem_append]
    exact .inr (.inr (.inr (.inr (.inr (.inr hp)))))
theorem due_add {g h' : PySem.Heap} {L : PySem.Addr} {m' m₀ : PySem.Str → Option PySem.Value} {l K2 K1 Rw D : PySem.Addr} {oc oc0 o1 ol : PySem.Obj} {cv : Option PySem.Value} {fvs rvs : List PySem.Value} {n' nR k : Nat} {own tl nw all : Led} {y st : Int} {rows : List Rwd} {i : Nat} {s₁ : Shared} {tk : Nat} {c way : Int} {tc tw : Tok}
    (hS : dueL y st rows (i + 1) = dueL y st rows i ++ [(c, way)]) (F : Fr g L h' m') (N : News g L h' all) (hcd : oc.data = .cell cv)
    (mD : (D, tupO [.int c tc, .int way tw] k) ∈ all) (ml : (l, listOf (fvs.toArray.push (PySem.Value.ref D)) (n' + 1)) ∈ all) (m2 : (K2, oc) ∈ all) (m1 : (K1, o1) ∈ all) (mR : (Rw, listOf rvs.toArray nR) ∈ all) (mt : ∀ q ∈ tl ++ own, q ∈ all)
    (lD : l < D ∧ K2 < D ∧ K1 < D ∧ Rw < D ∧ AllLt D (tl ++ own))
    (ht : OwnOff tl [l, K2, K1, Rw]) (hoff : OwnOff own (((l, ol) :: (K2, oc0) :: (K1, o1) :: (Rw, listOf rvs.toArray nR) :: tl).map (·.1))) (hnt : ∀ q ∈ nw, q ∈ tl) (hD : DatAll tl fvs ((dueL y st rows i).map pd))
    (hm : ∀ z, dueNames.contains z = false → m' z = m₀ z) :
    InvEndG g L (fun m' nx => (Rw, listOf rvs.toArray nR) ∈ nx ∧ LpK duePs dueNames m₀ (DueR l K2 K1 Rw o1 rvs nR nw y st rows (i + 1)) m' nx) own s₁ { s₁ with heap := h', toks := tk } := by
  obtain ⟨lD1, lD2, lD3, lD4, lD5⟩ := lD
  have lD6 := ktn_ltOf lD5
  rw [List.push_toArray] at ml
  refine turns_end () ((l, listOf (fvs ++ [PySem.Value.ref D]).toArray (n' + 1)) :: (K2, oc) :: (K1, o1) :: (Rw, listOf rvs.toArray nR) :: (D, tupO [.int c tc, .int way tw] k) :: tl) F N ?_ (fun p hp => mt p (List.mem_append_right _ hp)) (fun p hp z hz => ?_) (.tail _ (.tail _ (.tail _ (.head _)))) (fun _ h => nomatch h) (fun z _ h2 => hm z h2)
    ⟨fvs ++ [PySem.Value.ref D], n' + 1, oc, cv, (D, tupO [.int c tc, .int way tw] k) :: tl, rfl, hcd, ?_, fun q hq => .tail _ (hnt q hq), ?_⟩
  · intro p hp
    simp only [List.mem_cons] at hp
    rcases hp with rfl | rfl | rfl | rfl | rfl | e
    · exact ml
    · exact m2
    · exact m1
    · exact mR
    · exact mD
    · exact mt p (List.mem_append_left _ e)
  · simp only [List.map_cons, List.mem_cons] at hz
    rcases hz with rfl | rfl | rfl | rfl | rfl | hz
    · exact hoff p hp _ (.head _)
    · exact hoff p hp _ (.tail _ (.head _))
    · exact hoff p hp _ (.tail _ (.tail _ (.head _)))
    · exact hoff p hp _ (.tail _ (.tail _ (.tail _ (.head _))))
    · exact Nat.ne_of_lt (lD6 p (List.mem_append_right _ hp))
    · exact hoff p hp _ (.tail _ (.tail _ (.tail _ (.tail _ hz))))
  · intro p hp b hb
    rcases List.mem_cons.mp hp with rfl | hp
    · simp only [List.mem_cons, List.not_mem_nil, or_false] at hb
      rcases hb with rfl | rfl | rfl | rfl
      · exact Nat.ne_of_gt lD1
      · exact Nat.ne_of_gt lD2
      · exact Nat.ne_of_gt lD3
      · exact Nat.ne_of_gt lD4
    · exact ht p hp b hb
  · rw [hS, List.map_append]
    exact (hD.mono fun _ h => .tail _ h).append (DatAll.one (DatIn.tuple (.head _) (.cons (.int _ _) (.cons (.int _ _) .nil))))
/-- the columns found, between two turns -/
def SomeJ (cv : Int) (base : Led) (i : Nat) (ys : List PySem.Value) (nx : Led) : Prop := nx = base ∧ SomeR cv i ys
theorem some_start (cv : Int) (h : -12 ≤ cv) : SomeR cv 0 [] := by unfold SomeR; rw [if_neg (by omega)]
theorem pd_ok (ps : List (Int × Int)) : ∀ d ∈ ps.map pd, kqdOk 8 d = true := by
  intro d hd
  obtain ⟨p, _, rfl⟩ := List.mem_map.mp hd
  simp [kqdOk]
theorem fnd_way {y st : Int} {ds : List Sd} (h : ∀ d ∈ ds, SdOk d) : ∀ p ∈ fnd y st ds, WayOk p := by
  intro p hp
  unfold fnd at hp
  obtain ⟨d, hd, rfl⟩ := List.mem_map.mp hp
  exact (h d (List.mem_filter.mp hd).1).h8
theorem rows_sides {rows : List Rwd} (hok : ∀ r ∈ rows, RwOk r) : ∀ d ∈ rows.filterMap rowSide, SdOk d := fun d hd => by
  obtain ⟨r, hr, e⟩ := List.mem_filterMap.mp hd
  exact rowSide_ok (hok r hr) e
theorem due_all (y st : Int) (rows : List Rwd) : dueL y st rows rows.length = fnd y st (rows.filterMap rowSide) := by
  unfold dueL; rw [List.take_length]
end

section
open PySem PySem.W PyProof.Rows PySem.Calls PyProof.Rows.LCg
set_option maxRecDepth 100000 in
set_option maxHeartbeats 4000000 in
theorem stepsright_told (w : World) (Rw : Addr) (rvs : List PySem.Value) (rows : List Rwd) (y st : Int) (t1 t2 : Tok) (nR : Nat) (hlen : rvs.length < 64) (hok : ∀ r ∈ rows, RwOk r) (hy1 : -4 ≤ y) (hy2 : y ≤ 4) (hs1 : 0 < st) (hs2 : st ≤ 12) :
    CtrH 7 w 150 [(Rw, listOf rvs.toArray nR)] [.ref Rw, .int y t1, .int st t2] (fun h => All2 (RowAt h) rvs rows)
      (fun h r h' => Ext h h' ∧ r = .bool true) := by
  w_top off
  k_with_none
  k_with "mul_fits" => ((with_reducible show PySem.IntMulOk _ _); (try simp (disch := omega) only [fmod_e, fdiv_e, show Int.toNat 0 = 0 from rfl, show Int.toNat 1 = 1 from rfl, List.getD_cons_zero, List.getD_cons_succ]); first | exact PySem.IntMulOk.of_left (PySem.intBits_le_64 (by omega) (by omega)) | exact PySem.IntMulOk.of_right (PySem.intBits_le_64 (by omega) (by omega)))
  k_with "ktr_enter" => (refine' code_subC ?k1Z9 ?k2Z9 ?k3Z9 ?k4Z9 ?k5Z9 ?kAZ9 ?kFZ9 ?kKZ9 ?k6Z9 ?k7Z9 ?k8Z9 ?k9Z9 ?kBZ9 ?kDZ9 ?_ ?c2Z9 ?c3Z9 ?c4Z9; (case kAZ9 => exact rfl); (case kFZ9 => exact rfl); (case kKZ9 => assumption); (case k1Z9 => k_asm); (case k2Z9 => k_asm); (case k3Z9 => k_asm); (case k4Z9 => k_asm); (case k5Z9 => k_asm); (case k6Z9 => k_is); (case k7Z9 => k_is); (case k8Z9 => ktr_room); (case k9Z9 => exact BindsTo.of_eq rfl); (case kBZ9 => exact rfl); (case kDZ9 => decide +kernel); (case c2Z9 => exact rfl); (case c3Z9 => exact rfl); (case c4Z9 => exact rfl); k_whole; refine e5 ?_; generalize c5_1 _ = gZ9', c5_2 _ = LZ9', c5_3 _ = hZ9', c5_4 _ = tkZ9', c5_5 _ = cellsZ9'; intro FGZ9' FZ9' NZ9' YZ9' BZ9' XZ9' TZ9' hKZ9' hSZ9' l1Z9; (try k_lt l1Z9); k_cells YZ9'; (try simp only [List.cons_append, List.nil_append] at NZ9'); (try dsimp only); (try k_lift BZ9'))
  k_with "k_in" => (exact Frag.In.keeps (by k_asm) (Fr.keep (by k_asm)))
  k_with "callWith ref" => (k_here; k_dflt (refine' callWith_K ?k1Z9 ?k2Z9 ?_; (case k1Z9 => k_asm); (case k2Z9 => k_is); k_whole))
  k_with "k_room" => (ktr_room)
  k_with "k_units" => (ktr_units)
  k_with "call ref" => (k_here; (with_reducible show wpAny _ _ (call (Value.ref 133) [Value.int _ _, Value.ref _, Value.int _ _]) _ _ _); k_dflt (refine' pure_use1 (behind_told _ _ _ _ _ _ _ _ _ _ _ ?h3Z9 ?h4Z9 ?h5Z9 ?h6Z9) ?BZ9 ?FZ9 ?XZ9 ?NZ9 ?TZ9 ?hkZ9 ?hmZ9 ?hdZ9 ?huZ9 ?_; (case BZ9 => k_asm); (case FZ9 => k_asm); (case XZ9 => k_asm); (case NZ9 => k_asm); (case hmZ9 => k_mem); (case TZ9 => k_asm); (case hkZ9 => first | exact rfl | assumption); (case h3Z9 => omega); (case h4Z9 => omega); (case h5Z9 => omega); (case h6Z9 => omega); (case hdZ9 => ktr_room); (case huZ9 => ktr_units); k_whole); intro rZ9' hZ9' tkZ9' hrZ9' FZ9' NZ9' hXZ9'; subst hrZ9'; clear hXZ9'; (try k_sweep))
  k_with "subscriptTail" => (k_here; (with_reducible show wpAny _ _ (subscriptTail _ _ (Value.ref _) (Value.int _ _)) _ _ _); k_dflt (first | (refine' item_tupleT ?tZ9 ?aZ9 ?bZ9 ?cZ9 ?dZ9 ?_; (case tZ9 => exact tup_base (by k_asm) (by assumption)); (case aZ9 => decide); (case bZ9 => decide); (case cZ9 => rfl); (case dZ9 => rfl); k_whole) | (refine' item_led ?NZ9 ?mZ9 ?aZ9 ?bZ9 ?xZ9 ?_; (case NZ9 => k_asm); (case mZ9 => k_mem); (case xZ9 => assumption); (case aZ9 => omega); (case bZ9 => omega); k_whole)))
  k_with "subscriptTail Name Constant ref int" => (k_here; (with_reducible show wpAny _ _ (subscriptTail _ _ (Value.ref _) (Value.int _ _)) _ _ _); k_dflt (first | (refine' item_tupleT ?tZ9 ?aZ9 ?bZ9 ?cZ9 ?dZ9 ?_; (case tZ9 => exact tup_base (by k_asm) (by assumption)); (case aZ9 => decide); (case bZ9 => decide); (case cZ9 => rfl); (case dZ9 => rfl); k_whole) | (refine' item_led ?NZ9 ?mZ9 ?aZ9 ?bZ9 ?xZ9 ?_; (case NZ9 => k_asm); (case mZ9 => k_mem); (case xZ9 => assumption); (case aZ9 => omega); (case bZ9 => omega); k_whole)))
  k_with "call ref" => (k_here; (with_reducible show wpAny _ _ (call (Value.ref 42) _) _ _ _); refine Halt.go ?_)
  k_with "call ref" => (k_here; (with_reducible show wpAny _ _ (call (Value.ref 98) [Value.ref _, Value.ref _]) _ _ _); k_dflt (refine' pureH_use (between_told _ _ _ _ _ _ _ _ _ _ _ _ _) ?BZ9 ?FZ9 ?XZ9 ?NZ9 ?TZ9 ?hkZ9 ?hsZ9 ?hdZ9 ?huZ9 ?hHZ9 ?_; (case BZ9 => k_asm); (case FZ9 => k_asm); (case XZ9 => k_asm); (case NZ9 => k_asm); (case hsZ9 => exact fun _ h => nomatch h); (case TZ9 => k_asm); (case hkZ9 => first | exact rfl | assumption); (case hHZ9 => exact ⟨Fr.keep (by k_asm) _ _ (by assumption), Fr.keep (by k_asm) _ _ (by assumption)⟩); (case hdZ9 => ktr_room); (case huZ9 => ktr_units); k_whole); intro rZ9' hZ9' tkZ9' hrZ9' FZ9' NZ9' hXZ9'; (try k_sweep))
  k_with "call builtin:sorted" => (refine Halt.go ?_)
  k_with "eval ListComp" => (refine Halt.go ?_)
  k_with "CompSrcT" => (refine Halt.go ?_)
  k_with "compareOp Eq ref ref" => (refine Halt.go ?_)
  k_with "CompEnd" => (refine Halt.go ?_)
  k_with "exec Assign cons ListComp" => (refine Halt.go ?_)
  revert w Rw rvs rows y st t1 t2 nR
  refine eW ?_
  generalize cW _ = w
  refine e8 ?_
  generalize c8_1 _ = Rw, c8_2 _ = rvs, c8_3 _ = rows, c8_4 _ = y, c8_5 _ = st, c8_6 _ = t1, c8_7 _ = t2, c8_8 _ = nR
  intro hlen hok hy1 hy2 hs1 hs2
  unfold CtrH
  k_fill
  refine eC ?_
  generalize cC_1 _ = p, cC_2 _ = loose, cC_3 _ = mean, cC_4 _ = mg, cC_5 _ = mb, cC_6 _ = dp, cC_7 _ = un, cC_8 _ = gd, cC_9 _ = cn, cC_10 _ = cs, cC_11 _ = a, cC_12 _ = ccd, cC_13 _ = cl, cC_14 _ = outer, cC_15 _ = A₀, cC_16 _ = base, cC_17 _ = h₀, cC_18 _ = L, cC_19 _ = m, cC_20 _ = s, cC_21 _ = Q, cC_22 _ = E
  intro B F X N T hk hd hu hH hret
  have hC := (N _ (.head _)).1
  refine wpAny_call ?_
  k_dflt k_extra "ktr_enter"
  (rename Keep _ _ _ => kK)
  have hG := All2.mono (fun v r => RowAt.keep kK hC) hH
  have hcl := hG.length
  (rename Fr _ _ _ _ => lF)
  obtain ⟨m0, lF⟩ := fr_many [(PySem.Str.ofString "rows", _), (PySem.Str.ofString "y", _)] lF (List.forall_mem_cons.mpr ⟨rfl, List.forall_mem_cons.mpr ⟨rfl, List.forall_mem_nil _⟩⟩)
  refine hideQ fun Q1 hQ1 => ?_
  rename_i s1p1 s1d2 s1d3 s1p4 s1p5
  revert s1p4 s1p5 NZ9' lF hQ1
  revert s1d2 s1d3 m0 Q1
  refine e4 ?_
  generalize c4_1 _ = s1d2, c4_2 _ = s1d3, c4_3 _ = m0, c4_4 _ = Q1
  intro s1p4 s1p5 NZ9' lF hQ1
  k_steps
  refine ⟨?_⟩
  (rename Fr _ _ _ _ => lF)
  (rename News _ _ _ _ => lN)
  refine pair_assign (MadeR w.params rows _) rfl (by with_unfolding_all rfl) rfl rfl rfl (.tail _ (.tail _ (.head _))) (Nat.le_trans (Nat.le_of_lt hlen) (by decide)) ?_ rfl (by decide) rfl (by decide) rfl rfl (by decide) lF lN ⟨[], (List.append_nil _).symm, .nil⟩ ?_ ?_ ?_
  · intro i v hv
    obtain ⟨r, hr, a, o1, o2, u1, u2, u3, u4, n, n1, n2, rfl, e1, e2, e3⟩ := hG.get hv
    exact ⟨_, _, _, _, rfl, e1⟩
  · intro Q' hq
    k_steps
    exact hq
  · intro i t x z k ys nx I oI C oC D m₂ h tk E' hv ht hR hm hyl hNs hxa hxb F2 N2 off ne
    refine hideG fun C hC => ?_
    obtain ⟨tl, rfl, hA⟩ := hR
    obtain ⟨r, hr, a1, o1, o2, u1, u2, u3, u4, n, n1, n2, e0, e1, e2, e3⟩ := hG.get hv
    obtain rfl := PySem.Value.ref.inj e0
    obtain ⟨rfl, rfl⟩ := tup_two (Option.some.inj (e1.symm.trans ht))
    refine hC ?_
    clear hC
    clear lF lN
    refine wpAny_pure ?_
    rw [if_pos rfl]
    simp only [List.cons_append, List.nil_append] at N2
    k_steps
    refine ⟨?_⟩
    (rename SideMade _ _ _ _ _ => hs)
    (rename Fr _ _ _ _ => lF)
    (rename News _ _ _ _ => lN)
    exact made_end lF lN F2 N2 off hs hr hA hm
  · intro D h tk ys nx hR hm F2 N2 off
    refine hideG fun C hC => ?_
    obtain ⟨tl, rfl, hA⟩ := hR
    refine hC ?_
    clear hC
    simp only [List.cons_append, List.nil_append] at N2 off
    simp only [LCg.Off1] at off
    clear lF lN
    have hyl : ys.length < 64 := by have := hA.length; rw [List.length_map] at this; have := List.length_take_le rvs.length rows; omega
    revert F2 hA hm N2 off hyl
    revert D h tk ys tl
    refine e5 ?_
    generalize c5_1 _ = D, c5_2 _ = h, c5_3 _ = tk, c5_4 _ = ys, c5_5 _ = tl
    intro F2 hA hm N2 off hyl
    k_steps
    refine ⟨?_⟩
    (rename Fr _ _ _ _ => lF)
    (rename News _ _ _ _ => lN)
    refine LCt.ListComp_T (F₀ := lF) (by with_unfolding_all rfl) (by decide) (by rfl) (by decide) (by rfl) ?_
    k_steps
    refine ⟨?_⟩
    refine LCt.CompSrcT.ledger rfl lF lN (.head _) (by rw [List.size_toArray]; exact Nat.le_trans (Nat.le_of_lt hyl) (by decide)) ?_
    intro g
    refine turns_T (FiltR w.params rows tl _) ys.toArray.size ?_ ?_ ys.toArray.size 0 [] _ (Nat.add_zero _) ⟨rfl, .nil⟩
    · intro i zs nx v I oI C oC D' m₂ h tk E' hi hJ9 hv hNs hx F3 N3 off3 ne
      refine hideG fun C0 hC0 => ?_
      obtain ⟨rfl, hP⟩ := hJ9
      obtain ⟨od, hod, hs⟩ := hA.get (i := i) (a := v) (by simpa using hv)
      obtain ⟨r, hr, rfl⟩ := map_get hod
      refine hC0 ?_
      clear hC0
      clear lF lN
      have hr' : rows[i]? = some r := by rw [hcl, List.take_length] at hr; exact hr
      cases hd : rowSide r with
      | none =>
        rw [hd] at hs
        obtain rfl : v = .none := hs
        k_steps
        refine ⟨?_⟩
        exact CompEnd.intro F3 N3 _ (fun _ h => h) off3 (.inr ⟨_, .head _, rfl, _, rfl⟩) ⟨rfl, by rw [take_fm_none rowSide rows hr' hd]; exact hP⟩
      | some d =>
        rw [hd] at hs
        refine hideG fun C0 hC0 => ?_
        obtain ⟨x, dx, k1, k2, k3, k4, k5, v1, v2, v3, v4, v5, rfl, e1, e2⟩ := id hs
        refine hC0 ?_
        clear hC0
        k_steps
        refine ⟨?_⟩
        exact CompEnd.intro F3 N3 _ (fun _ h => h) off3 (.inr ⟨_, .head _, rfl, _, rfl⟩) ⟨rfl, by rw [take_fm_some rowSide rows hr' hd]; exact All2.append (P := fun v d => SideIn w.params tl v (some d)) (.one hs) hP⟩
    · intro zs nx hJ9 D2 h2 tk2 F3 N3 off3
      refine hideG fun C0 hC0 => ?_
      obtain ⟨rfl, hP⟩ := hJ9
      refine hC0 ?_
      clear hC0
      simp only [LCg.Off1] at off3
      clear lF lN
      have hyr : ys.toArray.size = rows.length := by rw [List.size_toArray, hA.length, List.length_map, List.length_take]; omega
      rw [hyr, List.take_length] at hP
      have hzl : zs.length < 64 := by have := hP.len_le; omega
      k_steps
      refine ⟨?_⟩
      refine pureH_use (steps_told w D2 zs (rows.filterMap rowSide) y st _ _ _ hy1 hy2 hs1 hs2 hzl (fun d hd => by
        obtain ⟨r, hr, e⟩ := List.mem_filterMap.mp hd
        exact rowSide_ok (hok r hr) e)) (by k_asm) F3 (by k_asm) N3 (by k_asm) rfl (fun q hq => by rw [List.mem_singleton.mp hq]; exact .head _) (by ktr_room) (by ktr_units) (sides_at (fun q hq => (N3 q (.tail _ (.tail _ (.tail _ (.tail _ (.tail _ hq)))))).1) hP) ?_
      intro r' h4 tk4 hr4 F4 N4 hX4
      refine hideG fun C hC => ?_
      obtain ⟨R, ws, ps, k, nw, rfl, hnw, hmR, hD, hpp, hpw⟩ := hr4
      refine hC ?_
      clear hC
      have N5 := led_cut (news_join F3 N4 hnw)
      have hoffn := news_off3 N3 hnw
      clear N4 N3 F3 hX4 hP
      k_steps
      (rename Fr _ _ _ _ => lF)
      (rename News _ _ _ _ => lN)
      (rename _ ∧ _ ∧ _ ∧ AllLt _ _ => lL)
      obtain ⟨m1, lF⟩ := fr_many [(PySem.Str.ofString "rows", _), (PySem.Str.ofString "y", _), (PySem.Str.ofString "told", _), (PySem.Str.ofString "due", _)] lF (List.forall_mem_cons.mpr ⟨rfl, List.forall_mem_cons.mpr ⟨rfl, List.forall_mem_cons.mpr ⟨rfl, List.forall_mem_cons.mpr ⟨rfl, List.forall_mem_nil _⟩⟩⟩⟩)
      refine For_turns lF ?_
      k_steps
      refine for_rows (nn := nR) duePs dueNames (DueR _ _ _ Rw _ rvs nR nw y st rows) () rfl (.tail _ (.tail _ (.tail _ (.head _)))) lF lN (fun _ h => nomatch h) ⟨[], 0, _, _, nw, rfl, by assumption, own_cons hoffn lL.2.2.2, fun _ h => h, .nil⟩ ?_ ?_
      · intro i v c u nx h tk own hv hoff hl₁ hR F₁ N₁
        refine hideG fun C hC => ?_
        obtain ⟨fvs, n', oc, cv, tl2, rfl, hcd, ht, hnt, hDa⟩ := hR
        obtain ⟨r, hr, a1, o1, o2, u1, u2, u3, u4, n, n1, n2, rfl, e1, e2, e3⟩ := hG.get hv
        have hrk := hok r (List.mem_of_getElem? hr)
        obtain ⟨b1, b2, b3, b4, b5, b6, b7, b8⟩ := hrk
        refine hC ?_
        clear hC
        clear lF lN
        simp only [List.cons_append] at N₁
        have hfl : fvs.length ≤ i := by
          have e := hDa.length
          rw [List.length_map] at e
          have := due_len y st rows i
          omega
        have hi64 : i < 64 := by have := (List.getElem?_eq_some_iff.mp hv).1; omega
        refine assign_two rfl ⟨_, F₁.keep _ _ e1, rfl, _, rfl⟩ rfl rfl rfl F₁ N₁ fun h' tk' F' N' => ?_
        clear F₁ N₁
        refine hideQ fun Q2 hQ2 => ?_
        have offA := kd_off (adr := [_, _, _, Rw]) (fun q hq b hb => hoff q hq b (by simp only [List.map_cons]; exact (List.mem_cons.mp hb).elim (fun e => e ▸ .head _) fun hb => .tail _ ((List.mem_cons.mp hb).elim (fun e => e ▸ .head _) fun hb => .tail _ ((List.mem_cons.mp hb).elim (fun e => e ▸ .head _) fun hb => .tail _ ((List.mem_cons.mp hb).elim (fun e => e ▸ .head _) fun hb => nomatch hb))))) ht
        rcases Int.lt_trichotomy r.y1 r.y2 with hc | hc | hc
        · by_cases hin : r.y1 ≤ y ∧ y < r.y2
          · have hin1 := hin.1
            have hin2 := hin.2
            clear hin
            have w12 := on_row b1 b2 b3 b4 hin1 hin2
            have c12 := col_in (x := r.x1 * (r.y2 - r.y1) + (r.x2 - r.x1) * (y - r.y1)) (b := r.y2 - r.y1) (st := st) (by omega) hs1 (by omega) (by omega)
            have w1 := w12.1
            have w2 := w12.2
            have c1 := c12.1
            have c2 := c12.2
            k_steps
            refine ⟨?_⟩
            (rename Fr _ _ _ _ => lF)
            (rename News _ _ _ _ => lN)
            (rename _ = PySem.Data.cell _ => hcd2)
            refine LCt.Assign_ListComp_T (F₀ := lF) rfl (by with_unfolding_all rfl) (by with_unfolding_all rfl) (by decide) rfl (by decide) rfl rfl rfl ?_
            k_steps
            refine ⟨?_⟩
            (rename Fr _ _ _ _ => lF2)
            (rename News _ _ _ _ => lN2)
            (rename IsRange _ _ _ _ _ _ _ _ => hrg)
            refine LCt.CompSrcT.range (n := 25) rfl lF2 lN2 hrg (by decide) (by decide) (by decide) ?_
            intro g
            refine turns_T (SomeJ (colv (r.x1 * (r.y2 - r.y1) + (r.x2 - r.x1) * (y - r.y1)) (r.y2 - r.y1) st) _) 25 ?_ ?_ 25 0 [] _ rfl ⟨rfl, some_start _ c1⟩
            · intro k zs nx v I oI C oC D m₂ h tk E' hk hJ9 hv9 hNs hx F3 N3 off3 ne
              refine hideG fun C0 hC0 => ?_
              obtain ⟨rfl, hP⟩ := hJ9
              obtain ⟨t, rfl⟩ := hv9
              refine hC0 ?_
              clear hC0
              clear lF2 lN2
              have hle := colv_least (r.x1 * (r.y2 - r.y1) + (r.x2 - r.x1) * (y - r.y1)) (r.y2 - r.y1) st (-12 + (k : Int)) (by omega) hs1
              k_steps
              all_goals (rename News _ _ _ _ => kN)
              all_goals (refine ⟨?_⟩)
              · exact CompEnd.intro (by assumption) kN _ (fun _ h => h) off3 True.intro ⟨rfl, some_yes c1 hP (hle.mp (by assumption))⟩
              · exact CompEnd.intro (by assumption) kN _ (fun _ h => h) off3 True.intro ⟨rfl, some_no hP (mt hle.mpr (by assumption))⟩
            · intro zs nx hJ9 D2 h2 tk2 F3 N3 off3
              refine hideG fun C0 hC0 => ?_
              obtain ⟨rfl, hP⟩ := hJ9
              obtain ⟨tz, rest, rfl⟩ := some_end hP c2
              refine hC0 ?_
              clear hC0
              simp only [LCg.Off1] at off3
              have hx0 : (PySem.Value.int (colv (r.x1 * (r.y2 - r.y1) + (r.x2 - r.x1) * (y - r.y1)) (r.y2 - r.y1) st) tz :: rest)[(0 : Int).toNat]? = some (.int (colv (r.x1 * (r.y2 - r.y1) + (r.x2 - r.x1) * (y - r.y1)) (r.y2 - r.y1) st) tz) := rfl
              clear lF2 lN2
              k_steps
              refine hQ2 _ _ ?_
              k_steps
              (rename News _ _ _ _ => kN)
              (rename _ ∧ _ ∧ _ ∧ _ ∧ _ ∧ _ ∧ _ ∧ AllLt _ _ => lD2)
              exact due_add (due_up hr hc ⟨hin1, hin2⟩) (by assumption) kN hcd2 (by k_mem) (by k_mem) (by k_mem) (by k_mem) (by k_mem) (fun q hq => .tail _ (.tail _ (.tail _ (.tail _ (.tail _ (.tail _ (.tail _ (.tail _ hq)))))))) lD2.2.2.2 ht hoff hnt hDa (fun z h2 => by obtain ⟨h3, h4, h5, h6, h7, h8, h9⟩ := due_names_off h2; simp only [lpMap, kstB, h2, h3, h4, h5, h6, h7, h8, h9, if_false, Bool.false_eq_true])
          · k_steps
            all_goals (refine hQ2 _ _ ?_)
            k_steps
            all_goals
              exact due_keep (due_up_out hr hc hin) (by assumption) (by assumption) hcd ht hoff hnt hDa (fun z h2 => by obtain ⟨h3, h4, h5, h6, h7, h8, h9⟩ := due_names_off h2; simp only [lpMap, kstB, h2, h3, h4, h5, h6, h7, h8, h9, if_false, Bool.false_eq_true])
        · k_steps
          all_goals (refine hQ2 _ _ ?_)
          k_steps
          all_goals
            exact due_keep (due_none hr hc) (by assumption) (by assumption) hcd ht hoff hnt hDa (fun z h2 => by obtain ⟨h3, h4, h5, h6, h7, h8, h9⟩ := due_names_off h2; simp only [lpMap, kstB, h2, h3, h4, h5, h6, h7, h8, h9, if_false, Bool.false_eq_true])
        · by_cases hin : r.y2 ≤ y ∧ y < r.y1
          · have hin1 := hin.1
            have hin2 := hin.2
            clear hin
            have etop := turn_top r.x1 r.y1 r.x2 r.y2 y
            have w12 := on_row b3 b4 b1 b2 hin1 hin2
            have c12 := col_in (x := 0 - (r.x1 * (r.y2 - r.y1) + (r.x2 - r.x1) * (y - r.y1))) (b := 0 - (r.y2 - r.y1)) (st := st) (by omega) hs1 (by omega) (by omega)
            have w1 := w12.1
            have w2 := w12.2
            have c1 := c12.1
            have c2 := c12.2
            k_steps
            refine ⟨?_⟩
            (rename Fr _ _ _ _ => lF)
            (rename News _ _ _ _ => lN)
            (rename _ = PySem.Data.cell _ => hcd2)
            refine LCt.Assign_ListComp_T (F₀ := lF) rfl (by with_unfolding_all rfl) (by with_unfolding_all rfl) (by decide) rfl (by decide) rfl rfl rfl ?_
            k_steps
            refine ⟨?_⟩
            (rename Fr _ _ _ _ => lF2)
            (rename News _ _ _ _ => lN2)
            (rename IsRange _ _ _ _ _ _ _ _ => hrg)
            refine LCt.CompSrcT.range (n := 25) rfl lF2 lN2 hrg (by decide) (by decide) (by decide) ?_
            intro g
            refine turns_T (SomeJ (colv (0 - (r.x1 * (r.y2 - r.y1) + (r.x2 - r.x1) * (y - r.y1))) (0 - (r.y2 - r.y1)) st) _) 25 ?_ ?_ 25 0 [] _ rfl ⟨rfl, some_start _ c1⟩
            · intro k zs nx v I oI C oC D m₂ h tk E' hk hJ9 hv9 hNs hx F3 N3 off3 ne
              refine hideG fun C0 hC0 => ?_
              obtain ⟨rfl, hP⟩ := hJ9
              obtain ⟨t, rfl⟩ := hv9
              refine hC0 ?_
              clear hC0
              clear lF2 lN2
              have hle := colv_least (0 - (r.x1 * (r.y2 - r.y1) + (r.x2 - r.x1) * (y - r.y1))) (0 - (r.y2 - r.y1)) st (-12 + (k : Int)) (by omega) hs1
              k_steps
              all_goals (rename News _ _ _ _ => kN)
              all_goals (refine ⟨?_⟩)
              · exact CompEnd.intro (by assumption) kN _ (fun _ h => h) off3 True.intro ⟨rfl, some_yes c1 hP (hle.mp (by assumption))⟩
              · exact CompEnd.intro (by assumption) kN _ (fun _ h => h) off3 True.intro ⟨rfl, some_no hP (mt hle.mpr (by assumption))⟩
            · intro zs nx hJ9 D2 h2 tk2 F3 N3 off3
              refine hideG fun C0 hC0 => ?_
              obtain ⟨rfl, hP⟩ := hJ9
              obtain ⟨tz, rest, rfl⟩ := some_end hP c2
              refine hC0 ?_
              clear hC0
              simp only [LCg.Off1] at off3
              have hx0 : (PySem.Value.int (colv (0 - (r.x1 * (r.y2 - r.y1) + (r.x2 - r.x1) * (y - r.y1))) (0 - (r.y2 - r.y1)) st) tz :: rest)[(0 : Int).toNat]? = some (.int (colv (0 - (r.x1 * (r.y2 - r.y1) + (r.x2 - r.x1) * (y - r.y1))) (0 - (r.y2 - r.y1)) st) tz) := rfl
              clear lF2 lN2
              k_steps
              refine hQ2 _ _ ?_
              k_steps
              (rename News _ _ _ _ => kN)
              (rename _ ∧ _ ∧ _ ∧ _ ∧ _ ∧ _ ∧ _ ∧ AllLt _ _ => lD2)
              exact due_add (due_down hr hc ⟨hin1, hin2⟩) (by assumption) kN hcd2 (by k_mem) (by k_mem) (by k_mem) (by k_mem) (by k_mem) (fun q hq => .tail _ (.tail _ (.tail _ (.tail _ (.tail _ (.tail _ (.tail _ (.tail _ hq)))))))) lD2.2.2.2 ht hoff hnt hDa (fun z h2 => by obtain ⟨h3, h4, h5, h6, h7, h8, h9⟩ := due_names_off h2; simp only [lpMap, kstB, h2, h3, h4, h5, h6, h7, h8, h9, if_false, Bool.false_eq_true])
          · k_steps
            all_goals (refine hQ2 _ _ ?_)
            k_steps
            all_goals
              exact due_keep (due_down_out hr hc hin) (by assumption) (by assumption) hcd ht hoff hnt hDa (fun z h2 => by obtain ⟨h3, h4, h5, h6, h7, h8, h9⟩ := due_names_off h2; simp only [lpMap, kstB, h2, h3, h4, h5, h6, h7, h8, h9, if_false, Bool.false_eq_true])
      · intro c u nx h tk hR F₁ N₁
        refine hideG fun C hC => ?_
        obtain ⟨fvs, n', oc, cv, tl2, rfl, hcd, ht, hnt, hDa⟩ := hR
        refine hC ?_
        clear hC
        clear lF lN
        rw [hcl, due_all] at hDa
        have hfl : fvs.length < 64 := by
          have e := hDa.length
          have e2 := due_len y st rows rows.length
          rw [due_all] at e2
          rw [List.length_map] at e
          omega
        k_steps
        refine ⟨?_⟩
        refine sorted_pairs F₁ N₁ (.head _) hDa (fun _ h => .tail _ (.tail _ (.tail _ (.tail _ h)))) (fnd_way (rows_sides hok)) hfl ?_
        intro D4 ws4 ps4 e4 h4 F4 N4 lt4 hws hp4 hpw4
        clear F₁ N₁
        k_steps
        refine ⟨?_⟩
        obtain rfl : ps = ps4 := sorted_unique (hpp.trans hp4.symm) (fun q hq => fnd_way (rows_sides hok) q (hpp.mem_iff.mp hq)) hpw hpw4
        refine kqd_eq N4 (.tail _ (.tail _ (.tail _ (.tail _ (.tail _ (hnt _ hmR)))))) rfl rfl hD (fun q hq => .tail _ (.tail _ (.tail _ (.tail _ (.tail _ (hnt _ hq)))))) (.head _) rfl rfl hws (fun q hq => .tail _ (.tail _ (.tail _ (.tail _ (.tail _ hq))))) (pd_ok _) (pd_ok _) (by ke_room) ?_
        rw [show ∀ (i : Decidable (List.map pd ps = List.map pd ps)), @decide _ i = true from fun i => @decide_eq_true _ i rfl]
        k_steps
        refine hQ1 _ _ ?_
        k_steps
        (rename ∀ (b : PySem.Addr) (o : PySem.Obj), PySem.Heap.get? _ b = some o → _ => k2)
        (rename News h₀ _ _ _ => kN)
        refine hret _ _ _ ⟨ext_of N kK kN (fun q hq => ?_) k2, rfl⟩
        rw [List.mem_singleton.mp hq]; exact .tail _ (.tail _ (.tail _ (.tail _ (.head _))))
end

section
open PySem PySem.W PyProof.Rows PySem.Calls PyProof.Rows.LCg
theorem pool_x (e : Int) (b : Bool) : 0 ≤ (if -1 - e > e then -1 - e else e) * (if b = true then 1 else 0) := by
  have h : 0 ≤ (if -1 - e > e then -1 - e else e) := by split <;> omega
  cases b with
  | true => simpa using h
  | false => simp
theorem pool_y (z : Int) : 0 ≤ z.fmod 2147483647 := by rw [fmod_e _ (by decide)]; exact Int.emod_nonneg _ (by decide)
theorem pool_y2 (z : Int) : z.fmod 2147483647 < 2147483647 := by rw [fmod_e _ (by decide)]; exact Int.emod_lt_of_pos _ (by decide)
set_option maxRecDepth 100000 in
set_option maxHeartbeats 4000000 in
theorem pool_told (w : World) (sc : Addr) (vs : List PySem.Value) (ns : List Int) (t1 : Tok) (hlen : ns.length ≤ 63) (hI : IntsAre vs ns) :
    CtrH 1 w 105 [] [.ref sc, .int 0 t1] (fun h => h.IsList sc vs.toArray)
      (fun h r h' => Ext h h' ∧ ∃ src x y tx ty n, r = .ref src ∧ 0 ≤ x ∧ 0 ≤ y ∧ y < 2147483647 ∧ h'.get? src = some (listOf #[.int x tx, .int y ty] n) ∧ h.get? src = none) := by
  w_top off
  k_with_none
  k_with "mul_fits" => ((with_reducible show PySem.IntMulOk _ _); (try simp (disch := omega) only [fmod_e, fdiv_e, show Int.toNat 0 = 0 from rfl, show Int.toNat 1 = 1 from rfl, List.getD_cons_zero, List.getD_cons_succ]); first | exact PySem.IntMulOk.of_left (PySem.intBits_le_64 (by omega) (by omega)) | exact PySem.IntMulOk.of_right (PySem.intBits_le_64 (by omega) (by omega)))
  k_with "ktr_enter" => (refine' code_sub ?k1Z9 ?k2Z9 ?k3Z9 ?k4Z9 ?k5Z9 ?kAZ9 ?kFZ9 ?kKZ9 ?k6Z9 ?k7Z9 ?k8Z9 ?k9Z9 ?kBZ9 ?_ ?c2Z9 ?c3Z9 ?c4Z9 ?c5Z9; (case kAZ9 => exact rfl); (case kFZ9 => exact rfl); (case kKZ9 => assumption); (case k1Z9 => k_asm); (case k2Z9 => k_asm); (case k3Z9 => k_asm); (case k4Z9 => k_asm); (case k5Z9 => k_asm); (case k6Z9 => k_is); (case k7Z9 => k_is); (case k8Z9 => ktr_room); (case k9Z9 => exact BindsTo.of_eq rfl); (case c5Z9 => decide); (case kBZ9 => exact locs rfl); (case c2Z9 => exact rfl); (case c3Z9 => exact rfl); (case c4Z9 => exact rfl); k_whole; refine e3 ?_; generalize c3_1 _ = gZ9', c3_2 _ = LZ9', c3_3 _ = hZ9'; intro FGZ9' FZ9' NZ9' BZ9' XZ9' TZ9' hKZ9' hSZ9' l1Z9'; (try dsimp only); (try k_lift BZ9'))
  k_with "k_room" => (ktr_room)
  k_with "k_units" => (ktr_units)
  k_with "storeName" => (k_here; k_dflt (refine' storeX_L ?FZ9 ?NZ9 ?_ ?aZ9 ?bZ9; (case FZ9 => k_asm); (case NZ9 => k_asm); (case aZ9 => rfl); (case bZ9 => rfl); k_whole; refine e1 ?_; generalize c1_1 _ = hZ9'; intro FZ9' NZ9'; (try k_sweep)))
  revert w sc vs ns t1
  refine eW ?_
  generalize cW _ = w
  refine e4 ?_
  generalize c4_1 _ = sc, c4_2 _ = vs, c4_3 _ = ns, c4_4 _ = t1
  intro hlen hI
  unfold CtrH
  k_fill
  refine eC ?_
  generalize cC_1 _ = p, cC_2 _ = loose, cC_3 _ = mean, cC_4 _ = mg, cC_5 _ = mb, cC_6 _ = dp, cC_7 _ = un, cC_8 _ = gd, cC_9 _ = cn, cC_10 _ = cs, cC_11 _ = a, cC_12 _ = ccd, cC_13 _ = cl, cC_14 _ = outer, cC_15 _ = A₀, cC_16 _ = base, cC_17 _ = h₀, cC_18 _ = L, cC_19 _ = m, cC_20 _ = s, cC_21 _ = Q, cC_22 _ = E
  intro B F X N T hk hd hu hH hret
  refine wpAny_call ?_
  k_dflt k_extra "ktr_enter"
  (rename Keep _ _ _ => kK)
  obtain ⟨oz, hoz, hrz⟩ := hH
  have hG : PySem.Heap.IsList _ sc vs.toArray := ⟨oz, kK _ _ (by simp) hoz, hrz⟩
  k_steps
  all_goals (rename ∀ (b : PySem.Addr) (o : PySem.Obj), PySem.Heap.get? _ b = some o → _ => k2)
  all_goals (rename News h₀ _ _ _ => kN)
  all_goals (clear kN)
  all_goals (rename News _ _ _ _ => kQ)
  all_goals (exact hret _ _ _ ⟨fun b o e => k2 b o (kK b o (by simp) e), _, _, _, _, _, _, rfl, pool_x _ _, pool_y _, pool_y2 _, (kQ _ (.head _)).1, fresh_of kK kQ (.head _) (by simp)⟩)
end

section
open PySem PySem.W PyProof.Rows PySem.Calls PyProof.Rows.LCg
/-- a row of the ledger -/
def RowIn (tl : Led) (v : PySem.Value) (r : Rwd) : Prop :=
  ∃ (a o1 o2 : PySem.Addr) (t1 t2 t3 t4 : Tok) (n n1 n2 : Nat), v = .ref a ∧ (a, tupO [.ref o1, .ref o2] n) ∈ tl ∧ (o1, tupO [.int r.x1 t1, .int r.y1 t2] n1) ∈ tl ∧ (o2, tupO [.int r.x2 t3, .int r.y2 t4] n2) ∈ tl
theorem RowIn.mono {tl tl' : Led} {v : PySem.Value} {r : Rwd} (hs : ∀ p ∈ tl, p ∈ tl') (x : RowIn tl v r) : RowIn tl' v r := by
  obtain ⟨a, o1, o2, t1, t2, t3, t4, n, n1, n2, e, h1, h2, h3⟩ := x
  exact ⟨a, o1, o2, t1, t2, t3, t4, n, n1, n2, e, hs _ h1, hs _ h2, hs _ h3⟩
theorem RowIn.at {tl : Led} {h : PySem.Heap} {v : PySem.Value} {r : Rwd} (N : ∀ q ∈ tl, h.get? q.1 = some q.2) (x : RowIn tl v r) : RowAt h v r := by
  obtain ⟨a, o1, o2, t1, t2, t3, t4, n, n1, n2, e, h1, h2, h3⟩ := x
  exact ⟨a, o1, o2, t1, t2, t3, t4, n, n1, n2, e, N _ h1, N _ h2, N _ h3⟩
/-- the table of the lambda's code, empty or filled -/
def LamOk (o : PySem.Obj) (tl : Led) : Prop := o = tabObj #[] ∨ ∃ e oe, o = tab1 e ∧ (e, oe) ∈ tl ∧ LamCode oe ∧ @LT.lt Nat _ 121 e
theorem LamOk.mono {o : PySem.Obj} {tl tl' : Led} (hs : ∀ p ∈ tl, p ∈ tl') (x : LamOk o tl) : LamOk o tl' := by
  rcases x with h | ⟨e, oe, h1, h2, h3⟩
  · exact .inl h
  · exact .inr ⟨e, oe, h1, hs _ h2, h3⟩
theorem pairs_at {tl : Led} {h : PySem.Heap} (N : ∀ q ∈ tl, h.get? q.1 = some q.2) : ∀ {vs : List PySem.Value} {ps : List (Int × Int)}, DatAll tl vs (ps.map pd) → PairsAt h vs ps
  | [], [], _ => .nil
  | _ :: _, [], d => nomatch d
  | [], _ :: _, d => nomatch d
  | v :: vs, p :: ps, d => by
    cases d with
    | cons h1 h2 =>
      obtain ⟨a, t, u, n, rfl, hm⟩ := pd_in h1
      exact .cons (N _ hm) (pairs_at N h2)

theorem side_use {w : World} {p : Program} {loose : List PySem.Str} {mean : ExcName → Option PySem.Value} {mg mb : PySem.Str → Option PySem.Value}
    {dp un : Nat} {gd : Option (List Code)} {cn : PySem.Str} {cs : Scope} {a : PySem.Addr} {ccd : PySem.Value} {cl : List (PySem.Str × PySem.Addr)} {outer : List Env} {A₀ : Around} {base h₀ : PySem.Heap} {L : PySem.Addr} {m : PySem.Str → Option PySem.Value} {s : Shared}
    {Q E : PySem.Value → Shared → Prop} {news tlm : Led} {g : PySem.Obj → Led} {o : PySem.Obj} {o1 o2 : PySem.Addr} {x1 y1 x2 y2 y : Int} {t1 t2 t3 t4 t5 : Tok} {n1 n2 : Nat}
    (B : Below A₀ base outer h₀) (F : Fr h₀ L s.heap m) (X : (Mine.hd.heap_39 w.params).In h₀) (N : News h₀ L s.heap news) (T : Top p loose mean mg mb h₀) (hk : cs.kind = .function)
    (m1 : (o1, tupO [.int x1 t1, .int y1 t2] n1) ∈ news) (m2 : (o2, tupO [.int x2 t3, .int y2 t4] n2) ∈ news) (U : UpdF 121 o news g) (hL : LamOk o tlm) (hsub : ∀ q ∈ tlm, q ∈ news) (hr : RwOk ⟨x1, y1, x2, y2⟩) (hy5 : -6 ≤ y) (hy6 : y ≤ 6)
    (hn1 : @LT.lt Nat _ 121 o1) (hn2 : @LT.lt Nat _ 121 o2) (hd : dp + 3 * 5 < recursionLimit) (hu : un + 100 * 5 < cLine)
    (k : ∀ h' tk' ext o', (∀ q ∈ ext, ∀ p ∈ news, p.1 ≠ q.1) → LamOk o' (tlm ++ ext) → Fr h₀ L h' m → News h₀ L h' (g o' ++ ext) → Q (.bool true) { s with heap := h', toks := tk' }) :
    wpAny (model Mine.row.row.prog w) (ktrTop dp un gd cn cs L a ccd cl outer) (call (.ref 126) [.ref o1, .ref o2, .int y t5]) Q E s := by
  obtain ⟨b1, b2, b3, b4, b5, b6, b7, b8⟩ := hr
  obtain ⟨hmP, hg⟩ := updF_same U
  by_cases hc : y1 = y2
  · subst hc
    refine sideright_eq w o1 o2 x1 x2 y1 y t1 t2 t3 t4 t5 n1 n2 p loose mean mg mb dp un gd cn cs a ccd cl outer A₀ base h₀ L m s Q E B F X (fun q hq => ?_) T hk hd hu ?_
    · rcases List.mem_cons.mp hq with rfl | hq
      · exact N _ m1
      · rw [List.mem_singleton.mp hq]; exact N _ m2
    · rintro r h' tk' ⟨hE, rfl⟩
      refine k h' tk' [] o (fun _ h => nomatch h) ?_ (F.kept hE) ?_
      · rw [List.append_nil]; exact hL
      · rw [hg, List.append_nil]
        exact fun q hq => ⟨hE _ _ (N q hq).1, (N q hq).2⟩
  · obtain ⟨pre, post, e1, e2, n1', n2'⟩ := U.split
    have D := N _ hmP
    have body : ∀ e oe, (e, oe) ∈ news → @LT.lt Nat _ 121 e → ((o = tabObj #[] ∧ ¬ LamCode oe) ∨ (o = tab1 e ∧ LamCode oe) ∧ (e, oe) ∈ tlm) →
        wpAny (model Mine.row.row.prog w) (ktrTop dp un gd cn cs L a ccd cl outer) (call (.ref 126) [.ref o1, .ref o2, .int y t5]) Q E s := by
      intro e oe hm he hS
      refine sideright_ne w o1 o2 e o oe x1 y1 x2 y2 y t1 t2 t3 t4 t5 n1 n2 b1 b2 b3 b4 b5 b6 b7 b8 hy5 hy6 hn1 hn2 he hc (hS.imp And.left And.left) p loose mean mg mb dp un gd cn cs a ccd cl outer A₀ base h₀ L m s Q E B F X (fun q hq => ?_) T hk hd hu ?_
      · simp only [List.mem_cons, List.not_mem_nil, or_false] at hq
        rcases hq with rfl | rfl | rfl | rfl
        · exact N _ m1
        · exact N _ m2
        · exact D
        · exact N _ hm
      · rintro r h' tk' ⟨rfl, hK, c', oc, g1, g2, hcode, hlt, hfr⟩
        have keep : ∀ b ob, b ≠ 121 → s.heap.get? b = some ob → h'.get? b = some ob := fun b ob hb e => hK b ob (by simpa using hb) e
        have F' : Fr h₀ L h' m := by
          obtain ⟨oL, es, ep, hL', r⟩ := F.ns
          refine ⟨⟨oL, es, ep, keep _ _ (Ne.symm D.2.1) hL', r⟩, fun b ob e => keep b ob ?_ (F.keep b ob e), F.above⟩
          rintro rfl; rw [D.2.2] at e; cases e
        have Ng : News h₀ L h' (g (tab1 c')) := by
          intro q hq
          rw [e2] at hq
          subst e1
          rcases List.mem_append.mp hq with hq | hq
          · have P := N q (List.mem_append_left _ hq); exact ⟨keep _ _ (n1' q hq) P.1, P.2⟩
          · rcases List.mem_cons.mp hq with rfl | hq
            · exact ⟨g1, D.2⟩
            · have P := N q (List.mem_append_right _ (.tail _ hq)); exact ⟨keep _ _ (n2' q hq) P.1, P.2⟩
        by_cases hn : s.heap.get? c' = none
        · refine k h' tk' [(c', oc)] (tab1 c') (fun q hq p hp => ?_) (.inr ⟨c', oc, rfl, List.mem_append_right _ (.head _), hcode, hlt⟩) F' (fun q hq => ?_)
          · rw [List.mem_singleton.mp hq]
            intro e9
            have := (N p hp).1
            rw [e9] at this; rw [hn] at this; cases this
          · rcases List.mem_append.mp hq with hq | hq
            · exact Ng q hq
            · rw [List.mem_singleton.mp hq]
              refine ⟨g2, ?_, ?_⟩
              · show c' ≠ L
                rintro rfl
                obtain ⟨oL, es, ep, hL', _⟩ := F.ns
                rw [hn] at hL'; cases hL'
              · show h₀.get? c' = none
                cases q : h₀.get? c' with
                | none => rfl
                | some o => have := F.keep _ _ q; rw [hn] at this; cases this
        · obtain ⟨rfl, rfl⟩ := hfr.resolve_left hn
          rcases hS with ⟨_, hno⟩ | ⟨⟨_, hco⟩, hmt⟩
          · exact absurd hcode hno
          · refine k h' tk' [] (tab1 c') (fun _ h => nomatch h) (.inr ⟨c', oc, rfl, List.mem_append_left _ hmt, hcode, hlt⟩) F' ?_
            rw [List.append_nil]; exact Ng
    rcases hL with hL | ⟨e, oe, h1, h2, h3, h4⟩
    · exact body o1 _ m1 hn1 (.inl ⟨hL, fun ⟨_, _, h9, _⟩ => nomatch h9⟩)
    · exact body e oe (hsub _ h2) h4 (.inr ⟨⟨h1, h3⟩, h2⟩)
structure SrcOk (x y : Int) : Prop where
  h1 : 0 ≤ x
  h2 : 0 ≤ y
  h3 : y < 2147483647
theorem take_useS {w : World} {p : Program} {loose : List PySem.Str} {mean : ExcName → Option PySem.Value} {mg mb : PySem.Str → Option PySem.Value}
    {dp un : Nat} {gd : Option (List Code)} {cn : PySem.Str} {cs : Scope} {a : PySem.Addr} {ccd : PySem.Value} {cl : List (PySem.Str × PySem.Addr)} {outer : List Env} {A₀ : Around} {base h₀ : PySem.Heap} {L : PySem.Addr} {m : PySem.Str → Option PySem.Value} {s : Shared}
    {Q E : PySem.Value → Shared → Prop} {news : Led} {g : PySem.Obj → Led} {src : PySem.Addr} {x y top : Int} {ta tb tt : Tok} {n : Nat}
    (B : Below A₀ base outer h₀) (F : Fr h₀ L s.heap m) (X : (Mine.hd.heap_39 w.params).In h₀) (N : News h₀ L s.heap news) (T : Top p loose mean mg mb h₀) (hk : cs.kind = .function)
    (U : UpdF src (listOf #[.int x ta, .int y tb] n) news g) (ht : 0 < top) (ht2 : top < 1000) (ha : SrcOk x y) (hd : dp + 3 * 1 < recursionLimit) (hu : un + 100 * 1 < cLine)
    (k : ∀ d t x' y' ta' tb' n' h' tk', 0 ≤ d → d < top → SrcOk x' y' → Fr h₀ L h' m → News h₀ L h' (g (listOf #[.int x' ta', .int y' tb'] n')) → Q (.int d t) { s with heap := h', toks := tk' }) :
    wpAny (model Mine.row.row.prog w) (ktrTop dp un gd cn cs L a ccd cl outer) (call (.ref 112) [.ref src, .int top tt]) Q E s :=
  take_use B F X N T hk U ht ht2 ha.h1 ha.h2 ha.h3 hd hu fun d t x' y' ta' tb' n' h' tk' h1 h2 h3 h4 h5 => k d t x' y' ta' tb' n' h' tk' h1 h2 ⟨h3, h4, h5⟩
theorem one_useS {w : World} {p : Program} {loose : List PySem.Str} {mean : ExcName → Option PySem.Value} {mg mb : PySem.Str → Option PySem.Value}
    {dp un : Nat} {gd : Option (List Code)} {cn : PySem.Str} {cs : Scope} {a : PySem.Addr} {ccd : PySem.Value} {cl : List (PySem.Str × PySem.Addr)} {outer : List Env} {A₀ : Around} {base h₀ : PySem.Heap} {L : PySem.Addr} {m : PySem.Str → Option PySem.Value} {s : Shared}
    {Q E : PySem.Value → Shared → Prop} {news : Led} {g : PySem.Obj → Led} {src tl : PySem.Addr} {x y v1 v2 : Int} {ta tb t1 t2 : Tok} {n nn : Nat}
    (B : Below A₀ base outer h₀) (F : Fr h₀ L s.heap m) (X : (Mine.hd.heap_39 w.params).In h₀) (N : News h₀ L s.heap news) (T : Top p loose mean mg mb h₀) (hk : cs.kind = .function)
    (hm : (tl, listOf #[.int v1 t1, .int v2 t2] nn) ∈ news) (hne : (tl : Nat) ≠ src)
    (U : UpdF src (listOf #[.int x ta, .int y tb] n) news g) (ha : SrcOk x y) (hd : dp + 3 * 2 < recursionLimit) (hu : un + 100 * 2 < cLine)
    (k : ∀ d t x' y' ta' tb' n' h' tk', (d = v1 ∨ d = v2) → SrcOk x' y' → Fr h₀ L h' m → News h₀ L h' (g (listOf #[.int x' ta', .int y' tb'] n')) → Q (.int d t) { s with heap := h', toks := tk' }) :
    wpAny (model Mine.row.row.prog w) (ktrTop dp un gd cn cs L a ccd cl outer) (call (.ref 119) [.ref src, .ref tl]) Q E s :=
  one_use B F X N T hk hm hne U ha.h1 ha.h2 ha.h3 hd hu fun d t x' y' ta' tb' n' h' tk' h1 h2 h3 h4 => k d t x' y' ta' tb' n' h' tk' h1 ⟨h2, h3, h4⟩

def RowsR (rw src K : PySem.Addr) (oc : PySem.Obj) (i : Nat) (_ : Unit) (nx : Led) : Prop :=
  ∃ (rvs : List PySem.Value) (n' : Nat) (x y : Int) (tx ty : Tok) (ns : Nat) (ol : PySem.Obj) (rows : List Rwd) (tl : Led), nx = (rw, listOf rvs.toArray n') :: (src, listOf #[.int x tx, .int y ty] ns) :: (K, oc) :: (121, ol) :: tl ∧
    SrcOk x y ∧ OwnOff tl [rw, src, K, 121] ∧ LamOk ol tl ∧ All2 (RowIn tl) rvs rows ∧ (∀ r ∈ rows, RwOk r) ∧ rvs.length = i
abbrev rowNames : List PySem.Str := [PySem.Str.ofString "one", PySem.Str.ofString "other"]
theorem row_names_off {z : PySem.Str} (h : rowNames.contains z = false) : z ≠ PySem.Str.ofString "one" ∧ z ≠ PySem.Str.ofString "other" := by
  simp only [rowNames, List.contains_cons, List.contains_nil, Bool.or_false, Bool.or_eq_false_iff, beq_eq_false_iff_ne, ne_eq] at h
  exact h
/-- the end of a turn that makes a row -/
theorem rows_end {g h' : PySem.Heap} {L : PySem.Addr} {m' m₀ : PySem.Str → Option PySem.Value} {T O2 O1 rw src K : PySem.Addr} {tmp : PySem.Addr × PySem.Obj} {oc o' ol : PySem.Obj} {rvs : List PySem.Value} {x y : Int} {tx ty : Tok} {n' ns0 ns kT k1 k2 : Nat} {x0 y0 : Int} {tx0 ty0 : Tok} {own tl ext : Led} {rows : List Rwd} {i : Nat} {s₁ : Shared} {tk : Nat}
    {x1 y1 x2 y2 : Int} {t1 t2 t3 t4 : Tok} {z : PySem.Str}
    (F : Fr g L h' m') (N : News g L h' ((T, tupO [.ref O1, .ref O2] kT) :: (O2, tupO [.int x2 t3, .int y2 t4] k2) :: tmp :: (O1, tupO [.int x1 t1, .int y1 t2] k1) :: (rw, listOf (rvs.toArray.push (.ref T)) (n' + 1)) :: (src, listOf #[.int x tx, .int y ty] ns) :: (K, oc) :: (121, o') :: ((tl ++ own) ++ ext)))
    (hext : ∀ q ∈ ext, ∀ p ∈ (T, tupO [.ref O1, .ref O2] kT) :: (O2, tupO [.int x2 t3, .int y2 t4] k2) :: tmp :: (O1, tupO [.int x1 t1, .int y1 t2] k1) :: (rw, listOf (rvs.toArray.push (.ref T)) (n' + 1)) :: (src, listOf #[.int x tx, .int y ty] ns) :: (K, oc) :: (121, ol) :: (tl ++ own), p.1 ≠ q.1)
    (hlam : LamOk o' (tl ++ ext)) (hsrc : SrcOk x y) (ht : OwnOff tl [rw, src, K, 121])
    (hoff : OwnOff own (((rw, listOf rvs.toArray n') :: (src, listOf #[.int x0 tx0, .int y0 ty0] ns0) :: (K, oc) :: (121, ol) :: tl).map (·.1)))
    (hrows : All2 (RowIn tl) rvs rows) (hok : ∀ r ∈ rows, RwOk r) (hlen : rvs.length = i) (hr : RwOk ⟨x1, y1, x2, y2⟩)
    (lT : rw < T ∧ src < T ∧ K < T ∧ @LT.lt Nat _ 121 T ∧ AllLt T (tl ++ own)) (l2 : rw < O2 ∧ src < O2 ∧ K < O2 ∧ @LT.lt Nat _ 121 O2 ∧ AllLt O2 (tl ++ own)) (l1 : rw < O1 ∧ src < O1 ∧ K < O1 ∧ @LT.lt Nat _ 121 O1 ∧ AllLt O1 (tl ++ own))
    (hm : ∀ q, q ≠ z → rowNames.contains q = false → m' q = m₀ q) :
    InvEndG g L (fun m' nx => LpJ z (fun _ => []) rowNames m₀ (RowsR rw src K oc (i + 1)) m' nx) own s₁ { s₁ with heap := h', toks := tk } := by
  have lt := ktn_ltOf lT.2.2.2.2
  have lt2 := ktn_ltOf l2.2.2.2.2
  have lt1 := ktn_ltOf l1.2.2.2.2
  rw [List.push_toArray] at N hext
  have mo : ∀ q ∈ own, q ∈ tl ++ own := fun q hq => List.mem_append_right _ hq
  refine range_end () ((rw, listOf (rvs ++ [PySem.Value.ref T]).toArray (n' + 1)) :: (src, listOf #[.int x tx, .int y ty] ns) :: (K, oc) :: (121, o') :: ((T, tupO [.ref O1, .ref O2] kT) :: (O2, tupO [.int x2 t3, .int y2 t4] k2) :: (O1, tupO [.int x1 t1, .int y1 t2] k1) :: (tl ++ ext))) F N ?_ ?_ ?_ (fun _ h => nomatch h) (fun q h1 _ h2 => hm q h1 h2)
    ⟨rvs ++ [PySem.Value.ref T], n' + 1, x, y, tx, ty, ns, o', rows ++ [⟨x1, y1, x2, y2⟩], _, rfl, hsrc, ?_, hlam.mono (fun _ h => .tail _ (.tail _ (.tail _ h))), ?_, ?_, by rw [List.length_append, hlen]; rfl⟩
  · intro p hp
    simp only [List.mem_cons, List.mem_append] at hp ⊢
    rcases hp with h | h | h | h | h | h | h | h | h
    · exact .inr (.inr (.inr (.inr (.inl h))))
    · exact .inr (.inr (.inr (.inr (.inr (.inl h)))))
    · exact .inr (.inr (.inr (.inr (.inr (.inr (.inl h))))))
    · exact .inr (.inr (.inr (.inr (.inr (.inr (.inr (.inl h)))))))
    · exact .inl h
    · exact .inr (.inl h)
    · exact .inr (.inr (.inr (.inl h)))
    · exact .inr (.inr (.inr (.inr (.inr (.inr (.inr (.inr (.inl (.inl h)))))))))
    · exact .inr (.inr (.inr (.inr (.inr (.inr (.inr (.inr (.inr h))))))))
  · intro p hp
    simp only [List.mem_cons, List.mem_append]
    exact .inr (.inr (.inr (.inr (.inr (.inr (.inr (.inr (.inl (.inr hp)))))))))
  · intro p hp b hb
    simp only [List.map_cons, List.mem_cons, List.map_append, List.mem_append] at hb
    rcases hb with rfl | rfl | rfl | rfl | rfl | rfl | rfl | hb | hb
    · exact hoff p hp _ (.head _)
    · exact hoff p hp _ (.tail _ (.head _))
    · exact hoff p hp _ (.tail _ (.tail _ (.head _)))
    · exact hoff p hp _ (.tail _ (.tail _ (.tail _ (.head _))))
    · exact Nat.ne_of_lt (lt p (mo p hp))
    · exact Nat.ne_of_lt (lt2 p (mo p hp))
    · exact Nat.ne_of_lt (lt1 p (mo p hp))
    · exact hoff p hp _ (.tail _ (.tail _ (.tail _ (.tail _ hb))))
    · obtain ⟨q, hq, rfl⟩ := List.mem_map.mp hb
      exact hext q hq p (.tail _ (.tail _ (.tail _ (.tail _ (.tail _ (.tail _ (.tail _ (.tail _ (mo p hp)))))))))
  · intro p hp b hb
    simp only [List.mem_cons, List.mem_append] at hp
    simp only [List.mem_cons, List.not_mem_nil, or_false] at hb
    rcases hp with rfl | rfl | rfl | hp | hp
    · rcases hb with rfl | rfl | rfl | rfl
      · exact Nat.ne_of_gt lT.1
      · exact Nat.ne_of_gt lT.2.1
      · exact Nat.ne_of_gt lT.2.2.1
      · exact Nat.ne_of_gt lT.2.2.2.1
    · rcases hb with rfl | rfl | rfl | rfl
      · exact Nat.ne_of_gt l2.1
      · exact Nat.ne_of_gt l2.2.1
      · exact Nat.ne_of_gt l2.2.2.1
      · exact Nat.ne_of_gt l2.2.2.2.1
    · rcases hb with rfl | rfl | rfl | rfl
      · exact Nat.ne_of_gt l1.1
      · exact Nat.ne_of_gt l1.2.1
      · exact Nat.ne_of_gt l1.2.2.1
      · exact Nat.ne_of_gt l1.2.2.2.1
    · exact ht p hp b (by simp only [List.mem_cons, List.not_mem_nil, or_false]; exact hb)
    · rcases hb with rfl | rfl | rfl | rfl
      · exact Ne.symm (hext p hp _ (.tail _ (.tail _ (.tail _ (.tail _ (.head _))))))
      · exact Ne.symm (hext p hp _ (.tail _ (.tail _ (.tail _ (.tail _ (.tail _ (.head _)))))))
      · exact Ne.symm (hext p hp _ (.tail _ (.tail _ (.tail _ (.tail _ (.tail _ (.tail _ (.head _))))))))
      · exact Ne.symm (hext p hp (121, ol) (.tail _ (.tail _ (.tail _ (.tail _ (.tail _ (.tail _ (.tail _ (.head _)))))))))
  · exact All2.append (.one ⟨T, O1, O2, t1, t2, t3, t4, kT, k1, k2, rfl, .head _, .tail _ (.tail _ (.head _)), .tail _ (.head _)⟩) (All2.mono (fun _ _ h => h.mono fun _ h => .tail _ (.tail _ (.tail _ (List.mem_append_left _ h)))) hrows)
  · intro r hrm
    rcases List.mem_append.mp hrm with h | h
    · exact hok r h
    · rw [List.mem_singleton.mp h]; exact hr
def ChOk (p : Int × Int) : Prop := 0 ≤ p.1 ∧ p.1 < 6 ∧ WayOk p
/-- between two draws of a change -/
def ChR (src K : PySem.Addr) (oc ot : PySem.Obj) (i : Nat) (ys : List PySem.Value) (nx : Led) : Prop :=
  ∃ (x y : Int) (tx ty : Tok) (ns : Nat) (ps : List (Int × Int)) (tl : Led), nx = (src, listOf #[.int x tx, .int y ty] ns) :: (K, oc) :: (121, ot) :: tl ∧ SrcOk x y ∧ OwnOff tl [src, K, 121] ∧ DatAll tl ys (ps.map pd) ∧ (∀ p ∈ ps, ChOk p) ∧ ps.length = i
theorem ch_end {h₀ h' : PySem.Heap} {L I C D T src K : PySem.Addr} {tmp : PySem.Addr × PySem.Obj} {m : PySem.Str → Option PySem.Value} {oI oC oc ot : PySem.Obj} {ys : List PySem.Value} {tl : Led} {x y : Int} {tx ty : Tok} {ns k : Nat} {ps : List (Int × Int)} {i : Nat} {s₁ : Shared} {tk : Nat} {c way : Int} {tc tw : Tok}
    (F : Fr h₀ L h' m) (N : News h₀ L h' ((T, tupO [.int c tc, .int way tw] k) :: tmp :: (I, oI) :: (C, oC) :: (D, lst ys) :: (src, listOf #[.int x tx, .int y ty] ns) :: (K, oc) :: (121, ot) :: tl))
    (lT : I < T ∧ C < T ∧ D < T ∧ src < T ∧ K < T ∧ @LT.lt Nat _ 121 T ∧ AllLt T tl) (off : (@Ne Nat src I ∧ @Ne Nat src C ∧ @Ne Nat src D) ∧ (@Ne Nat K I ∧ @Ne Nat K C ∧ @Ne Nat K D) ∧ (@Ne Nat 121 I ∧ @Ne Nat 121 C ∧ @Ne Nat 121 D) ∧ Off3 I C D tl)
    (hsrc : SrcOk x y) (ht : OwnOff tl [src, K, 121]) (hD : DatAll tl ys (ps.map pd)) (hps : ∀ p ∈ ps, ChOk p) (hl : ps.length = i) (hc : ChOk (c, way)) :
    CompEnd h₀ L m s₁ I oI C oC D (lst ys) (fun _ => True) (fun z nx => ChR src K oc ot (i + 1) (ys ++ [z]) nx) (.ref T) { s₁ with heap := h', toks := tk } := by
  obtain ⟨l1, l2, l3, l4, l5, l6, l7⟩ := lT
  refine CompEnd.intro F N ((src, listOf #[.int x tx, .int y ty] ns) :: (K, oc) :: (121, ot) :: (T, tupO [.int c tc, .int way tw] k) :: tl) (fun q hq => ?_) ⟨off.1, off.2.1, off.2.2.1, ⟨Nat.ne_of_gt l1, Nat.ne_of_gt l2, Nat.ne_of_gt l3⟩, off.2.2.2⟩ True.intro
    ⟨x, y, tx, ty, ns, ps ++ [(c, way)], (T, tupO [.int c tc, .int way tw] k) :: tl, rfl, hsrc, fun q hq b hb => ?_, ?_, fun q hq => ?_, by rw [List.length_append, hl]; rfl⟩
  · simp only [List.mem_cons] at hq ⊢
    rcases hq with h | h | h | h | h | h | h | h
    · exact .inr (.inr (.inl h))
    · exact .inr (.inr (.inr (.inl h)))
    · exact .inr (.inr (.inr (.inr (.inl h))))
    · exact .inr (.inr (.inr (.inr (.inr (.inl h)))))
    · exact .inr (.inr (.inr (.inr (.inr (.inr (.inl h))))))
    · exact .inr (.inr (.inr (.inr (.inr (.inr (.inr (.inl h)))))))
    · exact .inl h
    · exact .inr (.inr (.inr (.inr (.inr (.inr (.inr (.inr h)))))))
  · rcases List.mem_cons.mp hq with rfl | hq
    · simp only [List.mem_cons, List.not_mem_nil, or_false] at hb
      rcases hb with rfl | rfl | rfl
      · exact Nat.ne_of_gt l4
      · exact Nat.ne_of_gt l5
      · exact Nat.ne_of_gt l6
    · exact ht q hq b hb
  · rw [List.map_append]
    exact (hD.mono fun _ h => .tail _ h).append (DatAll.one (DatIn.tuple (.head _) (.cons (.int _ _) (.cons (.int _ _) .nil))))
  · rcases List.mem_append.mp hq with h | h
    · exact hps q h
    · rw [List.mem_singleton.mp h]; exact hc
theorem LamOk.tab {o : PySem.Obj} {tl : Led} (h : LamOk o tl) : ∃ ps, o = tabObj ps := by
  rcases h with h | ⟨e, oe, h, _⟩
  · exact ⟨_, h⟩
  · exact ⟨_, h⟩
theorem up_cols {ps : List (Int × Int)} (hw : ∀ p ∈ ps, WayOk p) (h : ps.Pairwise fun x y => code x ≤ code y) : upCols ps := by
  intro i j hij hj
  by_cases e : i = j
  · rw [e]; exact Int.le_refl _
  · have q := (List.pairwise_iff_getElem.mp h) i j (by omega) hj (by omega)
    rw [getD_at (by omega), getD_at hj]
    have wi := hw _ (List.getElem_mem (l := ps) (n := i) (by omega))
    have wj := hw _ (List.getElem_mem (l := ps) (n := j) hj)
    unfold code at q
    unfold WayOk at wi wj
    omega
theorem dat_nil {nw : Led} {ws : List PySem.Value} (h : DatAll nw ws []) : ws = [] := by cases h; rfl
/-- between two rules nothing has changed -/
def RulR (base : Led) (_ : Nat) (_ : Unit) (nx : Led) : Prop := nx = base
theorem rule_of {i : Nat} {v : PySem.Value} {t1 t2 : Tok} (h : [PySem.Value.str (PySem.Str.ofString "nonzero") t1, PySem.Value.str (PySem.Str.ofString "evenodd") t2][i]? = some v) : ∃ nz t, v = .str (ruleS nz) t := by
  match i, h with
  | 0, h => exact ⟨true, t1, (Option.some.inj h).symm⟩
  | 1, h => exact ⟨false, t2, (Option.some.inj h).symm⟩
  | i + 2, h => simp at h
theorem not_dec {α : Type} (x : α) (i : Decidable (x = x)) : (!@decide _ i) = false := by rw [@decide_eq_true _ i rfl]; rfl
theorem yes_dec {α : Type} (x : α) (i : Decidable (x = x)) : @decide _ i = true := @decide_eq_true _ i rfl
theorem spans_none : spans true [] = [] := rfl
end

section
open PySem PySem.W PyProof.Rows PySem.Calls PyProof.Rows.LCg
noncomputable def cS (B : Shared → Prop) : Shared := ex ne_shared B
theorem eS {B : Shared → Prop} (h : B (cS B)) : ∀ a, B a := ex_all h
theorem nomem_ne {h : PySem.Heap} {a b : PySem.Addr} {o : PySem.Obj} (h1 : h.get? a = some o) (h2 : h.get? b = none) : @Ne Nat a b := fun e => by have e2 : a = b := e; rw [e2, h2] at h1; cases h1
theorem colv_a : colv 1 2 4 = 0 := by decide
theorem colv_b : colv (-9) 2 3 = -2 := by decide
set_option maxRecDepth 100000 in
set_option maxHeartbeats 40000000 in
theorem law_holds : Mine.row.Holds := hd (by
  w_top off
  k_with_none
  k_with "mul_fits" => ((with_reducible show PySem.IntMulOk _ _); (try simp (disch := omega) only [fmod_e, fdiv_e, show Int.toNat 0 = 0 from rfl, show Int.toNat 1 = 1 from rfl, List.getD_cons_zero, List.getD_cons_succ]); first | exact PySem.IntMulOk.of_left (PySem.intBits_le_64 (by omega) (by omega)) | exact PySem.IntMulOk.of_right (PySem.intBits_le_64 (by omega) (by omega)))
  k_with "call ref" => (k_here; (with_reducible show wpAny _ _ (call (Value.ref 112) [Value.ref _, Value.int _ _]) _ _ _); k_dflt (refine' take_useS ?BZ9 ?FZ9 ?XZ9 ?NZ9 ?TZ9 ?hkZ9 ?UZ9 ?htZ9 ?ht2Z9 ?haZ9 ?hdZ9 ?huZ9 ?_; (case BZ9 => k_asm); (case FZ9 => k_asm); (case XZ9 => k_asm); (case NZ9 => k_asm); (case TZ9 => k_asm); (case hkZ9 => first | exact rfl | assumption); (case UZ9 => k_updF); (case htZ9 => omega); (case ht2Z9 => omega); (case haZ9 => assumption); (case hdZ9 => ktr_room); (case huZ9 => ktr_units); k_whole); intro dZ9' tZ9' xZ9' yZ9' taZ9' tbZ9' nZ9' hZ9' tkZ9' p1 p2 p3 FZ9' NZ9'; (try dsimp only at NZ9'); (try k_sweep))
  k_with "call ref" => (k_here; (with_reducible show wpAny _ _ (call (Value.ref 119) [Value.ref _, Value.ref _]) _ _ _); k_dflt (refine' one_useS ?BZ9 ?FZ9 ?XZ9 ?NZ9 ?TZ9 ?hkZ9 ?hmZ9 ?hneZ9 ?UZ9 ?haZ9 ?hdZ9 ?huZ9 ?_; (case BZ9 => k_asm); (case FZ9 => k_asm); (case XZ9 => k_asm); (case NZ9 => k_asm); (case TZ9 => k_asm); (case hkZ9 => first | exact rfl | assumption); (case UZ9 => k_updF); (case hmZ9 => k_mem); (case hneZ9 => k_ne); (case haZ9 => assumption); (case hdZ9 => ktr_room); (case huZ9 => ktr_units); k_whole); intro dZ9' tZ9' xZ9' yZ9' taZ9' tbZ9' nZ9' hZ9' tkZ9' p1 p3 FZ9' NZ9'; (try dsimp only at NZ9'); (try k_sweep))
  k_with "call ref" => (k_here; (with_reducible show wpAny _ _ (call (Value.ref 35) [Value.ref _, Value.int _ _]) _ _ _); k_dflt (refine' pure_use1 (col_told _ _ _ _ _ _ _ _ _ ?h1Z9 ?h2Z9 ?h3Z9 ?h4Z9 ?h5Z9 ?h6Z9) ?BZ9 ?FZ9 ?XZ9 ?NZ9 ?TZ9 ?hkZ9 ?hmZ9 ?hdZ9 ?huZ9 ?_; (case BZ9 => k_asm); (case FZ9 => k_asm); (case XZ9 => k_asm); (case NZ9 => k_asm); (case hmZ9 => k_mem); (case TZ9 => k_asm); (case hkZ9 => first | exact rfl | assumption); (case h1Z9 => omega); (case h2Z9 => omega); (case h3Z9 => omega); (case h4Z9 => omega); (case h5Z9 => omega); (case h6Z9 => omega); (case hdZ9 => ktr_room); (case huZ9 => ktr_units); k_whole); intro rZ9' hZ9' tkZ9' hrZ9' FZ9' NZ9' hXZ9'; (obtain ⟨trZ9', hrZ9'⟩ := hrZ9'); (try simp only [colv_a, colv_b] at hrZ9'); subst hrZ9'; clear hXZ9'; (try k_sweep))
  k_with "call ref" => (k_here; (with_reducible show wpAny _ _ (call (Value.ref 140) [Value.ref _, Value.int _ _]) _ _ _); k_dflt (refine' pure_use1 (colright_told _ _ _ _ _ _ _ _ _ ?h1Z9 ?h2Z9 ?h3Z9 ?h4Z9 ?h5Z9 ?h6Z9) ?BZ9 ?FZ9 ?XZ9 ?NZ9 ?TZ9 ?hkZ9 ?hmZ9 ?hdZ9 ?huZ9 ?_; (case BZ9 => k_asm); (case FZ9 => k_asm); (case XZ9 => k_asm); (case NZ9 => k_asm); (case hmZ9 => k_mem); (case TZ9 => k_asm); (case hkZ9 => first | exact rfl | assumption); (case h1Z9 => omega); (case h2Z9 => omega); (case h3Z9 => omega); (case h4Z9 => omega); (case h5Z9 => omega); (case h6Z9 => omega); (case hdZ9 => ktr_room); (case huZ9 => ktr_units); k_whole); intro rZ9' hZ9' tkZ9' hrZ9' FZ9' NZ9' hXZ9'; subst hrZ9'; clear hXZ9'; (try k_sweep))
  k_with "callWith ref" => (k_here; k_dflt (refine' callWith_K ?k1Z9 ?k2Z9 ?_; (case k1Z9 => k_asm); (case k2Z9 => k_is); k_whole))
  k_with "call ref" => (k_here; (with_reducible show wpAny _ _ (call (Value.ref 105) [Value.ref _, Value.int _ _]) _ _ _); refine Halt.go ?_)
  k_with "call ref" => (k_here; (with_reducible show wpAny _ _ (call (Value.ref 126) _) _ _ _); refine Halt.go ?_)
  k_with "call ref" => (k_here; (with_reducible show wpAny _ _ (call (Value.ref 150) _) _ _ _); refine Halt.go ?_)
  k_with "call ref" => (k_here; (with_reducible show wpAny _ _ (call (Value.ref 49) _) _ _ _); refine Halt.go ?_)
  k_with "call ref" => (k_here; (with_reducible show wpAny _ _ (call (Value.ref 145) _) _ _ _); refine Halt.go ?_)
  k_with "call builtin:sorted" => (refine Halt.go ?_)
  k_with "eval ListComp" => (refine Halt.go ?_)
  k_with "CompSrc" => (refine Halt.go ?_)
  k_with "compareOp Eq ref ref" => (refine Halt.go ?_)
  k_with "compareOp NotEq ref ref" => (refine Halt.go ?_)
  k_with "CompEnd" => (refine Halt.go ?_)
  k_with "exec For Name Call cons nil" => (refine Halt.go ?_)
  k_with "pyIter ref" => ((with_reducible show wpAny _ _ (pyIter (Value.ref _)) (fun _ _ => LoopAtV _ _ _ _ _ _ _ _ _ _ _) _ _); (rename IsRange _ _ _ _ _ _ _ _ => hR9Z9'); refine Halt.go ?_)
  k_with "call type:range" => (k_here; (with_reducible show wpAny _ _ (call _ [_]) _ _ _); (rename Fr _ _ _ _ => F9Z9'); (rename News _ _ _ _ => N9Z9'); (with_unfolding_all refine range1_rows F9Z9' N9Z9' ?_); intro _ _ _ _ _ _ _ _ _)
  k_go0
  (all_goals try k_fold)
  refine hideQ fun Q1 hQ1 => ?_
  k_steps
  refine ⟨?_⟩
  (rename Fr _ _ _ _ => lF)
  (rename News _ _ _ _ => lN)
  (rename PySem.Heap.IsList _ _ _ => lL)
  (rename IntsAre _ _ => lI)
  (rename 121 < _ => l0)
  rename_i zd1 zd2 zd3 zd4 zd5 zp6 zp7 zd8 zd9 zd10 zd11 zd12 zp13 zp14 zp15 zp16 zp17 zp18 zp19 zp20 zp21 zd22 zp23 zp24 zp25 zp26 zp27 zd28 zd29 zd30 zd31 zd32 zp33 zp34 zp35 zp36 zp37 zp38 zp39 zp40 zd41 zd42 zd43 zp44 zp45 zp46 zp47 zp48
  revert zp6 zp7 zp13 zp14 zp15 zp16 zp17 zp18 zp19 zp20 zp21 hT9 zp23 zp25 zp33 zp34 zp35 zp36 lI zp37 zp38 zp40 zp44 zp45 zp46 zp47 zp48 lF lL codeHd lN l0 hQ1
  revert zd1 zd2 zd3 zd4 zd5 zd8 zd9 zd10 zd11 zd12 zd22 zd28 zd29 zd30 zd31 zd32 zd41 zd42 zd43 Q1
  refine eW ?_
  generalize cW _ = zd1
  refine eS ?_
  generalize cS _ = zd2
  refine eS ?_
  generalize cS _ = zd3
  refine e17 ?_
  generalize c17_1 _ = zd4, c17_2 _ = zd5, c17_3 _ = zd8, c17_4 _ = zd9, c17_5 _ = zd10, c17_6 _ = zd11, c17_7 _ = zd12, c17_8 _ = zd22, c17_9 _ = zd28, c17_10 _ = zd29, c17_11 _ = zd30, c17_12 _ = zd31, c17_13 _ = zd32, c17_14 _ = zd41, c17_15 _ = zd42, c17_16 _ = zd43, c17_17 _ = Q1
  intro zp6 zp7 zp13 zp14 zp15 zp16 zp17 zp18 zp19 zp20 zp21 hT9 zp23 zp25 zp33 zp34 zp35 zp36 lI zp37 zp38 zp40 zp44 zp45 zp46 zp47 zp48 lF lL codeHd lN l0 hQ1
  refine pureH_use (pool_told _ _ _ _ _ (by omega) lI) (by k_asm) lF (by k_asm) lN (by k_asm) rfl (fun _ h => nomatch h) (by decide) (by decide) (lL.at fun o e => lF.keep _ o e) ?_
  intro r' h4 tk4 hr4 F4 N4 hX4
  refine hideG fun C hC => ?_
  obtain ⟨src, x, y, tx, ty, n, rfl, hx, hy, hy2, hg, hn⟩ := hr4
  obtain ⟨m0, F4⟩ := fr_any F4
  refine hC ?_
  clear hC
  have N5 := news_join (nw := [(src, listOf #[.int x tx, .int y ty] n)]) lF N4 (fun q hq => by rw [List.mem_singleton.mp hq]; exact ⟨hg, hn⟩)
  simp only [List.cons_append, List.nil_append] at N5
  have hsrc : SrcOk x y := ⟨hx, hy, hy2⟩
  clear hx hy hy2
  have hs1 := nomem_ne (lN _ (.head _)).1 hn
  have hs2 := nomem_ne (lN _ (.tail _ (.head _))).1 hn
  clear N4 hX4 lN hg hn
  k_steps
  refine ⟨?_⟩
  (rename Fr _ _ _ _ => lF)
  refine For_invVF lF rfl rfl ?_
  k_steps
  refine ⟨?_⟩
  (rename Fr _ _ _ _ => lF)
  (rename News _ _ _ _ => lN)
  (rename IsRange _ _ _ _ _ _ _ _ => hrg)
  (rename _ = PySem.Data.cell _ => hcd)
  refine for_range (fun _ => []) rowNames (RowsR _ src _ _) () rfl hrg (range_small (by omega) (by omega) (by omega) (by omega)) (range_nat _ _) lF
    (List.forall_mem_cons.mpr ⟨lN _ (.head _), List.forall_mem_cons.mpr ⟨lN _ (.tail _ (.tail _ (.tail _ (.tail _ (.tail _ (.tail _ (.head _))))))), List.forall_mem_cons.mpr ⟨lN _ (.tail _ (.tail _ (.tail _ (.tail _ (.head _))))), List.forall_mem_cons.mpr ⟨lN _ (.tail _ (.tail _ (.tail _ (.tail _ (.tail _ (.head _)))))), List.forall_mem_nil _⟩⟩⟩⟩)
    (fun _ h => nomatch h) ⟨[], 0, _, _, _, _, _, _, [], [], rfl, by assumption, (fun _ h => nomatch h), .inl rfl, .nil, (fun _ h => nomatch h), rfl⟩ ?_ ?_
  · intro i t c u nx h tk own hi hoff hR F₁ N₁
    refine hideG fun C hC => ?_
    obtain ⟨rvs, n', x1, y1, tx1, ty1, ns1, ol, rows, tl, rfl, hsrc1, ht, hlam, hrows, hok, hlen⟩ := hR
    refine hC ?_
    clear hC
    clear lF lN hrg
    have hi8 : i < 9 := by omega
    refine hideQ fun Q2 hQ2 => ?_
    simp only [List.cons_append] at N₁
    have offA := kd_off (adr := [_, src, _, 121]) (fun q hq b hb => hoff q hq b (by simp only [List.map_cons]; exact (List.mem_cons.mp hb).elim (fun e => e ▸ .head _) fun hb => .tail _ ((List.mem_cons.mp hb).elim (fun e => e ▸ .head _) fun hb => .tail _ ((List.mem_cons.mp hb).elim (fun e => e ▸ .head _) fun hb => .tail _ ((List.mem_cons.mp hb).elim (fun e => e ▸ .head _) fun hb => nomatch hb))))) ht
    k_steps
    refine ⟨?_⟩
    (rename Fr _ _ _ _ => lF)
    (rename News _ _ _ _ => lN)
    (rename _ ∧ _ ∧ _ ∧ _ ∧ _ ∧ _ ∧ _ ∧ AllLt _ _ => lT)
    (rename _ ∧ _ ∧ _ ∧ _ ∧ _ ∧ _ ∧ AllLt _ _ => l2)
    (rename _ ∧ _ ∧ _ ∧ _ ∧ AllLt _ _ => l1)
    k_dflt (refine side_use (tlm := tl) (by k_asm) lF (by k_asm) lN (by k_asm) rfl (by k_mem) (by k_mem) (by k_updF) hlam (fun q hq => .tail _ (.tail _ (.tail _ (.tail _ (.tail _ (.tail _ (.tail _ (.tail _ (List.mem_append_left _ hq))))))))) ?hr (by omega) (by omega) ?n1 ?n2 (by ktr_room) (by ktr_units) ?_)
    (case hr => exact ⟨by dsimp only; omega, by dsimp only; omega, by dsimp only; omega, by dsimp only; omega, by dsimp only; omega, by dsimp only; omega, by dsimp only; omega, by dsimp only; omega⟩)
    (case n1 => exact l1.2.2.2.1); (case n2 => exact l2.2.2.2.2.2.1)
    intro h5 tk5 ext o' hext hlam' F5 N5
    simp only [List.cons_append] at N5
    clear lF lN
    k_steps
    refine hQ2 _ _ ?_
    k_steps
    (rename News _ _ _ _ => kN)
    exact rows_end (by assumption) kN hext hlam' (by assumption) ht hoff hrows hok hlen ⟨by dsimp only; omega, by dsimp only; omega, by dsimp only; omega, by dsimp only; omega, by dsimp only; omega, by dsimp only; omega, by dsimp only; omega, by dsimp only; omega⟩ lT.2.2.2 l2.2.2 l1 (fun q h1 h2 => by obtain ⟨h3, h4⟩ := row_names_off h2; simp only [kstB, h1, h2, h3, h4, if_false, Bool.false_eq_true])
  · intro c u nx h tk hR F₁ N₁
    refine hideG fun C hC => ?_
    obtain ⟨rvs, n', x1, y1, tx1, ty1, ns1, ol, rows, tl, rfl, hsrc1, ht, hlam, hrows, hok, hlen⟩ := hR
    obtain ⟨pt, rfl⟩ := hlam.tab
    obtain ⟨m1, F₁⟩ := fr_one (PySem.Str.ofString "rows") F₁ rfl
    refine hC ?_
    clear hC
    clear lF lN hrg
    have hl64 : rvs.length < 64 := by omega
    k_steps
    refine ⟨?_⟩
    (rename Fr _ _ _ _ => lF)
    (rename News _ _ _ _ => lN)
    refine pureH_use (stepsright_told _ _ rvs rows _ _ _ _ _ hl64 hok (by omega) (by omega) (by omega) (by omega)) (by k_asm) lF (by k_asm) lN (by k_asm) rfl (fun q hq => by rw [List.mem_singleton.mp hq]; k_mem) (by ktr_room) (by ktr_units) (All2.mono (fun v r z => RowIn.at (fun q hq => (lN q (.tail _ (.tail _ (.tail _ (.tail _ (.tail _ (.tail _ hq))))))).1) z) hrows) ?_
    rintro r' h4 tk4 rfl F4 N4 hX4
    obtain ⟨m2, F4⟩ := fr_any F4
    clear lF lN hX4
    have N5 : News _ _ _ [_, _, _] := List.forall_mem_cons.mpr ⟨N4 _ (.tail _ (.tail _ (.tail _ (.head _)))), List.forall_mem_cons.mpr ⟨N4 _ (.tail _ (.tail _ (.tail _ (.tail _ (.head _))))), List.forall_mem_cons.mpr ⟨N4 _ (.tail _ (.tail _ (.tail _ (.tail _ (.tail _ (.head _)))))), List.forall_mem_nil _⟩⟩⟩
    clear N4 ht hlam hrows
    iterate 12 (try (rename @LT.lt Nat _ _ _ ∧ _ => z9; clear z9))
    iterate 24 (try (rename @LE.le Int _ _ _ => z9; clear z9))
    iterate 24 (try (rename @LT.lt Int _ _ _ => z9; clear z9))
    k_steps
    refine ⟨?_⟩
    (rename Fr _ _ _ _ => lF)
    (rename News _ _ _ _ => lN)
    refine pureH_use (stepsright_told _ _ [_, _] [⟨10, -4, 10, 4⟩, ⟨-10, 4, -10, -4⟩] _ _ _ _ _ (by show 2 < 64; decide) (List.forall_mem_cons.mpr ⟨by constructor <;> decide, List.forall_mem_cons.mpr ⟨by constructor <;> decide, List.forall_mem_nil _⟩⟩) (by decide) (by decide) (by decide) (by decide)) (by k_asm) lF (by k_asm) lN (by k_asm) rfl (fun q hq => by rw [List.mem_singleton.mp hq]; k_mem) (by ktr_room) (by ktr_units)
      (.cons (RowIn.at (fun q hq => (lN q hq).1) ⟨_, _, _, _, _, _, _, _, _, _, rfl, by k_mem, by k_mem, by k_mem⟩) (.cons (RowIn.at (fun q hq => (lN q hq).1) ⟨_, _, _, _, _, _, _, _, _, _, rfl, by k_mem, by k_mem, by k_mem⟩) .nil)) ?_
    rintro r' h4 tk4 rfl F4 N4 hX4
    clear lF lN hX4
    have N5 : News _ _ _ [_, _, _] := List.forall_mem_cons.mpr ⟨N4 _ (.tail _ (.tail _ (.tail _ (.tail _ (.tail _ (.tail _ (.tail _ (.head _)))))))), List.forall_mem_cons.mpr ⟨N4 _ (.tail _ (.tail _ (.tail _ (.tail _ (.tail _ (.tail _ (.tail _ (.tail _ (.head _))))))))), List.forall_mem_cons.mpr ⟨N4 _ (.tail _ (.tail _ (.tail _ (.tail _ (.tail _ (.tail _ (.tail _ (.tail _ (.tail _ (.head _)))))))))), List.forall_mem_nil _⟩⟩⟩
    clear N4
    iterate 12 (try (rename @LT.lt Nat _ _ _ ∧ _ => z9; clear z9))
    k_steps
    refine ⟨?_⟩
    (rename Fr _ _ _ _ => lF)
    refine LCg.ListComp_U (F₀ := lF) (by rfl) (by decide) (by rfl) (by decide) (by rfl) ?_
    k_steps
    refine ⟨?_⟩
    (rename Fr _ _ _ _ => lF)
    (rename News _ _ _ _ => lN)
    (rename IsRange _ _ _ _ _ _ _ _ => hrg)
    refine LCg.CompSrc.range rfl lF lN hrg (range_small (by omega) (by omega) (by omega) (by omega)) (range_nat _ _) (by rw [sizeLine_eq]; omega) ?_
    intro g
    refine turns_U (ChR src _ _ _) _ ?_ ?_ _ 0 [] _ (Nat.add_zero _) ⟨_, _, _, _, _, [], [], rfl, by assumption, (fun _ h => nomatch h), .nil, (fun _ h => nomatch h), rfl⟩
    · intro i ys nx v I oI C oC D m₂ h tk E' hi hR9 hv9 hNs hx9 F9 N9 off9 ne9
      refine hideG fun C0 hC0 => ?_
      obtain ⟨x9, y9, tx9, ty9, ns9, ps, tl9, rfl, hsrc9, ht9, hDps, hps, hpl⟩ := hR9
      obtain ⟨t9, rfl⟩ := hv9
      refine hC0 ?_
      clear hC0
      clear lF lN hrg
      simp only [LCg.Off3] at off9
      k_steps
      refine ⟨?_⟩
      (rename News _ _ _ _ => kN)
      (rename _ ∧ _ ∧ _ ∧ _ ∧ _ ∧ _ ∧ _ ∧ AllLt _ _ => lT)
      exact ch_end (by assumption) kN lT.2 off9 (by assumption) ht9 hDps hps hpl ⟨by dsimp only; omega, by dsimp only; omega, by assumption⟩
    · intro ys nx hR9 D2 h2 tk2 F9 N9 off9
      refine hideG fun C0 hC0 => ?_
      obtain ⟨x9, y9, tx9, ty9, ns9, ps, tl9, rfl, hsrc9, ht9, hDps, hps, hpl⟩ := hR9
      refine hC0 ?_
      clear hC0
      simp only [LCg.Off1] at off9
      have hyl : ys.length = ps.length := by have e := hDps.length; rw [List.length_map] at e; exact e
      have hy8 : ys.length < 8 := by omega
      clear lF lN hrg
      k_steps
      refine ⟨?_⟩
      refine sorted_pairs F9 N9 (.head _) hDps (fun _ h => .tail _ (.tail _ (.tail _ (.tail _ h)))) (fun p hp => (hps p hp).2.2) (by omega) ?_
      intro D3 ws ps' e9 h9 F10 N10 lt10 hws hperm hpw
      have hch : ∀ p ∈ ps', ChOk p := fun p hp => hps p (hperm.mem_iff.mp hp)
      have hup := up_cols (fun p hp => (hch p hp).2.2) hpw
      have hwl : ws.length < 8 := by have e := hws.length; rw [List.length_map, hperm.length_eq] at e; omega
      have N11 : News _ _ _ ((D3, listOf ws.toArray e9) :: _ :: tl9) := fun q hq => N10 q ((List.mem_cons.mp hq).elim (fun e => e ▸ .head _) fun h => (List.mem_cons.mp h).elim (fun e => e ▸ (.tail _ (.tail _ (.tail _ (.tail _ (.head _)))))) fun h => (.tail _ (.tail _ (.tail _ (.tail _ (.tail _ h))))))
      clear N9 N10 F9 lt10
      k_steps
      (rename Fr _ _ _ _ => lF)
      (rename News _ _ _ _ => lN)
      refine for_led (nn := 0) (fun _ => []) [] (RulR _) () rfl (.head _) lF lN (fun _ h => nomatch h) rfl ?_ ?_
      · intro i v c u nx h tk own hv hoff hl₁ hR F₁ N₁
        refine hideG fun C hC => ?_
        obtain rfl : nx = _ := hR
        obtain ⟨nz, tz, rfl⟩ := rule_of hv
        refine hC ?_
        clear hC
        clear lF lN hv
        refine hideQ fun Q2 hQ2 => ?_
        simp only [List.cons_append] at N₁
        k_steps
        refine ⟨?_⟩
        (rename Fr _ _ _ _ => lF)
        (rename News _ _ _ _ => lN)
        refine pureH_use (spans_told _ D3 ws ps' nz tz e9 hwl) (by k_asm) lF (by k_asm) lN (by k_asm) rfl (fun q hq => by rw [List.mem_singleton.mp hq]; k_mem) (by ktr_room) (by ktr_units) (pairs_at (fun q hq => (lN q (.tail _ (.tail _ (.tail _ (List.mem_append_left _ hq))))).1) hws) ?_
        intro r1 h5 tk5 hr9 F5 N5 hX5
        refine hideG fun C hC => ?_
        obtain ⟨R1, ws1, k1, nw1, rfl, hnw1, hm1, hD1⟩ := hr9
        refine hC ?_
        clear hC
        rw [spans_runs nz ps' hup] at hD1
        have N6 := news_join lF N5 hnw1
        simp only [List.cons_append] at N6
        clear lF lN N5 hX5
        k_steps
        refine ⟨?_⟩
        (rename Fr _ _ _ _ => lF)
        (rename News _ _ _ _ => lN)
        refine pureH_use (runs_told _ D3 ws ps' nz tz e9 hwl (fun p hp => ⟨(hch p hp).1, (hch p hp).2.1⟩)) (by k_asm) lF (by k_asm) lN (by k_asm) rfl (fun q hq => by rw [List.mem_singleton.mp hq]; k_mem) (by ktr_room) (by ktr_units) (pairs_at (fun q hq => (lN q (.tail _ (.tail _ (.tail _ (List.mem_append_left _ (List.mem_append_left _ hq)))))).1) hws) ?_
        intro r2 h7 tk7 hr9 F7 N7 hX7
        refine hideG fun C hC => ?_
        obtain ⟨R2, ws2, k2, nw2, rfl, hnw2, hm2, hD2⟩ := hr9
        refine hC ?_
        clear hC
        have N8 := news_join lF N7 hnw2
        simp only [List.cons_append] at N8
        clear lF lN N7 hX7
        k_steps
        refine ⟨?_⟩
        refine kqd_ne N8 (.tail _ (.tail _ (.tail _ (List.mem_append_left _ (List.mem_append_right _ hm1))))) rfl rfl hD1 (fun q hq => (.tail _ (.tail _ (.tail _ (List.mem_append_left _ (List.mem_append_right _ hq)))))) (.tail _ (.tail _ (.tail _ (List.mem_append_right _ hm2)))) rfl rfl hD2 (fun q hq => (.tail _ (.tail _ (.tail _ (List.mem_append_right _ hq))))) (pd_ok _) (pd_ok _) (by ke_room) ?_
        rw [not_dec]
        k_steps
        refine hQ2 _ _ ?_
        k_steps
        (rename News _ _ _ _ => kN)
        exact led_end () _ (by assumption) kN (fun q hq => (List.mem_cons.mp hq).elim (fun e => e ▸ .head _) fun hq => .tail _ ((List.mem_cons.mp hq).elim (fun e => e ▸ .head _) fun hq => .tail _ ((List.mem_cons.mp hq).elim (fun e => e ▸ .head _) fun hq => .tail _ (List.mem_append_left _ (List.mem_append_left _ (List.mem_append_left _ hq)))))) (fun q hq => (.tail _ (.tail _ (.tail _ (List.mem_append_left _ (List.mem_append_left _ (List.mem_append_right _ hq))))))) hoff (.head _) (fun _ h => nomatch h) (fun z h1 _ _ => (if_neg h1).trans rfl) rfl
      · intro c u nx h tk hR F₁ N₁
        refine hideG fun C hC => ?_
        obtain rfl : nx = _ := hR
        refine hC ?_
        clear hC
        clear lF lN
        k_steps
        refine ⟨?_⟩
        (rename Fr _ _ _ _ => lF)
        (rename News _ _ _ _ => lN)
        refine pureH_use (spans_told _ _ [] [] true _ _ (by decide)) (by k_asm) lF (by k_asm) lN (by k_asm) rfl (fun q hq => by rw [List.mem_singleton.mp hq]; k_mem) (by ktr_room) (by ktr_units) .nil ?_
        intro r1 h5 tk5 hr9 F5 N5 hX5
        refine hideG fun C hC => ?_
        obtain ⟨R1, ws1, k1, nw1, rfl, hnw1, hm1, hD1⟩ := hr9
        refine hC ?_
        clear hC
        rw [spans_none] at hD1
        have N6 := news_join lF N5 hnw1
        simp only [List.cons_append] at N6
        clear lF lN N5 hX5
        k_steps
        refine ⟨?_⟩
        (rename News _ _ _ _ => lN)
        refine kqd_eq lN (.tail _ (.tail _ (.tail _ (.tail _ (.tail _ (List.mem_append_right _ hm1)))))) rfl rfl hD1 (fun q hq => (.tail _ (.tail _ (.tail _ (.tail _ (.tail _ (List.mem_append_right _ hq))))))) (.head _) rfl rfl (DatAll.nil (news := [])) (fun _ h => nomatch h) (pd_ok _) (fun _ h => nomatch h) (by ke_room) ?_
        rw [show ∀ (i : Decidable (List.map pd [] = [])), @decide _ i = true from yes_dec []]
        k_steps
        refine hQ1 _ _ ?_
        k_steps)
end

end Mine

theorem PySem.Challenge.cw_on0220_01_holds : PySem.Challenge.rw_on0220_01.Holds := by
  rw [Mine.row_eq]
  exact Mine.law_holds
