import PyProof.Rows.All
import Wide.All
import OpenK.AllK
import Wide.FinOn
import PySem.Challenge.RW_nz0291_01
set_option Elab.async false
open PySem PySem.W PyProof.Rows
namespace Mine
theorem said : PySem.Challenge.rw_nz0291_01.wellSaid = true := by
  unfold OpenLaw.wellSaid OpenRow.wellSaid OpenRow.partSaid looksOpen
  repeat' (with_reducible refine look_both ?_ ?_)
  all_goals decide +kernel
/-- the program without the statements whose worth is read, or that name the file again -/
noncomputable def V : Program := view PySem.Challenge.pw_nz0291_01 [0, 2, 3, 5, 6, 8, 9, 10, 11, 12, 13, 14, 15, 16, 17, 18, 19, 20, 21, 23, 24, 25, 26, 27, 28, 29, 30, 31, 33, 34, 35, 36, 37, 38]
noncomputable abbrev Lo : List Str := [Str.ofString "PostError", Str.ofString "CHARSETS", Str.ofString "UNKNOWN_SIGN"]
noncomputable abbrev Rd : List (Str × WData) := [(Str.ofString "CHARSETS", WData.tuple [WData.str { cps := #[117, 115, 45, 97, 115, 99, 105, 105] }, WData.str { cps := #[105, 115, 111, 45, 56, 56, 53, 57, 45, 49] }, WData.str { cps := #[117, 116, 102, 45, 56] }]), (Str.ofString "UNKNOWN_SIGN", WData.str { cps := #[65533] })]
end Mine
section
local macro_rules | `(tactic| o_law) => `(tactic| (refine holds_law Mine.said fun said => ?_))
local macro_rules | `(tactic| o_head $H) => `(tactic| (
  refine holds_open (q := Mine.V) (loose := Mine.Lo) (Xt := fun s => xlAt Mine.V Mine.Rd s && recOk (RowW.records (OpenRow.toRowW (OpenLaw.row PySem.Challenge.rw_nz0291_01))) s) (XP := XL Mine.V Mine.Rd) (Yf := Hook.obs $H) (Ya := Hook.val $H) (YP := Hook.says $H) (N := 2858) ?hl (Hook.of $H) (Hook.keeps $H) (fun s e => xl_of s (Bool.and_eq_true_iff.mp e).1) XL.keeps (by rfl) (by rfl) (by rfl) (fun s e => recFacts_of (Bool.and_eq_true_iff.mp e).2) (by rfl) (by first | assumption | decide +kernel) (by decide +kernel) ⟨rfl, rfl, rfl, rfl, rfl, by decide +kernel⟩ ?hw ?hc
  case hl =>
    intro w
    unfold openEnds fencedOpening topFrom
    rw [PySem.W.Fast.te14082659384304107361, PySem.W.Fast.te10274390034422433532, PySem.W.Fast.te14289696077712309145, PySem.W.Fast.te14364793385576792824, PySem.W.Fast.te4187177175401517315]
    kernel_rfl))
set_option maxRecDepth 100000 in
set_option maxHeartbeats 8000000 in
open_top Mine.hd for PySem.Challenge.rw_nz0291_01
end
section
set_option maxRecDepth 100000
open PySem PySem.W PyProof.Rows
namespace Mine
abbrev Led := List (Addr × Obj)
noncomputable abbrev LO : List Str := looseW Mine.V [Str.ofString "PostError", Str.ofString "CHARSETS", Str.ofString "UNKNOWN_SIGN"]

/-- what a call of the def at f with arguments vs, upon the ledger news, hands back -/
noncomputable abbrev Does (w : World) (f : Addr) (deep wide : Nat) (vs : List Value) (news : Led) (Post : Value → Led → Prop) : Prop :=
  ∀ (dp un : Nat) (gd : Option (List Code)) (cn : Str) (cs : Scope) (a : Addr) (ccd : Value) (cl : List (Str × Addr)) (outer : List Env) (A₀ : Around) (base h₀ : Heap) (L : Addr) (m : Str → Option Value) (s : Shared)
    (mean : ExcName → Option Value) (mg mb : Str → Option Value) (Q E : Value → Shared → Prop),
    Below A₀ base outer h₀ → Fr h₀ L s.heap m → (hd.heap_1 w.params).In h₀ → News h₀ L s.heap news → Top Mine.V LO mean mg mb h₀ → cs.kind = .function → dp + deep < recursionLimit → un + wide < cLine →
    (∀ v news' h' tk', Fr h₀ L h' m → News h₀ L h' news' → Post v news' → Q v { s with heap := h', toks := tk' }) →
    wpAny (model PySem.Challenge.rw_nz0291_01.row.prog w) (ktrTop dp un gd cn cs L a ccd cl outer) (call (.ref f) vs) Q E s

theorem does_use {w : World} {f : Addr} {deep wide : Nat} {vs : List Value} {news : Led} {Post : Value → Led → Prop}
    {dp un : Nat} {gd : Option (List Code)} {cn : Str} {cs : Scope} {a : Addr} {ccd : Value} {cl : List (Str × Addr)} {outer : List Env} {A₀ : Around} {base h₀ : Heap} {L : Addr} {m : Str → Option Value} {s : Shared}
    {mean : ExcName → Option Value} {mg mb : Str → Option Value} {Q E : Value → Shared → Prop}
    (D : Does w f deep wide vs news Post) (B : Below A₀ base outer h₀) (F : Fr h₀ L s.heap m) (X : (hd.heap_1 w.params).In h₀) (N : News h₀ L s.heap news) (T : Top Mine.V LO mean mg mb h₀) (hk : cs.kind = .function) (h1 : dp + deep < recursionLimit) (h2 : un + wide < cLine)
    (ret : ∀ v news' h' tk', Fr h₀ L h' m → News h₀ L h' news' → Post v news' → Q v { s with heap := h', toks := tk' }) :
    wpAny (model PySem.Challenge.rw_nz0291_01.row.prog w) (ktrTop dp un gd cn cs L a ccd cl outer) (call (.ref f) vs) Q E s :=
  D _ _ _ _ _ _ _ _ _ _ _ _ _ _ _ _ _ _ _ _ B F X N T hk h1 h2 ret

theorem fill (w : World) : hd.heap_1 w.params = hd.heap_1 w.params ∧ PySem.Challenge.rw_nz0291_01 = PySem.Challenge.rw_nz0291_01 := by
  k_fill
  exact ⟨rfl, rfl⟩

theorem news_sub {h₀ h : Heap} {L : Addr} {n n' : Led} (N : News h₀ L h n) (hs : ∀ p ∈ n', p ∈ n) : News h₀ L h n' := fun p hp => N p (hs p hp)

/-- one entry of the ledger replaced -/
def updL (news : Led) (a : Addr) (o : Obj) : Led := news.map fun p => if p.1 = a then (a, o) else p
theorem updL_ne {x : Addr × Obj} {l : Led} {a : Addr} {o : Obj} (h : @Ne Nat x.1 a) : updL (x :: l) a o = x :: updL l a o := by
  unfold updL; rw [List.map_cons, if_neg h]
theorem updL_eq {l : Led} {a : Addr} {o o' : Obj} : updL ((a, o') :: l) a o = (a, o) :: updL l a o := by
  unfold updL; rw [List.map_cons, if_pos rfl]
theorem updL_off {l : Led} {a : Addr} {o : Obj} (h : ∀ p ∈ l, p.1 ≠ a) : updL l a o = l := by
  unfold updL
  induction l with
  | nil => rfl
  | cons x l ih =>
    rw [List.map_cons, if_neg (h x (.head _)), ih fun p hp => h p (.tail _ hp)]
theorem updL_nil {a : Addr} {o : Obj} : updL [] a o = [] := rfl
theorem mem_updL {l : Led} {a : Addr} {o : Obj} {p : Addr × Obj} (h : p ∈ updL l a o) : p = (a, o) ∨ (p ∈ l ∧ p.1 ≠ a) := by
  unfold updL at h
  obtain ⟨q, hq, e⟩ := List.mem_map.mp h
  by_cases hqa : q.1 = a
  · rw [if_pos hqa] at e; exact .inl e.symm
  · rw [if_neg hqa] at e; subst e; exact .inr ⟨hq, hqa⟩
end Mine
end
section
set_option maxRecDepth 100000
open PySem PySem.W PyProof.Rows
namespace Mine
/-- the pot's numbers are in order -/
structure PotOk (ns : List Int) (st pl : Int) (k : Nat) : Prop where
  len : ns.length ≤ 40
  pos : ∀ x ∈ ns, 0 ≤ x
  st0 : 0 ≤ st
  st1 : st < 2147483647
  pl0 : 0 ≤ pl
  pl1 : pl ≤ k

local macro_rules | `(tactic| k_all) => `(tactic| assumption)
set_option maxHeartbeats 4000000 in
theorem draw_at (w : World) (lp lc : Addr) (vs : List Value) (ns : List Int) (st pl lim : Int) (t1 t2 t : Tok) (n1 n2 k : Nat) (rest : Led) (hne : @Ne Nat lp lc) (hr1 : ∀ p ∈ rest, p.1 ≠ lp) (hr2 : ∀ p ∈ rest, p.1 ≠ lc)
    (hi : IntsAre vs ns) (ok : PotOk ns st pl k) (hk : k < 1000) (hlim : 0 < lim) (hlim2 : lim < 100) :
    Does w 194 1 8 [.ref lp, .int lim t] ((lp, listOf #[.ref lc, .int st t1, .int pl t2] n1) :: (lc, listOf vs.toArray n2) :: rest)
      (fun v news' => ∃ r t' vs' ns' st' pl' t1' t2' n1' n2', v = .int r t' ∧ 0 ≤ r ∧ r < lim ∧ news' = (lp, listOf #[.ref lc, .int st' t1', .int pl' t2'] n1') :: (lc, listOf vs'.toArray n2') :: rest ∧ IntsAre vs' ns' ∧ PotOk ns' st' pl' (k + 1)) := by
  intro dp un gd cn cs a ccd cl outer A₀ base h₀ L m s mean mg mb Q E B F X N T hk hdp hun hret
  obtain ⟨hlen, hpos, hst, hst2, hpl, hpl2⟩ := ok
  have hpl3 : pl < 1000 := by omega
  w_on
  refine wpAny_call ?_
  k_dflt ktr_enter
  k_steps
  · refine hret _ _ _ _ (by k_asm) (by k_asm) ⟨_, _, _, _, _, _, _, _, _, _, rfl, fmod_lo _ hlim, fmod_hi _ hlim, rfl, by assumption, ?_⟩
    refine ⟨by simpa using hlen, fun x hx => ?_, hst, hst2, by omega, by omega⟩
    rcases List.mem_or_eq_of_mem_set hx with h1 | h1
    · exact hpos x h1
    · subst h1
      rw [Int.fdiv_eq_ediv_of_nonneg _ (by omega)]
      exact Int.ediv_nonneg (by omega) (by omega)
  all_goals
    have e1 := fmod_lo (st * 16807 + pl * pl + 7) (n := 2147483647) (by decide)
    have e2 := fmod_hi (st * 16807 + pl * pl + 7) (n := 2147483647) (by decide)
    exact hret _ _ _ _ (by k_asm) (by k_asm) ⟨_, _, _, _, _, _, _, _, _, _, rfl, fmod_lo _ hlim, fmod_hi _ hlim, rfl, by assumption, ⟨hlen, hpos, e1, e2, by omega, by omega⟩⟩

/-- the same, upon any ledger that bears the pot -/
theorem draw_any (w : World) (lp lc : Addr) (vs : List Value) (ns : List Int) (st pl lim : Int) (t1 t2 t : Tok) (n1 n2 k : Nat) (news : Led) (hne : @Ne Nat lp lc)
    (hp : (lp, listOf #[.ref lc, .int st t1, .int pl t2] n1) ∈ news) (hc : (lc, listOf vs.toArray n2) ∈ news) (hi : IntsAre vs ns) (ok : PotOk ns st pl k) (hk : k < 1000) (hlim : 0 < lim) (hlim2 : lim < 100) :
    Does w 194 1 8 [.ref lp, .int lim t] news
      (fun v news' => ∃ r t' vs' ns' st' pl' t1' t2' n1' n2', v = .int r t' ∧ 0 ≤ r ∧ r < lim ∧ news' = updL (updL news lp (listOf #[.ref lc, .int st' t1', .int pl' t2'] n1')) lc (listOf vs'.toArray n2') ∧ IntsAre vs' ns' ∧ PotOk ns' st' pl' (k + 1)) := by
  intro dp un gd cn cs a ccd cl outer A₀ base h₀ L m s mean mg mb Q E B F X N T hk' hdp hun hret
  refine does_use (draw_at w lp lc vs ns st pl lim t1 t2 t n1 n2 k (news.filter fun p => decide (p.1 ≠ lp) && decide (p.1 ≠ lc)) hne ?_ ?_ hi ok hk hlim hlim2) B F X ?_ T hk' hdp hun ?_
  · intro p hp'
    have := (List.mem_filter.mp hp').2
    simp at this; exact this.1
  · intro p hp'
    have := (List.mem_filter.mp hp').2
    simp at this; exact this.2
  · refine news_sub N fun p hp' => ?_
    rcases List.mem_cons.mp hp' with rfl | hp'
    · exact hp
    rcases List.mem_cons.mp hp' with rfl | hp'
    · exact hc
    exact (List.mem_filter.mp hp').1
  · rintro v news' h' tk' F' N' ⟨r, t', vs', ns', st', pl', t1', t2', n1', n2', e1, h1, h2, rfl, h3, h4⟩
    refine hret v _ h' tk' F' ?_ ⟨r, t', vs', ns', st', pl', t1', t2', n1', n2', e1, h1, h2, rfl, h3, h4⟩
    refine news_sub N' fun p hp' => ?_
    rcases mem_updL hp' with rfl | ⟨hp', q1⟩
    · exact .tail _ (.head _)
    rcases mem_updL hp' with rfl | ⟨hp', q2⟩
    · exact .head _
    exact .tail _ (.tail _ (List.mem_filter.mpr ⟨hp', by simp [q1, q2]⟩))
end Mine
end
section
set_option maxRecDepth 100000
open PySem PySem.W PyProof.Rows
namespace Mine
theorem lt_ne {d : Addr} {l : Led} (h : ∀ p ∈ l, p.1 < d) : ∀ p ∈ l, p.1 ≠ d := fun p hp => Nat.ne_of_lt (h p hp)
section
local macro_rules | `(tactic| walk_at "exec For Name Name cons nil") => `(tactic| (k_here; (with_reducible show wpAny _ _ (exec (PySem.Stmt.For _ _ _ [] _) _) _ _ _); k_strName; (rename Fr _ _ _ _ => lF'); (with_unfolding_all refine' For_invVF lF' ?k1 ?k2 ?_; (case k1 => exact rfl); (case k2 => exact rfl); k_whole)))
local macro_rules | `(tactic| walk_at "pyIter str") => `(tactic| ((with_reducible show wpAny _ _ (pyIter (Value.str _ _)) (fun it s₂ => LoopAtV _ _ _ _ _ _ _ _ _ it s₂) _ _); k_here; k_strUnr))
local macro_rules | `(tactic| walk_at "UnrEnd") => `(tactic| (refine UnrEnd.intro (by k_asm) (by k_asm) _ (fun _ hp => hp) (lt_ne (by assumption)) ?_))
set_option maxHeartbeats 4000000 in
theorem part_num0 (w : World) (t : Tok) (news : Led) :
    Does w 144 1 8 [.str (Str.ofString "0") t] news (fun v news' => ∃ t', v = .int 0 t' ∧ news' = news) := by
  intro dp un gd cn cs a ccd cl outer A₀ base h₀ L m s mean mg mb Q E B F X N T hk hdp hun hret
  w_on
  refine wpAny_call ?_
  k_dflt ktr_enter
  k_steps
  exact hret _ _ _ _ (by k_asm) (by k_asm) ⟨_, rfl, rfl⟩
set_option maxHeartbeats 4000000 in
theorem part_num1 (w : World) (t : Tok) (news : Led) :
    Does w 144 1 8 [.str (Str.ofString "1") t] news (fun v news' => ∃ t', v = .int 1 t' ∧ news' = news) := by
  intro dp un gd cn cs a ccd cl outer A₀ base h₀ L m s mean mg mb Q E B F X N T hk hdp hun hret
  w_on
  refine wpAny_call ?_
  k_dflt ktr_enter
  k_steps
  exact hret _ _ _ _ (by k_asm) (by k_asm) ⟨_, rfl, rfl⟩
set_option maxHeartbeats 4000000 in
theorem part_num2 (w : World) (t : Tok) (news : Led) :
    Does w 144 1 8 [.str (Str.ofString "2") t] news (fun v news' => ∃ t', v = .int 2 t' ∧ news' = news) := by
  intro dp un gd cn cs a ccd cl outer A₀ base h₀ L m s mean mg mb Q E B F X N T hk hdp hun hret
  w_on
  refine wpAny_call ?_
  k_dflt ktr_enter
  k_steps
  exact hret _ _ _ _ (by k_asm) (by k_asm) ⟨_, rfl, rfl⟩
set_option maxHeartbeats 4000000 in
theorem part_num3 (w : World) (t : Tok) (news : Led) :
    Does w 144 1 8 [.str (Str.ofString "3") t] news (fun v news' => ∃ t', v = .int 3 t' ∧ news' = news) := by
  intro dp un gd cn cs a ccd cl outer A₀ base h₀ L m s mean mg mb Q E B F X N T hk hdp hun hret
  w_on
  refine wpAny_call ?_
  k_dflt ktr_enter
  k_steps
  exact hret _ _ _ _ (by k_asm) (by k_asm) ⟨_, rfl, rfl⟩
end
/-- part_number of one figure -/
theorem part_num (w : World) (d : Nat) (x : Str) (t : Tok) (news : Led) (h : (d = 0 ∧ x = Str.ofString "0") ∨ (d = 1 ∧ x = Str.ofString "1") ∨ (d = 2 ∧ x = Str.ofString "2") ∨ (d = 3 ∧ x = Str.ofString "3")) :
    Does w 144 1 8 [.str x t] news (fun v news' => ∃ t', v = .int (d : Int) t' ∧ news' = news) := by
  rcases h with ⟨rfl, rfl⟩ | ⟨rfl, rfl⟩ | ⟨rfl, rfl⟩ | ⟨rfl, rfl⟩
  · exact part_num0 w t news
  · exact part_num1 w t news
  · exact part_num2 w t news
  · exact part_num3 w t news
end Mine
end
section
set_option maxRecDepth 100000
open PySem PySem.W PyProof.Rows PySem.Spec
namespace Mine
/-- the walk is to stop here -/
def Stop (P : Prop) : Prop := P
theorem Stop.of {P : Prop} (h : Stop P) : P := h
/-- the locals between two turns: the letters, what the loop stores (unknown), what stood before -/
abbrev midM (stored : List Str) (u m₀ : Str → Option Value) (ps : List (Str × Value)) : Str → Option Value := kstB (fun z => if stored.contains z then u z else m₀ z) ps

def FEnd {σ : Type} (h₀ : Heap) (L : Addr) (s : Shared) (LL : σ → Led) (ps : σ → List (Str × Value)) (stored : List Str) (m₀ : Str → Option Value) (P : List Value → σ → Prop) (I : Addr) (oI : Obj) (r : List Value) (s₂ : Shared) : Prop :=
  ∃ (c' : σ) (h' : Heap) (tk : Nat) (m' : Str → Option Value) (news' : Led), s₂ = { s with heap := h', toks := tk } ∧ Fr h₀ L h' m' ∧ News h₀ L h' news' ∧ (∀ p ∈ (I, oI) :: LL c', p ∈ news') ∧ (∀ p ∈ LL c', p.1 ≠ I) ∧
    (∀ p ∈ ps c', m' p.1 = some p.2) ∧ (∀ z, (∀ p ∈ ps c', z ≠ p.1) → stored.contains z = false → m' z = m₀ z) ∧ P r c'
def FPost {σ : Type} (h₀ : Heap) (L : Addr) (s : Shared) (LL : σ → Led) (ps : σ → List (Str × Value)) (stored : List Str) (m₀ : Str → Option Value) (P : List Value → σ → Prop) (I : Addr) (oI : Obj) (r : List Value) (Q : Flow → Shared → Prop) (f : Flow) (s₂ : Shared) : Prop :=
  match f with
  | .ret v => Q (.ret v) s₂
  | .brk => Q .next s₂
  | _ => FEnd h₀ L s LL ps stored m₀ P I oI r s₂

section
variable {prog : Program} {w : World} {A : Around} {E : Value → Shared → Prop} {s : Shared} {env : Env} {h₀ : Heap} {target : Expr} {body : List Stmt} {Q : Flow → Shared → Prop}
theorem my_for {σ : Type} {ax : Addr} {lo : Obj} {vs : List Value} {n : Nat} {m₀ : Str → Option Value} (LL : σ → Led) (ps : σ → List (Str × Value)) (stored : List Str) (P : List Value → σ → Prop) (c₀ : σ) {news : Led}
    (hh : A.handled = none) (F : Fr h₀ env.locals s.heap m₀) (N : News h₀ env.locals s.heap news) (hn : ∀ p ∈ LL c₀, p ∈ news) (hm : ∀ c, (ax, lo) ∈ LL c) (hc : lo.cls = .type "list") (hd : lo.data = .seq vs.toArray n)
    (hk : ∀ p ∈ ps c₀, m₀ p.1 = some p.2) (hp : P vs c₀)
    (turn : ∀ (c : σ) v r (u : Str → Option Value) I oI h tk, P (v :: r) c → (∀ p ∈ LL c, p.1 ≠ I) → Fr h₀ env.locals h (midM stored u m₀ (ps c)) → News h₀ env.locals h ((I, oI) :: LL c) →
      wpAny (model prog w) A (assign target env v) (fun _ s₂ => wpAny (model prog w) A (execs body env) (FPost h₀ env.locals s LL ps stored m₀ P I oI r Q) E s₂) E { s with heap := h, toks := tk })
    (done : ∀ (c : σ) (u : Str → Option Value) h tk, P [] c → Fr h₀ env.locals h (midM stored u m₀ (ps c)) → News h₀ env.locals h (LL c) → Q .next { s with heap := h, toks := tk }) :
    wpAny (model prog w) A (pyIter (.ref ax)) (fun it s₂ => TurnsAt prog w A h₀ env target body Q E it s₂) E s := by
  have N0 : News h₀ env.locals s.heap (LL c₀) := news_sub N hn
  refine iter_listTurns hh F N0 (hm c₀) hc hd fun I hI => ?_
  have go : ∀ (r : List Value) (c : σ) (m₁ : Str → Option Value), (∀ p ∈ LL c, p.1 ≠ I) → (∀ p ∈ ps c, m₁ p.1 = some p.2) → (∀ z, (∀ p ∈ ps c, z ≠ p.1) → stored.contains z = false → m₁ z = m₀ z) → P r c →
      ItemsRest prog w A E h₀ env target body Q s [(I, "list_iterator")] [(ax, lo)] (r.map .val) m₁ (LL c) := by
    intro r
    induction r with
    | nil =>
      intro c m₁ ho h1 h2 hP h tk F₁ N₁
      exact done c m₁ h tk hP (ksw_fr h1 h2 F₁) N₁
    | cons v r ih =>
      intro c m₁ ho h1 h2 hP
      refine ItemsRest.val fun h tk F₁ => ?_
      intro oI hcI N₁
      have N₂ : News h₀ env.locals h ((I, oI) :: LL c) := N₁
      refine wpAny_mono (turn c v r m₁ I oI h tk hP ho (ksw_fr h1 h2 F₁) N₂) (fun _ s₂ h₂ => wpAny_mono h₂ (fun f s₃ h₃ => ?_) fun _ _ e => e) fun _ _ e => e
      have fin : FEnd h₀ env.locals s LL ps stored m₀ P I oI r s₃ → UnrEndW h₀ env.locals { s with heap := h, toks := tk } [(I, oI)] (fun m' n' => SubL [(ax, lo)] n' ∧ ItemsRest prog w A E h₀ env target body Q s [(I, "list_iterator")] [(ax, lo)] (r.map .val) m' n') s₃ := by
        rintro ⟨c', h', tk', m', news', rfl, F', N', hn', ho', k1, k2, hP'⟩
        refine ⟨h', tk', m', LL c', rfl, F', fun p hp => N' p (hn' p ?_), fun p hp q hq => ?_, And.intro (hm c') trivial, ih c' m' ho' k1 k2 hP'⟩
        · rcases List.mem_append.mp hp with hp | hp
          · rw [List.mem_singleton.mp hp]; exact .head _
          · exact .tail _ hp
        · rw [List.mem_singleton.mp hq]; exact ho' p hp
      cases f with
      | ret v => exact h₃
      | brk => exact h₃
      | next => exact fin h₃
      | cont => exact fin h₃
  exact go vs c₀ m₀ (fun p hp => Nat.ne_of_lt (hI p hp)) hk (fun _ _ _ => rfl) hp

/-- a while, the same way -/
def WEnd {σ : Type} (h₀ : Heap) (L : Addr) (s : Shared) (LL : σ → Led) (ps : σ → List (Str × Value)) (stored : List Str) (m₀ : Str → Option Value) (P : σ → Prop) (μ : σ → Nat) (c : σ) (s₂ : Shared) : Prop :=
  ∃ (c' : σ) (h' : Heap) (tk : Nat) (m' : Str → Option Value) (news' : Led), s₂ = { s with heap := h', toks := tk } ∧ Fr h₀ L h' m' ∧ News h₀ L h' news' ∧ (∀ p ∈ LL c', p ∈ news') ∧
    (∀ p ∈ ps c', m' p.1 = some p.2) ∧ (∀ z, (∀ p ∈ ps c', z ≠ p.1) → stored.contains z = false → m' z = m₀ z) ∧ P c' ∧ μ c' < μ c
def WPost {σ : Type} (h₀ : Heap) (L : Addr) (s : Shared) (LL : σ → Led) (ps : σ → List (Str × Value)) (stored : List Str) (m₀ : Str → Option Value) (P : σ → Prop) (μ : σ → Nat) (Q : Flow → Shared → Prop) (c : σ) (f : Flow) (s₂ : Shared) : Prop :=
  match f with
  | .ret v => Q (.ret v) s₂
  | .brk => Q .next s₂
  | _ => WEnd h₀ L s LL ps stored m₀ P μ c s₂
theorem WEnd.mk9 {σ : Type} {h₀ : Heap} {L : Addr} {s : Shared} {LL : σ → Led} {ps : σ → List (Str × Value)} {stored : List Str} {m₀ : Str → Option Value} {P : σ → Prop} {μ : σ → Nat} {c : σ} (c' : σ) {h' : Heap} {tk : Nat} {m' : Str → Option Value} {news' : Led}
    (F : Fr h₀ L h' m') (N : News h₀ L h' news') (hn : ∀ p ∈ LL c', p ∈ news') (hk : ∀ p ∈ ps c', m' p.1 = some p.2) (hz : ∀ z, (∀ p ∈ ps c', z ≠ p.1) → stored.contains z = false → m' z = m₀ z) (hp : P c') (hm : μ c' < μ c) :
    WEnd h₀ L s LL ps stored m₀ P μ c { s with heap := h', toks := tk } := ⟨c', h', tk, m', news', rfl, F, N, hn, hk, hz, hp, hm⟩
theorem FEnd.mk9 {σ : Type} {h₀ : Heap} {L : Addr} {s : Shared} {LL : σ → Led} {ps : σ → List (Str × Value)} {stored : List Str} {m₀ : Str → Option Value} {P : List Value → σ → Prop} {I : Addr} {oI : Obj} {r : List Value} (c' : σ) {h' : Heap} {tk : Nat} {m' : Str → Option Value} {news' : Led}
    (F : Fr h₀ L h' m') (N : News h₀ L h' news') (hn : ∀ p ∈ (I, oI) :: LL c', p ∈ news') (ho : ∀ p ∈ LL c', p.1 ≠ I) (hk : ∀ p ∈ ps c', m' p.1 = some p.2) (hz : ∀ z, (∀ p ∈ ps c', z ≠ p.1) → stored.contains z = false → m' z = m₀ z) (hp : P r c') :
    FEnd h₀ L s LL ps stored m₀ P I oI r { s with heap := h', toks := tk } := ⟨c', h', tk, m', news', rfl, F, N, hn, ho, hk, hz, hp⟩
theorem my_while {σ : Type} {L : Addr} {test : Expr} {pos : Pos} {m₀ : Str → Option Value} (LL : σ → Led) (ps : σ → List (Str × Value)) (stored : List Str) (P : σ → Prop) (μ : σ → Nat) (c₀ : σ) {news : Led}
    (F : Fr h₀ L s.heap m₀) (N : News h₀ L s.heap news) (hn : ∀ p ∈ LL c₀, p ∈ news) (hk : ∀ p ∈ ps c₀, m₀ p.1 = some p.2) (hp : P c₀)
    (turn : ∀ (c : σ) (u : Str → Option Value) h tk, P c → Fr h₀ L h (midM stored u m₀ (ps c)) → News h₀ L h (LL c) →
      wpAny (model prog w) A (isTrue test env (eval test env)) (fun b s₂ =>
        if b = true then wpAny (model prog w) A (execs body env) (WPost h₀ L s LL ps stored m₀ P μ Q c) E s₂ else Q .next s₂) E { s with heap := h, toks := tk })
    (hE : PassesOwn (model prog w) A env E := by passes_own) :
    wpAny (model prog w) A (exec (.While test body [] pos) env) Q E s := by
  refine While_inv2 (fun n m nx => ∃ c : σ, nx = LL c ∧ μ c = n ∧ (∀ p ∈ ps c, m p.1 = some p.2) ∧ (∀ z, (∀ p ∈ ps c, z ≠ p.1) → stored.contains z = false → m z = m₀ z) ∧ P c) F (news_sub N hn) ⟨c₀, rfl, rfl, hk, fun _ _ _ => rfl, hp⟩ ?_ hE
  rintro n m₁ nx h tk F₁ N₁ ⟨c, hnx, hsz, h1, h2, hp'⟩
  rw [hnx] at N₁
  rw [← hsz]
  refine wpAny_mono (turn c m₁ h tk hp' (ksw_fr h1 h2 F₁) N₁) (fun b s₂ p => ?_) fun _ _ x => x
  cases b with
  | false => simpa using p
  | true =>
    simp only [if_true] at p ⊢
    refine wpAny_mono p (fun f s₃ q => ?_) fun _ _ x => x
    cases f with
    | ret v => exact q
    | brk => exact q
    | next =>
      obtain ⟨c', h', tk', m', news', rfl, F', N', hn, hk9, hr9, hp9, hm9⟩ := q
      exact ⟨h', tk', m', LL c', μ c', rfl, F', news_sub N' hn, hm9, c', rfl, rfl, hk9, hr9, hp9⟩
    | cont =>
      obtain ⟨c', h', tk', m', news', rfl, F', N', hn, hk9, hr9, hp9, hm9⟩ := q
      exact ⟨h', tk', m', LL c', μ c', rfl, F', news_sub N' hn, hm9, c', rfl, rfl, hk9, hr9, hp9⟩
end
end Mine
end
section
set_option maxRecDepth 100000
open PySem PySem.W PyProof.Rows
namespace Mine
abbrev Digit (d : Nat) (x : Str) : Prop := (d = 0 ∧ x = Str.ofString "0") ∨ (d = 1 ∧ x = Str.ofString "1") ∨ (d = 2 ∧ x = Str.ofString "2") ∨ (d = 3 ∧ x = Str.ofString "3")
abbrev tupOf (its : List Value) (n : Nat) : Obj := { cls := .type "tuple", data := .seq its.toArray n }
section
local macro_rules | `(tactic| walk_at "call ref") => `(tactic| (k_here; k_dflt (refine' does_use ?D ?B ?F ?X ?N ?T ?K ?d ?u ?_; (case B => k_asm); (case F => k_asm); (case X => k_asm); (case N => k_asm); (case T => k_asm); (case D => k_extra "does"); (case K => first | exact rfl | assumption); (case d => ktr_room); (case u => ktr_units); k_extra "done")))
set_option maxHeartbeats 4000000 in
theorem part_of_part (w : World) (x b : Str) (t : Tok) (d : Nat) (enc : Bool) (news : Led) (hx : x.length ≤ 1000) (hx1 : 1 ≤ x.length) (hsp : ¬ Txt.find x (Str.ofString "*") < 1) (hni : Txt.find x (Str.ofString "*") ≠ (x.length : Int) - 1)
    (hb : Txt.slice x none (some (Txt.find x (Str.ofString "*"))) = b) (he : (Txt.item x (-1) == Str.ofString "*") = enc)
    (hft : enc = true → Digit d (Txt.slice x (some (Txt.find x (Str.ofString "*") + 1)) (some ((x.length : Int) - 1)))) (hff : enc = false → Digit d (Txt.slice x (some (Txt.find x (Str.ofString "*") + 1)) none)) :
    Does w 151 2 16 [.str x t] news
      (fun v news' => ∃ T t1 t2 k, v = .ref T ∧ news' = (T, tupOf [.str b t1, .int d t2, .bool enc] k) :: news ∧ ∀ p ∈ news, p.1 < T) := by
  intro dp un gd cn cs a ccd cl outer A₀ base h₀ L m s mean mg mb Q E B F X N T hk hdp hun hret
  w_on
  k_with_none
  k_with "does" => first | exact part_num w d _ _ _ (hft (he.symm.trans (by assumption))) | exact part_num w d _ _ _ (hff (he.symm.trans (by assumption)))
  k_with "done" => (rintro _ _ h9 tk9 F9 N9 ⟨t9, rfl, rfl⟩)
  refine wpAny_call ?_
  k_dflt ktr_enter
  k_steps
  all_goals subst hb he
  all_goals first
    | (exfalso; omega)
    | exact hret _ _ _ _ (by k_asm) (by k_asm) ⟨_, _, _, _, rfl, rfl, by assumption⟩
set_option maxHeartbeats 4000000 in
theorem part_of_none (w : World) (x : Str) (t : Tok) (news : Led) (hx : x.length ≤ 1000) (hsp : Txt.find x (Str.ofString "*") < 1) :
    Does w 151 2 16 [.str x t] news (fun v news' => v = .none ∧ news' = news) := by
  intro dp un gd cn cs a ccd cl outer A₀ base h₀ L m s mean mg mb Q E B F X N T hk hdp hun hret
  w_on
  k_with_none
  refine wpAny_call ?_
  k_dflt ktr_enter
  k_steps
  all_goals first
    | (exfalso; omega)
    | exact hret _ _ _ _ (by k_asm) (by k_asm) ⟨rfl, rfl⟩
end
end Mine
end
section
set_option maxRecDepth 100000
open PySem PySem.W PyProof.Rows
namespace Mine
section
local macro_rules | `(tactic| walk_at "call ref") => `(tactic| (k_here; k_dflt (refine' does_use ?D ?B ?F ?X ?N ?T ?K ?d ?u ?_; (case B => k_asm); (case F => k_asm); (case X => k_asm); (case N => k_asm); (case T => k_asm); (case D => k_extra "does"); (case K => first | exact rfl | assumption); (case d => ktr_room); (case u => ktr_units); k_extra "done")))
set_option maxHeartbeats 4000000 in
theorem utf8_sign (w : World) (bs : Array UInt8) (ks : List Int) (i : Int) (tb ti : Tok) (news : Led) (hks : KBw.bInts bs = ks) (hi0 : 0 ≤ i) (hi1 : i < (ks.length : Int)) (hsz : ks.length < 1000) (hlow : ks.getD i.toNat 0 < 128) :
    Does w 109 1 16 [.bytes bs tb, .int i ti] news
      (fun v news' => ∃ T t1 t2 k, v = .ref T ∧ news' = (T, tupOf [.int (ks.getD i.toNat 0) t1, .int 1 t2] k) :: news ∧ ∀ p ∈ news, p.1 < T) := by
  intro dp un gd cn cs a ccd cl outer A₀ base h₀ L m s mean mg mb Q E B F X N T hk hdp hun hret
  w_on
  k_with_none
  refine wpAny_call ?_
  k_dflt ktr_enter
  k_steps
  all_goals exact hret _ _ _ _ (by k_asm) (by k_asm) ⟨_, _, _, _, rfl, rfl, by assumption⟩
set_option maxHeartbeats 4000000 in
theorem sign_at (w : World) (cset : Str) (bs : Array UInt8) (ks : List Int) (i : Int) (tc tb ti : Tok) (news : Led) (hcs : cset = Str.ofString "utf-8" ∨ cset = Str.ofString "us-ascii") (hks : KBw.bInts bs = ks) (hi0 : 0 ≤ i) (hi1 : i < (ks.length : Int)) (hsz : ks.length < 1000) (hlow : ks.getD i.toNat 0 < 128) :
    Does w 116 2 32 [.str cset tc, .bytes bs tb, .int i ti] news
      (fun v news' => ∃ T t1 t2 k, v = .ref T ∧ news' = (T, tupOf [.int (ks.getD i.toNat 0) t1, .int 1 t2] k) :: news ∧ ∀ p ∈ news, p.1 < T) := by
  intro dp un gd cn cs a ccd cl outer A₀ base h₀ L m s mean mg mb Q E B F X N T hk hdp hun hret
  w_on
  k_with_none
  k_with "does" => exact utf8_sign w bs ks i _ _ _ hks hi0 hi1 hsz hlow
  k_with "done" => (rintro _ _ h9 tk9 F9 N9 ⟨T9, t91, t92, k9, rfl, rfl, l9⟩)
  rcases hcs with hcs | hcs
  all_goals subst hcs
  all_goals (
    refine wpAny_call ?_
    k_dflt ktr_enter
    k_steps)
  all_goals exact hret _ _ _ _ (by k_asm) (by k_asm) ⟨_, _, _, _, rfl, rfl, by assumption⟩
theorem notIn_charsets {w : World} {A : Around} {E : Value → Shared → Prop} {s : Shared} {h₀ : Heap} {L : Addr} {m : Str → Option Value} {x : Str} {t : Tok} {Q : Value → Shared → Prop}
    (F : Fr h₀ L s.heap m) (X : (hd.heap_1 w.params).In h₀) (hcs : x = Str.ofString "utf-8" ∨ x = Str.ofString "us-ascii") (h : Q (.bool false) s) :
    wpAny (model PySem.Challenge.rw_nz0291_01.row.prog w) A (compareOp .NotIn (.str x t) (.ref 74)) Q E s := by
  have ht : s.heap.IsTuple 74 #[.str (Str.ofString "us-ascii") 269, .str (Str.ofString "iso-8859-1") 271, .str (Str.ofString "utf-8") 273] := ⟨_, F.keep _ _ (X 74 _ (by k_is)), rfl, 0, rfl⟩
  refine PySem.SeqAt.notIn_tupleAt (fun v => match v with | .str a _ => a == x | _ => false) ht (fun y hy => ?_) ?_
  · have hy' : y ∈ ([.str (Str.ofString "us-ascii") 269, .str (Str.ofString "iso-8859-1") 271, .str (Str.ofString "utf-8") 273] : List Value) := by simpa using hy
    rcases List.mem_cons.mp hy' with rfl | hy'
    · exact (eqGives_str _ _ _ _).at _ _
    rcases List.mem_cons.mp hy' with rfl | hy'
    · exact (eqGives_str _ _ _ _).at _ _
    rw [List.mem_singleton.mp hy']
    exact (eqGives_str _ _ _ _).at _ _
  · have e : (!(#[Value.str (Str.ofString "us-ascii") 269, .str (Str.ofString "iso-8859-1") 271, .str (Str.ofString "utf-8") 273] : Array Value).any fun v => match v with | .str a _ => a == x | _ => false) = false := by
      rcases hcs with rfl | rfl <;> decide +kernel
    rw [e]; exact h
local macro_rules | `(tactic| walk_at "compareOp NotIn str ref") => `(tactic| (refine notIn_charsets (by k_asm) (by k_asm) (by first | exact .inl rfl | exact .inr rfl) ?_))
set_option maxHeartbeats 4000000 in
theorem need_charset (w : World) (cset : Str) (tc : Tok) (news : Led) (hcs : cset = Str.ofString "utf-8" ∨ cset = Str.ofString "us-ascii") :
    Does w 95 1 16 [.str cset tc] news (fun v news' => v = .none ∧ news' = news) := by
  intro dp un gd cn cs a ccd cl outer A₀ base h₀ L m s mean mg mb Q E B F X N T hk hdp hun hret
  w_on
  k_with_none
  rcases hcs with hcs | hcs
  all_goals subst hcs
  all_goals (
    refine wpAny_call ?_
    k_dflt ktr_enter
    k_steps)
  all_goals exact hret _ _ _ _ (by k_asm) (by k_asm) ⟨rfl, rfl⟩
end
end Mine
end
section
set_option maxRecDepth 100000
open PySem PySem.W PyProof.Rows
namespace Mine
abbrev chrS (k : Int) : Str := ⟨#[k.toNat]⟩
abbrev textOf (ks : List Int) : Str := ⟨(ks.map Int.toNat).toArray⟩
theorem getD_low {ks : List Int} (hlow : ∀ k ∈ ks, 0 ≤ k ∧ k < 128) (j : Nat) : 0 ≤ ks.getD j 0 ∧ ks.getD j 0 < 128 := by
  rw [List.getD_eq_getElem?_getD]
  cases h : ks[j]? with
  | none => exact ⟨by decide, by decide⟩
  | some k => exact hlow k (List.mem_of_getElem? h)
theorem weigh_chr (ks : List Int) (h : ks.length < 1000) : ((ks.map chrS).map (·.length)).sum + (ks.map chrS).length ≤ 1048576 := by
  rw [sumLen_of_ones _ (fun a ha => by obtain ⟨k, _, rfl⟩ := List.mem_map.mp ha; rfl), List.length_map]
  omega
theorem signs_textOf (ks : List Int) : ks.map chrS = signs (textOf ks) := by
  unfold signs
  simp
theorem join_chr (ks : List Int) : Txt.join (Str.ofString "") (ks.map chrS) = textOf ks := by
  rw [signs_textOf, show Str.ofString "" = ⟨#[]⟩ from by decide +kernel]
  unfold PySem.Txt.join
  rw [StrLaws.glued_eq_join]
  exact join_nil_signs _
theorem take_chr {ks : List Int} {i : Nat} (h : i < ks.length) : (ks.take (i + 1)).map chrS = (ks.take i).map chrS ++ [chrS (ks.getD (i : Int).toNat 0)] := by
  rw [List.take_add_one, List.getElem?_eq_getElem h, List.map_append, List.getD_eq_getElem?_getD, Int.toNat_natCast, List.getElem?_eq_getElem h]
  rfl
section
local macro_rules | `(tactic| walk_at "call ref") => `(tactic| (k_here; k_dflt (refine' does_use ?D ?B ?F ?X ?N ?T ?K ?d ?u ?_; (case B => k_asm); (case F => k_asm); (case X => k_asm); (case N => k_asm); (case T => k_asm); (case D => k_extra "does"); (case K => first | exact rfl | assumption); (case d => ktr_room); (case u => ktr_units); k_extra "done")))
local macro_rules | `(tactic| walk_at "exec While Compare cons nil") => `(tactic| (refine Stop.of ?_))
local macro_rules | `(tactic| walk_at "call builtin:str.join") => `(tactic| (k_here; k_dflt (refine' join_listW ?l ?i ?s ?w ?_; (case l => is_list); (case i => assumption); (case s => decide); (case w => k_extra "weigh")); intro t' k'))
local macro_rules | `(tactic| walk_at "call builtin:list.append") => `(tactic| (k_here; k_dflt (refine' append_K ?k1 ?k2 ?k3 ?_ ?z; (case k1 => k_asm); (case k2 => k_asm); (case k3 => k_upd); (case z => size_fits); k_whole); intro h' F' N'; (try k_sweep)))
local macro_rules | `(tactic| k_all) => `(tactic| assumption)
local macro_rules | `(tactic| walk_at "WPost") => `(tactic| (dsimp only [WPost]))
set_option maxHeartbeats 4000000 in
theorem strict_text (w : World) (bs : Array UInt8) (ks : List Int) (tc tb : Tok) (news : Led) (hks : KBw.bInts bs = ks) (hsz : ks.length < 1000) (hlow : ∀ k ∈ ks, 0 ≤ k ∧ k < 128) :
    Does w 130 4 48 [.str (Str.ofString "utf-8") tc, .bytes bs tb] news
      (fun v news' => ∃ t, v = .str (⟨(ks.map Int.toNat).toArray⟩ : Str) t ∧ news' = news) := by
  intro dp un gd cn cs a ccd cl outer A₀ base h₀ L m s mean mg mb Q E B F X N T hk hdp hun hret
  w_on
  k_with_none
  k_with "does" => exact need_charset w _ _ _ (.inl rfl)
  k_with "does" => exact sign_at w _ _ _ _ _ _ _ _ (.inl rfl) hks (by omega) (by omega) hsz hlt9
  k_with "weigh" => exact weigh_chr _ (by rw [List.length_take]; omega)
  k_with "done" => (rintro _ _ h9 tk9 F9 N9 ⟨T9, t91, t92, k9, rfl, rfl, l9⟩; (try k_lt l9); (try k_sweep))
  k_with "done" => (rintro _ _ h9 tk9 F9 N9 ⟨rfl, e9⟩; replace e9 := e9.symm; subst e9; (try k_sweep))
  refine wpAny_call ?_
  k_dflt ktr_enter
  k_steps
  · unfold Stop
    rename_i ls hA l1 hB hC FW NW
    have l2 := lt_ne l1
    refine my_while (fun c : Nat × Tok × List Value × Nat => (ls, listOf c.2.2.1.toArray c.2.2.2) :: news) (fun c => [(Str.ofString "at", .int (c.1 : Int) c.2.1)]) [Str.ofString "code", Str.ofString "length", Str.ofString "at"]
      (fun c => c.1 ≤ ks.length ∧ StrsAre c.2.2.1 ((ks.take c.1).map chrS)) (fun c => ks.length - c.1) (0, ?t0, [], 0) FW NW ?hn ?hk ?hp ?turn
    case hk =>
      intro p hp
      rw [List.mem_singleton.mp hp]
      exact rfl
    case hn => exact fun p hp => hp
    case hp => exact ⟨Nat.zero_le _, StrsAre.nil⟩
    clear FW NW
    rintro ⟨i, ti, vs, ep⟩ u hp tk ⟨hi, hss⟩ FC NC
    dsimp only [midM, kstB] at hi hss FC NC ⊢
    have hlen9 := StrsAre.length hss
    have hlen8 : vs.length < 1000 := by rw [hlen9, List.length_map, List.length_take]; omega
    clear hlen9
    obtain ⟨hge9, hlt9⟩ : 0 ≤ ks.getD (i : Int).toNat 0 ∧ ks.getD (i : Int).toNat 0 < 128 := getD_low hlow _
    k_steps
    · (rename News _ _ _ _ => NZ)
      simp only [List.push_toArray] at NZ
      refine' WEnd.mk9 (i + 1, _, vs ++ [.str (chrS (ks.getD (i : Int).toNat 0)) tk], ep + 1) ?F ?N ?hn ?hk ?hz ?hP ?hm
      case F => k_asm
      case N => k_asm
      case hk =>
        intro p hp
        rw [List.mem_singleton.mp hp]
        exact rfl
      case hn =>
        intro p hp
        rcases List.mem_cons.mp hp with rfl | hp
        · exact .tail _ (.head _)
        · exact .tail _ (.tail _ hp)
      case hz => ksw_same
      case hm => show ks.length - (i + 1) < ks.length - i; omega
      case hP =>
        refine ⟨by show i + 1 ≤ ks.length; omega, ?_⟩
        show StrsAre (vs ++ [_]) ((ks.take (i + 1)).map chrS)
        rw [take_chr (by omega)]
        exact hss.append' (.cons _ _ .nil)
    · have hik : i = ks.length := by omega
      subst hik
      rw [List.take_length, join_chr]
      exact hret _ _ _ _ (by k_asm) (by (rename News _ _ _ _ => NZ); exact news_sub NZ fun p hp => .tail _ hp) ⟨_, rfl, rfl⟩
end
end Mine
end
section
set_option maxRecDepth 100000
open PySem PySem.W PyProof.Rows
namespace Mine
section
local macro_rules | `(tactic| walk_at "call ref") => `(tactic| (k_here; k_dflt (refine' does_use ?D ?B ?F ?X ?N ?T ?K ?d ?u ?_; (case B => k_asm); (case F => k_asm); (case X => k_asm); (case N => k_asm); (case T => k_asm); (case D => k_extra "does"); (case K => first | exact rfl | assumption); (case d => ktr_room); (case u => ktr_units); k_extra "done")))
local macro_rules | `(tactic| walk_at "exec While Compare cons nil") => `(tactic| (refine Stop.of ?_))
local macro_rules | `(tactic| walk_at "call builtin:str.join") => `(tactic| (k_here; k_dflt (refine' join_listW ?l ?i ?s ?w ?_; (case l => is_list); (case i => assumption); (case s => decide); (case w => k_extra "weigh")); intro t' k'))
local macro_rules | `(tactic| walk_at "call builtin:list.append") => `(tactic| (k_here; k_dflt (refine' append_K ?k1 ?k2 ?k3 ?_ ?z; (case k1 => k_asm); (case k2 => k_asm); (case k3 => k_upd); (case z => size_fits); k_whole); intro h' F' N'; (try k_sweep)))
local macro_rules | `(tactic| k_all) => `(tactic| assumption)
local macro_rules | `(tactic| walk_at "WPost") => `(tactic| (dsimp only [WPost]))
set_option maxHeartbeats 4000000 in
theorem text_in (w : World) (cset : Str) (hcs : cset = Str.ofString "utf-8" ∨ cset = Str.ofString "us-ascii") (bs : Array UInt8) (ks : List Int) (tc tb : Tok) (news : Led) (hks : KBw.bInts bs = ks) (hsz : ks.length < 1000) (hlow : ∀ k ∈ ks, 0 ≤ k ∧ k < 128) :
    Does w 123 4 48 [.str cset tc, .bytes bs tb] news
      (fun v news' => ∃ t, v = .str (⟨(ks.map Int.toNat).toArray⟩ : Str) t ∧ news' = news) := by
  intro dp un gd cn cs a ccd cl outer A₀ base h₀ L m s mean mg mb Q E B F X N T hk hdp hun hret
  w_on
  k_with_none
  k_with "does" => exact need_charset w _ _ _ hcs
  k_with "does" => exact sign_at w _ _ _ _ _ _ _ _ hcs hks (by omega) (by omega) hsz hlt9
  k_with "weigh" => exact weigh_chr _ (by rw [List.length_take]; omega)
  k_with "done" => (rintro _ _ h9 tk9 F9 N9 ⟨T9, t91, t92, k9, rfl, rfl, l9⟩; (try k_lt l9); (try k_sweep))
  k_with "done" => (rintro _ _ h9 tk9 F9 N9 ⟨rfl, e9⟩; replace e9 := e9.symm; subst e9; (try k_sweep))
  refine wpAny_call ?_
  k_dflt ktr_enter
  k_steps
  · unfold Stop
    rename_i ls hA l1 hB hC FW NW
    have l2 := lt_ne l1
    refine my_while (fun c : Nat × Tok × List Value × Nat => (ls, listOf c.2.2.1.toArray c.2.2.2) :: news) (fun c => [(Str.ofString "at", .int (c.1 : Int) c.2.1)]) [Str.ofString "code", Str.ofString "length", Str.ofString "at"]
      (fun c => c.1 ≤ ks.length ∧ StrsAre c.2.2.1 ((ks.take c.1).map chrS)) (fun c => ks.length - c.1) (0, ?t0, [], 0) FW NW ?hn ?hk ?hp ?turn
    case hk =>
      intro p hp
      rw [List.mem_singleton.mp hp]
      exact rfl
    case hn => exact fun p hp => hp
    case hp => exact ⟨Nat.zero_le _, StrsAre.nil⟩
    clear FW NW
    rintro ⟨i, ti, vs, ep⟩ u hp tk ⟨hi, hss⟩ FC NC
    dsimp only [midM, kstB] at hi hss FC NC ⊢
    have hlen9 := StrsAre.length hss
    have hlen8 : vs.length < 1000 := by rw [hlen9, List.length_map, List.length_take]; omega
    clear hlen9
    obtain ⟨hge9, hlt9⟩ : 0 ≤ ks.getD (i : Int).toNat 0 ∧ ks.getD (i : Int).toNat 0 < 128 := getD_low hlow _
    k_steps
    · (rename News _ _ _ _ => NZ)
      simp only [List.push_toArray] at NZ
      refine' WEnd.mk9 (i + 1, _, vs ++ [.str (chrS (ks.getD (i : Int).toNat 0)) (tk + 1)], ep + 1) ?F ?N ?hn ?hk ?hz ?hP ?hm
      case F => k_asm
      case N => k_asm
      case hk =>
        intro p hp
        rw [List.mem_singleton.mp hp]
        exact rfl
      case hn =>
        intro p hp
        rcases List.mem_cons.mp hp with rfl | hp
        · exact .tail _ (.head _)
        · exact .tail _ (.tail _ hp)
      case hz => ksw_same
      case hm => show ks.length - (i + 1) < ks.length - i; omega
      case hP =>
        refine ⟨by show i + 1 ≤ ks.length; omega, ?_⟩
        show StrsAre (vs ++ [_]) ((ks.take (i + 1)).map chrS)
        rw [take_chr (by omega)]
        exact hss.append' (.cons _ _ .nil)
    · have hik : i = ks.length := by omega
      subst hik
      rw [List.take_length, join_chr]
      exact hret _ _ _ _ (by k_asm) (by (rename News _ _ _ _ => NZ); exact news_sub NZ fun p hp => .tail _ hp) ⟨_, rfl, rfl⟩
end
end Mine
end
section
set_option maxRecDepth 100000
open PySem PySem.W PyProof.Rows
namespace Mine
section
local macro_rules | `(tactic| walk_at "call ref") => `(tactic| (k_here; k_dflt (refine' does_use ?D ?B ?F ?X ?N ?T ?K ?d ?u ?_; (case B => k_asm); (case F => k_asm); (case X => k_asm); (case N => k_asm); (case T => k_asm); (case D => k_extra "does"); (case K => first | exact rfl | assumption); (case d => ktr_room); (case u => ktr_units); k_extra "done")))
set_option maxHeartbeats 4000000 in
theorem guessed_text (w : World) (bs : Array UInt8) (ks : List Int) (tb : Tok) (news : Led) (hks : KBw.bInts bs = ks) (hsz : ks.length < 1000) (hlow : ∀ k ∈ ks, 0 ≤ k ∧ k < 128) :
    Does w 137 6 64 [.bytes bs tb] news (fun v news' => ∃ t, v = .str (textOf ks) t ∧ news' = news) := by
  intro dp un gd cn cs a ccd cl outer A₀ base h₀ L m s mean mg mb Q E B F X N T hk hdp hun hret
  w_on
  k_with_none
  k_with "does" => exact strict_text w _ _ _ _ _ hks hsz hlow
  k_with "done" => (rintro _ _ h9 tk9 F9 N9 ⟨t9, rfl, e9⟩; replace e9 := e9.symm; subst e9; (try k_sweep))
  refine wpAny_call ?_
  k_dflt ktr_enter
  k_steps
  all_goals exact hret _ _ _ _ (by k_asm) (by k_asm) ⟨_, rfl, rfl⟩
end
end Mine
end
section
set_option maxRecDepth 100000
open PySem PySem.W PyProof.Rows PySem.Spec PySem.Calls LCg
namespace Mine
section
variable {prog : Program} {w : World} {A : Around} {E : Value → Shared → Prop} {s : Shared} {h₀ : Heap} {L : Addr} {m : Str → Option Value} {env : Env}

/-- what one turn of a comprehension is to do: the element's value is good, the ledger stands -/
def EltDoes (prog : Program) (w : World) (A : Around) (h₀ : Heap) (L : Addr) (m : Str → Option Value) (env : Env) (elt : Expr) (x : Str) (scope : Scope) (cl : List (Str × Addr)) (s₂ : Shared) (news : Led) (v : Value) (G : Value → Prop) : Prop :=
  ∀ I oI C oC D ys m₂ h tk (E' : Value → Shared → Prop), NsObj oC m₂ → m₂ x = some v → Fr h₀ L h m → News h₀ L h ((I, oI) :: (C, oC) :: (D, lst ys) :: news) → (∀ p ∈ news, p.1 ≠ I ∧ p.1 ≠ C ∧ p.1 ≠ D) →
    wpAny (model prog w) A (eval elt (compEnvC scope cl C env)) (fun y s' => EltEnd h₀ L m s₂ ((I, oI) :: (C, oC) :: (D, lst ys) :: news) G y s') E' { s₂ with heap := h, toks := tk }
where
  EltEnd (h₀ : Heap) (L : Addr) (m : Str → Option Value) (s₂ : Shared) (all : Led) (G : Value → Prop) (y : Value) (s' : Shared) : Prop :=
    ∃ h' tk', s' = { s₂ with heap := h', toks := tk' } ∧ Fr h₀ L h' m ∧ News h₀ L h' all ∧ G y

theorem elt_end {h₀ : Heap} {L : Addr} {m : Str → Option Value} {s₂ : Shared} {all news' : Led} {G : Value → Prop} {y : Value} {h' : Heap} {tk' : Nat} (F : Fr h₀ L h' m) (N : News h₀ L h' news') (hs : ∀ p ∈ all, p ∈ news') (g : G y) :
    EltDoes.EltEnd h₀ L m s₂ all G y { s₂ with heap := h', toks := tk' } := ⟨h', tk', rfl, F, news_sub N hs, g⟩

theorem rest_of {elt : Expr} {x : Str} {scope : Scope} {cl : List (Str × Addr)} {s₂ : Shared} {news : Led} {n : Nat} {P : Nat → Value → Prop} {G : Nat → Value → Prop} {S : Led → Prop} {Fin : List Value → Led → Prop} (hS : S news)
    (turn : ∀ i v, i < n → P i v → EltDoes prog w A h₀ L m env elt x scope cl s₂ news v (G i)) (done : ∀ ys, ys.length = n → (∀ i y, ys[i]? = some y → G i y) → Fin ys news) :
    ∀ (k i : Nat) (ys : List Value), i + k = n → ys.length = i → (∀ j y, ys[j]? = some y → G j y) → CompRest prog w A h₀ L m env elt x scope cl s₂ S P Fin k i ys news := by
  intro k
  induction k with
  | zero =>
    intro i ys h1 h2 h3
    exact CompRest.zero (done ys (by omega) h3)
  | succ k ih =>
    intro i ys h1 h2 h3
    refine CompRest.succ fun v I oI C oC D m₂ h tk E' hP hC hx F N off ne => ?_
    refine wpAny_mono (turn i v (by omega) hP I oI C oC D ys m₂ h tk E' hC hx F N off.mem) (fun y s' hy => ?_) fun _ _ e => e
    obtain ⟨h', tk', rfl, F', N', g⟩ := hy
    refine CompEnd.intro F' N' news (fun p hp => hp) off hS (ih (i + 1) (ys ++ [y]) (by omega) (by rw [List.length_append, h2]; rfl) fun j z hz => ?_)
    by_cases hj : j < ys.length
    · rw [List.getElem?_append_left hj] at hz; exact h3 j z hz
    · rw [List.getElem?_append_right (by omega)] at hz
      have hj' : j - ys.length = 0 := by
        cases hq : j - ys.length with
        | zero => rfl
        | succ q => rw [hq] at hz; simp at hz
      rw [hj'] at hz
      simp at hz
      have : j = i := by omega
      rw [this, ← hz]; exact g

/-- the source of a comprehension: an iterator over n things -/
structure CompIt (prog : Program) (w : World) (A : Around) (h₀ : Heap) (L : Addr) (m : Str → Option Value) (n : Nat) (P : Nat → Value → Prop) (news : Led) (it : Value) (s₂ : Shared) : Prop where
  ex : ∃ (I : Addr) (fp : List Addr) (St : Nat → Heap → Prop), it = .ref I ∧ Walks prog w A I fp [I] n P St ∧ n ≤ sizeLine ∧ (∀ i h, St i h → ∃ o, h.get? I = some o) ∧
    (∀ i h h' o, St i h → h.get? I = some o → h'.get? I = some o → St i h') ∧ St 0 s₂.heap ∧ (∀ b ∈ fp, b < s₂.heap.objs.size) ∧ L ≠ I ∧ h₀.get? I = none ∧ ∀ p ∈ news, p.1 ≠ I
  fr : Fr h₀ L s₂.heap m
  nw : News h₀ L s₂.heap news

theorem comp_any {elt iter : Expr} {x : Str} {px : Pos} {scope : Scope} {cl : List (Str × Addr)} {pos : Pos} {Q : Value → Shared → Prop} {n : Value → Nat} {P G : Value → Nat → Value → Prop}
    (hclos : closureFor scope env = pure cl) (hcell : ∀ y ∈ scope.names, y.2 ≠ .cell) (hkind : scope.kind = .function)
    (hnames : ∀ y ∈ scope.names, y.2 = .local → scope.names.lookup y.1 = some .local) (hx : scope.names.lookup x = some .local)
    (h : wpAny (model prog w) A (eval iter env) (fun xv s₁ => wpAny (model prog w) A (pyIter xv) (fun it s₂ => ∃ news, CompIt prog w A h₀ L m (n xv) (P xv) news it s₂ ∧
      (∀ i v, i < n xv → P xv i v → EltDoes prog w A h₀ L m env elt x scope cl s₂ news v (G xv i)) ∧
      (∀ D ys h tk, Fr h₀ L h m → News h₀ L h ((D, lst ys) :: news) → (∀ p ∈ news, p.1 ≠ D) → ys.length = n xv → (∀ i y, ys[i]? = some y → G xv i y) → Q (.ref D) { s₂ with heap := h, toks := tk })) E s₁) E s)
    (hs : ∀ x, foldedSetIterable iter env x = pure x := by intro _; rfl) :
    wpAny (model prog w) A (eval (.ListComp elt [⟨.Name x px, iter, [], 0⟩] scope pos) env) Q E s := by
  rw [eval_ListComp]
  refine wpAny_comprehension_free (use := none) rfl hs hclos hkind hnames (wpAny_mono h (fun xv s₁ h₁ => wpAny_mono h₁ (fun it s₂ h₂ => ?_) fun _ _ e => e) fun _ _ e => e)
  obtain ⟨news, ⟨⟨I, fp, St, rfl, W, hsz, hIo, hSt, st0, hfp, hIL, hI0, off⟩, F, N⟩, turn, done⟩ := h₂
  refine block_U (S := fun _ => True) W hsz hIo (fun i h h' o nw a b c _ _ _ => hSt i h h' o a b c) hcell hkind hx st0 hfp F N hIL hI0 off trivial
    (rest_of (Fin := fun ys nw => nw = news ∧ ys.length = n xv ∧ ∀ i y, ys[i]? = some y → G xv i y) trivial turn (fun ys a b => ⟨rfl, a, b⟩) (n xv) 0 [] (by omega) rfl (fun j y hj => by simp at hj)) ?_
  rintro D C h tk m' ys news' F' N' o1 hn hC₀ hD₀ hCL hDL hCD offC ⟨rfl, hl, hg⟩
  refine ⟨m', hn, fun h'' hs'' => done D ys h'' tk (F'.change hs'' hCL hC₀) (fun p hp => ?_) (fun p hp => ?_) hl hg⟩
  · refine ⟨hs''.extBut _ _ ?_ (N' p hp).1, (N' p hp).2⟩
    rcases List.mem_cons.mp hp with rfl | hp
    · exact Ne.symm hCD
    · exact offC p hp
  · have : ∀ {l : Led}, Off1 D l → ∀ p ∈ l, p.1 ≠ D := by
      intro l
      induction l with
      | nil => intro _ p hp; cases hp
      | cons x l ih =>
        intro h p hp
        rcases List.mem_cons.mp hp with rfl | hp
        · exact h.1
        · exact ih h.2 p hp
    exact this o1 p hp

/-- over bytes -/
def BytesSrc (prog : Program) (w : World) (A : Around) (h₀ : Heap) (L : Addr) (m : Str → Option Value) (env : Env) (elt : Expr) (x : Str) (scope : Scope) (cl : List (Str × Addr)) (G : Int → Value → Prop) (Q : Value → Shared → Prop) (xv : Value) (s₁ : Shared) : Prop :=
  ∃ bs t news, xv = .bytes bs t ∧ A.handled = none ∧ bs.size ≤ sizeLine ∧ Fr h₀ L s₁.heap m ∧ News h₀ L s₁.heap news ∧
    (∀ k tk' h', k ∈ KBw.bInts bs → EltDoes prog w A h₀ L m env elt x scope cl { s₁ with heap := h' } news (.int k tk') (G k)) ∧
    (∀ D ys h tk, Fr h₀ L h m → News h₀ L h ((D, lst ys) :: news) → (∀ p ∈ news, p.1 ≠ D) → ys.length = (KBw.bInts bs).length → (∀ (i : Nat) y, ys[i]? = some y → ∃ k, (KBw.bInts bs)[i]? = some k ∧ G k y) → Q (.ref D) { s₁ with heap := h, toks := tk })

theorem comp_bytes {elt iter : Expr} {x : Str} {px : Pos} {scope : Scope} {cl : List (Str × Addr)} {pos : Pos} {Q : Value → Shared → Prop} (G : Int → Value → Prop) (_F₀ : Fr h₀ L s.heap m)
    (hclos : closureFor scope env = pure cl) (hcell : ∀ y ∈ scope.names, y.2 ≠ .cell) (hkind : scope.kind = .function)
    (hnames : ∀ y ∈ scope.names, y.2 = .local → scope.names.lookup y.1 = some .local) (hx : scope.names.lookup x = some .local)
    (h : wpAny (model prog w) A (eval iter env) (BytesSrc prog w A h₀ L m env elt x scope cl G Q) E s)
    (hs : ∀ x, foldedSetIterable iter env x = pure x := by intro _; rfl) :
    wpAny (model prog w) A (eval (.ListComp elt [⟨.Name x px, iter, [], 0⟩] scope pos) env) Q E s := by
  refine comp_any (n := fun xv => match xv with | .bytes b _ => b.size | _ => 0) (P := fun xv i v => match xv with | .bytes b _ => ∃ c u, b[i]? = some c ∧ v = .int (c.toNat : Int) u | _ => False)
    (G := fun xv i y => match xv with | .bytes b _ => ∃ k, (KBw.bInts b)[i]? = some k ∧ G k y | _ => False) (h₀ := h₀) (L := L) (m := m) hclos hcell hkind hnames hx (wpAny_mono h (fun xv s₁ h₁ => ?_) fun _ _ e => e) hs
  obtain ⟨bs, t, news, rfl, hh, hsz, F, N, turn, done⟩ := h₁
  refine KBw.pyIter_bytes ⟨news, ⟨⟨s₁.heap.objs.size, [s₁.heap.objs.size], _, rfl, KBw.walks hh s₁.heap.objs.size bs t, hsz, fun i h st => let ⟨o, ho, _⟩ := st; ⟨o, ho⟩, ?_, ⟨_, Heap.get?_push_size _ rfl, rfl, rfl⟩, ?_, Nat.ne_of_lt F.ns.lt, next_is_new F, fun p hp => Nat.ne_of_lt (Heap.lt_size (N p hp).1)⟩, F.push _, fun p hp => ⟨Heap.get?_push_of_some _ (N p hp).1, (N p hp).2⟩⟩, ?_, ?_⟩
  · rintro i h h' o ⟨o', ho', r⟩ e e'
    rw [e] at ho'; cases ho'
    exact ⟨o, e', r⟩
  · intro b hb
    rw [List.mem_singleton.mp hb]
    show s₁.heap.objs.size < (s₁.heap.push _).objs.size
    rw [Heap.size_push]; exact Nat.lt_succ_self _
  · rintro i v hi ⟨c, u, hc, rfl⟩
    have hk := KBw.ints_get hc
    intro I oI C oC D ys m₂ h tk E' h1 h2 h3 h4 h5
    refine wpAny_mono (turn _ u _ (List.mem_of_getElem? hk) I oI C oC D ys m₂ h tk E' h1 h2 h3 h4 h5) (fun y s' hy => ?_) fun _ _ e => e
    obtain ⟨h', tk', e, a, b, g⟩ := hy
    exact ⟨h', tk', e, a, b, _, hk, g⟩
  · intro D ys h tk F' N' o hl hg
    exact done D ys h tk F' N' o (by rw [KBw.ints_length]; exact hl) hg
end
end Mine
end
section
set_option maxRecDepth 100000
open PySem PySem.W PyProof.Rows PySem.Builtin PySem.Calls
namespace Mine
section
variable {prog : Program} {w : World} {A : Around} {E : Value → Shared → Prop} {s : Shared} {h₀ : Heap} {L : Addr} {m : Str → Option Value} {news : Led} {b c : Array UInt8} {i : Int} {t u : Tok}
theorem gives_in (h0 : 0 ≤ i) (h1 : i < 256) : Gives («bytes.__contains__» ⟨[.bytes b t, .int i u], []⟩) (.val (.bool (b.contains i.toNat.toUInt8))) := by
  refine .of_wp fun M A E s Q hq => ?_
  show wpAny M A (Bytes.containsIn "bytes.__contains__" (.bytes b t) (.int i u) >>= fun r => ret (.bool r)) _ E s
  refine wpAny_bind ?_
  unfold Bytes.containsIn
  refine wpAny_bind (wpAny_attempt ?_)
  show wpAny M A (pure i) _ _ s
  refine wpAny_pure ?_
  rw [KBy.buffer_eq]
  refine wpAny_bind (wpAny_pure ?_)
  dsimp only
  have hn : ¬ ((decide (i < 0) || decide (i ≥ 256)) = true) := by
    rw [Bool.or_eq_true, decide_eq_true_eq, decide_eq_true_eq]; omega
  rw [if_neg hn]
  refine wpAny_pure ?_
  exact wpAny_pure ⟨_, rfl, hq⟩
theorem notIn_bytes {Q : Value → Shared → Prop} (h0 : 0 ≤ i) (h1 : i < 256) (h : Q (.bool (!(b.contains i.toNat.toUInt8))) s) : wpAny (model prog w) A (compareOp .NotIn (.int i u) (.bytes b t)) Q E s :=
  notIn_gives (typeIs_bytes s b t) FB.slot_bytes_contains FB.entry_bytes_contains (FB.args_bytes_contains_2 _ _) (gives_in h0 h1) h

theorem slot_index : Slot "bytes" "index" "bytes.index" :=
  .of (owner := "bytes") (n := "index") (by rw [typeLookup_type, builtinLookup_eq_fast]; kernel_rfl) (by decide +kernel) (by decide +kernel) (by decide +kernel)
    (by first | exact .inl (by decide +kernel) | exact .inr (by decide +kernel)) (by rw [isSubtype_type]; kernel_rfl)
theorem type_index : typeOf (.builtin "bytes.index") = pure (.type "method_descriptor") := by show builtinType _ = _; rw [builtinType_eq_fast]; kernel_rfl
theorem entry_index : entryFor table "bytes.index" = some Builtin.«bytes.index» := entryFor_of_tree (by kernel_rfl)
theorem args_index (a b : Value) : argsOk "bytes.index" ⟨[a, b], []⟩ := by unfold argsOk; kernel_rfl
theorem slot_split : Slot "bytes" "split" "bytes.split" :=
  .of (owner := "bytes") (n := "split") (by rw [typeLookup_type, builtinLookup_eq_fast]; kernel_rfl) (by decide +kernel) (by decide +kernel) (by decide +kernel)
    (by first | exact .inl (by decide +kernel) | exact .inr (by decide +kernel)) (by rw [isSubtype_type]; kernel_rfl)
theorem type_split : typeOf (.builtin "bytes.split") = pure (.type "method_descriptor") := by show builtinType _ = _; rw [builtinType_eq_fast]; kernel_rfl
theorem entry_split : entryFor table "bytes.split" = some Builtin.«bytes.split» := entryFor_of_tree (by kernel_rfl)
theorem args_split2 (a b : Value) : argsOk "bytes.split" ⟨[a, b], []⟩ := by unfold argsOk; kernel_rfl
theorem args_split3 (a b c : Value) : argsOk "bytes.split" ⟨[a, b, c], []⟩ := by unfold argsOk; kernel_rfl
theorem meth_index {M : Model} {pl : Sem Bool} {Q : Value × List Value → Shared → Prop} (h : Q (.builtin "bytes.index", [.bytes b t]) s) : wpAny M A (getMethod (.bytes b t) "index" pl) Q E s :=
  getMethod_builtin (typeIs_bytes _ _ _) FB.plainAttrs_bytes slot_index type_index (fun _ e => nomatch e) h
theorem meth_split {M : Model} {pl : Sem Bool} {Q : Value × List Value → Shared → Prop} (h : Q (.builtin "bytes.split", [.bytes b t]) s) : wpAny M A (getMethod (.bytes b t) "split" pl) Q E s :=
  getMethod_builtin (typeIs_bytes _ _ _) FB.plainAttrs_bytes slot_split type_split (fun _ e => nomatch e) h

theorem look_int_buffer : typeLookup (.type "int") "__buffer__" = pure none := by rw [typeLookup_type, builtinLookup_eq_fast]; kernel_rfl
theorem buffer_int {id : String} : Bytes.buffer? id (.int i u) = pure none := by
  have e : specialOf (.int i u) "__buffer__" = pure none := by
    show typeLookup (.type "int") "__buffer__" = _
    exact look_int_buffer
  unfold Bytes.buffer?
  rw [e]
  rfl
theorem search_eq (h0 : 0 ≤ i) (h1 : i < 256) : Bytes.searchArgs .bytes "index" ⟨[.bytes b t, .int i u], []⟩ = pure (b, #[i.toNat.toUInt8], if ((min (b.size : Int) b.size) - 0 : Int) < 1 then none else some (0, (min (b.size : Int) b.size).toNat)) := by
  unfold Bytes.searchArgs
  have hn : ¬ ((decide (i < 0) || decide (i ≥ 256)) = true) := by
    rw [Bool.or_eq_true, decide_eq_true_eq, decide_eq_true_eq]; omega
  have es : ∀ id : String, selfAndSome id "index" 1 3 ⟨[.bytes b t, .int i u], []⟩ = pure (.bytes b t, [.int i u]) := fun _ => rfl
  have eb : Bytes.bound? ([Value.int i u][1]?) = pure none := rfl
  have eb2 : Bytes.bound? ([Value.int i u][2]?) = pure none := rfl
  have e : specialOf (.int i u) "__index__" = pure (some (.builtin "int.__index__")) := by
    show typeLookup (.type "int") "__index__" = _
    exact F.slot_int_index.lookup
  have e2 : Bytes.indexHeld [.bytes b t] (.int i u) = pure i := rfl
  have e3 : Bytes.payload (.bytes b t) = pure b := rfl
  dsimp only
  rw [es]
  simp only [pure_bind, eb, eb2, List.headD_cons, buffer_int, e, Option.isNone_some, Bool.false_eq_true, if_false, e2, if_neg hn, e3]
  rfl
theorem gives_index {j : Nat} (h0 : 0 ≤ i) (h1 : i < 256) (hj : Bytes.find? b #[i.toNat.toUInt8] 0 b.size = some j) (hb : 1 ≤ b.size) : Gives («bytes.index» ⟨[.bytes b t, .int i u], []⟩) (.int j) := by
  refine .of_eq ?_
  show (Bytes.searchArgs .bytes "index" ⟨[.bytes b t, .int i u], []⟩ >>= fun r => _) = _
  rw [search_eq h0 h1]
  have e : (if ((min (b.size : Int) b.size) - 0 : Int) < 1 then none else some (0, (min (b.size : Int) b.size).toNat)) = some (0, b.size) := by
    rw [if_neg (by omega)]
    simp
  rw [e]
  show (match Bytes.find? b #[i.toNat.toUInt8] 0 b.size with | some i => retInt i | none => _) = _
  rw [hj]
  rfl
theorem index_bytes {j : Nat} {Q : Value → Shared → Prop} (h0 : 0 ≤ i) (h1 : i < 256) (hb : 1 ≤ b.size) (hj : Bytes.find? b #[i.toNat.toUInt8] 0 b.size = some j) (h : Q (.int j s.toks) { s with toks := s.toks + 1 }) :
    wpAny (model prog w) A (call (.builtin "bytes.index") [.bytes b t, .int i u]) Q E s :=
  call_gives slot_index (typeIs_bytes _ _ _) entry_index (args_index _ _) (gives_index h0 h1 hj hb) h
end
end Mine
end
section
set_option maxRecDepth 100000
open PySem PySem.W PyProof.Rows PySem.Builtin PySem.Calls
namespace Mine
section
variable {prog : Program} {w : World} {A : Around} {E : Value → Shared → Prop} {s : Shared} {h₀ : Heap} {L : Addr} {m : Str → Option Value} {news : Led} {b sep : Array UInt8} {t u v : Tok}
theorem bind2 (id : String) (x : Value) : Bytes.bindOptional id "split" ["sep", "maxsplit"] [x] [] = pure [some x, none] := rfl
theorem bind3 (id : String) (x y : Value) : Bytes.bindOptional id "split" ["sep", "maxsplit"] [x, y] [] = pure [some x, some y] := rfl
theorem count_eq (id : String) (k : Int) (h : Bytes.fitsIndex k = true) : Bytes.countArg id (.int k v) = pure k := by
  unfold Bytes.countArg
  show (if (!Bytes.fitsIndex k) = true then _ else pure k) = _
  rw [h]
  rfl
/-- the parts, as values -/
def PartsAre (vs : List Value) (ps : List (Array UInt8)) : Prop := vs.length = ps.length ∧ ∀ (i : Nat) (p : Array UInt8), ps[i]? = some p → ∃ t, vs[i]? = some (Value.bytes p t)
theorem map_new {M : Model} : ∀ (ps : List (Array UInt8)) (s : Shared) (Q : List Value → Shared → Prop) (E : Value → Shared → Prop), (∀ p ∈ ps, p.size ≤ sizeLine) →
    (∀ vs k, PartsAre vs ps → Q vs { s with toks := k }) → wpAny M A (ps.mapM Bytes.Kind.bytes.new) Q E s
  | [], s, Q, E, _, h => by
    rw [List.mapM_nil]
    exact wpAny_pure (h [] s.toks ⟨rfl, fun i p hp => by simp at hp⟩)
  | p :: ps, s, Q, E, hz, h => by
    rw [List.mapM_cons]
    refine wpAny_bind ?_
    show wpAny M A (mkBytes p) _ E s
    refine wpAny_mkBytes ?_ (hz p (.head _))
    refine wpAny_bind (map_new ps _ _ _ (fun q hq => hz q (.tail _ hq)) fun vs k hv => ?_)
    refine wpAny_pure (h _ k ⟨by rw [List.length_cons, List.length_cons, hv.1], fun i q hq => ?_⟩)
    cases i with
    | zero => exact ⟨s.toks, by simp at hq; simp [hq]⟩
    | succ i => exact hv.2 i q (by simpa using hq)

def splitQ (b sep : Array UInt8) (lim : Nat) : List Nat := (Bytes.occurrences b sep 0 b.size).take lim
theorem split_core {id : String} {lim : Nat} {ps : List (Array UInt8)} {Q : Value → Shared → Prop} (F : Fr h₀ L s.heap m) (N : News h₀ L s.heap news)
    (hps : (if (splitQ b sep lim).isEmpty = true then [b] else Bytes.between b sep.size (splitQ b sep lim)) = ps) (hz : ∀ p ∈ ps, p.size ≤ sizeLine) (hl : ps.length ≤ sizeLine)
    (h : ∀ D vs h' k, Fr h₀ L h' m → News h₀ L h' ((D, listOf vs.toArray 0) :: news) → (∀ p ∈ news, p.1 < D) → PartsAre vs ps → Q (.ref D) { s with heap := h', toks := k }) :
    wpAny (model prog w) A.in1 (if (splitQ b sep lim).isEmpty = true then (do rule (toString id ++ toString ".no-separator"); ret (← newList [← Bytes.Kind.bytes.same (.bytes b t)])) else do ret (← newList (← (Bytes.between b sep.size (splitQ b sep lim)).mapM Bytes.Kind.bytes.new)))
      (fun fin s' => ∃ v, fin = .done (.ret v) ∧ Q v s') E s := by
  by_cases he : (splitQ b sep lim).isEmpty = true
  · rw [if_pos he] at hps ⊢
    refine wpAny_bind (wpAny_rule ?_)
    have es : Bytes.Kind.bytes.same (.bytes b t) = pure (.bytes b t) := rfl
    rw [es]
    refine wpAny_bind (wpAny_pure (wpAny_bind (newList_K F N (fun D h' F' N' lt => ?_) ?hsz)))
    case hsz => show 1 ≤ sizeLine; rw [sizeLine_eq]; omega
    refine wpAny_pure ⟨_, rfl, h D [.bytes b t] h' s.toks F' N' lt ⟨by rw [← hps]; rfl, fun i p hp => ?_⟩⟩
    rw [← hps] at hp
    cases i with
    | zero => exact ⟨t, by simp at hp; simp [hp]⟩
    | succ i => simp at hp
  · rw [if_neg he] at hps ⊢
    rw [hps]
    refine wpAny_bind (map_new ps _ _ _ hz fun vs k hv => wpAny_bind (newList_K F N (fun D h' F' N' lt => ?_) ?hsz))
    case hsz => rw [hv.1]; exact hl
    exact wpAny_pure ⟨_, rfl, h D vs h' k F' N' lt hv⟩

theorem split_bytes3 {k : Int} {ps : List (Array UInt8)} {Q : Value → Shared → Prop} (F : Fr h₀ L s.heap m) (N : News h₀ L s.heap news) (hk : Bytes.fitsIndex k = true) (hs : sep.isEmpty = false)
    (hps : (if (splitQ b sep (if k < 0 then b.size + 1 else k.toNat)).isEmpty = true then [b] else Bytes.between b sep.size (splitQ b sep (if k < 0 then b.size + 1 else k.toNat))) = ps) (hz : ∀ p ∈ ps, p.size ≤ sizeLine) (hl : ps.length ≤ sizeLine)
    (h : ∀ D vs h' k, Fr h₀ L h' m → News h₀ L h' ((D, listOf vs.toArray 0) :: news) → (∀ p ∈ news, p.1 < D) → PartsAre vs ps → Q (.ref D) { s with heap := h', toks := k }) :
    wpAny (model prog w) A (call (.builtin "bytes.split") [.bytes b t, .bytes sep u, .int k v]) Q E s := by
  refine wpAny_call_entry slot_split (typeIs_bytes _ _ _) entry_split ?_ (args_split3 _ _ _)
  unfold Builtin.«bytes.split» Bytes.splitM
  have e3 : Bytes.payload (.bytes b t) = pure b := rfl
  simp only [bind3, pure_bind, count_eq _ k hk, e3, KBd.like_eq, hs, Bool.false_eq_true, if_false]
  exact split_core F N hps hz hl h
theorem split_bytes2 {ps : List (Array UInt8)} {Q : Value → Shared → Prop} (F : Fr h₀ L s.heap m) (N : News h₀ L s.heap news) (hs : sep.isEmpty = false)
    (hps : (if (splitQ b sep (b.size + 1)).isEmpty = true then [b] else Bytes.between b sep.size (splitQ b sep (b.size + 1))) = ps) (hz : ∀ p ∈ ps, p.size ≤ sizeLine) (hl : ps.length ≤ sizeLine)
    (h : ∀ D vs h' k, Fr h₀ L h' m → News h₀ L h' ((D, listOf vs.toArray 0) :: news) → (∀ p ∈ news, p.1 < D) → PartsAre vs ps → Q (.ref D) { s with heap := h', toks := k }) :
    wpAny (model prog w) A (call (.builtin "bytes.split") [.bytes b t, .bytes sep u]) Q E s := by
  refine wpAny_call_entry slot_split (typeIs_bytes _ _ _) entry_split ?_ (args_split2 _ _)
  unfold Builtin.«bytes.split» Bytes.splitM
  have e3 : Bytes.payload (.bytes b t) = pure b := rfl
  simp only [bind2, pure_bind, e3, KBd.like_eq, hs, Bool.false_eq_true, if_false, show ((-1 : Int) < 0) = True from by simp, if_true]
  exact split_core F N hps hz hl h
end
end Mine
end
section
set_option maxRecDepth 100000
open PySem PySem.W PyProof.Rows LCg PySem.Builtin
namespace Mine
section
local macro_rules | `(tactic| walk_at "call ref") => `(tactic| (k_here; k_dflt (refine' does_use ?D ?B ?F ?X ?N ?T ?K ?d ?u ?_; (case B => k_asm); (case F => k_asm); (case X => k_asm); (case N => k_asm); (case T => k_asm); (case D => k_extra "does"); (case K => first | exact rfl | assumption); (case d => ktr_room); (case u => ktr_units); k_extra "done")))
local macro_rules | `(tactic| k_all) => `(tactic| first | assumption | exact lt_ne (by assumption))
local macro_rules | `(tactic| walk_at "call builtin:list.append") => `(tactic| (k_here; k_dflt (refine' append_K ?k1 ?k2 ?k3 ?_ ?z; (case k1 => k_asm); (case k2 => k_asm); (case k3 => k_upd); (case z => size_fits); k_whole); intro h' F' N'; (try k_sweep)))
local macro_rules | `(tactic| walk_at "eval ListComp") => `(tactic| (k_here; k_extra "comp"))
local macro_rules | `(tactic| walk_at "call type:bytes") => `(tactic| (k_here; k_dflt (refine' bytes_K ?F ?N ?l ?i ?r ?z ?h ?_; (case F => k_asm); (case N => k_asm); (case l => is_list); (case i => first | assumption | l_ints); (case r => first | by_in | decide +kernel | k_extra "bytes"); (case z => size_fits); (case h => with_unfolding_all rfl); k_whole); intro h' t' k' F' N' hB'; clear hB'; (try dsimp only [List.map]); (try k_sweep)))

local macro_rules | `(tactic| walk_at "compareOp NotIn int bytes") => `(tactic| (k_here; refine notIn_bytes (by decide) (by decide) ?_))
local macro_rules | `(tactic| walk_at "getMethod bytes") => `(tactic| (k_here; refine meth_index ?_))
theorem index_52 {prog : Program} {w : World} {A : Around} {E : Value → Shared → Prop} {s : Shared} {Q : Value → Shared → Prop} {i : Int} {t u : Tok} (hi : i = 52) (h : Q (.int 4 s.toks) { s with toks := s.toks + 1 }) :
    wpAny (model prog w) A (call (.builtin "bytes.index") [.bytes #[48, 49, 50, 51, 52, 53, 54, 55, 56, 57, 65, 66, 67, 68, 69, 70] t, .int i u]) Q E s := by
  subst hi
  exact index_bytes (j := 4) (by decide) (by decide) (by decide) (by decide +kernel) h
theorem index_49 {prog : Program} {w : World} {A : Around} {E : Value → Shared → Prop} {s : Shared} {Q : Value → Shared → Prop} {i : Int} {t u : Tok} (hi : i = 49) (h : Q (.int 1 s.toks) { s with toks := s.toks + 1 }) :
    wpAny (model prog w) A (call (.builtin "bytes.index") [.bytes #[48, 49, 50, 51, 52, 53, 54, 55, 56, 57, 65, 66, 67, 68, 69, 70] t, .int i u]) Q E s := by
  subst hi
  exact index_bytes (j := 1) (by decide) (by decide) (by decide) (by decide +kernel) h
local macro_rules | `(tactic| walk_at "call builtin:bytes.index") => `(tactic| (k_here; k_dflt (first | (refine index_52 (by decide +kernel) ?_) | (refine index_49 (by decide +kernel) ?_)); k_whole))
set_option maxHeartbeats 4000000 in
theorem hex_41 (w : World) (tb : Tok) (news : Led) :
    Does w 156 1 32 [.bytes #[52, 49] tb] news (fun v news' => ∃ t, v = .int 65 t ∧ news' = news) := by
  intro dp un gd cn cs a ccd cl outer A₀ base h₀ L m s mean mg mb Q E B F X N T hk hdp hun hret
  w_on
  k_with_none
  k_with "comp" => k_dflt (refine comp_bytes (fun k y => ∃ t, y = .int (if 97 ≤ k ∧ k ≤ 102 then k - 32 else k) t) (by k_asm) (by with_unfolding_all rfl) (by decide) (by rfl) (by decide) (by rfl) ?_)
  refine wpAny_call ?_
  k_dflt ktr_enter
  k_steps
  · refine ⟨_, _, _, rfl, rfl, by decide +kernel, by k_asm, by k_asm, ?_, ?_⟩
    · intro k tk' h' hk I oI C oC D ys m₂ h tk E' hC hx F' N' off
      k_steps
      · exact elt_end (by k_asm) (by k_asm) (fun p hp => hp) ⟨_, by rw [if_pos (by omega)]⟩
      all_goals exact elt_end (by k_asm) (by k_asm) (fun p hp => hp) ⟨_, by rw [if_neg (by omega)]⟩
    · intro D ys h tk F' N' off hl hg
      have e : ∃ t1 t2, ys = [.int 52 t1, .int 49 t2] := by
        match ys, hl with
        | [a, b], _ =>
          obtain ⟨_, e1, t1, h1⟩ := hg 0 a rfl
          obtain ⟨_, e2, t2, h2⟩ := hg 1 b rfl
          cases e1; cases e2
          exact ⟨t1, t2, by rw [h1, h2]; rfl⟩
      obtain ⟨t1, t2, rfl⟩ := e
      clear hg hl
      have lt9 : ∀ p ∈ news, p.1 ≠ D := off
      k_steps
      · exact hret _ _ _ _ (by k_asm) (by (rename News _ _ _ _ => NZ); exact news_sub NZ fun p hp => .tail _ hp) ⟨_, rfl, rfl⟩
      all_goals
        exfalso
        (rename _ = false => ef)
        revert ef
        decide +kernel

def wordB : Nat → Array UInt8
  | 0 => #[120]
  | 1 => #[37, 52, 49]
  | 2 => #[]
  | _ => #[121, 32, 122]
def decB : Nat → Array UInt8
  | 0 => #[120]
  | 1 => #[65]
  | 2 => #[]
  | _ => #[121, 32, 122]
set_option maxHeartbeats 4000000 in
theorem perc_x (w : World) (tb : Tok) (news : Led) :
    Does w 163 3 64 [.bytes #[120] tb] news (fun v news' => ∃ t, v = .bytes #[120] t ∧ news' = news) := by
  intro dp un gd cn cs a ccd cl outer A₀ base h₀ L m s mean mg mb Q E B F X N T hk hdp hun hret
  w_on
  k_with_none
  refine wpAny_call ?_
  k_dflt ktr_enter
  k_steps
  all_goals exact hret _ _ _ _ (by k_asm) (by (rename News _ _ _ _ => NZ); exact news_sub NZ fun p hp => .tail _ hp) ⟨_, congrArg (fun b => Value.bytes b _) (by decide +kernel), rfl⟩
set_option maxHeartbeats 4000000 in
theorem perc_e (w : World) (tb : Tok) (news : Led) :
    Does w 163 3 64 [.bytes #[] tb] news (fun v news' => ∃ t, v = .bytes #[] t ∧ news' = news) := by
  intro dp un gd cn cs a ccd cl outer A₀ base h₀ L m s mean mg mb Q E B F X N T hk hdp hun hret
  w_on
  k_with_none
  refine wpAny_call ?_
  k_dflt ktr_enter
  k_steps
  all_goals exact hret _ _ _ _ (by k_asm) (by (rename News _ _ _ _ => NZ); exact news_sub NZ fun p hp => .tail _ hp) ⟨_, congrArg (fun b => Value.bytes b _) (by decide +kernel), rfl⟩
set_option maxHeartbeats 4000000 in
theorem perc_yz (w : World) (tb : Tok) (news : Led) :
    Does w 163 3 64 [.bytes #[121, 32, 122] tb] news (fun v news' => ∃ t, v = .bytes #[121, 32, 122] t ∧ news' = news) := by
  intro dp un gd cn cs a ccd cl outer A₀ base h₀ L m s mean mg mb Q E B F X N T hk hdp hun hret
  w_on
  k_with_none
  refine wpAny_call ?_
  k_dflt ktr_enter
  k_steps
  all_goals exact hret _ _ _ _ (by k_asm) (by (rename News _ _ _ _ => NZ); exact news_sub NZ fun p hp => .tail _ hp) ⟨_, congrArg (fun b => Value.bytes b _) (by decide +kernel), rfl⟩
theorem does_val {w : World} {f : Addr} {deep wide : Nat} {vs vs' : List Value} {news : Led} {Post : Value → Led → Prop} (D : Does w f deep wide vs' news Post) (e : vs = vs') : Does w f deep wide vs news Post := e ▸ D
set_option maxHeartbeats 4000000 in
theorem perc_41 (w : World) (tb : Tok) (news : Led) :
    Does w 163 3 64 [.bytes #[37, 52, 49] tb] news (fun v news' => ∃ t, v = .bytes #[65] t ∧ news' = news) := by
  intro dp un gd cn cs a ccd cl outer A₀ base h₀ L m s mean mg mb Q E B F X N T hk hdp hun hret
  w_on
  k_with_none
  k_with "does" => exact does_val (hex_41 w _ _) (congrArg (fun b => [Value.bytes b _]) (by decide +kernel))
  k_with "done" => (rintro _ _ h9 tk9 F9 N9 ⟨t9, rfl, e9⟩; replace e9 := e9.symm; subst e9; (try k_sweep))
  refine wpAny_call ?_
  k_dflt ktr_enter
  k_steps
  all_goals exact hret _ _ _ _ (by k_asm) (by (rename News _ _ _ _ => NZ); exact news_sub NZ fun p hp => .tail _ hp) ⟨_, congrArg (fun b => Value.bytes b _) (by decide +kernel), rfl⟩
theorem perc (w : World) (j : Nat) (hj : j < 4) (tb : Tok) (news : Led) :
    Does w 163 3 64 [.bytes (wordB j) tb] news (fun v news' => ∃ t, v = .bytes (decB j) t ∧ news' = news) := by
  match j, hj with
  | 0, _ => exact perc_x w tb news
  | 1, _ => exact perc_41 w tb news
  | 2, _ => exact perc_e w tb news
  | 3, _ => exact perc_yz w tb news
end
end Mine
end
section
set_option maxRecDepth 100000
open PySem PySem.W PyProof.Rows PySem.Spec PySem.Calls LCg
namespace Mine
section
variable {prog : Program} {w : World} {A : Around} {E : Value → Shared → Prop} {s : Shared} {h₀ : Heap} {L : Addr} {m : Str → Option Value} {env : Env}
/-- over a text -/
def StrSrc (prog : Program) (w : World) (A : Around) (h₀ : Heap) (L : Addr) (m : Str → Option Value) (env : Env) (elt : Expr) (x : Str) (scope : Scope) (cl : List (Str × Addr)) (G : Nat → Value → Prop) (Q : Value → Shared → Prop) (xv : Value) (s₁ : Shared) : Prop :=
  ∃ tx t news, xv = .str tx t ∧ A.handled = none ∧ tx.cps.size ≤ sizeLine ∧ Fr h₀ L s₁.heap m ∧ News h₀ L s₁.heap news ∧
    (∀ c tk' h', c ∈ tx.cps → EltDoes prog w A h₀ L m env elt x scope cl { s₁ with heap := h' } news (.str ⟨#[c]⟩ tk') (G c)) ∧
    (∀ D ys h tk, Fr h₀ L h m → News h₀ L h ((D, lst ys) :: news) → (∀ p ∈ news, p.1 ≠ D) → ys.length = tx.cps.size → (∀ (i : Nat) y, ys[i]? = some y → ∃ c, tx.cps[i]? = some c ∧ G c y) → Q (.ref D) { s₁ with heap := h, toks := tk })

theorem comp_str {elt iter : Expr} {x : Str} {px : Pos} {scope : Scope} {cl : List (Str × Addr)} {pos : Pos} {Q : Value → Shared → Prop} (G : Nat → Value → Prop) (_F₀ : Fr h₀ L s.heap m)
    (hclos : closureFor scope env = pure cl) (hcell : ∀ y ∈ scope.names, y.2 ≠ .cell) (hkind : scope.kind = .function)
    (hnames : ∀ y ∈ scope.names, y.2 = .local → scope.names.lookup y.1 = some .local) (hx : scope.names.lookup x = some .local)
    (h : wpAny (model prog w) A (eval iter env) (StrSrc prog w A h₀ L m env elt x scope cl G Q) E s)
    (hs : ∀ x, foldedSetIterable iter env x = pure x := by intro _; rfl) :
    wpAny (model prog w) A (eval (.ListComp elt [⟨.Name x px, iter, [], 0⟩] scope pos) env) Q E s := by
  refine comp_any (n := fun xv => match xv with | .str b _ => b.cps.size | _ => 0) (P := fun xv i v => match xv with | .str b _ => SignAt b i v | _ => False)
    (G := fun xv i y => match xv with | .str b _ => ∃ c, b.cps[i]? = some c ∧ G c y | _ => False) (h₀ := h₀) (L := L) (m := m) hclos hcell hkind hnames hx (wpAny_mono h (fun xv s₁ h₁ => ?_) fun _ _ e => e) hs
  obtain ⟨tx, t, news, rfl, hh, hsz, F, N, turn, done⟩ := h₁
  have go : ∀ ty : String, Walks prog w A s₁.heap.objs.size [s₁.heap.objs.size] [s₁.heap.objs.size] tx.cps.size (SignAt tx) (fun i h => h.IsStrIter s₁.heap.objs.size ty tx t i) →
      ∀ o, o.isFreed = false → Heap.IsStrIter (s₁.heap.push o) s₁.heap.objs.size ty tx t 0 → ∃ news, CompIt prog w A h₀ L m tx.cps.size (SignAt tx) news (.ref s₁.heap.objs.size) { s₁ with heap := s₁.heap.push o } ∧
      (∀ i v, i < tx.cps.size → SignAt tx i v → EltDoes prog w A h₀ L m env elt x scope cl { s₁ with heap := s₁.heap.push o } news v (fun y => ∃ c, tx.cps[i]? = some c ∧ G c y)) ∧
      (∀ D ys h tk, Fr h₀ L h m → News h₀ L h ((D, lst ys) :: news) → (∀ p ∈ news, p.1 ≠ D) → ys.length = tx.cps.size → (∀ (i : Nat) y, ys[i]? = some y → ∃ c, tx.cps[i]? = some c ∧ G c y) → Q (.ref D) { s₁ with heap := h, toks := tk }) := by
    intro ty W o ho st
    refine ⟨news, ⟨⟨s₁.heap.objs.size, [s₁.heap.objs.size], _, rfl, W, hsz, fun i h st => let ⟨o, ho, _⟩ := st; ⟨o, ho⟩, ?_, st, ?_, Nat.ne_of_lt F.ns.lt, next_is_new F, fun p hp => Nat.ne_of_lt (Heap.lt_size (N p hp).1)⟩, F.push _, fun p hp => ⟨Heap.get?_push_of_some _ (N p hp).1, (N p hp).2⟩⟩, ?_, ?_⟩
    · rintro i h h' o ⟨o', ho', r⟩ e e'
      rw [e] at ho'; cases ho'
      exact ⟨o, e', r⟩
    · intro b hb
      rw [List.mem_singleton.mp hb]
      show s₁.heap.objs.size < (s₁.heap.push _).objs.size
      rw [Heap.size_push]; exact Nat.lt_succ_self _
    · rintro i v hi ⟨c, u, hc, rfl⟩
      intro I oI C oC D ys m₂ h tk E' h1 h2 h3 h4 h5
      refine wpAny_mono (turn _ u _ (Array.mem_of_getElem? hc) I oI C oC D ys m₂ h tk E' h1 h2 h3 h4 h5) (fun y s' hy => ?_) fun _ _ e => e
      obtain ⟨h', tk', e, a, b, g⟩ := hy
      exact ⟨h', tk', e, a, b, _, hc, g⟩
    · exact fun D ys h tk F' N' o hl hg => done D ys h tk F' N' o hl hg
  cases ha : tx.cps.all (· < 128)
  · exact wpAny_pyIter_wide ha (go "str_iterator" (Walks.strWide hh _ tx t) _ rfl ⟨_, Heap.get?_push_size _ rfl, rfl, rfl⟩)
  · exact wpAny_pyIter_ascii ha (go "str_ascii_iterator" (Walks.strAscii hh _ tx t) _ rfl ⟨_, Heap.get?_push_size _ rfl, rfl, rfl⟩)
end
end Mine
end
section
set_option maxRecDepth 100000
open PySem PySem.W PyProof.Rows PySem.Spec PySem.Calls
namespace Mine
theorem va_stored {K : Type} [DecidableEq K] (kvs : List (K × Value)) (k : K) (v : Value) (x : K) : valueAt (stored kvs k v) x = if x = k then some v else valueAt kvs x := by
  by_cases hx : x = k
  · rw [if_pos hx]; subst hx
    unfold stored
    split
    · rename_i h
      unfold valueAt
      rw [List.find?_map]
      have hf : (fun kv : K × Value => decide (kv.1 = x)) ∘ (fun kv => if kv.1 = x then (kv.1, v) else kv) = fun kv => decide (kv.1 = x) := by
        funext kv
        show decide ((if kv.1 = x then (kv.1, v) else kv).1 = x) = _
        split
        · rfl
        · rfl
      rw [hf]
      obtain ⟨q, hq, hqx⟩ := List.any_eq_true.mp h
      cases hfd : kvs.find? (fun kv => decide (kv.1 = x)) with
      | none => exact absurd hqx (by simpa using List.find?_eq_none.mp hfd q hq)
      | some y =>
        have hy := List.find?_some hfd
        simp only [decide_eq_true_eq] at hy
        simp [hy]
    · rename_i h
      unfold valueAt
      rw [List.find?_append, List.find?_eq_none.mpr (fun q hq hqx => h (List.any_eq_true.mpr ⟨q, hq, hqx⟩))]
      simp
  · rw [if_neg hx]
    unfold stored
    split
    · unfold valueAt
      rw [List.find?_map]
      have hf : (fun kv : K × Value => decide (kv.1 = x)) ∘ (fun kv => if kv.1 = k then (kv.1, v) else kv) = fun kv => decide (kv.1 = x) := by
        funext kv
        show decide ((if kv.1 = k then (kv.1, v) else kv).1 = x) = _
        split
        · rfl
        · rfl
      rw [hf]
      cases hfd : kvs.find? (fun kv => decide (kv.1 = x)) with
      | none => rfl
      | some y =>
        have hy := List.find?_some hfd
        simp only [decide_eq_true_eq] at hy
        have : ¬ y.1 = k := fun e => hx (hy.symm.trans e)
        simp [this]
    · unfold valueAt
      rw [List.find?_append]
      have : ([(k, v)] : List (K × Value)).find? (fun kv => decide (kv.1 = x)) = none := by
        simp [Ne.symm hx]
      rw [this]
      simp
section
variable {prog : Program} {w : World} {A : Around} {E : Value → Shared → Prop} {s : Shared} {h₀ : Heap} {L d : Addr} {m : Str → Option Value} {news : Led} {g : Obj → Led} {o : Obj}
/-- a dict of at most n keys, of which two are watched -/
def CN (prog : Program) (w : World) (k1 k2 : Str) (o : Obj) (n : Nat) (a u : Option Value) : Prop := ∃ kvs, o.IsDictOf (PySem.strKind prog w) kvs ∧ kvs.length ≤ n ∧ valueAt kvs k1 = a ∧ valueAt kvs k2 = u
theorem CN.of {k1 k2 : Str} (h : o.IsDictOf (PySem.strKind prog w) []) : CN prog w k1 k2 o 0 none none := ⟨[], h, Nat.le_refl _, rfl, rfl⟩
theorem cn_set {k1 k2 k : Str} {n : Nat} {a u : Option Value} {t : Tok} {v : Value} {Q : Unit → Shared → Prop} (F : Fr h₀ L s.heap m) (N : News h₀ L s.heap news) (U : UpdF d o news g) (hd : CN prog w k1 k2 o n a u) (hn : n < 1000)
    (h : ∀ h' o', Fr h₀ L h' m → News h₀ L h' (g o') → CN prog w k1 k2 o' (n + 1) (if k1 = k then some v else a) (if k2 = k then some v else u) → Q () { s with heap := h', toks := s.toks + 1 }) :
    wpAny (model prog w) A (setItem (.ref d) (.str k t) v) Q E s := by
  obtain ⟨kvs, hd, hl, rfl, rfl⟩ := hd
  refine kda_set F N U hd (strKind_is _ _ _ _) (by rw [sizeLine_eq]; omega) fun h' o' F' N' hd' => h h' o' F' N' ⟨_, hd', ?_, va_stored .., va_stored ..⟩
  exact Nat.le_trans (stored_length_le _ _ _) (by omega)
theorem cn_set0 {k1 k2 k : Str} {n : Nat} {a u : Option Value} {t : Tok} {v : Value} {Q : Unit → Shared → Prop} (e1 : k1 ≠ k) (e2 : k2 ≠ k) (F : Fr h₀ L s.heap m) (N : News h₀ L s.heap news) (U : UpdF d o news g) (hd : CN prog w k1 k2 o n a u) (hn : n < 1000)
    (h : ∀ h' o', Fr h₀ L h' m → News h₀ L h' (g o') → CN prog w k1 k2 o' (n + 1) a u → Q () { s with heap := h', toks := s.toks + 1 }) :
    wpAny (model prog w) A (setItem (.ref d) (.str k t) v) Q E s :=
  cn_set F N U hd hn fun h' o' F' N' c => h h' o' F' N' (by rw [if_neg e1, if_neg e2] at c; exact c)
theorem cn_set1 {k1 k2 : Str} {n : Nat} {a u : Option Value} {t : Tok} {v : Value} {Q : Unit → Shared → Prop} (e2 : k2 ≠ k1) (F : Fr h₀ L s.heap m) (N : News h₀ L s.heap news) (U : UpdF d o news g) (hd : CN prog w k1 k2 o n a u) (hn : n < 1000)
    (h : ∀ h' o', Fr h₀ L h' m → News h₀ L h' (g o') → CN prog w k1 k2 o' (n + 1) (some v) u → Q () { s with heap := h', toks := s.toks + 1 }) :
    wpAny (model prog w) A (setItem (.ref d) (.str k1 t) v) Q E s :=
  cn_set F N U hd hn fun h' o' F' N' c => h h' o' F' N' (by rw [if_pos rfl, if_neg e2] at c; exact c)
theorem cn_set2 {k1 k2 : Str} {n : Nat} {a u : Option Value} {t : Tok} {v : Value} {Q : Unit → Shared → Prop} (e1 : k1 ≠ k2) (F : Fr h₀ L s.heap m) (N : News h₀ L s.heap news) (U : UpdF d o news g) (hd : CN prog w k1 k2 o n a u) (hn : n < 1000)
    (h : ∀ h' o', Fr h₀ L h' m → News h₀ L h' (g o') → CN prog w k1 k2 o' (n + 1) a (some v) → Q () { s with heap := h', toks := s.toks + 1 }) :
    wpAny (model prog w) A (setItem (.ref d) (.str k2 t) v) Q E s :=
  cn_set F N U hd hn fun h' o' F' N' c => h h' o' F' N' (by rw [if_neg e1, if_pos rfl] at c; exact c)
theorem cn_method {k1 k2 : Str} {n : Nat} {a u : Option Value} {pl : Sem Bool} {Q : Value × List Value → Shared → Prop} (N : News h₀ L s.heap news) (hp : (d, o) ∈ news) (hd : CN prog w k1 k2 o n a u) (h : Q (.builtin "dict.get", [.ref d]) s) : wpAny (model prog w) A (getMethod (.ref d) "get" pl) Q E s := by
  obtain ⟨kvs, hd, _⟩ := hd
  exact kdg_method N hp hd h
theorem cn_get1 {k1 k2 : Str} {n : Nat} {a u : Value} {dflt : Value} {t : Tok} {Q : Value → Shared → Prop} (N : News h₀ L s.heap news) (hp : (d, o) ∈ news) (hd : CN prog w k1 k2 o n (some a) (some u)) (lo : (d == sysModules) = false) (h : Q a { s with toks := s.toks + 1 }) :
    wpAny (model prog w) A (call (.builtin "dict.get") [.ref d, .str k1 t, dflt]) Q E s := by
  obtain ⟨kvs, hd, _, h1, h2⟩ := hd
  exact kdg_get2 N hp hd lo (strKind_is _ _ _ _) (some a) h1 h
theorem cn_get2 {k1 k2 : Str} {n : Nat} {a u : Value} {dflt : Value} {t : Tok} {Q : Value → Shared → Prop} (N : News h₀ L s.heap news) (hp : (d, o) ∈ news) (hd : CN prog w k1 k2 o n (some a) (some u)) (lo : (d == sysModules) = false) (h : Q u { s with toks := s.toks + 1 }) :
    wpAny (model prog w) A (call (.builtin "dict.get") [.ref d, .str k2 t, dflt]) Q E s := by
  obtain ⟨kvs, hd, _, h1, h2⟩ := hd
  exact kdg_get2 N hp hd lo (strKind_is _ _ _ _) (some u) h2 h
end
end Mine
end
section
set_option maxRecDepth 100000
open PySem PySem.W PyProof.Rows PySem.Spec PySem.Calls
namespace Mine
section
variable {prog : Program} {w : World} {A : Around} {E : Value → Shared → Prop} {s : Shared} {env : Env} {h₀ : Heap} {target : Expr} {body : List Stmt} {Q : Flow → Shared → Prop}
def GEnd {α σ : Type} (h₀ : Heap) (L : Addr) (s : Shared) (LL : σ → Led) (ps : σ → List (Str × Value)) (stored : List Str) (m₀ : Str → Option Value) (P : List α → σ → Prop) (I : Addr) (oI : Obj) (r : List α) (s₂ : Shared) : Prop :=
  ∃ (c' : σ) (h' : Heap) (tk : Nat) (m' : Str → Option Value) (news' : Led), s₂ = { s with heap := h', toks := tk } ∧ Fr h₀ L h' m' ∧ News h₀ L h' news' ∧ (∀ p ∈ (I, oI) :: LL c', p ∈ news') ∧ (∀ p ∈ LL c', p.1 ≠ I) ∧
    (∀ p ∈ ps c', m' p.1 = some p.2) ∧ (∀ z, (∀ p ∈ ps c', z ≠ p.1) → stored.contains z = false → m' z = m₀ z) ∧ P r c'
def GPost {α σ : Type} (h₀ : Heap) (L : Addr) (s : Shared) (LL : σ → Led) (ps : σ → List (Str × Value)) (stored : List Str) (m₀ : Str → Option Value) (P : List α → σ → Prop) (I : Addr) (oI : Obj) (r : List α) (Q : Flow → Shared → Prop) (f : Flow) (s₂ : Shared) : Prop :=
  match f with
  | .ret v => Q (.ret v) s₂
  | .brk => Q .next s₂
  | _ => GEnd h₀ L s LL ps stored m₀ P I oI r s₂
theorem GEnd.mk9 {α σ : Type} {h₀ : Heap} {L : Addr} {s : Shared} {LL : σ → Led} {ps : σ → List (Str × Value)} {stored : List Str} {m₀ : Str → Option Value} {P : List α → σ → Prop} {I : Addr} {oI : Obj} {r : List α} (c' : σ) {h' : Heap} {tk : Nat} {m' : Str → Option Value} {news' : Led}
    (F : Fr h₀ L h' m') (N : News h₀ L h' news') (hn : ∀ p ∈ (I, oI) :: LL c', p ∈ news') (ho : ∀ p ∈ LL c', p.1 ≠ I) (hk : ∀ p ∈ ps c', m' p.1 = some p.2) (hz : ∀ z, (∀ p ∈ ps c', z ≠ p.1) → stored.contains z = false → m' z = m₀ z) (hp : P r c') :
    GEnd h₀ L s LL ps stored m₀ P I oI r { s with heap := h', toks := tk } := ⟨c', h', tk, m', news', rfl, F, N, hn, ho, hk, hz, hp⟩
/-- the turns of a for, over anything with one iterator object -/
theorem go_any {α σ : Type} {I : Addr} {ty : String} {keep : Led} {m₀ : Str → Option Value} (mk : α → Itm) (LL : σ → Led) (ps : σ → List (Str × Value)) (stored : List Str) (P : List α → σ → Prop)
    (hkeep : ∀ r c, P r c → SubL keep (LL c))
    (turn : ∀ (c : σ) a r (u : Str → Option Value) v oI h tk, (mk a).Is v h → P (a :: r) c → (∀ p ∈ LL c, p.1 ≠ I) → Fr h₀ env.locals h (midM stored u m₀ (ps c)) → News h₀ env.locals h ((I, oI) :: LL c) →
      wpAny (model prog w) A (assign target env v) (fun _ s₂ => wpAny (model prog w) A (execs body env) (GPost h₀ env.locals s LL ps stored m₀ P I oI r Q) E s₂) E { s with heap := h, toks := tk })
    (done : ∀ (c : σ) (u : Str → Option Value) h tk, P [] c → Fr h₀ env.locals h (midM stored u m₀ (ps c)) → News h₀ env.locals h (LL c) → Q .next { s with heap := h, toks := tk }) :
    ∀ (r : List α) (c : σ) (m₁ : Str → Option Value), (∀ p ∈ LL c, p.1 ≠ I) → (∀ p ∈ ps c, m₁ p.1 = some p.2) → (∀ z, (∀ p ∈ ps c, z ≠ p.1) → stored.contains z = false → m₁ z = m₀ z) → P r c →
      ItemsRest prog w A E h₀ env target body Q s [(I, ty)] keep (r.map mk) m₁ (LL c) := by
  intro r
  induction r with
  | nil =>
    intro c m₁ ho h1 h2 hP h tk F₁ N₁
    exact done c m₁ h tk hP (ksw_fr h1 h2 F₁) N₁
  | cons a r ih =>
    intro c m₁ ho h1 h2 hP
    intro v h tk hv F₁
    intro oI hcI N₁
    have N₂ : News h₀ env.locals h ((I, oI) :: LL c) := N₁
    refine wpAny_mono (turn c a r m₁ v oI h tk hv hP ho (ksw_fr h1 h2 F₁) N₂) (fun _ s₂ h₂ => wpAny_mono h₂ (fun f s₃ h₃ => ?_) fun _ _ e => e) fun _ _ e => e
    have fin : GEnd h₀ env.locals s LL ps stored m₀ P I oI r s₃ → UnrEndW h₀ env.locals { s with heap := h, toks := tk } [(I, oI)] (fun m' n' => SubL keep n' ∧ ItemsRest prog w A E h₀ env target body Q s [(I, ty)] keep (r.map mk) m' n') s₃ := by
      rintro ⟨c', h', tk', m', news', rfl, F', N', hn', ho', k1, k2, hP'⟩
      refine ⟨h', tk', m', LL c', rfl, F', fun p hp => N' p (hn' p ?_), fun p hp q hq => ?_, hkeep r c' hP', ih c' m' ho' k1 k2 hP'⟩
      · rcases List.mem_append.mp hp with hp | hp
        · rw [List.mem_singleton.mp hp]; exact .head _
        · exact .tail _ hp
      · rw [List.mem_singleton.mp hq]; exact ho' p hp
    cases f with
    | ret v => exact h₃
    | brk => exact h₃
    | next => exact fin h₃
    | cont => exact fin h₃

theorem my_forT {σ : Type} {ax : Addr} {lo : Obj} {vs : List Value} {n : Nat} {m₀ : Str → Option Value} (LL : σ → Led) (ps : σ → List (Str × Value)) (stored : List Str) (P : List Value → σ → Prop) (c₀ : σ) {news : Led}
    (hh : A.handled = none) (F : Fr h₀ env.locals s.heap m₀) (N : News h₀ env.locals s.heap news) (hn : ∀ p ∈ LL c₀, p ∈ news) (hm : ∀ c, (ax, lo) ∈ LL c) (hc : lo.cls = .type "tuple") (hd : lo.data = .seq vs.toArray n)
    (hk : ∀ p ∈ ps c₀, m₀ p.1 = some p.2) (hp : P vs c₀)
    (turn : ∀ (c : σ) v r (u : Str → Option Value) I oI h tk, P (v :: r) c → (∀ p ∈ LL c, p.1 ≠ I) → Fr h₀ env.locals h (midM stored u m₀ (ps c)) → News h₀ env.locals h ((I, oI) :: LL c) →
      wpAny (model prog w) A (assign target env v) (fun _ s₂ => wpAny (model prog w) A (execs body env) (GPost h₀ env.locals s LL ps stored m₀ P I oI r Q) E s₂) E { s with heap := h, toks := tk })
    (done : ∀ (c : σ) (u : Str → Option Value) h tk, P [] c → Fr h₀ env.locals h (midM stored u m₀ (ps c)) → News h₀ env.locals h (LL c) → Q .next { s with heap := h, toks := tk }) :
    wpAny (model prog w) A (pyIter (.ref ax)) (fun it s₂ => TurnsAt prog w A h₀ env target body Q E it s₂) E s := by
  have N0 : News h₀ env.locals s.heap (LL c₀) := news_sub N hn
  refine iter_tupTurns hh F N0 (hm c₀) hc hd fun I hI => ?_
  exact go_any (α := Value) (I := I) (keep := [(ax, lo)]) .val LL ps stored P (fun _ c _ => And.intro (hm c) trivial) (fun c a r u v oI h tk hv => by cases hv; exact turn c a r u I oI h tk) done vs c₀ m₀ (fun p hp => Nat.ne_of_lt (hI p hp)) hk (fun _ _ _ => rfl) hp

theorem my_forT1 {σ : Type} {ax : Addr} {vs : List Value} {n : Nat} {m₀ : Str → Option Value} (LL : σ → Led) (ps : σ → List (Str × Value)) (stored : List Str) (P : List Value → σ → Prop) (c₀ : σ) {news : Led}
    (hh : A.handled = none) (F : Fr h₀ env.locals s.heap m₀) (N : News h₀ env.locals s.heap ((ax, { cls := .type "tuple", data := .seq vs.toArray n }) :: news)) (hn : ∀ p ∈ LL c₀, p ∈ news)
    (hk : ∀ p ∈ ps c₀, m₀ p.1 = some p.2) (hp : P vs c₀)
    (turn : ∀ (c : σ) v r (u : Str → Option Value) I oI h tk, P (v :: r) c → (@Ne Nat ax I ∧ ∀ p ∈ LL c, p.1 ≠ I) → Fr h₀ env.locals h (midM stored u m₀ (ps c)) → News h₀ env.locals h ((I, oI) :: (ax, { cls := .type "tuple", data := .seq vs.toArray n }) :: LL c) →
      wpAny (model prog w) A (assign target env v) (fun _ s₂ => wpAny (model prog w) A (execs body env) (GPost h₀ env.locals s (fun c => (ax, { cls := .type "tuple", data := .seq vs.toArray n }) :: LL c) ps stored m₀ P I oI r Q) E s₂) E { s with heap := h, toks := tk })
    (done : ∀ (c : σ) (u : Str → Option Value) h tk, P [] c → Fr h₀ env.locals h (midM stored u m₀ (ps c)) → News h₀ env.locals h ((ax, { cls := .type "tuple", data := .seq vs.toArray n }) :: LL c) → Q .next { s with heap := h, toks := tk }) :
    wpAny (model prog w) A (pyIter (.ref ax)) (fun it s₂ => TurnsAt prog w A h₀ env target body Q E it s₂) E s :=
  my_forT (fun c => (ax, { cls := .type "tuple", data := .seq vs.toArray n }) :: LL c) ps stored P c₀ hh F N (fun p hp => by
    rcases List.mem_cons.mp hp with rfl | hp
    · exact .head _
    · exact .tail _ (hn p hp)) (fun c => .head _) rfl rfl hk hp (fun c v r u I oI h tk a b => turn c v r u I oI h tk a ⟨b _ (.head _), fun p hp => b p (.tail _ hp)⟩) done

theorem my_forL {σ : Type} {ax : Addr} {lo : Obj} {vs : List Value} {n : Nat} {m₀ : Str → Option Value} (LL : σ → Led) (ps : σ → List (Str × Value)) (stored : List Str) (P : List Value → σ → Prop) (c₀ : σ) {news : Led}
    (hh : A.handled = none) (F : Fr h₀ env.locals s.heap m₀) (N : News h₀ env.locals s.heap news) (hn : ∀ p ∈ LL c₀, p ∈ news) (hm : ∀ r c, P r c → (ax, lo) ∈ LL c) (hc : lo.cls = .type "list") (hd : lo.data = .seq vs.toArray n)
    (hk : ∀ p ∈ ps c₀, m₀ p.1 = some p.2) (hp : P vs c₀)
    (turn : ∀ (c : σ) v r (u : Str → Option Value) I oI h tk, P (v :: r) c → (∀ p ∈ LL c, p.1 ≠ I) → Fr h₀ env.locals h (midM stored u m₀ (ps c)) → News h₀ env.locals h ((I, oI) :: LL c) →
      wpAny (model prog w) A (assign target env v) (fun _ s₂ => wpAny (model prog w) A (execs body env) (GPost h₀ env.locals s LL ps stored m₀ P I oI r Q) E s₂) E { s with heap := h, toks := tk })
    (done : ∀ (c : σ) (u : Str → Option Value) h tk, P [] c → Fr h₀ env.locals h (midM stored u m₀ (ps c)) → News h₀ env.locals h (LL c) → Q .next { s with heap := h, toks := tk }) :
    wpAny (model prog w) A (pyIter (.ref ax)) (fun it s₂ => TurnsAt prog w A h₀ env target body Q E it s₂) E s := by
  have N0 : News h₀ env.locals s.heap (LL c₀) := news_sub N hn
  refine iter_listTurns hh F N0 (hm _ c₀ hp) hc hd fun I hI => ?_
  exact go_any (α := Value) (I := I) (keep := [(ax, lo)]) .val LL ps stored P (fun r c h => And.intro (hm r c h) trivial) (fun c a r u v oI h tk hv => by cases hv; exact turn c a r u I oI h tk) done vs c₀ m₀ (fun p hp => Nat.ne_of_lt (hI p hp)) hk (fun _ _ _ => rfl) hp

/-- the keys of a dict, in their order; the dict stands -/
theorem iter_keys {d : Addr} {od : Obj} {kvs : List (Str × Value)} {m₀ : Str → Option Value} {news : Led}
    (hh : A.handled = none) (F : Fr h₀ env.locals s.heap m₀) (N : News h₀ env.locals s.heap news) (lo : (d == sysModules) = false) (hd : od.IsDictOf (PySem.strKind prog w) kvs) (hm : (d, od) ∈ news)
    (rest₀ : ∀ I : Addr, (∀ p ∈ news, p.1 < I) → ItemsRest prog w A E h₀ env target body Q s [(I, "dict_keyiterator")] [(d, od)] (kvs.map fun p => Itm.tok (Value.str p.1)) m₀ news) :
    wpAny (model prog w) A (pyIter (.ref d)) (fun it s₂ => TurnsAt prog w A h₀ env target body Q E it s₂) E s := by
  have hax := N _ hm
  obtain ⟨ep, ha⟩ := KdkAt.of hd
  have hat := ha.dictAt hax.1
  have hne : d ≠ s.heap.objs.size := Nat.ne_of_lt hat.lt_size
  refine wpAny_pyIter_dict lo hat ?_
  refine ktu_core (tk0 := s.toks) (keep := [(d, od)]) (KTurns.ofWalks (Walks.dictKeys (knd := PySem.strKind prog w) hh s.heap.objs.size d hne kvs ep) fun i v s Q E st q => letGo_keyiter st.1 q) (by rw [List.length_map]) ?_ ?_ ?_ ?_ ?_ ?_ ?_ ?_ (F.push _) (fun p hp => ⟨Heap.get?_push_of_some _ (N p hp).1, (N p hp).2⟩) (And.intro hm trivial) (rest₀ _ fun p hp => Heap.lt_size (N p hp).1)
  · rintro i v h ⟨k, x, hx, hk⟩
    exact ⟨.tok (Value.str k), by rw [List.getElem?_map, hx]; rfl, Value.isStrOf_shape hk⟩
  · rintro i h ⟨⟨oi, g, c, _⟩, _⟩
    exact ⟨[(s.heap.objs.size, oi)], ⟨⟨rfl, c⟩, trivial⟩, fun p hp => by rw [List.mem_singleton.mp hp]; exact g⟩
  · intro b hb
    have hb' : b = s.heap.objs.size := by simpa using hb
    rw [hb']
    exact ⟨List.mem_cons_self .., next_is_new F⟩
  · intro b hb
    simpa using hb
  · intro b hb
    have hb' : b = s.heap.objs.size ∨ b = d := by simpa using hb
    rcases hb' with e | e
    · exact .inl (by simp [e])
    · exact .inr ⟨od, by simp [e]⟩
  · intro hI
    have hb' : env.locals = s.heap.objs.size ∨ env.locals = d := by simpa using hI
    rcases hb' with e | e
    · exact absurd F.ns.lt (e ▸ Nat.lt_irrefl _)
    · exact hax.2.1 e.symm
  · intro p hp hI
    exact absurd (Heap.lt_size (N p hp).1) ((List.mem_singleton.mp hI) ▸ Nat.lt_irrefl _)
  · exact ⟨⟨_, Heap.get?_push_size _ rfl, rfl, rfl⟩, hat.push _⟩

theorem my_forD {σ : Type} {ax : Addr} {lo : Obj} {kvs : List (Str × Value)} {m₀ : Str → Option Value} (LL : σ → Led) (ps : σ → List (Str × Value)) (stored : List Str) (P : List (Str × Value) → σ → Prop) (c₀ : σ) {news : Led}
    (hh : A.handled = none) (F : Fr h₀ env.locals s.heap m₀) (N : News h₀ env.locals s.heap news) (hn : ∀ p ∈ LL c₀, p ∈ news) (hm : ∀ r c, P r c → (ax, lo) ∈ LL c) (hlo : (ax == sysModules) = false) (hd : lo.IsDictOf (PySem.strKind prog w) kvs)
    (hk : ∀ p ∈ ps c₀, m₀ p.1 = some p.2) (hp : P kvs c₀)
    (turn : ∀ (c : σ) a r (u : Str → Option Value) t I oI h tk, P (a :: r) c → (∀ p ∈ LL c, p.1 ≠ I) → Fr h₀ env.locals h (midM stored u m₀ (ps c)) → News h₀ env.locals h ((I, oI) :: LL c) →
      wpAny (model prog w) A (assign target env (.str a.1 t)) (fun _ s₂ => wpAny (model prog w) A (execs body env) (GPost h₀ env.locals s LL ps stored m₀ P I oI r Q) E s₂) E { s with heap := h, toks := tk })
    (done : ∀ (c : σ) (u : Str → Option Value) h tk, P [] c → Fr h₀ env.locals h (midM stored u m₀ (ps c)) → News h₀ env.locals h (LL c) → Q .next { s with heap := h, toks := tk }) :
    wpAny (model prog w) A (pyIter (.ref ax)) (fun it s₂ => TurnsAt prog w A h₀ env target body Q E it s₂) E s := by
  have N0 : News h₀ env.locals s.heap (LL c₀) := news_sub N hn
  refine iter_keys hh F N0 hlo hd (hm _ c₀ hp) fun I hI => ?_
  exact go_any (α := Str × Value) (I := I) (keep := [(ax, lo)]) (fun p => .tok (Value.str p.1)) LL ps stored P (fun r c h => And.intro (hm r c h) trivial) (fun c a r u v oI h tk hv => by obtain ⟨t, rfl⟩ := hv; exact turn c a r u t I oI h tk) done kvs c₀ m₀ (fun p hp => Nat.ne_of_lt (hI p hp)) hk (fun _ _ _ => rfl) hp
end
end Mine
end
section
set_option maxRecDepth 100000
open PySem PySem.W PyProof.Rows PySem.Spec PySem.Calls
namespace Mine
theorem allLt_mem : ∀ {l : Led} {d : Addr}, AllLt d l → ∀ p ∈ l, p.1 < d
  | [], _, _, _, hp => by cases hp
  | _ :: _, _, h, p, hp => by
    rcases List.mem_cons.mp hp with rfl | hp
    · exact h.1
    · exact allLt_mem h.2 p hp
/-- a sign that the walk is to stop at the next if -/
def Mark : Prop := True
section
variable {α : Type} {P : α → Prop}
theorem all_nil : ∀ p ∈ ([] : List α), P p := fun _ h => nomatch h
theorem all_cons {a : α} {l : List α} (h : P a) (g : ∀ p ∈ l, P p) : ∀ p ∈ a :: l, P p := fun p hp => by
  cases hp with
  | head => exact h
  | tail _ hp => exact g p hp
theorem sub_keep {a : α} {l l' : List α} (g : ∀ p ∈ l, p ∈ l') : ∀ p ∈ a :: l, p ∈ a :: l' := all_cons (.head _) fun p hp => .tail _ (g p hp)
theorem sub_skip {a : α} {l l' : List α} (g : ∀ p ∈ l, p ∈ l') : ∀ p ∈ l, p ∈ a :: l' := fun p hp => .tail _ (g p hp)
theorem sub_refl {l : List α} : ∀ p ∈ l, p ∈ l := fun _ h => h
end
section
variable {prog : Program} {w : World} {A : Around} {E : Value → Shared → Prop} {s : Shared} {env : Env} {h₀ : Heap} {target : Expr} {body : List Stmt} {Q : Flow → Shared → Prop}
/-- what a turn's continuation takes -/
def Takes {α σ : Type} (h₀ : Heap) (L : Addr) (s : Shared) (LL : σ → Led) (ps : σ → List (Str × Value)) (P : List α → σ → Prop) (I : Addr) (oI : Obj) (r : List α) (K : Flow → Shared → Prop) : Prop :=
  ∀ (c' : σ) (h' : Heap) (tk : Nat) (m' : Str → Option Value) (news' : Led), Fr h₀ L h' m' → News h₀ L h' news' → (∀ p ∈ (I, oI) :: LL c', p ∈ news') → (∀ p ∈ LL c', p.1 ≠ I) → (∀ p ∈ ps c', m' p.1 = some p.2) → P r c' → K .next { s with heap := h', toks := tk }
theorem Takes.go {α σ : Type} {h₀ : Heap} {L : Addr} {s : Shared} {LL : σ → Led} {ps : σ → List (Str × Value)} {P : List α → σ → Prop} {I : Addr} {oI : Obj} {r : List α} {K : Flow → Shared → Prop} (hK : Takes h₀ L s LL ps P I oI r K) (c' : σ) {h' : Heap} {tk : Nat} {m' : Str → Option Value} {news' : Led}
    (F : Fr h₀ L h' m') (N : News h₀ L h' news') (hn : ∀ p ∈ (I, oI) :: LL c', p ∈ news') (ho : ∀ p ∈ LL c', p.1 ≠ I) (hk : ∀ p ∈ ps c', m' p.1 = some p.2) (hp : P r c') : K .next { s with heap := h', toks := tk } := hK c' h' tk m' news' F N hn ho hk hp
theorem go_K {α σ : Type} {I : Addr} {ty : String} {keep : Led} (mk : α → Itm) (LL : σ → Led) (ps : σ → List (Str × Value)) (P : List α → σ → Prop)
    (hkeep : ∀ r c, P r c → SubL keep (LL c))
    (turn : ∀ (K : Flow → Shared → Prop) (c : σ) a r (u : Str → Option Value) v oI h tk, Takes h₀ env.locals s LL ps P I oI r K → (∀ v s', Q (.ret v) s' → K (.ret v) s') → (mk a).Is v h → P (a :: r) c → (∀ p ∈ LL c, p.1 ≠ I) → Fr h₀ env.locals h (kstB u (ps c)) → News h₀ env.locals h ((I, oI) :: LL c) →
      wpAny (model prog w) A (assign target env v) (fun _ s₂ => wpAny (model prog w) A (execs body env) K E s₂) E { s with heap := h, toks := tk })
    (done : ∀ (c : σ) (u : Str → Option Value) h tk, P [] c → Fr h₀ env.locals h (kstB u (ps c)) → News h₀ env.locals h (LL c) → Q .next { s with heap := h, toks := tk }) :
    ∀ (r : List α) (c : σ) (m₁ : Str → Option Value), (∀ p ∈ LL c, p.1 ≠ I) → (∀ p ∈ ps c, m₁ p.1 = some p.2) → P r c → ItemsRest prog w A E h₀ env target body Q s [(I, ty)] keep (r.map mk) m₁ (LL c) := by
  intro r
  induction r with
  | nil =>
    intro c m₁ ho h1 hP h tk F₁ N₁
    exact done c _ h tk hP (ksw_fr (stored := []) (m₀ := m₁) h1 (fun _ _ _ => rfl) F₁) N₁
  | cons a r ih =>
    intro c m₁ ho h1 hP v h tk hv F₁ oI hcI N₁
    have fin : ∀ (c' : σ) (h' : Heap) (tk' : Nat) (m' : Str → Option Value) (news' : Led), Fr h₀ env.locals h' m' → News h₀ env.locals h' news' → (∀ p ∈ (I, oI) :: LL c', p ∈ news') → (∀ p ∈ LL c', p.1 ≠ I) → (∀ p ∈ ps c', m' p.1 = some p.2) → P r c' →
        UnrEndW h₀ env.locals { s with heap := h, toks := tk } [(I, oI)] (fun m' n' => SubL keep n' ∧ ItemsRest prog w A E h₀ env target body Q s [(I, ty)] keep (r.map mk) m' n') { s with heap := h', toks := tk' } := by
      intro c' h' tk' m' news' F' N' hn' ho' k1 hP'
      refine ⟨h', tk', m', LL c', rfl, F', fun p hp => N' p (hn' p ?_), fun p hp q hq => ?_, hkeep r c' hP', ih c' m' ho' k1 hP'⟩
      · rcases List.mem_append.mp hp with hp | hp
        · rw [List.mem_singleton.mp hp]; exact .head _
        · exact .tail _ hp
      · rw [List.mem_singleton.mp hq]; exact ho' p hp
    exact turn _ c a r _ v oI h tk (fun c' h' tk' m' news' a b c d e f => fin c' h' tk' m' news' a b c d e f) (fun _ _ h => h) hv hP ho (ksw_fr (stored := []) (m₀ := m₁) h1 (fun _ _ _ => rfl) F₁) N₁
theorem loopL {σ : Type} {ax : Addr} {lo : Obj} {vs : List Value} {n : Nat} {m₀ : Str → Option Value} (LL : σ → Led) (ps : σ → List (Str × Value)) (P : List Value → σ → Prop) (c₀ : σ) {news : Led}
    (hh : A.handled = none) (F : Fr h₀ env.locals s.heap m₀) (N : News h₀ env.locals s.heap news) (hn : ∀ p ∈ LL c₀, p ∈ news) (hm : ∀ r c, P r c → (ax, lo) ∈ LL c) (hc : lo.cls = .type "list") (hd : lo.data = .seq vs.toArray n)
    (hk : ∀ p ∈ ps c₀, m₀ p.1 = some p.2) (hp : P vs c₀)
    (turn : ∀ (K : Flow → Shared → Prop) (c : σ) v r (u : Str → Option Value) I oI h tk, Takes h₀ env.locals s LL ps P I oI r K → (∀ v s', Q (.ret v) s' → K (.ret v) s') → P (v :: r) c → (∀ p ∈ LL c, p.1 ≠ I) → Fr h₀ env.locals h (kstB u (ps c)) → News h₀ env.locals h ((I, oI) :: LL c) →
      wpAny (model prog w) A (assign target env v) (fun _ s₂ => wpAny (model prog w) A (execs body env) K E s₂) E { s with heap := h, toks := tk })
    (done : ∀ (c : σ) (u : Str → Option Value) h tk, P [] c → Fr h₀ env.locals h (kstB u (ps c)) → News h₀ env.locals h (LL c) → Q .next { s with heap := h, toks := tk }) :
    wpAny (model prog w) A (pyIter (.ref ax)) (fun it s₂ => TurnsAt prog w A h₀ env target body Q E it s₂) E s :=
  iter_listTurns hh F (news_sub N hn) (hm _ c₀ hp) hc hd fun I hI => go_K (α := Value) (I := I) (keep := [(ax, lo)]) .val LL ps P (fun r c h => And.intro (hm r c h) trivial)
    (fun K c a r u v oI h tk hK hR hv => by cases hv; exact turn K c a r u I oI h tk hK hR) done vs c₀ m₀ (fun p hp => Nat.ne_of_lt (hI p hp)) hk hp
theorem loopT {σ : Type} {ax : Addr} {lo : Obj} {vs : List Value} {n : Nat} {m₀ : Str → Option Value} (LL : σ → Led) (ps : σ → List (Str × Value)) (P : List Value → σ → Prop) (c₀ : σ) {news : Led}
    (hh : A.handled = none) (F : Fr h₀ env.locals s.heap m₀) (N : News h₀ env.locals s.heap news) (hn : ∀ p ∈ LL c₀, p ∈ news) (hm : ∀ r c, P r c → (ax, lo) ∈ LL c) (hc : lo.cls = .type "tuple") (hd : lo.data = .seq vs.toArray n)
    (hk : ∀ p ∈ ps c₀, m₀ p.1 = some p.2) (hp : P vs c₀)
    (turn : ∀ (K : Flow → Shared → Prop) (c : σ) v r (u : Str → Option Value) I oI h tk, Takes h₀ env.locals s LL ps P I oI r K → (∀ v s', Q (.ret v) s' → K (.ret v) s') → P (v :: r) c → (∀ p ∈ LL c, p.1 ≠ I) → Fr h₀ env.locals h (kstB u (ps c)) → News h₀ env.locals h ((I, oI) :: LL c) →
      wpAny (model prog w) A (assign target env v) (fun _ s₂ => wpAny (model prog w) A (execs body env) K E s₂) E { s with heap := h, toks := tk })
    (done : ∀ (c : σ) (u : Str → Option Value) h tk, P [] c → Fr h₀ env.locals h (kstB u (ps c)) → News h₀ env.locals h (LL c) → Q .next { s with heap := h, toks := tk }) :
    wpAny (model prog w) A (pyIter (.ref ax)) (fun it s₂ => TurnsAt prog w A h₀ env target body Q E it s₂) E s :=
  iter_tupTurns hh F (news_sub N hn) (hm _ c₀ hp) hc hd fun I hI => go_K (α := Value) (I := I) (keep := [(ax, lo)]) .val LL ps P (fun r c h => And.intro (hm r c h) trivial)
    (fun K c a r u v oI h tk hK hR hv => by cases hv; exact turn K c a r u I oI h tk hK hR) done vs c₀ m₀ (fun p hp => Nat.ne_of_lt (hI p hp)) hk hp
theorem loopD {σ : Type} {ax : Addr} {lo : Obj} {kvs : List (Str × Value)} {m₀ : Str → Option Value} (LL : σ → Led) (ps : σ → List (Str × Value)) (P : List (Str × Value) → σ → Prop) (c₀ : σ) {news : Led}
    (hh : A.handled = none) (F : Fr h₀ env.locals s.heap m₀) (N : News h₀ env.locals s.heap news) (hn : ∀ p ∈ LL c₀, p ∈ news) (hm : ∀ r c, P r c → (ax, lo) ∈ LL c) (hlo : (ax == sysModules) = false) (hd : lo.IsDictOf (PySem.strKind prog w) kvs)
    (hk : ∀ p ∈ ps c₀, m₀ p.1 = some p.2) (hp : P kvs c₀)
    (turn : ∀ (K : Flow → Shared → Prop) (c : σ) a r (u : Str → Option Value) t I oI h tk, Takes h₀ env.locals s LL ps P I oI r K → (∀ v s', Q (.ret v) s' → K (.ret v) s') → P (a :: r) c → (∀ p ∈ LL c, p.1 ≠ I) → Fr h₀ env.locals h (kstB u (ps c)) → News h₀ env.locals h ((I, oI) :: LL c) →
      wpAny (model prog w) A (assign target env (.str a.1 t)) (fun _ s₂ => wpAny (model prog w) A (execs body env) K E s₂) E { s with heap := h, toks := tk })
    (done : ∀ (c : σ) (u : Str → Option Value) h tk, P [] c → Fr h₀ env.locals h (kstB u (ps c)) → News h₀ env.locals h (LL c) → Q .next { s with heap := h, toks := tk }) :
    wpAny (model prog w) A (pyIter (.ref ax)) (fun it s₂ => TurnsAt prog w A h₀ env target body Q E it s₂) E s :=
  iter_keys hh F (news_sub N hn) hlo hd (hm _ c₀ hp) fun I hI => go_K (α := Str × Value) (I := I) (keep := [(ax, lo)]) (fun p => .tok (Value.str p.1)) LL ps P (fun r c h => And.intro (hm r c h) trivial)
    (fun K c a r u v oI h tk hK hR hv => by obtain ⟨t, rfl⟩ := hv; exact turn K c a r u t I oI h tk hK hR) done kvs c₀ m₀ (fun p hp => Nat.ne_of_lt (hI p hp)) hk hp
/-- what a while's turn takes -/
def TakesW {σ : Type} (h₀ : Heap) (L : Addr) (s : Shared) (LL : σ → Led) (ps : σ → List (Str × Value)) (P : σ → Prop) (μ : σ → Nat) (c : σ) (K : Flow → Shared → Prop) : Prop :=
  ∀ (c' : σ) (h' : Heap) (tk : Nat) (m' : Str → Option Value) (news' : Led), Fr h₀ L h' m' → News h₀ L h' news' → (∀ p ∈ LL c', p ∈ news') → (∀ p ∈ ps c', m' p.1 = some p.2) → P c' → μ c' < μ c → K .next { s with heap := h', toks := tk }
theorem TakesW.go {σ : Type} {h₀ : Heap} {L : Addr} {s : Shared} {LL : σ → Led} {ps : σ → List (Str × Value)} {P : σ → Prop} {μ : σ → Nat} {c : σ} {K : Flow → Shared → Prop} (hK : TakesW h₀ L s LL ps P μ c K) (c' : σ) {h' : Heap} {tk : Nat} {m' : Str → Option Value} {news' : Led}
    (F : Fr h₀ L h' m') (N : News h₀ L h' news') (hn : ∀ p ∈ LL c', p ∈ news') (hk : ∀ p ∈ ps c', m' p.1 = some p.2) (hp : P c') (hm : μ c' < μ c) : K .next { s with heap := h', toks := tk } := hK c' h' tk m' news' F N hn hk hp hm
theorem loopW {σ : Type} {L : Addr} {test : Expr} {pos : Pos} {m₀ : Str → Option Value} (LL : σ → Led) (ps : σ → List (Str × Value)) (P : σ → Prop) (μ : σ → Nat) (c₀ : σ) {news : Led}
    (F : Fr h₀ L s.heap m₀) (N : News h₀ L s.heap news) (hn : ∀ p ∈ LL c₀, p ∈ news) (hk : ∀ p ∈ ps c₀, m₀ p.1 = some p.2) (hp : P c₀)
    (turn : ∀ (K : Flow → Shared → Prop) (c : σ) (u : Str → Option Value) h tk, TakesW h₀ L s LL ps P μ c K → (∀ s', Q .next s' → K .brk s') → (∀ v s', Q (.ret v) s' → K (.ret v) s') → P c → Fr h₀ L h (kstB u (ps c)) → News h₀ L h (LL c) →
      wpAny (model prog w) A (isTrue test env (eval test env)) (fun b s₂ => if b = true then wpAny (model prog w) A (execs body env) K E s₂ else Q .next s₂) E { s with heap := h, toks := tk })
    (hE : PassesOwn (model prog w) A env E := by passes_own) :
    wpAny (model prog w) A (exec (.While test body [] pos) env) Q E s := by
  refine While_inv2 (fun n m nx => ∃ c : σ, nx = LL c ∧ μ c = n ∧ (∀ p ∈ ps c, m p.1 = some p.2) ∧ P c) F (news_sub N hn) ⟨c₀, rfl, rfl, hk, hp⟩ ?_ hE
  rintro n m₁ nx h tk F₁ N₁ ⟨c, hnx, hsz, h1, hp'⟩
  subst hnx hsz
  exact turn _ c _ h tk (fun c' h' tk' m' news' F' N' hn hk9 hp9 hm9 => ⟨h', tk', m', LL c', μ c', rfl, F', news_sub N' hn, hm9, c', rfl, rfl, hk9, hp9⟩) (fun _ h => h) (fun _ _ h => h) hp' (ksw_fr (stored := []) (m₀ := m₁) h1 (fun _ _ _ => rfl) F₁) N₁
/-- what a cut's continuation takes -/
def CutT {σ : Type} (h₀ : Heap) (L : Addr) (s : Shared) (m : Str → Option Value) (LL : σ → Led) (P : σ → Prop) (K : Flow → Shared → Prop) : Prop :=
  ∀ (c : σ) (h' : Heap) (tk : Nat) (news' : Led), Fr h₀ L h' m → News h₀ L h' news' → (∀ p ∈ LL c, p ∈ news') → P c → K .next { s with heap := h', toks := tk }
theorem CutT.go {σ : Type} {h₀ : Heap} {L : Addr} {s : Shared} {m : Str → Option Value} {LL : σ → Led} {P : σ → Prop} {K : Flow → Shared → Prop} (hK : CutT h₀ L s m LL P K) (c : σ) {h' : Heap} {tk : Nat} {news' : Led}
    (F : Fr h₀ L h' m) (N : News h₀ L h' news') (hn : ∀ p ∈ LL c, p ∈ news') (hp : P c) : K .next { s with heap := h', toks := tk } := hK c h' tk news' F N hn hp
/-- a cut between two statements -/
theorem wpAny_cut {σ : Type} {L : Addr} {m : Str → Option Value} {M : Sem Flow} (_F : Fr h₀ L s.heap m) (LL : σ → Led) (P : σ → Prop) (h₁ : ∀ K : Flow → Shared → Prop, CutT h₀ L s m LL P K → wpAny (model prog w) A M K E s)
    (h₂ : ∀ (c : σ) h tk, Fr h₀ L h m → News h₀ L h (LL c) → P c → Q .next { s with heap := h, toks := tk }) : wpAny (model prog w) A M Q E s :=
  wpAny_mono (h₁ (fun f s₂ => f = .next ∧ ∃ (c : σ) (h' : Heap) (tk : Nat), s₂ = { s with heap := h', toks := tk } ∧ Fr h₀ L h' m ∧ News h₀ L h' (LL c) ∧ P c) fun c h' tk news' F N hn hp => ⟨rfl, c, h', tk, rfl, F, news_sub N hn, hp⟩)
    (fun f s₂ ⟨e, c, h', tk, e2, F, N, hp⟩ => by subst e; subst e2; exact h₂ c h' tk F N hp) fun _ _ e => e
end
end Mine
end
section
set_option maxRecDepth 100000
open PySem PySem.W PyProof.Rows LCg
namespace Mine
theorem strsAre_of : ∀ (ys : List Value) (l : List Str), ys.length = l.length → (∀ (i : Nat) y, ys[i]? = some y → ∃ x, l[i]? = some x ∧ ∃ t, y = .str x t) → StrsAre ys l
  | [], [], _, _ => .nil
  | y :: ys, x :: l, hl, h => by
    obtain ⟨x', hx', t, rfl⟩ := h 0 y rfl
    cases hx'
    exact .cons _ _ (strsAre_of ys l (by simpa using hl) fun i y hy => h (i + 1) y hy)
theorem weigh_signs (x : Str) (h : x.length < 1000) : ((signs x).map (·.length)).sum + (signs x).length ≤ 1048576 := by
  rw [sumLen_of_ones _ (fun a ha => by unfold signs at ha; obtain ⟨k, _, rfl⟩ := List.mem_map.mp ha; rfl), signs_length]
  omega
theorem join_signs (x : Str) : Txt.join (Str.ofString "") (signs x) = x := by
  rw [show Str.ofString "" = ⟨#[]⟩ from by decide +kernel]
  unfold PySem.Txt.join
  rw [StrLaws.glued_eq_join]
  exact join_nil_signs _
section
local macro_rules | `(tactic| walk_at "call ref") => `(tactic| (k_here; k_dflt (refine' does_use ?D ?B ?F ?X ?N ?T ?K ?d ?u ?_; (case B => k_asm); (case F => k_asm); (case X => k_asm); (case N => k_asm); (case T => k_asm); (case D => k_extra "does"); (case K => first | exact rfl | assumption); (case d => ktr_room); (case u => ktr_units); k_extra "done")))
local macro_rules | `(tactic| k_all) => `(tactic| first | assumption | exact lt_ne (by assumption))
local macro_rules | `(tactic| walk_at "eval ListComp") => `(tactic| (k_here; k_extra "comp"))
local macro_rules | `(tactic| walk_at "call builtin:str.join") => `(tactic| (k_here; k_dflt (refine' join_listW ?l ?i ?s ?w ?_; (case l => is_list); (case i => first | assumption | k_extra "strs"); (case s => decide); (case w => k_extra "weigh")); intro t' k'))
set_option maxHeartbeats 4000000 in
theorem lower_code (w : World) (k : Int) (hk : 0 ≤ k) (hk2 : k < 128) (hu : ¬ (65 ≤ k ∧ k ≤ 90)) (t : Tok) (news : Led) :
    Does w 68 1 8 [.int k t] news (fun v news' => (∃ t, v = .int k t) ∧ news' = news) := by
  intro dp un gd cn cs a ccd cl outer A₀ base h₀ L m s mean mg mb Q E B F X N T hk9 hdp hun hret
  w_on
  k_with_none
  refine wpAny_call ?_
  k_dflt ktr_enter
  k_steps
  all_goals first
    | (exfalso; omega)
    | exact hret _ _ _ _ (by k_asm) (by k_asm) ⟨⟨_, rfl⟩, rfl⟩
set_option maxHeartbeats 4000000 in
theorem lower_text (w : World) (x : Str) (hx : x = Str.ofString "utf-8" ∨ x = Str.ofString "us-ascii") (t : Tok) (news : Led) :
    Does w 73 2 24 [.str x t] news (fun v news' => (∃ t, v = .str x t) ∧ news' = news) := by
  intro dp un gd cn cs a ccd cl outer A₀ base h₀ L m s mean mg mb Q E B F X N T hk hdp hun hret
  have low : ∀ c ∈ x.cps, 0 ≤ c ∧ c < 128 ∧ ¬ (65 ≤ (c : Int) ∧ (c : Int) ≤ 90) := by rcases hx with rfl | rfl <;> decide
  w_on
  k_with_none
  k_with "comp" => k_dflt (refine comp_str (fun c y => ∃ t, y = .str ⟨#[c]⟩ t) (by k_asm) (by with_unfolding_all rfl) (by decide) (by rfl) (by decide) (by rfl) ?_)
  refine wpAny_call ?_
  k_dflt ktr_enter
  k_steps
  refine ⟨_, _, _, rfl, rfl, ?_, by k_asm, by k_asm, ?_, ?_⟩
  · rcases hx with rfl | rfl <;> decide +kernel
  · intro c tk' h' hc I oI C oC D ys m₂ h tk E' hC hx' F' N' off
    obtain ⟨_, hc1, hc2⟩ := low c hc
    k_with "does" => exact lower_code w _ (by omega) (by omega) hc2 _ _
    k_with "done" => (rintro _ _ h9 tk9 F9 N9 ⟨⟨t9, rfl⟩, e9⟩; replace e9 := e9.symm; subst e9; (try k_sweep))
    k_steps
    exact elt_end (by k_asm) (by k_asm) (fun p hp => hp) ⟨_, by rw [Int.toNat_natCast]⟩
  · intro D ys h tk F' N' off hl hg
    have hstr : StrsAre ys (signs x) := strsAre_of ys (signs x) (by rw [signs_length]; exact hl) fun i y hy => by
      obtain ⟨c, hc, t9, e9⟩ := hg i y hy
      exact ⟨_, by rw [signs, List.getElem?_map, Array.getElem?_toList, hc]; rfl, t9, e9⟩
    k_with "weigh" => exact weigh_signs x (by rcases hx with rfl | rfl <;> decide)
    k_steps
    rw [join_signs]
    exact hret _ _ _ _ (by k_asm) (by (rename News _ _ _ _ => NZ); exact news_sub NZ fun p hp => .tail _ hp) ⟨⟨_, rfl⟩, rfl⟩
end
end Mine
end
section
set_option maxRecDepth 100000
open PySem PySem.W PyProof.Rows LCg
namespace Mine
section
local macro_rules | `(tactic| walk_at "call ref") => `(tactic| (k_here; k_dflt (refine' does_use ?D ?B ?F ?X ?N ?T ?K ?d ?u ?_; (case B => k_asm); (case F => k_asm); (case X => k_asm); (case N => k_asm); (case T => k_asm); (case D => k_extra "does"); (case K => first | exact rfl | assumption); (case d => ktr_room); (case u => ktr_units); k_extra "done")))
local macro_rules | `(tactic| k_all) => `(tactic| first | assumption | exact lt_ne (by assumption))
local macro_rules | `(tactic| walk_at "eval ListComp") => `(tactic| (k_here; k_extra "comp"))
local macro_rules | `(tactic| walk_at "call builtin:str.join") => `(tactic| (k_here; k_dflt (refine' join_listW ?l ?i ?s ?w ?_; (case l => is_list); (case i => first | assumption | k_extra "strs"); (case s => decide); (case w => k_extra "weigh")); intro t' k'))
local macro_rules | `(tactic| walk_at "setItem ref str") => `(tactic| (k_here; k_dflt (refine' cn_set (k1 := Str.ofString "us-ascii") (k2 := Str.ofString "utf-8") (prog := PySem.Challenge.rw_nz0291_01.row.prog) ?F ?N ?U ?d ?z ?_; (case F => k_asm); (case N => k_asm); (case U => k_updF); (case d => assumption); (case z => omega)); intro h' o' F' N' hd'; (try dsimp only at N')))
local macro_rules | `(tactic| walk_at "GPost") => `(tactic| (dsimp only [GPost]))
local macro_rules | `(tactic| walk_at "exec For Name Tuple") => `(tactic| (k_here; ((rename Fr _ _ _ _ => lF'); (with_unfolding_all refine' For_turns lF' ?_); k_whole)))
local macro_rules | `(tactic| walk_at "newTuple") => `(tactic| (k_here; (try dsimp only); k_dflt (refine' kup_newTuple ?F ?N ?_ ?z; (case F => k_asm); (case N => k_asm); (case z => exact Nat.le_of_ble_eq_true rfl)); intro D' h' F' N' l1; (try k_lt l1)))
local macro_rules | `(tactic| walk_at "pyIter ref") => `(tactic| (refine Stop.of ?_))
theorem cn_eq {prog : Program} {w : World} {k1 k2 : Str} {o : Obj} {n : Nat} {a u a' u' : Option Value} (h : CN prog w k1 k2 o n a u) (e : (a, u) = (a', u')) : CN prog w k1 k2 o n a' u' := by cases e; exact h
def nStep (val : Value) (p : Option Value × Option Value) (v : Value) : Option Value × Option Value :=
  match v with
  | .str x _ => (if Str.ofString "us-ascii" = x then some val else p.1, if Str.ofString "utf-8" = x then some val else p.2)
  | _ => p
def NP (w : World) (val : Value) (fin : Option Value × Option Value) (M : Nat) (r : List Value) (o : Obj) : Prop :=
  ∃ n a u, CN PySem.Challenge.rw_nz0291_01.row.prog w (Str.ofString "us-ascii") (Str.ofString "utf-8") o n a u ∧ n + r.length ≤ M ∧ r.foldl (nStep val) (a, u) = fin ∧ ∀ v ∈ r, ∃ x t, v = .str x t
set_option maxHeartbeats 4000000 in
theorem charset_names (w : World) (news : Led) :
    Does w 81 1 24 [] news (fun v news' => ∃ D o t1 t2 n, v = .ref D ∧ news' = (D, o) :: news ∧ (∀ p ∈ news, p.1 < D) ∧ (D == sysModules) = false ∧
      CN PySem.Challenge.rw_nz0291_01.row.prog w (Str.ofString "us-ascii") (Str.ofString "utf-8") o n (some (.str (Str.ofString "us-ascii") t1)) (some (.str (Str.ofString "utf-8") t2))) := by
  intro dp un gd cn cs a ccd cl outer A₀ base h₀ L m s mean mg mb Q E B F X N T hk hdp hun hret
  w_on
  k_with_none
  refine wpAny_call ?_
  k_dflt ktr_enter
  k_steps
  unfold Stop
  rename_i dd _ oo l0 lo hs _ _ _ _ _ _ TT0 _ FW NW lw
  have l2 := lt_ne l0
  refine my_forT1 (fun c : Obj => (dd, c) :: news) (fun _ => [(Str.ofString "found", .ref dd)]) [Str.ofString "alias"] (NP w (.str (Str.ofString "us-ascii") 269) (some (.str (Str.ofString "us-ascii") 269), none) 9) oo (by rfl) FW NW ?hn0q ?hk0q ?hp0q ?turn0q ?done0q
  case hn0q => exact fun p hp => hp
  case hk0q =>
    intro p hp
    rw [List.mem_singleton.mp hp]
    exact rfl
  case hp0q => exact ⟨_, _, _, CN.of hs, by exact Nat.le_refl _, by rfl, by intro v hv; simp only [List.mem_cons, List.not_mem_nil, or_false] at hv; rcases hv with rfl | rfl | rfl | rfl | rfl | rfl | rfl | rfl | rfl <;> exact ⟨_, _, rfl⟩⟩
  case turn0q =>
    clear FW NW
    rintro c v r u I oI h tk9 ⟨n, a9, u9, hCN, hn, hfold, hstr⟩ ⟨hne, hoff⟩ FC NC
    dsimp only [midM, kstB] at FC NC ⊢
    obtain ⟨x, t, rfl⟩ := hstr v (.head _)
    rw [List.length_cons] at hn
    have ne1 : @Ne Nat dd TT0 := Nat.ne_of_lt lw.1
    have ne2 : @Ne Nat dd I := hoff _ (.head _)
    k_steps
    (rename News _ _ _ _ => NZ)
    (rename CN _ _ _ _ _ _ _ _ => hZ)
    rename_i hx ox Fx
    refine' GEnd.mk9 ox ?F0q ?N0q ?hn0q ?ho0q ?hk0q ?hz0q ?hP0q
    case F0q => k_asm
    case N0q => k_asm
    case hn0q => exact fun p hp => hp
    case ho0q =>
      intro p hp
      rcases List.mem_cons.mp hp with rfl | hp
      · exact hne
      rcases List.mem_cons.mp hp with rfl | hp
      · exact ne2
      · exact hoff p (.tail _ hp)
    case hk0q =>
      intro p hp
      rw [List.mem_singleton.mp hp]
      exact rfl
    case hz0q => ksw_same
    case hP0q => exact ⟨n + 1, _, _, hZ, by omega, hfold, fun v hv => hstr v (.tail _ hv)⟩
  clear FW NW lw
  rintro c0 u0 h0 tk0 ⟨n0, a0, b0, hCN0, hn0, hf0, _⟩ FC NC
  replace hCN0 := cn_eq hCN0 hf0
  dsimp only [midM, kstB] at FC NC ⊢
  k_steps
  unfold Stop
  rename_i TT1 _ FW NW lw
  refine my_forT1 (fun c : Obj => (dd, c) :: news) (fun _ => [(Str.ofString "found", .ref dd)]) [Str.ofString "alias"] (NP w (.str (Str.ofString "iso-8859-1") 271) (some (.str (Str.ofString "us-ascii") 269), none) 17) c0 (by rfl) FW NW ?hn1q ?hk1q ?hp1q ?turn1q ?done1q
  case hn1q => exact fun p hp => (List.mem_cons.mp hp).elim (fun e => e ▸ .tail _ (.head _)) fun e => .tail _ (.tail _ e)
  case hk1q =>
    intro p hp
    rw [List.mem_singleton.mp hp]
    exact rfl
  case hp1q => exact ⟨_, _, _, hCN0, by show n0 + 8 ≤ 17; rw [List.length_nil] at hn0; omega, by rfl, by intro v hv; simp only [List.mem_cons, List.not_mem_nil, or_false] at hv; rcases hv with rfl | rfl | rfl | rfl | rfl | rfl | rfl | rfl <;> exact ⟨_, _, rfl⟩⟩
  case turn1q =>
    clear FW NW
    rintro c v r u I oI h tk9 ⟨n, a9, u9, hCN, hn, hfold, hstr⟩ ⟨hne, hoff⟩ FC NC
    dsimp only [midM, kstB] at FC NC ⊢
    obtain ⟨x, t, rfl⟩ := hstr v (.head _)
    rw [List.length_cons] at hn
    have ne1 : @Ne Nat dd TT1 := Nat.ne_of_lt (by simpa using lw.2.1)
    have ne2 : @Ne Nat dd I := hoff _ (.head _)
    k_steps
    (rename News _ _ _ _ => NZ)
    (rename CN _ _ _ _ _ _ _ _ => hZ)
    rename_i hx ox Fx
    refine' GEnd.mk9 ox ?F1q ?N1q ?hn1q ?ho1q ?hk1q ?hz1q ?hP1q
    case F1q => k_asm
    case N1q => k_asm
    case hn1q => exact fun p hp => hp
    case ho1q =>
      intro p hp
      rcases List.mem_cons.mp hp with rfl | hp
      · exact hne
      rcases List.mem_cons.mp hp with rfl | hp
      · exact ne2
      · exact hoff p (.tail _ hp)
    case hk1q =>
      intro p hp
      rw [List.mem_singleton.mp hp]
      exact rfl
    case hz1q => ksw_same
    case hP1q => exact ⟨n + 1, _, _, hZ, by omega, hfold, fun v hv => hstr v (.tail _ hv)⟩
  clear FW NW lw
  rintro c1 u1 h1 tk1 ⟨n1, a1, b1, hCN1, hn1, hf1, _⟩ FC NC
  replace hCN1 := cn_eq hCN1 hf1
  dsimp only [midM, kstB] at FC NC ⊢
  k_steps
  unfold Stop
  rename_i TT2 _ FW NW lw
  refine my_forT1 (fun c : Obj => (dd, c) :: news) (fun _ => [(Str.ofString "found", .ref dd)]) [Str.ofString "alias"] (NP w (.str (Str.ofString "utf-8") 273) (some (.str (Str.ofString "us-ascii") 269), some (.str (Str.ofString "utf-8") 273)) 19) c1 (by rfl) FW NW ?hn2q ?hk2q ?hp2q ?turn2q ?done2q
  case hn2q => exact fun p hp => (List.mem_cons.mp hp).elim (fun e => e ▸ .tail _ (.head _)) fun e => .tail _ (.tail _ e)
  case hk2q =>
    intro p hp
    rw [List.mem_singleton.mp hp]
    exact rfl
  case hp2q => exact ⟨_, _, _, hCN1, by show n1 + 2 ≤ 19; rw [List.length_nil] at hn1; omega, by rfl, by intro v hv; simp only [List.mem_cons, List.not_mem_nil, or_false] at hv; rcases hv with rfl | rfl <;> exact ⟨_, _, rfl⟩⟩
  case turn2q =>
    clear FW NW
    rintro c v r u I oI h tk9 ⟨n, a9, u9, hCN, hn, hfold, hstr⟩ ⟨hne, hoff⟩ FC NC
    dsimp only [midM, kstB] at FC NC ⊢
    obtain ⟨x, t, rfl⟩ := hstr v (.head _)
    rw [List.length_cons] at hn
    have ne1 : @Ne Nat dd TT2 := Nat.ne_of_lt (by simpa using lw.2.1)
    have ne2 : @Ne Nat dd I := hoff _ (.head _)
    k_steps
    (rename News _ _ _ _ => NZ)
    (rename CN _ _ _ _ _ _ _ _ => hZ)
    rename_i hx ox Fx
    refine' GEnd.mk9 ox ?F2q ?N2q ?hn2q ?ho2q ?hk2q ?hz2q ?hP2q
    case F2q => k_asm
    case N2q => k_asm
    case hn2q => exact fun p hp => hp
    case ho2q =>
      intro p hp
      rcases List.mem_cons.mp hp with rfl | hp
      · exact hne
      rcases List.mem_cons.mp hp with rfl | hp
      · exact ne2
      · exact hoff p (.tail _ hp)
    case hk2q =>
      intro p hp
      rw [List.mem_singleton.mp hp]
      exact rfl
    case hz2q => ksw_same
    case hP2q => exact ⟨n + 1, _, _, hZ, by omega, hfold, fun v hv => hstr v (.tail _ hv)⟩
  clear FW NW lw
  rintro c2 u2 h2 tk2 ⟨n2, a2, b2, hCN2, hn2, hf2, _⟩ FC NC
  replace hCN2 := cn_eq hCN2 hf2
  dsimp only [midM, kstB] at FC NC ⊢
  k_steps
  all_goals exact hret _ _ _ _ (by k_asm) (by (rename News _ _ _ _ => NZ); exact news_sub NZ fun p hp => .tail _ hp) ⟨dd, c2, _, _, _, rfl, rfl, l0, lo, hCN2⟩
end
end Mine
end
section
set_option maxRecDepth 100000
open PySem PySem.W PyProof.Rows LCg PySem.Builtin
namespace Mine
def leadB : Nat → Array UInt8
  | 0 => #[117, 116, 102, 45, 56, 39, 101, 110, 39]
  | _ => #[117, 115, 45, 97, 115, 99, 105, 105, 39, 39]
def csetB : Nat → Array UInt8
  | 0 => #[117, 116, 102, 45, 56]
  | _ => #[117, 115, 45, 97, 115, 99, 105, 105]
def midB : Nat → Array UInt8
  | 0 => #[101, 110]
  | _ => #[]
def csetS : Nat → Str
  | 0 => Str.ofString "utf-8"
  | _ => Str.ofString "us-ascii"
theorem csetS_or (e : Nat) : csetS e = Str.ofString "utf-8" ∨ csetS e = Str.ofString "us-ascii" := by
  cases e with
  | zero => exact .inl rfl
  | succ e => exact .inr rfl
theorem textOf_cset (e : Nat) : textOf (KBw.bInts (csetB e)) = csetS e := by
  cases e with
  | zero => decide +kernel
  | succ e => show textOf (KBw.bInts #[117, 115, 45, 97, 115, 99, 105, 105]) = Str.ofString "us-ascii"; decide +kernel
theorem cset_low (e : Nat) : ∀ k ∈ KBw.bInts (csetB e), 0 ≤ k ∧ k < 128 := by
  cases e with
  | zero => decide +kernel
  | succ e => show ∀ k ∈ KBw.bInts #[117, 115, 45, 97, 115, 99, 105, 105], 0 ≤ k ∧ k < 128; decide +kernel
theorem cset_len (e : Nat) : (KBw.bInts (csetB e)).length < 1000 := by
  cases e with
  | zero => decide +kernel
  | succ e => show (KBw.bInts #[117, 115, 45, 97, 115, 99, 105, 105]).length < 1000; decide +kernel
theorem cset_size (e : Nat) : (csetB e).size ≤ PySem.sizeLine := by rw [sizeLine_eq, ← KBw.ints_length]; have := cset_len e; omega
theorem cut_parts (e j : Nat) : (if (splitQ (leadB e ++ wordB j) #[39] (if (2 : Int) < 0 then (leadB e ++ wordB j).size + 1 else (2 : Int).toNat)).isEmpty = true then [leadB e ++ wordB j] else Bytes.between (leadB e ++ wordB j) 1 (splitQ (leadB e ++ wordB j) #[39] (if (2 : Int) < 0 then (leadB e ++ wordB j).size + 1 else (2 : Int).toNat))) = [csetB e, midB e, wordB j] := by
  cases e with
  | zero => match j with
    | 0 => decide +kernel
    | 1 => decide +kernel
    | 2 => decide +kernel
    | n + 3 => show (if (splitQ (leadB 0 ++ wordB 3) #[39] (if (2 : Int) < 0 then (leadB 0 ++ wordB 3).size + 1 else (2 : Int).toNat)).isEmpty = true then [leadB 0 ++ wordB 3] else Bytes.between (leadB 0 ++ wordB 3) 1 (splitQ (leadB 0 ++ wordB 3) #[39] (if (2 : Int) < 0 then (leadB 0 ++ wordB 3).size + 1 else (2 : Int).toNat))) = [csetB 0, midB 0, wordB 3]; decide +kernel
  | succ e => match j with
    | 0 => show (if (splitQ (leadB 1 ++ wordB 0) #[39] (if (2 : Int) < 0 then (leadB 1 ++ wordB 0).size + 1 else (2 : Int).toNat)).isEmpty = true then [leadB 1 ++ wordB 0] else Bytes.between (leadB 1 ++ wordB 0) 1 (splitQ (leadB 1 ++ wordB 0) #[39] (if (2 : Int) < 0 then (leadB 1 ++ wordB 0).size + 1 else (2 : Int).toNat))) = [csetB 1, midB 1, wordB 0]; decide +kernel
    | 1 => show (if (splitQ (leadB 1 ++ wordB 1) #[39] (if (2 : Int) < 0 then (leadB 1 ++ wordB 1).size + 1 else (2 : Int).toNat)).isEmpty = true then [leadB 1 ++ wordB 1] else Bytes.between (leadB 1 ++ wordB 1) 1 (splitQ (leadB 1 ++ wordB 1) #[39] (if (2 : Int) < 0 then (leadB 1 ++ wordB 1).size + 1 else (2 : Int).toNat))) = [csetB 1, midB 1, wordB 1]; decide +kernel
    | 2 => show (if (splitQ (leadB 1 ++ wordB 2) #[39] (if (2 : Int) < 0 then (leadB 1 ++ wordB 2).size + 1 else (2 : Int).toNat)).isEmpty = true then [leadB 1 ++ wordB 2] else Bytes.between (leadB 1 ++ wordB 2) 1 (splitQ (leadB 1 ++ wordB 2) #[39] (if (2 : Int) < 0 then (leadB 1 ++ wordB 2).size + 1 else (2 : Int).toNat))) = [csetB 1, midB 1, wordB 2]; decide +kernel
    | n + 3 => show (if (splitQ (leadB 1 ++ wordB 3) #[39] (if (2 : Int) < 0 then (leadB 1 ++ wordB 3).size + 1 else (2 : Int).toNat)).isEmpty = true then [leadB 1 ++ wordB 3] else Bytes.between (leadB 1 ++ wordB 3) 1 (splitQ (leadB 1 ++ wordB 3) #[39] (if (2 : Int) < 0 then (leadB 1 ++ wordB 3).size + 1 else (2 : Int).toNat))) = [csetB 1, midB 1, wordB 3]; decide +kernel
theorem word_size (j : Nat) : (wordB j).size ≤ 3 := by
  match j with
  | 0 => decide
  | 1 => decide
  | 2 => decide
  | n + 3 => exact (by decide : (wordB 3).size ≤ 3)
theorem mid_size (e : Nat) : (midB e).size ≤ 3 := by
  cases e with
  | zero => decide
  | succ e => exact (by decide : (midB 1).size ≤ 3)
theorem parts_size (e j : Nat) : ∀ p ∈ [csetB e, midB e, wordB j], p.size ≤ PySem.sizeLine := by
  intro p hp
  have h1 := cset_size e
  have h2 := mid_size e
  have h3 := word_size j
  rw [sizeLine_eq] at h1 ⊢
  simp only [List.mem_cons, List.not_mem_nil, or_false] at hp
  rcases hp with rfl | rfl | rfl <;> omega
theorem parts3 {vs : List Value} {a b c : Array UInt8} (h : PartsAre vs [a, b, c]) : ∃ t1 t2 t3, vs = [.bytes a t1, .bytes b t2, .bytes c t3] := by
  obtain ⟨h1, h2⟩ := h
  match vs, h1 with
  | [x, y, z], _ =>
    obtain ⟨t1, e1⟩ := h2 0 a rfl
    obtain ⟨t2, e2⟩ := h2 1 b rfl
    obtain ⟨t3, e3⟩ := h2 2 c rfl
    simp at e1 e2 e3
    exact ⟨t1, t2, t3, by rw [e1, e2, e3]⟩
section
local macro_rules | `(tactic| walk_at "call ref") => `(tactic| (k_here; k_dflt (refine' does_use ?D ?B ?F ?X ?N ?T ?K ?d ?u ?_; (case B => k_asm); (case F => k_asm); (case X => k_asm); (case N => k_asm); (case T => k_asm); (case D => k_extra "does"); (case K => first | exact rfl | assumption); (case d => ktr_room); (case u => ktr_units); k_extra "done")))
local macro_rules | `(tactic| k_all) => `(tactic| first | assumption | exact lt_ne (by assumption))
local macro_rules | `(tactic| walk_at "eval ListComp") => `(tactic| (k_here; k_extra "comp"))
local macro_rules | `(tactic| walk_at "call builtin:str.join") => `(tactic| (k_here; k_dflt (refine' join_listW ?l ?i ?s ?w ?_; (case l => is_list); (case i => first | assumption | k_extra "strs"); (case s => decide); (case w => k_extra "weigh")); intro t' k'))
local macro_rules | `(tactic| walk_at "getMethod ref") => `(tactic| (k_here; k_dflt (refine cn_method (k1 := Str.ofString "us-ascii") (k2 := Str.ofString "utf-8") (prog := PySem.Challenge.rw_nz0291_01.row.prog) (by k_asm) (.head _) (by assumption) ?_)))
local macro_rules | `(tactic| walk_at "call builtin:dict.get") => `(tactic| (k_here; k_dflt (first | (refine cn_get1 (k1 := Str.ofString "us-ascii") (k2 := Str.ofString "utf-8") (prog := PySem.Challenge.rw_nz0291_01.row.prog) (by k_asm) (.head _) (by assumption) (by assumption) ?_) | (refine cn_get2 (k1 := Str.ofString "us-ascii") (k2 := Str.ofString "utf-8") (prog := PySem.Challenge.rw_nz0291_01.row.prog) (by k_asm) (.head _) (by assumption) (by assumption) ?_))))
set_option maxHeartbeats 4000000 in
theorem charset_name (w : World) (x : Str) (hx : x = Str.ofString "utf-8" ∨ x = Str.ofString "us-ascii") (t : Tok) (news : Led) :
    Does w 88 3 48 [.str x t] news (fun v news' => (∃ t, v = .str x t) ∧ news' = news) := by
  intro dp un gd cn cs a ccd cl outer A₀ base h₀ L m s mean mg mb Q E B F X N T hk hdp hun hret
  rcases hx with rfl | rfl
  all_goals
    w_on
    k_with_none
    k_with "does" => first | exact charset_names w _ | exact lower_text w _ (by first | exact .inl rfl | exact .inr rfl) _ _
    k_with "done" => (rintro _ _ h9 tk9 F9 N9 ⟨D9, o9, t91, t92, n9, rfl, rfl, l9, lo9, c9⟩; (try k_lt l9); (try k_sweep))
    k_with "done" => (rintro _ _ h9 tk9 F9 N9 ⟨⟨t9, rfl⟩, e9⟩; replace e9 := e9.symm; subst e9; (try k_sweep))
    refine wpAny_call ?_
    k_dflt ktr_enter
    k_steps
    all_goals exact hret _ _ _ _ (by k_asm) (by (rename News _ _ _ _ => NZ); exact news_sub NZ fun p hp => .tail _ hp) ⟨⟨_, rfl⟩, rfl⟩
local macro_rules | `(tactic| walk_at "getMethod bytes") => `(tactic| (k_here; refine meth_split ?_))
local macro_rules | `(tactic| walk_at "call builtin:bytes.split") => `(tactic| (refine Stop.of ?_))
set_option maxHeartbeats 4000000 in
theorem charset_cut (w : World) (e j : Nat) (t : Tok) (news : Led) :
    Does w 168 4 64 [.bytes (leadB e ++ wordB j) t] news (fun v news' => ∃ T t1 t2 k, v = .ref T ∧ news' = (T, tupOf [.str (csetS e) t1, .bytes (wordB j) t2] k) :: news ∧ ∀ p ∈ news, p.1 < T) := by
  intro dp un gd cn cs a ccd cl outer A₀ base h₀ L m s mean mg mb Q E B F X N T hk hdp hun hret
  w_on
  k_with_none
  refine wpAny_call ?_
  k_dflt ktr_enter
  k_steps
  unfold Stop
  rename_i FW NW _ _ _
  k_dflt (refine split_bytes3 (by k_asm) (by k_asm) (by decide) (by decide) (cut_parts e j) (parts_size e j) (show 3 ≤ PySem.sizeLine from by decide) ?_)
  intro D vs h' k F' N' lt hp
  obtain ⟨t1, t2, t3, rfl⟩ := parts3 hp
  clear hp
  have lt1 := lt_ne lt
  have hks : KBw.bInts (csetB e) = KBw.bInts (csetB e) := rfl
  k_with "comp" => k_dflt (refine comp_bytes (fun k y => ∃ t, y = .str (chrS k) t) (by k_asm) (by with_unfolding_all rfl) (by decide) (by rfl) (by decide) (by rfl) ?_)
  k_steps
  refine ⟨_, _, _, rfl, rfl, cset_size e, by k_asm, by k_asm, ?_, ?_⟩
  · intro k tk' h' hk' I oI C oC D2 ys m₂ h tk E' hC hx' F' N' off
    obtain ⟨hlo, hhi⟩ := cset_low e k hk'
    k_steps
    exact elt_end (by k_asm) (by k_asm) (fun p hp => hp) ⟨_, rfl⟩
  · intro D2 ys h tk F' N' off hl hg
    have hstr : StrsAre ys ((KBw.bInts (csetB e)).map chrS) := strsAre_of ys _ (by rw [List.length_map]; exact hl) fun i y hy => by
      obtain ⟨c, hc, t9, e9⟩ := hg i y hy
      exact ⟨_, by rw [List.getElem?_map, hc]; rfl, t9, e9⟩
    k_with "weigh" => exact weigh_chr _ (cset_len e)
    k_with "does" => exact does_val (charset_name w (csetS e) (csetS_or e) _ _) (congrArg (fun x => [Value.str x _]) (by rw [join_chr, textOf_cset]))
    k_with "done" => (rintro _ _ h9 tk9 F9 N9 ⟨⟨t9, rfl⟩, e9⟩; replace e9 := e9.symm; subst e9; (try k_sweep))
    k_steps
    rename_i lz _ _ _ _
    refine hret _ _ _ _ (by k_asm) (by (rename News _ _ _ _ => NZ); exact news_sub NZ fun p hp => (List.mem_cons.mp hp).elim (fun e => e ▸ .head _) fun e => .tail _ (.tail _ (.tail _ e))) ⟨_, _, _, _, rfl, rfl, fun p hp => Nat.lt_trans (lt p hp) lz.2.1⟩
end
end Mine
end
section
set_option maxRecDepth 100000
open PySem PySem.W PyProof.Rows
namespace Mine
/-- a part: encoded or not, its lead, its word -/
abbrev Pt := Bool × Nat × Nat
def ptB (k : Nat) (p : Pt) : Array UInt8 := if p.1 = true ∧ k = 0 then leadB p.2.1 ++ wordB p.2.2 else wordB p.2.2
def ptD (p : Pt) : Array UInt8 := if p.1 = true then decB p.2.2 else wordB p.2.2
def catD (part : Nat → Option Pt) : Nat → Array UInt8
  | 0 => #[]
  | i + 1 => catD part i ++ (match part i with | some p => ptD p | none => #[])
/-- the parts go on from 0 as far as i -/
def Runs (part : Nat → Option Pt) (i : Nat) : Prop := (∀ k, k < i → part k ≠ none) ∧ part i = none
theorem Runs.uniq {part : Nat → Option Pt} {i j : Nat} (h : Runs part i) (g : Runs part j) : i = j := by
  rcases Nat.lt_trichotomy i j with c | c | c
  · exact absurd h.2 (g.1 i c)
  · exact c
  · exact absurd g.2 (h.1 j c)
theorem ints_append (a b : Array UInt8) : KBw.bInts (a ++ b) = KBw.bInts a ++ KBw.bInts b := by
  unfold KBw.bInts
  rw [Array.toList_append, List.map_append]
theorem word_low (j : Nat) : ∀ k ∈ KBw.bInts (wordB j), 0 ≤ k ∧ k < 128 := by
  match j with
  | 0 => decide +kernel
  | 1 => decide +kernel
  | 2 => decide +kernel
  | n + 3 => exact (by decide +kernel : ∀ k ∈ KBw.bInts (wordB 3), 0 ≤ k ∧ k < 128)
theorem dec_low (j : Nat) : ∀ k ∈ KBw.bInts (decB j), 0 ≤ k ∧ k < 128 := by
  match j with
  | 0 => decide +kernel
  | 1 => decide +kernel
  | 2 => decide +kernel
  | n + 3 => exact (by decide +kernel : ∀ k ∈ KBw.bInts (decB 3), 0 ≤ k ∧ k < 128)
theorem dec_size (j : Nat) : (decB j).size ≤ 3 := by
  match j with
  | 0 => decide
  | 1 => decide
  | 2 => decide
  | n + 3 => exact (by decide : (decB 3).size ≤ 3)
theorem ptD_low (p : Pt) : ∀ k ∈ KBw.bInts (ptD p), 0 ≤ k ∧ k < 128 := by
  unfold ptD
  split
  · exact dec_low _
  · exact word_low _
theorem ptD_size (p : Pt) : (ptD p).size ≤ 3 := by
  unfold ptD
  split
  · exact dec_size _
  · exact word_size _
theorem catD_low (part : Nat → Option Pt) : ∀ i, ∀ k ∈ KBw.bInts (catD part i), 0 ≤ k ∧ k < 128
  | 0 => by intro k hk; simp [catD, KBw.bInts] at hk
  | i + 1 => by
    intro k hk
    rw [catD, ints_append, List.mem_append] at hk
    rcases hk with hk | hk
    · exact catD_low part i k hk
    · cases hp : part i with
      | none => rw [hp] at hk; simp [KBw.bInts] at hk
      | some p => rw [hp] at hk; exact ptD_low p k hk
theorem catD_size (part : Nat → Option Pt) : ∀ i, (catD part i).size ≤ 3 * i
  | 0 => by simp [catD]
  | i + 1 => by
    have h := catD_size part i
    rw [catD, Array.size_append]
    cases hp : part i with
    | none => simp only [Array.size_empty]; omega
    | some p => have := ptD_size p; simp only; omega
theorem catD_succ {part : Nat → Option Pt} {i : Nat} {p : Pt} (h : part i = some p) : catD part (i + 1) = catD part i ++ ptD p := by rw [catD, h]
/-- the charset that the first part names -/
def csOf (part : Nat → Option Pt) (i : Nat) : Str := match i, part 0 with
  | _ + 1, some (true, e, _) => csetS e
  | _, _ => Str.ofString ""
theorem csOf_or (part : Nat → Option Pt) (i : Nat) : csOf part i = Str.ofString "" ∨ csOf part i = Str.ofString "utf-8" ∨ csOf part i = Str.ofString "us-ascii" := by
  unfold csOf
  split
  · rcases csetS_or _ with h | h
    · exact .inr (.inl h)
    · exact .inr (.inr h)
  · exact .inl rfl
theorem csOf_succ (part : Nat → Option Pt) (i : Nat) : csOf part (i + 1 + 1) = csOf part (i + 1) := by
  unfold csOf
  cases part 0 with
  | none => rfl
  | some p =>
    obtain ⟨b, e, j⟩ := p
    cases b <;> rfl
theorem csOf_one {part : Nat → Option Pt} {e j : Nat} (h : part 0 = some (true, e, j)) : csOf part (0 + 1) = csetS e := by
  unfold csOf; rw [h]
theorem csOf_plain {part : Nat → Option Pt} {e j : Nat} (h : part 0 = some (false, e, j)) : csOf part (0 + 1) = csOf part 0 := by
  unfold csOf; rw [h]
theorem perc_all (w : World) (j : Nat) (tb : Tok) (news : Led) :
    Does w 163 3 64 [.bytes (wordB j) tb] news (fun v news' => ∃ t, v = .bytes (decB j) t ∧ news' = news) := by
  match j with
  | 0 => exact perc_x w tb news
  | 1 => exact perc_41 w tb news
  | 2 => exact perc_e w tb news
  | n + 3 => exact perc_yz w tb news
/-- the dict of one name's parts -/
def PartsIn (w : World) (o : Obj) (part : Nat → Option Pt) (news : Led) : Prop :=
  ∃ kvs, o.IsDictOf (PySem.intKind PySem.Challenge.rw_nz0291_01.row.prog w) kvs ∧ kvs.length ≤ 1000 ∧ ∀ k : Nat, match part k with
    | none => valueAt kvs (k : Int) = none
    | some p => k < 4 ∧ ∃ T t c, valueAt kvs (k : Int) = some (.ref T) ∧ (T, tupOf [.bool p.1, .bytes (ptB k p) t] c) ∈ news
end Mine
end
section
set_option maxRecDepth 100000
open PySem PySem.W PyProof.Rows LCg PySem.Builtin
namespace Mine
section
local macro_rules | `(tactic| walk_at "call ref") => `(tactic| (k_here; k_dflt (refine' does_use ?D ?B ?F ?X ?N ?T ?K ?d ?u ?_; (case B => k_asm); (case F => k_asm); (case X => k_asm); (case N => k_asm); (case T => k_asm); (case D => k_extra "does"); (case K => first | exact rfl | assumption); (case d => ktr_room); (case u => ktr_units); k_extra "done")))
local macro_rules | `(tactic| k_all) => `(tactic| first | assumption | exact lt_ne (by assumption))
local macro_rules | `(tactic| walk_at "exec While Compare cons nil") => `(tactic| (refine Stop.of ?_))
local macro_rules | `(tactic| walk_at "binaryOp Add bytes bytes") => `(tactic| (k_here; (with_reducible show wpAny _ _ (binaryOp Operator.Add (Value.bytes _ _) (Value.bytes _ _)) _ _ _); (refine KBy.add_bytes (by k_extra "size") ?_); intro t' k'))
local macro_rules | `(tactic| walk_at "compareOp In int ref") => `(tactic| (k_here; k_dflt (first
  | refine kda_in (knd := PySem.intKind _ _) (by k_asm) (by first | assumption | (refine List.mem_cons_of_mem _ ?_; assumption) | (refine List.mem_cons_of_mem _ (List.mem_cons_of_mem _ ?_); assumption)) (by assumption) (by assumption) (intKind_is _ _ _ _) true (by k_extra "has") ?_
  | refine kda_in (knd := PySem.intKind _ _) (by k_asm) (by first | assumption | (refine List.mem_cons_of_mem _ ?_; assumption) | (refine List.mem_cons_of_mem _ (List.mem_cons_of_mem _ ?_); assumption)) (by assumption) (by assumption) (intKind_is _ _ _ _) false (by k_extra "has") ?_)))
local macro_rules | `(tactic| walk_at "subscriptTail") => `(tactic| (k_here; (with_reducible show wpAny _ _ (subscriptTail _ _ (Value.ref _) (Value.int _ _)) _ _ _); k_dflt (refine kda_item (knd := PySem.intKind _ _) (by k_asm) (by first | assumption | (refine List.mem_cons_of_mem _ ?_; assumption) | (refine List.mem_cons_of_mem _ (List.mem_cons_of_mem _ ?_); assumption)) (by assumption) (intKind_is _ _ _ _) (by assumption) ?_)))
set_option maxHeartbeats 4000000 in
theorem joined (w : World) (P : Addr) (o : Obj) (part : Nat → Option Pt) (news : Led) (hP : (P, o) ∈ news) (hlo : (P == sysModules) = false) (hi : PartsIn w o part news) :
    Does w 175 7 128 [.ref P] news (fun v news' => ∃ i t, Runs part i ∧ v = .str (textOf (KBw.bInts (catD part i))) t ∧ news' = news) := by
  intro dp un gd cn cs a ccd cl outer A₀ base h₀ L m s mean mg mb Q E B F X N T hk hdp hun hret
  obtain ⟨kvs, hd', hlen, hat⟩ := hi
  w_on
  k_with_none
  refine wpAny_call ?_
  k_dflt ktr_enter
  k_steps
  unfold Stop
  rename_i g' L' hB1 FG' BG' XG' TG' hA1 hA2 hA3 FW NW
  refine loopW (fun _ : Nat × Tok × Tok × Tok => news) (fun c => [(Str.ofString "number", .int (c.1 : Int) c.2.1), (Str.ofString "charset", .str (csOf part c.1) c.2.2.1), (Str.ofString "octets", .bytes (catD part c.1) c.2.2.2), (Str.ofString "parts", .ref P)])
      (fun c => c.1 ≤ 4 ∧ ∀ k, k < c.1 → part k ≠ none) (fun c => 4 - c.1) (0, _, _, _) FW NW sub_refl (all_cons rfl (all_cons rfl (all_cons rfl (all_cons rfl all_nil)))) ?hp ?turn
  case hp => exact ⟨Nat.zero_le _, fun k hk => absurd hk (Nat.not_lt_zero k)⟩
  clear FW NW
  rintro K ⟨i, tn, tc, tb⟩ u hp tk hK _ _ ⟨hi, hall⟩ FC NC
  dsimp only at hi hall FC NC
  have hv := hat i
  cases hpi : part i with
  | none =>
    rw [hpi] at hv
    replace hv : valueAt kvs (i : Int) = none := hv
    k_with "has" => (rw [hv]; rfl)
    have hsz : (KBw.bInts (catD part i)).length < 1000 := by
      rw [KBw.ints_length]
      have := catD_size part i
      omega
    have hend : ∀ (v : Value) h9 tk9, Fr h₀ L h9 m → News h₀ L h9 news → (∃ t, v = .str (textOf (KBw.bInts (catD part i))) t) → Q v { s with heap := h9, toks := tk9 } := by
      rintro v h9 tk9 F9 N9 ⟨t, rfl⟩
      exact hret _ _ _ _ F9 N9 ⟨i, t, ⟨hall, hpi⟩, rfl, rfl⟩
    k_with "done" => (rintro _ _ h9 tk9 F9 N9 ⟨t9, rfl, e9⟩; replace e9 := e9.symm; subst e9; (try k_sweep))
    rcases csOf_or part i with hcs | hcs | hcs
    · rw [hcs] at FC
      k_with "does" => exact guessed_text w _ _ _ _ rfl hsz (catD_low part i)
      k_steps
      exact hend _ _ _ (by k_asm) (by k_asm) ⟨_, rfl⟩
    · rw [hcs] at FC
      k_with "does" => exact text_in w _ (.inl rfl) _ _ _ _ _ rfl hsz (catD_low part i)
      k_steps
      exact hend _ _ _ (by k_asm) (by k_asm) ⟨_, rfl⟩
    · rw [hcs] at FC
      k_with "does" => exact text_in w _ (.inr rfl) _ _ _ _ _ rfl hsz (catD_low part i)
      k_steps
      exact hend _ _ _ (by k_asm) (by k_asm) ⟨_, rfl⟩
  | some p =>
    rw [hpi] at hv
    obtain ⟨hi4, T9, t9, c9, hv, hm9⟩ := hv
    obtain ⟨enc, e, j⟩ := p
    have hsz : (catD part i).size ≤ 12 := Nat.le_trans (catD_size part i) (by omega)
    have NC2 : News g' L' hp ((T9, tupOf [.bool enc, .bytes (ptB i (enc, e, j)) t9] c9) :: news) := fun q hq => by
      rcases List.mem_cons.mp hq with rfl | hq
      · exact NC _ hm9
      · exact NC q hq
    clear NC
    k_with "has" => (rw [hv]; rfl)
    k_with "size" => (have h1 := word_size j; have h2 := dec_size j; omega)
    k_with "does" => first | exact perc_all w _ _ _ | exact charset_cut w _ _ _ _
    k_with "done" => (rintro _ _ h9 tk9 F9 N9 ⟨T8, t81, t82, k8, rfl, rfl, l8⟩; (try k_lt l8); (try k_sweep))
    k_with "done" => (rintro _ _ h9 tk9 F9 N9 ⟨t9, rfl, e9⟩; replace e9 := e9.symm; subst e9; (try k_sweep))
    cases enc with
    | false =>
      rw [show ptB i (false, e, j) = wordB j from rfl] at NC2
      have e1 : csOf part (i + 1) = csOf part i := by
        cases i with
        | zero => exact csOf_plain hpi
        | succ i => exact csOf_succ part i
      have e2 : catD part (i + 1) = catD part i ++ wordB j := catD_succ hpi
      k_steps
      all_goals
        (rename Fr _ _ _ _ => FZ); (rename News _ _ _ _ => NZ)
        refine hK.go (i + 1, _, _, _) FZ NZ (fun p hp => .tail _ hp) (all_cons rfl (all_cons (by show _ = some (Value.str (csOf part (i + 1)) _); rw [e1]; exact rfl) (all_cons (by show _ = some (Value.bytes (catD part (i + 1)) _); rw [e2]; exact rfl) (all_cons rfl all_nil)))) ?hP (by show 4 - (i + 1) < 4 - i; omega)
        case hP =>
          refine ⟨by show i + 1 ≤ 4; omega, fun k hk => ?_⟩
          by_cases hki : k = i
          · subst hki; rw [hpi]; exact fun q => nomatch q
          · exact hall k (by have : k < i + 1 := hk; omega)
    | true =>
      by_cases hi0 : i = 0
      · subst hi0
        rw [show ptB 0 (true, e, j) = leadB e ++ wordB j from rfl] at NC2
        have e1 : csOf part (0 + 1) = csetS e := csOf_one hpi
        have e2 : catD part (0 + 1) = catD part 0 ++ decB j := catD_succ hpi
        k_steps
        all_goals
          (rename Fr _ _ _ _ => FZ); (rename News _ _ _ _ => NZ)
          refine hK.go (1, _, _, _) FZ NZ (fun p hp => .tail _ (.tail _ hp)) (all_cons rfl (all_cons (by show _ = some (Value.str (csOf part (0 + 1)) _); rw [e1]; exact rfl) (all_cons (by show _ = some (Value.bytes (catD part (0 + 1)) _); rw [e2]; exact rfl) (all_cons rfl all_nil)))) ?hP (by show 4 - (0 + 1) < 4 - 0; omega)
          case hP =>
            refine ⟨by show 0 + 1 ≤ 4; omega, fun k hk => ?_⟩
            by_cases hki : k = 0
            · subst hki; rw [hpi]; exact fun q => nomatch q
            · exact hall k (by have : k < 0 + 1 := hk; omega)
      · rw [show ptB i (true, e, j) = wordB j from by unfold ptB; rw [if_neg (fun q => hi0 q.2)]] at NC2
        have e1 : csOf part (i + 1) = csOf part i := by
          cases i with
          | zero => exact absurd rfl hi0
          | succ i => exact csOf_succ part i
        have e2 : catD part (i + 1) = catD part i ++ decB j := catD_succ hpi
        k_steps
        all_goals
          first
          | (exfalso; omega)
          | skip
        all_goals
          (rename Fr _ _ _ _ => FZ); (rename News _ _ _ _ => NZ)
          refine hK.go (i + 1, _, _, _) FZ NZ (fun p hp => .tail _ hp) (all_cons rfl (all_cons (by show _ = some (Value.str (csOf part (i + 1)) _); rw [e1]; exact rfl) (all_cons (by show _ = some (Value.bytes (catD part (i + 1)) _); rw [e2]; exact rfl) (all_cons rfl all_nil)))) ?hP (by show 4 - (i + 1) < 4 - i; omega)
          case hP =>
            refine ⟨by show i + 1 ≤ 4; omega, fun k hk => ?_⟩
            by_cases hki : k = i
            · subst hki; rw [hpi]; exact fun q => nomatch q
            · exact hall k (by have : k < i + 1 := hk; omega)
end
end Mine
end
section
set_option maxRecDepth 100000
open PySem PySem.W PyProof.Rows
namespace Mine
def nm : Nat → Str
  | 0 => Str.ofString "a"
  | 1 => Str.ofString "b"
  | _ => Str.ofString "title"
def dig : Nat → Str
  | 0 => Str.ofString "0"
  | 1 => Str.ofString "1"
  | 2 => Str.ofString "2"
  | _ => Str.ofString "3"
def keyS (n k : Nat) (enc : Bool) : Str := if enc then nm n ++ Str.ofString "*" ++ dig k ++ Str.ofString "*" else nm n ++ Str.ofString "*" ++ dig k
def plainB : Array UInt8 := #[112, 108, 97, 105, 110]
def laterB : Array UInt8 := #[108, 97, 116, 101, 114]
/-- a pair: the name, the part's number and the part (or plain), late or not -/
structure Pr where
  n : Nat
  p : Option (Nat × Pt)
  late : Bool
namespace Pr
def key (x : Pr) : Str := match x.p with
  | none => nm x.n
  | some (k, pt) => keyS x.n k pt.1
def b (x : Pr) : Array UInt8 := if x.late then laterB else match x.p with
  | none => plainB
  | some (k, pt) => ptB k pt
def slot (x : Pr) : Nat × Option Nat := (x.n, x.p.map Prod.fst)
def ok (x : Pr) : Prop := x.n < 3 ∧ ∀ k pt, x.p = some (k, pt) → k < 4
end Pr
def look (l : List Pr) (s : Nat × Option Nat) : Option Pr := l.find? fun x => decide (x.slot = s)
def part (l : List Pr) (n k : Nat) : Option Pt := match look l (n, some k) with
  | some x => x.p.map Prod.snd
  | none => none
/-- the value of the name n, if any -/
def Tx (l : List Pr) (n : Nat) (x : Option Str) : Prop :=
  (part l n 0 ≠ none ∧ ∃ i, Runs (part l n) i ∧ x = some (textOf (KBw.bInts (catD (part l n) i)))) ∨
  (part l n 0 = none ∧ look l (n, none) ≠ none ∧ x = some (Str.ofString "plain")) ∨ (part l n 0 = none ∧ look l (n, none) = none ∧ x = none)
theorem Tx.uniq {l : List Pr} {n : Nat} {x y : Option Str} (h : Tx l n x) (g : Tx l n y) : x = y := by
  rcases h with ⟨h1, i, h2, rfl⟩ | ⟨h1, h2, rfl⟩ | ⟨h1, h2, rfl⟩ <;> rcases g with ⟨g1, j, g2, rfl⟩ | ⟨g1, g2, rfl⟩ | ⟨g1, g2, rfl⟩
  · rw [h2.uniq g2]
  · exact absurd g1 h1
  · exact absurd g1 h1
  · exact absurd h1 g1
  · rfl
  · exact absurd g2 h2
  · exact absurd h1 g1
  · exact absurd h2 g2
  · rfl
theorem look_app (l : List Pr) (x : Pr) (s : Nat × Option Nat) : look (l ++ [x]) s = match look l s with | some y => some y | none => if x.slot = s then some x else none := by
  unfold look
  rw [List.find?_append]
  cases l.find? (fun x => decide (x.slot = s)) with
  | some y => rfl
  | none =>
    by_cases h : x.slot = s
    · simp [h]
    · simp [h]
/-- the list's values are these pairs -/
def PrsIn (news : Led) : List Value → List Pr → Prop
  | [], [] => True
  | v :: vs, x :: l => (∃ T t1 t2 c, v = .ref T ∧ (T, tupOf [.str x.key t1, .bytes x.b t2] c) ∈ news) ∧ PrsIn news vs l
  | _, _ => False
theorem PrsIn.mono {news news' : Led} (h : ∀ p ∈ news, p ∈ news') : ∀ {vs : List Value} {l : List Pr}, PrsIn news vs l → PrsIn news' vs l
  | [], [], _ => trivial
  | _ :: _, _ :: _, ⟨⟨T, t1, t2, c, e, m⟩, g⟩ => ⟨⟨T, t1, t2, c, e, h _ m⟩, PrsIn.mono h g⟩
  | [], _ :: _, g => g.elim
  | _ :: _, [], g => g.elim
theorem PrsIn.length {news : Led} : ∀ {vs : List Value} {l : List Pr}, PrsIn news vs l → vs.length = l.length
  | [], [], _ => rfl
  | _ :: _, _ :: _, ⟨_, g⟩ => by rw [List.length_cons, List.length_cons, PrsIn.length g]
  | [], _ :: _, g => g.elim
  | _ :: _, [], g => g.elim
theorem PrsIn.append {news : Led} : ∀ {vs ws : List Value} {l m : List Pr}, PrsIn news vs l → PrsIn news ws m → PrsIn news (vs ++ ws) (l ++ m)
  | [], _, [], _, _, h => h
  | _ :: _, _, _ :: _, _, ⟨a, g⟩, h => ⟨a, PrsIn.append g h⟩
  | [], _, _ :: _, _, g, _ => g.elim
  | _ :: _, _, [], _, g, _ => g.elim
theorem nm_inj {n m : Nat} (hn : n < 3) (hm : m < 3) (h : nm n = nm m) : n = m := by
  match n, m, hn, hm with
  | 0, 0, _, _ => rfl
  | 1, 1, _, _ => rfl
  | 2, 2, _, _ => rfl
  | 0, 1, _, _ => exact absurd h (by decide +kernel)
  | 0, 2, _, _ => exact absurd h (by decide +kernel)
  | 1, 0, _, _ => exact absurd h (by decide +kernel)
  | 1, 2, _, _ => exact absurd h (by decide +kernel)
  | 2, 0, _, _ => exact absurd h (by decide +kernel)
  | 2, 1, _, _ => exact absurd h (by decide +kernel)
/-- what part_of tells of a pair's key -/
theorem key_none (w : World) (n : Nat) (hn : n < 3) (t : Tok) (news : Led) : Does w 151 2 16 [.str (nm n) t] news (fun v news' => v = .none ∧ news' = news) := by
  match n, hn with
  | 0, _ => exact part_of_none w _ _ _ (by decide +kernel) (by decide +kernel)
  | 1, _ => exact part_of_none w _ _ _ (by decide +kernel) (by decide +kernel)
  | 2, _ => exact part_of_none w _ _ _ (by decide +kernel) (by decide +kernel)
abbrev KeyFacts (x b : Str) (d : Nat) (enc : Bool) : Prop := x.length ≤ 1000 ∧ 1 ≤ x.length ∧ ¬ Txt.find x (Str.ofString "*") < 1 ∧ Txt.find x (Str.ofString "*") ≠ (x.length : Int) - 1 ∧
  Txt.slice x none (some (Txt.find x (Str.ofString "*"))) = b ∧ (Txt.item x (-1) == Str.ofString "*") = enc ∧
  (enc = true → Digit d (Txt.slice x (some (Txt.find x (Str.ofString "*") + 1)) (some ((x.length : Int) - 1)))) ∧ (enc = false → Digit d (Txt.slice x (some (Txt.find x (Str.ofString "*") + 1)) none))
theorem key_facts (n k : Nat) (enc : Bool) (hn : n < 3) (hk : k < 4) : KeyFacts (keyS n k enc) (nm n) k enc := by
  match n, k, enc, hn, hk with
  | 0, 0, true, _, _ => exact ⟨by decide +kernel, by decide +kernel, by decide +kernel, by decide +kernel, by decide +kernel, by decide +kernel, fun _ => by decide +kernel, fun _ => by contradiction⟩
  | 0, 0, false, _, _ => exact ⟨by decide +kernel, by decide +kernel, by decide +kernel, by decide +kernel, by decide +kernel, by decide +kernel, fun _ => by contradiction, fun _ => by decide +kernel⟩
  | 0, 1, true, _, _ => exact ⟨by decide +kernel, by decide +kernel, by decide +kernel, by decide +kernel, by decide +kernel, by decide +kernel, fun _ => by decide +kernel, fun _ => by contradiction⟩
  | 0, 1, false, _, _ => exact ⟨by decide +kernel, by decide +kernel, by decide +kernel, by decide +kernel, by decide +kernel, by decide +kernel, fun _ => by contradiction, fun _ => by decide +kernel⟩
  | 0, 2, true, _, _ => exact ⟨by decide +kernel, by decide +kernel, by decide +kernel, by decide +kernel, by decide +kernel, by decide +kernel, fun _ => by decide +kernel, fun _ => by contradiction⟩
  | 0, 2, false, _, _ => exact ⟨by decide +kernel, by decide +kernel, by decide +kernel, by decide +kernel, by decide +kernel, by decide +kernel, fun _ => by contradiction, fun _ => by decide +kernel⟩
  | 0, 3, true, _, _ => exact ⟨by decide +kernel, by decide +kernel, by decide +kernel, by decide +kernel, by decide +kernel, by decide +kernel, fun _ => by decide +kernel, fun _ => by contradiction⟩
  | 0, 3, false, _, _ => exact ⟨by decide +kernel, by decide +kernel, by decide +kernel, by decide +kernel, by decide +kernel, by decide +kernel, fun _ => by contradiction, fun _ => by decide +kernel⟩
  | 1, 0, true, _, _ => exact ⟨by decide +kernel, by decide +kernel, by decide +kernel, by decide +kernel, by decide +kernel, by decide +kernel, fun _ => by decide +kernel, fun _ => by contradiction⟩
  | 1, 0, false, _, _ => exact ⟨by decide +kernel, by decide +kernel, by decide +kernel, by decide +kernel, by decide +kernel, by decide +kernel, fun _ => by contradiction, fun _ => by decide +kernel⟩
  | 1, 1, true, _, _ => exact ⟨by decide +kernel, by decide +kernel, by decide +kernel, by decide +kernel, by decide +kernel, by decide +kernel, fun _ => by decide +kernel, fun _ => by contradiction⟩
  | 1, 1, false, _, _ => exact ⟨by decide +kernel, by decide +kernel, by decide +kernel, by decide +kernel, by decide +kernel, by decide +kernel, fun _ => by contradiction, fun _ => by decide +kernel⟩
  | 1, 2, true, _, _ => exact ⟨by decide +kernel, by decide +kernel, by decide +kernel, by decide +kernel, by decide +kernel, by decide +kernel, fun _ => by decide +kernel, fun _ => by contradiction⟩
  | 1, 2, false, _, _ => exact ⟨by decide +kernel, by decide +kernel, by decide +kernel, by decide +kernel, by decide +kernel, by decide +kernel, fun _ => by contradiction, fun _ => by decide +kernel⟩
  | 1, 3, true, _, _ => exact ⟨by decide +kernel, by decide +kernel, by decide +kernel, by decide +kernel, by decide +kernel, by decide +kernel, fun _ => by decide +kernel, fun _ => by contradiction⟩
  | 1, 3, false, _, _ => exact ⟨by decide +kernel, by decide +kernel, by decide +kernel, by decide +kernel, by decide +kernel, by decide +kernel, fun _ => by contradiction, fun _ => by decide +kernel⟩
  | 2, 0, true, _, _ => exact ⟨by decide +kernel, by decide +kernel, by decide +kernel, by decide +kernel, by decide +kernel, by decide +kernel, fun _ => by decide +kernel, fun _ => by contradiction⟩
  | 2, 0, false, _, _ => exact ⟨by decide +kernel, by decide +kernel, by decide +kernel, by decide +kernel, by decide +kernel, by decide +kernel, fun _ => by contradiction, fun _ => by decide +kernel⟩
  | 2, 1, true, _, _ => exact ⟨by decide +kernel, by decide +kernel, by decide +kernel, by decide +kernel, by decide +kernel, by decide +kernel, fun _ => by decide +kernel, fun _ => by contradiction⟩
  | 2, 1, false, _, _ => exact ⟨by decide +kernel, by decide +kernel, by decide +kernel, by decide +kernel, by decide +kernel, by decide +kernel, fun _ => by contradiction, fun _ => by decide +kernel⟩
  | 2, 2, true, _, _ => exact ⟨by decide +kernel, by decide +kernel, by decide +kernel, by decide +kernel, by decide +kernel, by decide +kernel, fun _ => by decide +kernel, fun _ => by contradiction⟩
  | 2, 2, false, _, _ => exact ⟨by decide +kernel, by decide +kernel, by decide +kernel, by decide +kernel, by decide +kernel, by decide +kernel, fun _ => by contradiction, fun _ => by decide +kernel⟩
  | 2, 3, true, _, _ => exact ⟨by decide +kernel, by decide +kernel, by decide +kernel, by decide +kernel, by decide +kernel, by decide +kernel, fun _ => by decide +kernel, fun _ => by contradiction⟩
  | 2, 3, false, _, _ => exact ⟨by decide +kernel, by decide +kernel, by decide +kernel, by decide +kernel, by decide +kernel, by decide +kernel, fun _ => by contradiction, fun _ => by decide +kernel⟩
theorem key_part (w : World) (n k : Nat) (enc : Bool) (hn : n < 3) (hk : k < 4) (t : Tok) (news : Led) :
    Does w 151 2 16 [.str (keyS n k enc) t] news
      (fun v news' => ∃ T t1 t2 c, v = .ref T ∧ news' = (T, tupOf [.str (nm n) t1, .int k t2, .bool enc] c) :: news ∧ ∀ p ∈ news, p.1 < T) := by
  obtain ⟨h1, h2, h3, h4, h5, h6, h7, h8⟩ := key_facts n k enc hn hk
  exact part_of_part w _ _ _ _ _ _ h1 h2 h3 h4 h5 h6 h7 h8
end Mine
end
section
set_option maxRecDepth 100000
open PySem PySem.W PyProof.Rows
namespace Mine
abbrev PRG : Program := PySem.Challenge.rw_nz0291_01.row.prog
structure PS where
  led : Led
  po : Obj
  qo : Obj
  pk : List (Str × Value)
  qk : List (Str × Value)
  inn : Nat → Option (Addr × Obj × List (Int × Value))
def PartAt (led : Led) (kv : List (Int × Value)) (k : Nat) : Option Pt → Prop
  | none => valueAt kv (k : Int) = none
  | some p => k < 4 ∧ ∃ T t c, valueAt kv (k : Int) = some (.ref T) ∧ (T, tupOf [.bool p.1, .bytes (ptB k p) t] c) ∈ led
structure Inn (w : World) (pd qd : Addr) (news : Led) (N : Nat) (led : Led) (D : Addr) (o : Obj) (kv : List (Int × Value)) : Prop where
  mem : (D, o) ∈ led
  dk : o.IsDictOf (PySem.intKind PRG w) kv
  mods : (D == sysModules) = false
  nep : @Ne Nat D pd
  neq : @Ne Nat D qd
  old : ∀ p ∈ news, p.1 ≠ D
  len : kv.length ≤ N
structure Inv (w : World) (pd qd : Addr) (news : Led) (done : List Pr) (e : Nat) (c : PS) : Prop where
  pm : (pd, c.po) ∈ c.led
  qm : (qd, c.qo) ∈ c.led
  sub : ∀ p ∈ news, p ∈ c.led
  pdk : c.po.IsDictOf (PySem.strKind PRG w) c.pk
  qdk : c.qo.IsDictOf (PySem.strKind PRG w) c.qk
  plen : c.pk.length ≤ done.length
  qlen : c.qk.length ≤ done.length + e
  pkey : ∀ x ∈ c.pk, ∃ n, n < 3 ∧ x.1 = nm n
  qkey : ∀ x ∈ c.qk, ∃ n, n < 3 ∧ x.1 = nm n
  pval : ∀ n, n < 3 → (look done (n, none) = none ∧ valueAt c.pk (nm n) = none) ∨ (look done (n, none) ≠ none ∧ ∃ t, valueAt c.pk (nm n) = some (.str (Str.ofString "plain") t))
  qval : ∀ n, n < 3 → valueAt c.qk (nm n) = (c.inn n).map fun d => .ref d.1
  inn : ∀ n D o kv, c.inn n = some (D, o, kv) → Inn w pd qd news done.length c.led D o kv
  apart : ∀ n n' D o kv D' o' kv', c.inn n = some (D, o, kv) → c.inn n' = some (D', o', kv') → n ≠ n' → @Ne Nat D D'
  ival : ∀ n D o kv, c.inn n = some (D, o, kv) → ∀ k, PartAt c.led kv k (part done n k)
  inone : ∀ n, c.inn n = none → ∀ k, part done n k = none
theorem PartAt.mono {led led' : Led} {kv : List (Int × Value)} {k : Nat} {p : Option Pt} (h : PartAt led kv k p) (hs : ∀ T its c, (T, tupOf its c) ∈ led → (T, tupOf its c) ∈ led') : PartAt led' kv k p := by
  cases p with
  | none => exact h
  | some p =>
    obtain ⟨a, T, t, c, b, m⟩ := h
    exact ⟨a, T, t, c, b, hs _ _ _ m⟩
theorem look_slot {l : List Pr} {s : Nat × Option Nat} {x : Pr} (h : look l s = some x) : x.slot = s := by
  have := List.find?_some h
  simpa using this
theorem part_none {l : List Pr} {n k : Nat} : part l n k = none ↔ look l (n, some k) = none := by
  unfold part
  cases h : look l (n, some k) with
  | none => simp
  | some x =>
    have hs := look_slot h
    unfold Pr.slot at hs
    cases hp : x.p with
    | none => rw [hp] at hs; simp at hs
    | some q => simp [hp]
theorem look_keep {l : List Pr} {x : Pr} {s : Nat × Option Nat} (h : look l s ≠ none ∨ x.slot ≠ s) : look (l ++ [x]) s = look l s := by
  rw [look_app]
  cases hl : look l s with
  | some y => rfl
  | none =>
    rcases h with h | h
    · exact absurd hl h
    · simp [h]
theorem part_keep {l : List Pr} {x : Pr} {n k : Nat} (h : look l (n, some k) ≠ none ∨ x.slot ≠ (n, some k)) : part (l ++ [x]) n k = part l n k := by
  unfold part; rw [look_keep h]
theorem part_new {l : List Pr} {x : Pr} {n k : Nat} {pt : Pt} (h : look l (n, some k) = none) (hn : x.n = n) (hp : x.p = some (k, pt)) : part (l ++ [x]) n k = some pt := by
  unfold part
  rw [look_app, h]
  have hs : x.slot = (n, some k) := by unfold Pr.slot; rw [hn, hp]; rfl
  simp [hs, hp]
theorem dict_cls {o : Obj} {K : Type} [DecidableEq K] {knd : KeyKind PRG w K} {kvs : List (K × Value)} (h : o.IsDictOf knd kvs) : o.cls = .type "dict" := by
  obtain ⟨es, ep, hx, _⟩ := h
  exact hx.1
theorem tup_ne {h₀ h : Heap} {L : Addr} {led : Led} {T d : Addr} {its : List Value} {c : Nat} {o : Obj} (N : News h₀ L h led) (m : (T, tupOf its c) ∈ led) (m' : (d, o) ∈ led) (hc : o.cls = .type "dict") : @Ne Nat T d := by
  intro e
  have h1 := (N _ m).1
  have h2 := (N _ m').1
  rw [show (T, tupOf its c).1 = d from e] at h1
  have h3 : some (tupOf its c) = some o := h1.symm.trans h2
  injection h3 with h3
  rw [← h3] at hc
  exact absurd (show Value.type "tuple" = Value.type "dict" from hc) (by decide)
theorem look_none_app {l : List Pr} {x : Pr} {s : Nat × Option Nat} (h : look (l ++ [x]) s = none) : look l s = none := by
  rw [look_app] at h
  cases hl : look l s with
  | none => rfl
  | some y => rw [hl] at h; simp at h

/-- nothing new is told: only the ledger grows -/
theorem inv_skip {w : World} {pd qd : Addr} {news : Led} {done : List Pr} {e : Nat} {c : PS} (I : Inv w pd qd news done e c) (x : Pr) (hx : look done x.slot ≠ none) (led' : Led) (hs : ∀ p ∈ c.led, p ∈ led') :
    Inv w pd qd news (done ++ [x]) e { c with led := led' } := by
  have hk : ∀ s, look (done ++ [x]) s = look done s := fun s => by
    by_cases he : x.slot = s
    · exact look_keep (.inl (he ▸ hx))
    · exact look_keep (.inr he)
  have hp : ∀ n k, part (done ++ [x]) n k = part done n k := fun n k => by unfold part; rw [hk]
  have hl : done.length ≤ (done ++ [x]).length := by rw [List.length_append]; omega
  exact { pm := hs _ I.pm, qm := hs _ I.qm, sub := fun p h => hs _ (I.sub p h), pdk := I.pdk, qdk := I.qdk, plen := Nat.le_trans I.plen hl, qlen := Nat.le_trans I.qlen (by omega), pkey := I.pkey, qkey := I.qkey,
          pval := fun n hn => by rw [hk]; exact I.pval n hn
          qval := I.qval
          inn := fun n D o kv h => let q := I.inn n D o kv h; { q with mem := hs _ q.mem, len := Nat.le_trans q.len hl }
          apart := I.apart
          ival := fun n D o kv h k => by rw [hp]; exact (I.ival n D o kv h k).mono fun _ _ _ m => hs _ m
          inone := fun n h k => by rw [hp]; exact I.inone n h k }

theorem stored_keys {K : Type} [DecidableEq K] {kvs : List (K × Value)} {k : K} {v : Value} {x : K × Value} (h : x ∈ stored kvs k v) : x.1 = k ∨ ∃ y ∈ kvs, x.1 = y.1 := by
  unfold stored at h
  split at h
  · obtain ⟨y, hy, e⟩ := List.mem_map.mp h
    refine .inr ⟨y, hy, ?_⟩
    rw [← e]
    split <;> rfl
  · rcases List.mem_append.mp h with h | h
    · exact .inr ⟨x, h, rfl⟩
    · rw [List.mem_singleton.mp h]; exact .inl rfl

/-- a plain name told first -/
theorem inv_plain {w : World} {pd qd : Addr} {news : Led} {done : List Pr} {e : Nat} {c : PS} (I : Inv w pd qd news done e c) (hN : ∀ T its cc, (T, tupOf its cc) ∈ c.led → @Ne Nat T pd) (x : Pr) (hn : x.n < 3) (hx : x.p = none) (hl : look done x.slot = none) (hpq : @Ne Nat pd qd) (hold : ∀ p ∈ news, p.1 ≠ pd)
    (led' : Led) (po' : Obj) (t : Tok) (hm : (pd, po') ∈ led') (hs : ∀ p ∈ c.led, p.1 ≠ pd → p ∈ led') (hd : po'.IsDictOf (PySem.strKind PRG w) (stored c.pk (nm x.n) (.str (Str.ofString "plain") t))) :
    Inv w pd qd news (done ++ [x]) e { c with led := led', po := po', pk := stored c.pk (nm x.n) (.str (Str.ofString "plain") t) } := by
  have hsl : x.slot = (x.n, none) := by unfold Pr.slot; rw [hx]; rfl
  have hp : ∀ n k, part (done ++ [x]) n k = part done n k := fun n k => part_keep (.inr (by rw [hsl]; intro e; cases e))
  have hle : done.length ≤ (done ++ [x]).length := by rw [List.length_append]; omega
  exact { pm := hm, qm := hs _ I.qm (Ne.symm hpq), sub := fun p h => hs _ (I.sub p h) (hold p h), pdk := hd, qdk := I.qdk
          plen := Nat.le_trans (stored_length_le _ _ _) (by rw [List.length_append]; have := I.plen; simp only [List.length_cons, List.length_nil]; omega)
          qlen := Nat.le_trans I.qlen (by omega)
          pkey := fun y hy => by
            rcases stored_keys hy with e | ⟨z, hz, e⟩
            · exact ⟨x.n, hn, e⟩
            · obtain ⟨n, h1, h2⟩ := I.pkey z hz
              exact ⟨n, h1, e.trans h2⟩
          qkey := I.qkey
          pval := fun n h3 => by
            by_cases e : n = x.n
            · subst e
              refine .inr ⟨?_, t, by rw [va_stored, if_pos rfl]⟩
              rw [look_app, ← hsl, hl]
              simp
            · rw [look_keep (.inr (by rw [hsl]; intro q; cases q; exact e rfl))]
              have := I.pval n h3
              rw [va_stored, if_neg (fun q => e (nm_inj h3 hn q))]
              exact this
          qval := I.qval
          inn := fun n D o kv h => let q := I.inn n D o kv h; { q with mem := hs _ q.mem q.nep, len := Nat.le_trans q.len hle }
          apart := I.apart
          ival := fun n D o kv h k => by rw [hp]; exact (I.ival n D o kv h k).mono fun _ _ _ m => hs _ m (hN _ _ _ m)
          inone := fun n h k => by rw [hp]; exact I.inone n h k }

/-- a part told first, of a name whose dict stands -/
theorem inv_part {w : World} {pd qd : Addr} {news : Led} {done : List Pr} {e : Nat} {c : PS} (I : Inv w pd qd news done e c) (he : e ≤ 1) (x : Pr) {k : Nat} {pt : Pt} (hk4 : k < 4) (hx : x.p = some (k, pt)) (hl : look done x.slot = none)
    {D : Addr} {o : Obj} {kv : List (Int × Value)} (hi : c.inn x.n = some (D, o, kv)) (hN : ∀ T its cc, (T, tupOf its cc) ∈ c.led → @Ne Nat T D)
    (led' : Led) (o' : Obj) (T : Addr) (t : Tok) (cc : Nat) (hm : (D, o') ∈ led') (hT : (T, tupOf [.bool pt.1, .bytes (ptB k pt) t] cc) ∈ led') (hs : ∀ p ∈ c.led, p.1 ≠ D → p ∈ led') (hd : o'.IsDictOf (PySem.intKind PRG w) (stored kv (k : Int) (.ref T))) :
    Inv w pd qd news (done ++ [x]) 0 { c with led := led', inn := fun m => if m = x.n then some (D, o', stored kv (k : Int) (.ref T)) else c.inn m } := by
  have hsl : x.slot = (x.n, some k) := by unfold Pr.slot; rw [hx]; rfl
  have q0 := I.inn _ _ _ _ hi
  have hle : done.length ≤ (done ++ [x]).length := by rw [List.length_append]; omega
  have hpk : ∀ n k', (n, k') ≠ (x.n, k) → part (done ++ [x]) n k' = part done n k' := fun n k' hne => part_keep (.inr (by rw [hsl]; intro e; exact hne (by cases e; rfl)))
  exact { pm := hs _ I.pm (Ne.symm q0.nep), qm := hs _ I.qm (Ne.symm q0.neq), sub := fun p h => hs _ (I.sub p h) (q0.old p h), pdk := I.pdk, qdk := I.qdk, plen := Nat.le_trans I.plen hle, qlen := Nat.le_trans I.qlen (by rw [List.length_append]; simp only [List.length_cons, List.length_nil]; omega), pkey := I.pkey, qkey := I.qkey
          pval := fun n h3 => by rw [look_keep (.inr (by rw [hsl]; intro q; cases q))]; exact I.pval n h3
          qval := fun n h3 => by
            show _ = Option.map _ (if n = x.n then _ else _)
            by_cases e : n = x.n
            · rw [if_pos e, I.qval n h3, e, hi]; rfl
            · rw [if_neg e]; exact I.qval n h3
          inn := fun n D' o9 kv9 h => by
            have h' : (if n = x.n then some (D, o', stored kv (k : Int) (.ref T)) else c.inn n) = some (D', o9, kv9) := h
            by_cases e : n = x.n
            · rw [if_pos e] at h'
              cases h'
              exact { mem := hm, dk := hd, mods := q0.mods, nep := q0.nep, neq := q0.neq, old := q0.old, len := Nat.le_trans (stored_length_le _ _ _) (by have := q0.len; rw [List.length_append]; simp only [List.length_cons, List.length_nil]; omega) }
            · rw [if_neg e] at h'
              have q := I.inn _ _ _ _ h'
              exact { q with mem := hs _ q.mem (I.apart _ _ _ _ _ _ _ _ h' hi e), len := Nat.le_trans q.len hle }
          apart := fun n n' D1 o1 kv1 D2 o2 kv2 h1 h2 hne => by
            have h1' : (if n = x.n then some (D, o', stored kv (k : Int) (.ref T)) else c.inn n) = some (D1, o1, kv1) := h1
            have h2' : (if n' = x.n then some (D, o', stored kv (k : Int) (.ref T)) else c.inn n') = some (D2, o2, kv2) := h2
            by_cases e1 : n = x.n
            · rw [if_pos e1] at h1'
              cases h1'
              have e2 : ¬ n' = x.n := fun e => hne (e1.trans e.symm)
              rw [if_neg e2] at h2'
              exact Ne.symm (I.apart _ _ _ _ _ _ _ _ h2' hi e2)
            · rw [if_neg e1] at h1'
              by_cases e2 : n' = x.n
              · rw [if_pos e2] at h2'
                cases h2'
                exact I.apart _ _ _ _ _ _ _ _ h1' hi e1
              · rw [if_neg e2] at h2'
                exact I.apart _ _ _ _ _ _ _ _ h1' h2' hne
          ival := fun n D' o9 kv9 h k' => by
            have h' : (if n = x.n then some (D, o', stored kv (k : Int) (.ref T)) else c.inn n) = some (D', o9, kv9) := h
            by_cases e : n = x.n
            · rw [if_pos e] at h'
              cases h'
              by_cases ek : k' = k
              · subst ek
                rw [e, part_new (hsl ▸ hl) rfl hx]
                exact ⟨hk4, T, t, cc, by rw [va_stored, if_pos rfl], hT⟩
              · rw [hpk n k' (fun q => ek (congrArg Prod.snd q)), e]
                have hv := (I.ival _ _ _ _ hi k').mono (led' := led') fun _ _ _ m => hs _ m (hN _ _ _ m)
                have hne : ¬ ((k' : Int) = (k : Int)) := fun q => ek (by omega)
                cases hp : Mine.part done x.n k' with
                | none => rw [hp] at hv; show valueAt (stored kv (k : Int) (.ref T)) (k' : Int) = none; rw [va_stored, if_neg hne]; exact hv
                | some p => rw [hp] at hv; obtain ⟨a, T', t', c', b, m⟩ := hv; exact ⟨a, T', t', c', by rw [va_stored, if_neg hne]; exact b, m⟩
            · rw [if_neg e] at h'
              rw [hpk n k' (fun q => e (congrArg Prod.fst q))]
              have q := I.inn _ _ _ _ h'
              exact (I.ival _ _ _ _ h' k').mono fun _ _ _ m => hs _ m (hN _ _ _ m)
          inone := fun n h k' => by
            have h' : (if n = x.n then some (D, o', stored kv (k : Int) (.ref T)) else c.inn n) = none := h
            by_cases e : n = x.n
            · rw [if_pos e] at h'; cases h'
            · rw [if_neg e] at h'
              rw [hpk n k' (fun q => e (congrArg Prod.fst q))]
              exact I.inone n h' k' }


/-- a new dict for a name's parts -/
theorem inv_fresh {w : World} {pd qd : Addr} {news : Led} {done : List Pr} {c : PS} (I : Inv w pd qd news done 0 c) (hN : ∀ T its cc, (T, tupOf its cc) ∈ c.led → @Ne Nat T qd) (n : Nat) (hn : n < 3) (hi : c.inn n = none) (hpq : @Ne Nat pd qd) (hold : ∀ p ∈ news, p.1 ≠ qd)
    (led' : Led) (qo' : Obj) (D : Addr) (o : Obj) (hm : (qd, qo') ∈ led') (hD : (D, o) ∈ led') (hs : ∀ p ∈ c.led, p.1 ≠ qd → p ∈ led') (hlt : ∀ p ∈ c.led, p.1 < D) (hmod : (D == sysModules) = false)
    (hd : qo'.IsDictOf (PySem.strKind PRG w) (stored c.qk (nm n) (.ref D))) (hdo : o.IsDictOf (PySem.intKind PRG w) []) :
    Inv w pd qd news done 1 { c with led := led', qo := qo', qk := stored c.qk (nm n) (.ref D), inn := fun m => if m = n then some (D, o, []) else c.inn m } := by
  have hDq : @Ne Nat D qd := Nat.ne_of_gt (hlt _ I.qm)
  have hDp : @Ne Nat D pd := Nat.ne_of_gt (hlt _ I.pm)
  exact { pm := hs _ I.pm hpq, qm := hm, sub := fun p h => hs _ (I.sub p h) (hold p h), pdk := I.pdk, qdk := hd, plen := I.plen
          qlen := Nat.le_trans (stored_length_le _ _ _) (by have := I.qlen; omega)
          pkey := I.pkey
          qkey := fun y hy => by
            rcases stored_keys hy with e | ⟨z, hz, e⟩
            · exact ⟨n, hn, e⟩
            · obtain ⟨m, h1, h2⟩ := I.qkey z hz
              exact ⟨m, h1, e.trans h2⟩
          pval := I.pval
          qval := fun m h3 => by
            show _ = Option.map _ (if m = n then _ else _)
            rw [va_stored]
            by_cases e : m = n
            · rw [if_pos e, if_pos (congrArg nm e)]; rfl
            · rw [if_neg e, if_neg (fun q => e (nm_inj h3 hn q))]; exact I.qval m h3
          inn := fun m D' o9 kv9 h => by
            have h' : (if m = n then some (D, o, []) else c.inn m) = some (D', o9, kv9) := h
            by_cases e : m = n
            · rw [if_pos e] at h'
              cases h'
              exact { mem := hD, dk := hdo, mods := hmod, nep := hDp, neq := hDq, old := fun p hp => Nat.ne_of_lt (hlt p (I.sub p hp)), len := Nat.zero_le _ }
            · rw [if_neg e] at h'
              have q := I.inn _ _ _ _ h'
              exact { q with mem := hs _ q.mem q.neq }
          apart := fun m m' D1 o1 kv1 D2 o2 kv2 h1 h2 hne => by
            have h1' : (if m = n then some (D, o, []) else c.inn m) = some (D1, o1, kv1) := h1
            have h2' : (if m' = n then some (D, o, []) else c.inn m') = some (D2, o2, kv2) := h2
            by_cases e1 : m = n
            · rw [if_pos e1] at h1'
              cases h1'
              have e2 : ¬ m' = n := fun e => hne (e1.trans e.symm)
              rw [if_neg e2] at h2'
              exact Nat.ne_of_gt (hlt _ (I.inn _ _ _ _ h2').mem)
            · rw [if_neg e1] at h1'
              by_cases e2 : m' = n
              · rw [if_pos e2] at h2'
                cases h2'
                exact Nat.ne_of_lt (hlt _ (I.inn _ _ _ _ h1').mem)
              · rw [if_neg e2] at h2'
                exact I.apart _ _ _ _ _ _ _ _ h1' h2' hne
          ival := fun m D' o9 kv9 h k' => by
            have h' : (if m = n then some (D, o, []) else c.inn m) = some (D', o9, kv9) := h
            by_cases e : m = n
            · rw [if_pos e] at h'
              cases h'
              rw [e, I.inone n hi k']
              rfl
            · rw [if_neg e] at h'
              exact (I.ival _ _ _ _ h' k').mono fun _ _ _ q => hs _ q (hN _ _ _ q)
          inone := fun m h k' => by
            have h' : (if m = n then some (D, o, []) else c.inn m) = none := h
            by_cases e : m = n
            · rw [if_pos e] at h'; cases h'
            · rw [if_neg e] at h'
              exact I.inone m h' k' }
end Mine
end
section
set_option maxRecDepth 100000
open PySem PySem.W PyProof.Rows
namespace Mine
theorem va_mem {K : Type} [DecidableEq K] {kvs : List (K × Value)} {k : K} {v : Value} (h : (k, v) ∈ kvs) : valueAt kvs k ≠ none := by
  unfold valueAt
  intro e
  rw [Option.map_eq_none_iff, List.find?_eq_none] at e
  exact e _ h (by simp)
theorem va_key {K : Type} [DecidableEq K] {kvs : List (K × Value)} {k : K} (h : valueAt kvs k ≠ none) : ∃ x ∈ kvs, x.1 = k := by
  unfold valueAt at h
  cases hf : kvs.find? (fun kv => decide (kv.1 = k)) with
  | none => rw [hf] at h; exact absurd rfl h
  | some x =>
    have := List.find?_some hf
    exact ⟨x, List.mem_of_find?_eq_some hf, by simpa using this⟩
/-- the second loop: what the parts of the names so far make -/
structure Inv2 (w : World) (pd : Addr) (l : List Pr) (c : PS) (pr : List (Str × Value)) (c2 : Led × Obj × List (Str × Value)) : Prop where
  pm : (pd, c2.2.1) ∈ c2.1
  keep : ∀ p ∈ c.led, p.1 ≠ pd → p ∈ c2.1
  pdk : c2.2.1.IsDictOf (PySem.strKind PRG w) c2.2.2
  len : c2.2.2.length ≤ l.length + pr.length
  keys : ∀ x ∈ c2.2.2, ∃ n, n < 3 ∧ x.1 = nm n
  old : ∀ n, n < 3 → (part l n 0 = none ∨ ∀ x ∈ pr, x.1 ≠ nm n) → valueAt c2.2.2 (nm n) = valueAt c.pk (nm n)
  new : ∀ n, n < 3 → part l n 0 ≠ none → (∃ x ∈ pr, x.1 = nm n) → ∃ i t, Runs (part l n) i ∧ valueAt c2.2.2 (nm n) = some (.str (textOf (KBw.bInts (catD (part l n) i))) t)
theorem inv2_start {w : World} {pd qd : Addr} {news : Led} {l : List Pr} {c : PS} (I : Inv w pd qd news l 0 c) : Inv2 w pd l c [] (c.led, c.po, c.pk) :=
  { pm := I.pm, keep := fun p h _ => h, pdk := I.pdk, len := I.plen, keys := I.pkey, old := fun _ _ _ => rfl, new := fun _ _ _ ⟨x, hx, _⟩ => by cases hx }
theorem inv2_skip {w : World} {pd : Addr} {l : List Pr} {c : PS} {pr : List (Str × Value)} {c2 : Led × Obj × List (Str × Value)} (I : Inv2 w pd l c pr c2) (a : Str × Value) (n : Nat) (hn : n < 3) (ha : a.1 = nm n) (hp : part l n 0 = none) : Inv2 w pd l c (pr ++ [a]) c2 :=
  { pm := I.pm, keep := I.keep, pdk := I.pdk, len := Nat.le_trans I.len (by rw [List.length_append]; omega), keys := I.keys
    old := fun m hm h => I.old m hm (h.imp id fun h x hx => h x (List.mem_append_left _ hx))
    new := fun m hm h ⟨x, hx, e⟩ => by
      rcases List.mem_append.mp hx with hx | hx
      · exact I.new m hm h ⟨x, hx, e⟩
      · rw [List.mem_singleton.mp hx, ha] at e
        exact absurd (nm_inj hn hm e ▸ hp) h }
theorem inv2_lay {w : World} {pd : Addr} {l : List Pr} {c : PS} {pr : List (Str × Value)} {led : Led} {po : Obj} {pk : List (Str × Value)} (I : Inv2 w pd l c pr (led, po, pk)) (led' : Led) (hm : (pd, po) ∈ led') (hs : ∀ p ∈ led, p.1 ≠ pd → p ∈ led') : Inv2 w pd l c pr (led', po, pk) :=
  { pm := hm, keep := fun p h hne => hs p (I.keep p h hne) hne, pdk := I.pdk, len := I.len, keys := I.keys, old := I.old, new := I.new }
theorem inv2_set {w : World} {pd : Addr} {l : List Pr} {c : PS} {pr : List (Str × Value)} {led : Led} {po : Obj} {pk : List (Str × Value)} (I : Inv2 w pd l c pr (led, po, pk)) (a : Str × Value) (n : Nat) (hn : n < 3) (ha : a.1 = nm n) (hp : part l n 0 ≠ none) {i : Nat} {t : Tok} (hr : Runs (part l n) i)
    (led' : Led) (po' : Obj) (hm : (pd, po') ∈ led') (hs : ∀ p ∈ led, p.1 ≠ pd → p ∈ led') (hd : po'.IsDictOf (PySem.strKind PRG w) (stored pk (nm n) (.str (textOf (KBw.bInts (catD (part l n) i))) t))) :
    Inv2 w pd l c (pr ++ [a]) (led', po', stored pk (nm n) (.str (textOf (KBw.bInts (catD (part l n) i))) t)) :=
  { pm := hm, keep := fun p h hne => hs p (I.keep p h hne) hne, pdk := hd
    len := Nat.le_trans (stored_length_le _ _ _) (by have h9 : pk.length ≤ l.length + pr.length := I.len; rw [List.length_append]; simp only [List.length_cons, List.length_nil]; omega)
    keys := fun y hy => by
      rcases stored_keys hy with e | ⟨z, hz, e⟩
      · exact ⟨n, hn, e⟩
      · obtain ⟨m, h1, h2⟩ := I.keys z hz
        exact ⟨m, h1, e.trans h2⟩
    old := fun m hm' h => by
      have hne : m ≠ n := fun e => by
        rcases h with h | h
        · exact hp (e ▸ h)
        · exact h a (List.mem_append_right _ (.head _)) (e ▸ ha)
      show valueAt (stored pk (nm n) _) (nm m) = _
      rw [va_stored, if_neg (fun q => hne (nm_inj hm' hn q))]
      exact I.old m hm' (h.imp id fun h x hx => h x (List.mem_append_left _ hx))
    new := fun m hm' h ⟨x, hx, e⟩ => by
      show ∃ i9 t9, Runs (part l m) i9 ∧ valueAt (stored pk (nm n) _) (nm m) = _
      by_cases hmn : m = n
      · subst hmn
        exact ⟨i, t, hr, by rw [va_stored, if_pos rfl]⟩
      · rw [va_stored, if_neg (fun q => hmn (nm_inj hm' hn q))]
        refine I.new m hm' h ?_
        rcases List.mem_append.mp hx with hx | hx
        · exact ⟨x, hx, e⟩
        · rw [List.mem_singleton.mp hx, ha] at e
          exact absurd (nm_inj hn hm' e).symm hmn }
theorem partsIn {w : World} {pd qd : Addr} {news : Led} {N : Nat} {led led' : Led} {D : Addr} {o : Obj} {kv : List (Int × Value)} {pt : Nat → Option Pt} (I : Inn w pd qd news N led D o kv) (hN : N ≤ 1000) (h : ∀ k, PartAt led kv k (pt k)) (hs : ∀ T its cc, (T, tupOf its cc) ∈ led → (T, tupOf its cc) ∈ led') :
    PartsIn w o pt led' := by
  refine ⟨kv, I.dk, Nat.le_trans I.len hN, fun k => ?_⟩
  have h9 := (h k).mono hs
  cases hk : pt k with
  | none => rw [hk] at h9; exact h9
  | some p => rw [hk] at h9; exact h9
/-- what params_of has told in the end -/
theorem inv2_end {w : World} {pd qd : Addr} {news : Led} {l : List Pr} {c : PS} {c2 : Led × Obj × List (Str × Value)} (I : Inv w pd qd news l 0 c) (J : Inv2 w pd l c c.qk c2) :
    ∀ n, n < 3 → ∃ x, Tx l n x ∧ (match x with | none => valueAt c2.2.2 (nm n) = none | some tx => ∃ t, valueAt c2.2.2 (nm n) = some (.str tx t)) := by
  intro n hn
  by_cases hp : part l n 0 = none
  · have ho := J.old n hn (.inl hp)
    rcases I.pval n hn with ⟨h1, h2⟩ | ⟨h1, t, h2⟩
    · exact ⟨none, .inr (.inr ⟨hp, h1, rfl⟩), ho.trans h2⟩
    · exact ⟨some _, .inr (.inl ⟨hp, h1, rfl⟩), t, ho.trans h2⟩
  · have hq : valueAt c.qk (nm n) ≠ none := by
      rw [I.qval n hn]
      cases hi : c.inn n with
      | none => exact absurd (I.inone n hi 0) hp
      | some d => exact fun q => nomatch q
    obtain ⟨i, t, hr, hv⟩ := J.new n hn hp (va_key hq)
    exact ⟨some _, .inl ⟨hp, i, hr, rfl⟩, t, hv⟩
end Mine
end
section
set_option maxRecDepth 100000
open PySem PySem.W PyProof.Rows LCg PySem.Builtin
namespace Mine
section
local macro_rules | `(tactic| walk_at "call ref") => `(tactic| (k_here; k_dflt (refine' does_use ?D ?B ?F ?X ?N ?T ?K ?d ?u ?_; (case B => k_asm); (case F => k_asm); (case X => k_asm); (case N => k_asm); (case T => k_asm); (case D => k_extra "does"); (case K => first | exact rfl | assumption); (case d => ktr_room); (case u => ktr_units); k_extra "done")))
local macro_rules | `(tactic| k_all) => `(tactic| first | assumption | exact lt_ne (by assumption))
local macro_rules | `(tactic| walk_at "exec For Tuple Name") => `(tactic| (k_here; ((rename Fr _ _ _ _ => lF'); (with_unfolding_all refine' For_turns lF' ?_); k_whole)))
local macro_rules | `(tactic| walk_at "exec For Name Name") => `(tactic| (k_here; ((rename Fr _ _ _ _ => lF'); (with_unfolding_all refine' For_turns lF' ?_); k_whole)))
local macro_rules | `(tactic| walk_at "pyIter ref") => `(tactic| (refine Stop.of ?_))
local macro_rules | `(tactic| walk_at "GPost") => `(tactic| (dsimp only [GPost]))
local macro_rules | `(tactic| walk_at "newTuple") => `(tactic| (k_here; k_dflt (refine' kup_newTuple ?F ?N ?_ ?z; (case F => k_asm); (case N => k_asm); (case z => exact Nat.le_of_ble_eq_true rfl)); intro D' h' F' N' l1; (try k_lt l1); (try k_sweep)))
local macro_rules | `(tactic| walk_at "compareOp NotIn str ref") => `(tactic| (k_here; k_dflt (first
  | refine kdg_notin (knd := PySem.strKind _ _) (by k_asm) (by first | exact .head _ | exact .tail _ (.head _) | exact .tail _ (.tail _ (.head _)) | exact .tail _ (.tail _ (.tail _ (.head _))) | exact .tail _ (.tail _ (.tail _ (.tail _ (.head _)))) | exact .tail _ (.tail _ (.tail _ (.tail _ (.tail _ (.head _))))) | exact .tail _ (.tail _ (.tail _ (.tail _ (.tail _ (.tail _ (.head _))))))) (by assumption) (by assumption) (strKind_is _ _ _ _) true (by k_extra "has") ?_
  | refine kdg_notin (knd := PySem.strKind _ _) (by k_asm) (by first | exact .head _ | exact .tail _ (.head _) | exact .tail _ (.tail _ (.head _)) | exact .tail _ (.tail _ (.tail _ (.head _))) | exact .tail _ (.tail _ (.tail _ (.tail _ (.head _)))) | exact .tail _ (.tail _ (.tail _ (.tail _ (.tail _ (.head _))))) | exact .tail _ (.tail _ (.tail _ (.tail _ (.tail _ (.tail _ (.head _))))))) (by assumption) (by assumption) (strKind_is _ _ _ _) false (by k_extra "has") ?_)))
local macro_rules | `(tactic| walk_at "compareOp NotIn int ref") => `(tactic| (k_here; k_dflt (first
  | refine kdg_notin (knd := PySem.intKind _ _) (by k_asm) (by first | exact .head _ | exact .tail _ (.head _) | exact .tail _ (.tail _ (.head _)) | exact .tail _ (.tail _ (.tail _ (.head _))) | exact .tail _ (.tail _ (.tail _ (.tail _ (.head _)))) | exact .tail _ (.tail _ (.tail _ (.tail _ (.tail _ (.head _))))) | exact .tail _ (.tail _ (.tail _ (.tail _ (.tail _ (.tail _ (.head _))))))) (by assumption) (by assumption) (intKind_is _ _ _ _) true (by k_extra "has") ?_
  | refine kdg_notin (knd := PySem.intKind _ _) (by k_asm) (by first | exact .head _ | exact .tail _ (.head _) | exact .tail _ (.tail _ (.head _)) | exact .tail _ (.tail _ (.tail _ (.head _))) | exact .tail _ (.tail _ (.tail _ (.tail _ (.head _)))) | exact .tail _ (.tail _ (.tail _ (.tail _ (.tail _ (.head _))))) | exact .tail _ (.tail _ (.tail _ (.tail _ (.tail _ (.tail _ (.head _))))))) (by assumption) (by assumption) (intKind_is _ _ _ _) false (by k_extra "has") ?_)))
local macro_rules | `(tactic| walk_at "compareOp In int ref") => `(tactic| (k_here; k_dflt (first
  | refine kda_in (knd := PySem.intKind _ _) (by k_asm) (by first | exact .head _ | exact .tail _ (.head _) | exact .tail _ (.tail _ (.head _)) | exact .tail _ (.tail _ (.tail _ (.head _))) | exact .tail _ (.tail _ (.tail _ (.tail _ (.head _)))) | exact .tail _ (.tail _ (.tail _ (.tail _ (.tail _ (.head _))))) | exact .tail _ (.tail _ (.tail _ (.tail _ (.tail _ (.tail _ (.head _))))))) (by assumption) (by assumption) (intKind_is _ _ _ _) true (by k_extra "has") ?_
  | refine kda_in (knd := PySem.intKind _ _) (by k_asm) (by first | exact .head _ | exact .tail _ (.head _) | exact .tail _ (.tail _ (.head _)) | exact .tail _ (.tail _ (.tail _ (.head _))) | exact .tail _ (.tail _ (.tail _ (.tail _ (.head _)))) | exact .tail _ (.tail _ (.tail _ (.tail _ (.tail _ (.head _))))) | exact .tail _ (.tail _ (.tail _ (.tail _ (.tail _ (.tail _ (.head _))))))) (by assumption) (by assumption) (intKind_is _ _ _ _) false (by k_extra "has") ?_)))
local macro_rules | `(tactic| walk_at "subscriptTail") => `(tactic| (k_here; (with_reducible show wpAny _ _ (subscriptTail _ _ (Value.ref _) (Value.str _ _)) _ _ _); k_dflt (refine kda_item (knd := PySem.strKind _ _) (by k_asm) (by first | exact .head _ | exact .tail _ (.head _) | exact .tail _ (.tail _ (.head _)) | exact .tail _ (.tail _ (.tail _ (.head _))) | exact .tail _ (.tail _ (.tail _ (.tail _ (.head _)))) | exact .tail _ (.tail _ (.tail _ (.tail _ (.tail _ (.head _))))) | exact .tail _ (.tail _ (.tail _ (.tail _ (.tail _ (.tail _ (.head _))))))) (by assumption) (strKind_is _ _ _ _) (by k_extra "val") ?_)))
local macro_rules | `(tactic| walk_at "setItem ref str") => `(tactic| (k_here; k_dflt (refine' kda_set (knd := PySem.strKind _ _) ?F ?N ?U ?d (strKind_is _ _ _ _) ?z ?_; (case F => k_asm); (case N => k_asm); (case U => k_updF); (case d => assumption); (case z => k_extra "fits")); intro h' o' F' N' hd'; (try dsimp only at N')))
local macro_rules | `(tactic| walk_at "setItem ref int") => `(tactic| (k_here; k_dflt (refine' kda_set (knd := PySem.intKind _ _) ?F ?N ?U ?d (intKind_is _ _ _ _) ?z ?_; (case F => k_asm); (case N => k_asm); (case U => k_updF); (case d => assumption); (case z => k_extra "fits")); intro h' o' F' N' hd'; (try dsimp only at N')))
set_option maxHeartbeats 4000000 in
theorem params_of (w : World) (LA : Addr) (vs : List Value) (ep : Nat) (l : List Pr) (news : Led) (hL : (LA, listOf vs.toArray ep) ∈ news) (hvs : PrsIn news vs l) (hok : ∀ x ∈ l, x.ok) (hlen : l.length ≤ 200) (hgood : ∀ s x, look l s = some x → x.late = false) :
    Does w 182 9 256 [.ref LA] news (fun v news' => ∃ D o kvs, v = .ref D ∧ (D, o) ∈ news' ∧ (∀ p ∈ news, p ∈ news') ∧ o.IsDictOf (PySem.strKind PRG w) kvs ∧ (D == sysModules) = false ∧ kvs.length ≤ 1000 ∧ (∀ x ∈ kvs, ∃ n, n < 3 ∧ x.1 = nm n) ∧
      ∀ n, n < 3 → ∃ x, Tx l n x ∧ (match x with | none => valueAt kvs (nm n) = none | some tx => ∃ t, valueAt kvs (nm n) = some (.str tx t))) := by
  intro dp un gd cn cs a ccd cl outer A₀ base h₀ L m s mean mg mb Q E B F X N T hk hdp hun hret
  w_on
  k_with_none
  refine wpAny_call ?_
  k_dflt ktr_enter
  k_steps
  unfold Stop
  rename_i g' L' hB1 FG' BG' XG' TG' pd hB2 po0 lp lop hps _ _ _ hB3 qd hB4 qo0 loq hqs _ _ _ lq hB5 lF' NW
  have hpq : @Ne Nat pd qd := Nat.ne_of_lt lq.1
  have lp2 : ∀ p ∈ news, p.1 ≠ pd := lt_ne lp
  have lq2 : ∀ p ∈ news, p.1 ≠ qd := fun p hp => Nat.ne_of_lt (Nat.lt_trans (lp p hp) lq.1)
  refine loopL (lo := listOf vs.toArray ep) (vs := vs) (n := ep) (fun c : PS => c.led) (fun _ => [(Str.ofString "plain", .ref pd), (Str.ofString "parted", .ref qd)])
    (fun r c => ∃ done rest, done ++ rest = l ∧ PrsIn news r rest ∧ Inv w pd qd news done 0 c) ⟨(qd, qo0) :: (pd, po0) :: news, po0, qo0, [], [], fun _ => none⟩ (by rfl) lF' NW ?hn ?hm rfl rfl ?hk ?hp ?turn ?done
  case hn => exact fun p hp => hp
  case hm => rintro r c ⟨_, _, _, _, I⟩; exact I.sub _ hL
  case hk => exact all_cons rfl (all_cons rfl all_nil)
  case hp =>
    refine ⟨[], l, rfl, hvs, ?_⟩
    exact { pm := .tail _ (.head _), qm := .head _, sub := fun p hp => .tail _ (.tail _ hp), pdk := hps, qdk := hqs, plen := Nat.zero_le _, qlen := Nat.zero_le _, pkey := fun x hx => by cases hx
            qkey := fun x hx => by cases hx
            pval := fun n _ => .inl ⟨rfl, rfl⟩
            qval := fun n _ => rfl
            inn := fun n D o kv h => by cases h
            apart := fun n n' D o kv D' o' kv' h => by cases h
            ival := fun n D o kv h => by cases h
            inone := fun n _ k => rfl }
  case turn =>
    clear lF' NW hps hqs
    rintro K c v r u I oI h tk hK _ ⟨done, rest, hl, hpr, Iv⟩ hoff FC NC
    (try dsimp only at hoff NC)
    obtain ⟨x, rest, rfl⟩ : ∃ x r', rest = x :: r' := by
      cases rest with
      | nil => exact hpr.elim
      | cons x r' => exact ⟨x, r', rfl⟩
    obtain ⟨⟨T9, t91, t92, c9, rfl, hm9⟩, hpr⟩ := hpr
    have hxl : x ∈ l := hl ▸ List.mem_append_right _ (.head _)
    obtain ⟨hn3, hk4⟩ := hok x hxl
    have hl' : (done ++ [x]) ++ rest = l := by rw [List.append_assoc]; exact hl
    have hdl : done.length + 1 ≤ l.length := by rw [← hl, List.length_append, List.length_cons]; omega
    have hmT := Iv.sub _ hm9
    have eqp := Iv.pdk
    have eqq := Iv.qdk
    have hplen := Iv.plen
    have hqlen := Iv.qlen
    have Ip : @Ne Nat pd I := hoff _ Iv.pm
    have Iq : @Ne Nat qd I := hoff _ Iv.qm
    have Tp : @Ne Nat T9 pd := tup_ne (news_sub NC fun p hp => .tail _ hp) hmT Iv.pm (dict_cls eqp)
    have Tq : @Ne Nat T9 qd := tup_ne (news_sub NC fun p hp => .tail _ hp) hmT Iv.qm (dict_cls eqq)
    have NL : News g' L' h c.led := news_sub NC fun p hp => .tail _ hp
    have hNp : ∀ T its cc, (T, tupOf its cc) ∈ c.led → @Ne Nat T pd := fun _ _ _ m => tup_ne NL m Iv.pm (dict_cls eqp)
    have hNq : ∀ T its cc, (T, tupOf its cc) ∈ c.led → @Ne Nat T qd := fun _ _ _ m => tup_ne NL m Iv.qm (dict_cls eqq)
    have hlate : look done x.slot = none → x.late = false := fun h => hgood x.slot x (by
      rw [← hl']; unfold look at h ⊢; rw [List.find?_append, List.find?_append, h]; simp)
    cases hx : x.p with
    | none =>
      rw [show x.key = nm x.n from by unfold Pr.key; rw [hx]] at hm9 hmT
      have hsl : x.slot = (x.n, none) := by unfold Pr.slot; rw [hx]; rfl
      k_with "does" => first | exact key_none w _ hn3 _ _ | exact does_val (guessed_text w _ _ _ _ rfl (by decide +kernel) (by decide +kernel)) (congrArg (fun b => [Value.bytes b _]) hpb)
      k_with "done" => (rintro _ _ h9 tk9 F9 N9 ⟨t9, rfl, e9⟩; replace e9 := e9.symm; subst e9; (try k_sweep))
      k_with "done" => (rintro _ _ h9 tk9 F9 N9 ⟨rfl, e9⟩; replace e9 := e9.symm; subst e9; (try k_sweep))
      rcases Iv.pval x.n hn3 with ⟨hlk, hv⟩ | ⟨hlk, t, hv⟩
      · have hpb : x.b = plainB := by unfold Pr.b; rw [hlate (hsl ▸ hlk), hx]; rfl
        have hR : ∀ p ∈ c.led.filter (fun p => decide (p.1 ≠ pd)), p.1 ≠ pd := fun p hp => by simpa using (List.mem_filter.mp hp).2
        have N2 : News g' L' h ((I, oI) :: (T9, tupOf [.str (nm x.n) t91, .bytes x.b t92] c9) :: (pd, c.po) :: c.led.filter (fun p => decide (p.1 ≠ pd))) := all_cons (NC _ (.head _)) (all_cons (NL _ hmT) (all_cons (NL _ Iv.pm) (fun p hp => NL _ (List.mem_filter.mp hp).1)))
        clear NC
        k_with "has" => (rw [hv]; rfl)
        k_with "fits" => (rw [sizeLine_eq]; omega)
        k_steps
        all_goals
          (rename News _ _ _ _ => NZ)
          (rename Obj.IsDictOf _ _ (stored _ _ _) => dZ)
          rename_i hx2 ox Fx
          rw [show textOf (KBw.bInts plainB) = Str.ofString "plain" from by decide +kernel] at dZ
          refine' hK.go { c with led := (pd, ox) :: c.led.filter (fun p => decide (p.1 ≠ pd)), po := ox, pk := stored c.pk (nm x.n) (.str (Str.ofString "plain") t9) } ?F1 ?N1 ?hn1 ?ho1 ?hk1 ?hP1
          case F1 => k_asm
          case N1 => k_asm
          case hn1 =>
            exact all_cons (.head _) fun p hp => .tail _ (.tail _ hp)
          case ho1 =>
            exact all_cons (Ip) fun p hp => hoff p (List.mem_filter.mp hp).1
          case hk1 => exact all_cons rfl (all_cons rfl all_nil)
          case hP1 =>
            exact ⟨done ++ [x], rest, hl', hpr, inv_plain Iv hNp x hn3 hx (by rw [hsl]; exact hlk) hpq lp2 _ _ _ (.head _) (fun p hp hne => .tail _ (List.mem_filter.mpr ⟨hp, by simpa using hne⟩)) dZ⟩
      · have N2 : News g' L' h ((I, oI) :: (T9, tupOf [.str (nm x.n) t91, .bytes x.b t92] c9) :: (pd, c.po) :: c.led) := all_cons (NC _ (.head _)) (all_cons (NL _ hmT) (all_cons (NL _ Iv.pm) (fun p hp => NL _ hp)))
        clear NC
        k_with "has" => (rw [hv]; rfl)
        k_steps
        all_goals
          refine' hK.go c ?F1 ?N1 ?hn1 ?ho1 ?hk1 ?hP1
          case F1 => k_asm
          case N1 => k_asm
          case hn1 =>
            exact all_cons (.head _) fun p hp => .tail _ (.tail _ (.tail _ hp))
          case ho1 =>
            exact hoff
          case hk1 => exact all_cons rfl (all_cons rfl all_nil)
          case hP1 =>
            exact ⟨done ++ [x], rest, hl', hpr, inv_skip Iv x (by rw [hsl]; exact hlk) c.led (fun p h => h)⟩
    | some q =>
      obtain ⟨k, pt⟩ := q
      have hk3 : k < 4 := hk4 k pt hx
      rw [show x.key = keyS x.n k pt.1 from by unfold Pr.key; rw [hx]] at hm9 hmT
      have hsl : x.slot = (x.n, some k) := by unfold Pr.slot; rw [hx]; rfl
      have hqv := Iv.qval x.n hn3
      k_with "does" => exact key_part w _ _ _ hn3 hk3 _ _
      k_with "done" => (rintro _ _ h9 tk9 F9 N9 ⟨T8, t81, t82, c8, rfl, rfl, l8⟩; (try k_lt l8); (try k_sweep))
      k_with "fits" => (rw [sizeLine_eq]; first | omega | (have z9 := hi9.len; omega) | exact Nat.zero_le _)
      cases hin : c.inn x.n with
      | some d =>
        obtain ⟨D, o, kv⟩ := d
        rw [hin] at hqv
        have hi9 := Iv.inn _ _ _ _ hin
        have hpa := Iv.ival _ _ _ _ hin k
        have dko := hi9.dk
        have dmo := hi9.mods
        have DI : @Ne Nat D I := hoff _ hi9.mem
        have Dq : @Ne Nat D qd := hi9.neq
        have qD : @Ne Nat qd D := Ne.symm hi9.neq
        have ID : @Ne Nat I D := Ne.symm DI
        have hND : ∀ T its cc, (T, tupOf its cc) ∈ c.led → @Ne Nat T D := fun _ _ _ m => tup_ne NL m hi9.mem (dict_cls dko)
        have TD : @Ne Nat T9 D := hND _ _ _ hmT
        k_with "val" => exact hqv
        cases hlk : look done x.slot with
        | none =>
          have hpb : x.b = ptB k pt := by unfold Pr.b; rw [hlate hlk, hx]; rfl
          have hpn : part done x.n k = none := part_none.mpr (hsl ▸ hlk)
          rw [hpn] at hpa
          replace hpa : valueAt kv (k : Int) = none := hpa
          have hR : ∀ p ∈ c.led.filter (fun p => decide (p.1 ≠ D)), p.1 ≠ D := fun p hp => by simpa using (List.mem_filter.mp hp).2
          have N2 : News g' L' h ((I, oI) :: (T9, tupOf [.str (keyS x.n k pt.1) t91, .bytes x.b t92] c9) :: (qd, c.qo) :: (D, o) :: c.led.filter (fun p => decide (p.1 ≠ D))) := all_cons (NC _ (.head _)) (all_cons (NL _ hmT) (all_cons (NL _ Iv.qm) (all_cons (NL _ hi9.mem) (fun p hp => NL _ (List.mem_filter.mp hp).1))))
          clear NC
          rw [hpb] at N2
          k_with "has" => first | (rw [hqv]; rfl) | (rw [hpa]; rfl)
          k_steps
          all_goals
            (rename News _ _ _ _ => NZ)
            (rename Obj.IsDictOf _ _ (stored _ _ _) => dZ)
            rename_i Dt hx1 Fx1 Nx1 lt hxx ox Fx
            refine' hK.go { c with led := (Dt, tupOf [.bool pt.1, .bytes (ptB k pt) t92] 0) :: (D, ox) :: c.led.filter (fun p => decide (p.1 ≠ D)), inn := fun m => if m = x.n then some (D, ox, stored kv (k : Int) (.ref Dt)) else c.inn m } ?F1 ?N1 ?hn1 ?ho1 ?hk1 ?hP1
            case F1 => k_asm
            case N1 => k_asm
            case hn1 =>
              exact all_cons (.tail _ (.tail _ (.head _))) (all_cons (.head _) (all_cons (.tail _ (.tail _ (.tail _ (.tail _ (.tail _ (.head _)))))) (fun p hp => .tail _ (.tail _ (.tail _ (.tail _ (.tail _ (.tail _ hp))))))))
            case ho1 =>
              exact all_cons (Nat.ne_of_gt lt.2.1) (all_cons (DI) (fun p hp => hoff p (List.mem_filter.mp hp).1))
            case hk1 => exact all_cons rfl (all_cons rfl all_nil)
            case hP1 =>
              exact ⟨done ++ [x], rest, hl', hpr, inv_part Iv (by decide) x hk3 hx hlk hin hND _ _ Dt t92 0 (.tail _ (.head _)) (.head _) (fun p hp hne => .tail _ (.tail _ (List.mem_filter.mpr ⟨hp, by simpa using hne⟩))) dZ⟩
        | some y =>
          have hpn : part done x.n k ≠ none := fun e => by
            have e9 := part_none.mp e
            rw [hsl, e9] at hlk
            cases hlk
          have hpv : ∃ T, valueAt kv (k : Int) = some (.ref T) := by
            cases hq : part done x.n k with
            | none => exact absurd hq hpn
            | some p => rw [hq] at hpa; obtain ⟨_, T, _, _, e, _⟩ := hpa; exact ⟨T, e⟩
          obtain ⟨T7, hpv⟩ := hpv
          have N2 : News g' L' h ((I, oI) :: (T9, tupOf [.str (keyS x.n k pt.1) t91, .bytes x.b t92] c9) :: (qd, c.qo) :: (D, o) :: c.led) := all_cons (NC _ (.head _)) (all_cons (NL _ hmT) (all_cons (NL _ Iv.qm) (all_cons (NL _ hi9.mem) (fun p hp => NL _ hp))))
          clear NC
          k_with "has" => first | (rw [hqv]; rfl) | (rw [hpv]; rfl)
          k_steps
          all_goals
            refine' hK.go c ?F1 ?N1 ?hn1 ?ho1 ?hk1 ?hP1
            case F1 => k_asm
            case N1 => k_asm
            case hn1 =>
              exact all_cons (.tail _ (.head _)) fun p hp => .tail _ (.tail _ (.tail _ (.tail _ (.tail _ hp))))
            case ho1 =>
              exact hoff
            case hk1 => exact all_cons rfl (all_cons rfl all_nil)
            case hP1 =>
              exact ⟨done ++ [x], rest, hl', hpr, inv_skip Iv x (by rw [hlk]; exact fun q => nomatch q) c.led (fun p h => h)⟩
      | none =>
        rw [hin] at hqv
        replace hqv : valueAt c.qk (nm x.n) = none := hqv
        have hlk : look done x.slot = none := by
          rw [hsl]; exact part_none.mp (Iv.inone _ hin k)
        have hpb : x.b = ptB k pt := by unfold Pr.b; rw [hlate hlk, hx]; rfl
        have hR : ∀ p ∈ c.led.filter (fun p => decide (p.1 ≠ qd)), p.1 ≠ qd := fun p hp => by simpa using (List.mem_filter.mp hp).2
        have N2 : News g' L' h ((I, oI) :: (T9, tupOf [.str (keyS x.n k pt.1) t91, .bytes x.b t92] c9) :: (qd, c.qo) :: c.led.filter (fun p => decide (p.1 ≠ qd))) := all_cons (NC _ (.head _)) (all_cons (NL _ hmT) (all_cons (NL _ Iv.qm) (fun p hp => NL _ (List.mem_filter.mp hp).1)))
        clear NC
        rw [hpb] at N2
        k_with "val" => (rw [va_stored, if_pos rfl])
        k_with "has" => first | (rw [hqv]; rfl) | rfl | (rw [va_stored, if_pos rfl]; rfl)
        k_steps
        all_goals
          (rename News _ _ _ _ => NZ)
          (rename Obj.IsDictOf (PySem.intKind _ _) _ (stored _ _ _) => dZ)
          (rename Obj.IsDictOf (PySem.strKind _ _) _ (stored _ _ _) => dQ)
          rename_i dd hx4 o0 lo9 hs9 fs9 hi9' fi9 l09 hx3 qo9 Dt hx1 Fx1 Nx1 lt hxx ox Fx
          have hRd : ∀ p ∈ c.led.filter (fun p => decide (p.1 ≠ qd)), p.1 < dd := allLt_mem l09.2.2.2.2
          obtain ⟨c1, e1, Iv1⟩ : ∃ c1 : PS, c1 = { c with led := (dd, o0) :: (qd, qo9) :: c.led.filter (fun p => decide (p.1 ≠ qd)), qo := qo9, qk := stored c.qk (nm x.n) (.ref dd), inn := fun m => if m = x.n then some (dd, o0, []) else c.inn m } ∧ Inv w pd qd news done 1 c1 :=
            ⟨_, rfl, inv_fresh Iv hNq x.n hn3 hin hpq lq2 _ qo9 dd o0 (.tail _ (.head _)) (.head _) (fun p hp hne => .tail _ (.tail _ (List.mem_filter.mpr ⟨hp, by simpa using hne⟩)))
              (fun p hp => by
                by_cases hq : p.1 = qd
                · rw [hq]; exact l09.2.2.2.1
                · exact hRd p (List.mem_filter.mpr ⟨hp, by simpa using hq⟩)) lo9 dQ hi9'⟩
          have hi1 : c1.inn x.n = some (dd, o0, []) := by rw [e1]; exact if_pos rfl
          have hl1 : c1.led = (dd, o0) :: (qd, qo9) :: c.led.filter (fun p => decide (p.1 ≠ qd)) := by rw [e1]
          have hN1 : ∀ T its cc, (T, tupOf its cc) ∈ c1.led → @Ne Nat T dd := fun T its cc m => by
            rw [hl1] at m
            rcases List.mem_cons.mp m with e | m
            · have e2 : tupOf its cc = o0 := congrArg Prod.snd e
              have e3 := dict_cls hi9'
              rw [← e2] at e3
              exact absurd (show Value.type "tuple" = Value.type "dict" from e3) (by decide)
            rcases List.mem_cons.mp m with e | m
            · have e2 : T = qd := congrArg Prod.fst e
              rw [e2]; exact Nat.ne_of_lt l09.2.2.2.1
            · exact Nat.ne_of_lt (hRd _ m)
          refine' hK.go { c1 with led := (Dt, tupOf [.bool pt.1, .bytes (ptB k pt) t92] 0) :: (dd, ox) :: (qd, qo9) :: c.led.filter (fun p => decide (p.1 ≠ qd)), inn := fun m => if m = x.n then some (dd, ox, stored [] (k : Int) (.ref Dt)) else c1.inn m } ?F1 ?N1 ?hn1 ?ho1 ?hk1 ?hP1
          case F1 => k_asm
          case N1 => k_asm
          case hn1 =>
            exact all_cons (.tail _ (.tail _ (.tail _ (.head _)))) (all_cons (.head _) (all_cons (.tail _ (.head _)) (all_cons (.tail _ (.tail _ (.tail _ (.tail _ (.tail _ (.head _)))))) (fun p hp => .tail _ (.tail _ (.tail _ (.tail _ (.tail _ (.tail _ hp)))))))))
          case ho1 =>
            exact all_cons (Nat.ne_of_gt lt.2.2.1) (all_cons (Nat.ne_of_gt l09.2.1) (all_cons (Iq) (fun p hp => hoff p (List.mem_filter.mp hp).1)))
          case hk1 => exact all_cons rfl (all_cons rfl all_nil)
          case hP1 =>
            exact ⟨done ++ [x], rest, hl', hpr, inv_part Iv1 (by decide) x hk3 hx hlk hi1 hN1 _ _ Dt t92 0 (.tail _ (.head _)) (.head _) (fun p hp hne => by
              rw [hl1] at hp
              rcases List.mem_cons.mp hp with e | hp
              · exact absurd (congrArg Prod.fst e) hne
              · exact .tail _ (.tail _ hp)) dZ⟩
  case done =>
    clear lF' NW hps hqs
    rintro c u h tk ⟨done, rest, hl, hpr, Iv⟩ FC NC
    (try dsimp only at NC)
    have hrest : rest = [] := by
      cases rest with
      | nil => rfl
      | cons x r => exact hpr.elim
    subst hrest
    rw [List.append_nil] at hl
    subst hl
    have eqq := Iv.qdk
    have hNp : ∀ T its cc, (T, tupOf its cc) ∈ c.led → @Ne Nat T pd := fun _ _ _ m => tup_ne NC m Iv.pm (dict_cls Iv.pdk)
    k_steps
    unfold Stop
    (rename Fr _ _ _ _ => FW)
    refine loopD (kvs := c.qk) (lo := c.qo) (fun c2 : Led × Obj × List (Str × Value) => c2.1) (fun _ => [(Str.ofString "plain", .ref pd), (Str.ofString "parted", .ref qd)])
      (fun r c2 => ∃ pr, pr ++ r = c.qk ∧ Inv2 w pd done c pr c2) (c.led, c.po, c.pk) (by rfl) FW NC ?hn2 ?hm2 loq eqq ?hk2 ?hp2 ?turn2 ?done2
    case hn2 => exact fun p hp => hp
    case hm2 => rintro r c2 ⟨_, _, I2⟩; exact I2.keep _ Iv.qm (Ne.symm hpq)
    case hk2 => exact all_cons rfl (all_cons rfl all_nil)
    case hp2 => exact ⟨[], rfl, inv2_start Iv⟩
    case turn2 =>
      clear FW NC
      rintro K c2 a r u t I oI h tk hK _ ⟨pr, hpr2, I2⟩ hoff FC NC
      (try dsimp only at hoff NC)
      obtain ⟨led, po, pk⟩ := c2
      have haq : a ∈ c.qk := hpr2 ▸ List.mem_append_right _ (.head _)
      obtain ⟨n, hn3, hna⟩ := Iv.qkey a haq
      rw [hna]
      have hqv := Iv.qval n hn3
      have hpr3 : (pr ++ [a]) ++ r = c.qk := by rw [List.append_assoc]; exact hpr2
      have hsome : valueAt c.qk (nm n) ≠ none := va_mem (v := a.2) (by rw [← hna]; exact haq)
      obtain ⟨D, o, kv, hin⟩ : ∃ D o kv, c.inn n = some (D, o, kv) := by
        cases hi : c.inn n with
        | none => rw [hi] at hqv; exact absurd hqv hsome
        | some d => exact ⟨d.1, d.2.1, d.2.2, rfl⟩
      rw [hin] at hqv
      have hi9 := Iv.inn _ _ _ _ hin
      have dko := hi9.dk
      have dmo := hi9.mods
      have eqp := I2.pdk
      have hpa := Iv.ival _ _ _ _ hin
      have hmp := I2.pm
      have hmq := I2.keep _ Iv.qm (Ne.symm hpq)
      have hmD := I2.keep _ hi9.mem hi9.nep
      have Ip : @Ne Nat I pd := Ne.symm (hoff _ hmp)
      have pI : @Ne Nat pd I := hoff _ hmp
      have Dp : @Ne Nat D pd := hi9.nep
      have qp : @Ne Nat qd pd := Ne.symm hpq
      have hpl := I2.len
      have hprl : pr.length ≤ c.qk.length := by rw [← hpr2, List.length_append]; omega
      have hqlen := Iv.qlen
      have NL : News g' L' h led := news_sub NC fun p hp => .tail _ hp
      k_with "val" => exact hqv
      have hR : ∀ p ∈ led.filter (fun p => decide (p.1 ≠ pd)), p.1 ≠ pd := fun p hp => by simpa using (List.mem_filter.mp hp).2
      have N2 : News g' L' h ((I, oI) :: (qd, c.qo) :: (D, o) :: (pd, po) :: led.filter (fun p => decide (p.1 ≠ pd))) := all_cons (NC _ (.head _)) (all_cons (NL _ hmq) (all_cons (NL _ hmD) (all_cons (NL _ hmp) (fun p hp => NL _ (List.mem_filter.mp hp).1))))
      clear NC NL
      k_with "fits" => (rw [sizeLine_eq]; omega)
      cases hp0 : part done n 0 with
      | none =>
        have hv0 := hpa 0
        rw [hp0] at hv0
        replace hv0 : valueAt kv 0 = none := hv0
        k_with "has" => (rw [hv0]; rfl)
        k_steps
        all_goals
          refine' hK.go ((pd, po) :: led.filter (fun p => decide (p.1 ≠ pd)), po, pk) ?F1 ?N1 ?hn1 ?ho1 ?hk1 ?hP1
          case F1 => k_asm
          case N1 => k_asm
          case hn1 =>
            exact all_cons (.head _) fun p hp => .tail _ (.tail _ (.tail _ hp))
          case ho1 =>
            exact all_cons (pI) fun p hp => hoff p (List.mem_filter.mp hp).1
          case hk1 => exact all_cons rfl (all_cons rfl all_nil)
          case hP1 =>
            exact ⟨pr ++ [a], hpr3, inv2_skip (inv2_lay I2 _ (.head _) (fun p hp hne => .tail _ (List.mem_filter.mpr ⟨hp, by simpa using hne⟩))) a n hn3 hna hp0⟩
      | some p0 =>
        obtain ⟨_, T0, t0, c0, hv0, _⟩ : PartAt c.led kv 0 (some p0) := by have := hpa 0; rw [hp0] at this; exact this
        replace hv0 : valueAt kv 0 = some (.ref T0) := hv0
        k_with "has" => (rw [hv0]; rfl)
        k_with "does" => exact joined w D o (part done n) _ (.tail _ (.tail _ (.head _))) dmo (partsIn hi9 (by omega) hpa (fun T its cc m => .tail _ (.tail _ (.tail _ (.tail _ (List.mem_filter.mpr ⟨I2.keep _ m (hNp _ _ _ m), by simpa using hNp _ _ _ m⟩))))))
        k_with "done" => (rintro _ _ h9 tk9 F9 N9 ⟨i9, t9, hrun, rfl, e9⟩; replace e9 := e9.symm; subst e9; (try k_sweep))
        k_steps
        all_goals
          (rename News _ _ _ _ => NZ)
          (rename Obj.IsDictOf _ _ (stored _ _ _) => dZ)
          rename_i hxx ox Fx
          refine' hK.go ((pd, ox) :: led.filter (fun p => decide (p.1 ≠ pd)), ox, stored pk (nm n) (.str (textOf (KBw.bInts (catD (part done n) i9))) t9)) ?F1 ?N1 ?hn1 ?ho1 ?hk1 ?hP1
          case F1 => k_asm
          case N1 => k_asm
          case hn1 =>
            exact all_cons (.head _) fun p hp => .tail _ (.tail _ (.tail _ hp))
          case ho1 =>
            exact all_cons (pI) fun p hp => hoff p (List.mem_filter.mp hp).1
          case hk1 => exact all_cons rfl (all_cons rfl all_nil)
          case hP1 =>
            exact ⟨pr ++ [a], hpr3, inv2_set I2 a n hn3 hna (by rw [hp0]; exact fun q => nomatch q) hrun _ ox (.head _) (fun p hp hne => .tail _ (List.mem_filter.mpr ⟨hp, by simpa using hne⟩)) dZ⟩
    case done2 =>
      clear FW NC
      rintro c2 u h tk ⟨pr, hpr2, I2⟩ FC NC
      (try dsimp only at NC)
      rw [List.append_nil] at hpr2
      subst hpr2
      k_steps
      all_goals
        exact hret _ _ _ _ (by k_asm) (by k_asm) ⟨pd, c2.2.1, c2.2.2, rfl, I2.pm, (fun p hp => I2.keep p (Iv.sub p hp) (lp2 p hp)), I2.pdk, lop, (by have h1 := I2.len; have h2 := Iv.qlen; omega), I2.keys, inv2_end Iv I2⟩
end
end Mine
end
section
set_option maxRecDepth 100000
open PySem PySem.W PyProof.Rows
namespace Mine
theorem nodup_le {K : Type} [DecidableEq K] : ∀ (l m : List K), l.Nodup → (∀ x ∈ l, x ∈ m) → l.length ≤ m.length
  | [], _, _, _ => Nat.zero_le _
  | a :: l, m, hn, hs => by
    rw [List.nodup_cons] at hn
    have ha : a ∈ m := hs a (.head _)
    have ih := nodup_le l (m.erase a) hn.2 fun x hx => (List.mem_erase_of_ne (a := x) (b := a) (fun e => hn.1 (by rw [← e]; exact hx))).mpr (hs x (.tail _ hx))
    rw [List.length_erase_of_mem ha] at ih
    have : 0 < m.length := List.length_pos_of_mem ha
    rw [List.length_cons]
    omega
theorem dict_nodup {o : Obj} {K : Type} [DecidableEq K] {knd : KeyKind PRG w K} {kvs : List (K × Value)} (h : o.IsDictOf knd kvs) : (kvs.map (·.1)).Nodup := by
  obtain ⟨es, ep, _, _, _, _, hn⟩ := h
  exact hn
theorem va_own {K : Type} [DecidableEq K] : ∀ {kvs : List (K × Value)} {k : K} {v : Value}, (kvs.map (·.1)).Nodup → (k, v) ∈ kvs → valueAt kvs k = some v
  | (k', v') :: r, k, v, hn, hm => by
    rw [List.map_cons, List.nodup_cons] at hn
    unfold valueAt
    rcases List.mem_cons.mp hm with e | hm
    · cases e; simp
    · have : k' ≠ k := fun e => hn.1 (e ▸ List.mem_map.mpr ⟨(k, v), hm, rfl⟩)
      have ih := va_own hn.2 hm
      unfold valueAt at ih
      simp [this, ih]
/-- the value of a dict at a name, as a text or none -/
def At3 (kvs : List (Str × Value)) (n : Nat) : Option Str → Prop
  | none => valueAt kvs (nm n) = none
  | some tx => ∃ t, valueAt kvs (nm n) = some (.str tx t)
/-- two dicts that tell the same of the three names -/
def Same3 (ka kb : List (Str × Value)) : Prop := (∀ x ∈ ka, ∃ n, n < 3 ∧ x.1 = nm n) ∧ (∀ x ∈ kb, ∃ n, n < 3 ∧ x.1 = nm n) ∧ ∀ n, n < 3 → ∃ x, At3 ka n x ∧ At3 kb n x
theorem same3_keys {ka kb : List (Str × Value)} (h : Same3 ka kb) : ∀ x ∈ ka.map (·.1), x ∈ kb.map (·.1) := by
  intro x hx
  obtain ⟨y, hy, rfl⟩ := List.mem_map.mp hx
  obtain ⟨n, hn, e⟩ := h.1 y hy
  obtain ⟨z, h1, h2⟩ := h.2.2 n hn
  cases z with
  | none => exact absurd h1 (va_mem (v := y.2) (by rw [← e]; exact hy))
  | some tx =>
    obtain ⟨t, h2⟩ := h2
    obtain ⟨q, hq, e2⟩ := va_key (k := nm n) (kvs := kb) (by rw [h2]; exact fun q => nomatch q)
    exact List.mem_map.mpr ⟨q, hq, e2.trans e.symm⟩
theorem Same3.symm {ka kb : List (Str × Value)} (h : Same3 ka kb) : Same3 kb ka := ⟨h.2.1, h.1, fun n hn => let ⟨x, a, b⟩ := h.2.2 n hn; ⟨x, b, a⟩⟩
theorem same3_len {w : World} {oa ob : Obj} {ka kb : List (Str × Value)} (da : oa.IsDictOf (PySem.strKind PRG w) ka) (db : ob.IsDictOf (PySem.strKind PRG w) kb) (h : Same3 ka kb) : ka.length = kb.length := by
  have h1 := nodup_le _ _ (dict_nodup da) (same3_keys h)
  have h2 := nodup_le _ _ (dict_nodup db) (same3_keys h.symm)
  rw [List.length_map, List.length_map] at h1 h2
  omega
theorem hits_true {A : Around} {s : Shared} {kb : List (Str × Value)} : ∀ (r : List (Str × Value)), (∀ x ∈ r, ∃ tx t t', x.2 = .str tx t ∧ valueAt kb x.1 = some (.str tx t')) → KeqHits A s kb r true
  | [], _ => .nil
  | (k, v) :: r, h => by
    obtain ⟨tx, t, t', e1, e2⟩ := h (k, v) (.head _)
    have e1' : v = .str tx t := e1
    subst e1'
    have ih := hits_true (A := A) (s := s) r fun x hx => h x (.tail _ hx)
    have he := SeqAt.EqAt.str_str (A := A) (s := s) tx t tx t'
    have := KeqHits.hit (A := A) (s := s) (kb := kb) (k := k) e2 he ih
    simpa using this
theorem same3_hits {w : World} {A : Around} {s : Shared} {oa : Obj} {ka kb : List (Str × Value)} (da : oa.IsDictOf (PySem.strKind PRG w) ka) (h : Same3 ka kb) : KeqHits A s kb ka true := by
  refine hits_true ka fun x hx => ?_
  obtain ⟨n, hn, e⟩ := h.1 x hx
  obtain ⟨z, h1, h2⟩ := h.2.2 n hn
  cases z with
  | none => exact absurd h1 (va_mem (v := x.2) (by rw [← e]; exact hx))
  | some tx =>
    obtain ⟨t, h1⟩ := h1
    obtain ⟨t', h2⟩ := h2
    have := va_own (dict_nodup da) (k := x.1) (v := x.2) hx
    rw [e, h1] at this
    exact ⟨tx, t, t', (Option.some.inj this).symm, by rw [e]; exact h2⟩
section
variable {w : World} {A : Around} {E : Value → Shared → Prop} {s : Shared} {h₀ : Heap} {L a b : Addr} {oa ob : Obj} {news : Led} {ka kb : List (Str × Value)} {Q : Value → Shared → Prop}
theorem dict_eq (N : News h₀ L s.heap news) (pa : (a, oa) ∈ news) (pb : (b, ob) ∈ news) (da : oa.IsDictOf (PySem.strKind PRG w) ka) (db : ob.IsDictOf (PySem.strKind PRG w) kb) (la : (a == sysModules) = false) (lb : (b == sysModules) = false) (h3 : Same3 ka kb) (hu : A.units < cLine)
    (h : Q (.bool true) s) : wpAny (model PRG w) A (compareOp .Eq (.ref a) (.ref b)) Q E s := keq_pairs N pa pb da db la lb (same3_len da db h3) hu (same3_hits da h3) h
theorem dict_ne (N : News h₀ L s.heap news) (pa : (a, oa) ∈ news) (pb : (b, ob) ∈ news) (da : oa.IsDictOf (PySem.strKind PRG w) ka) (db : ob.IsDictOf (PySem.strKind PRG w) kb) (la : (a == sysModules) = false) (lb : (b == sysModules) = false) (h3 : Same3 ka kb) (hu : A.units < cLine)
    (h : Q (.bool false) s) : wpAny (model PRG w) A (compareOp .NotEq (.ref a) (.ref b)) Q E s := kne_pairs N pa pb da db la lb (same3_len da db h3) hu (same3_hits da h3) h
end
end Mine
end
section
set_option maxRecDepth 100000
open PySem PySem.W PyProof.Rows
set_option genSizeOf false
set_option genInjectivity false
namespace Mine
/-- the pot's numbers -/
structure PotS where
  vs : List Value
  ns : List Int
  st : Int
  pl : Int
  t1 : Tok
  t2 : Tok
  n1 : Nat
  n2 : Nat
def potO (lc : Addr) (p : PotS) : Obj := listOf #[.ref lc, .int p.st p.t1, .int p.pl p.t2] p.n1
def celO (p : PotS) : Obj := listOf p.vs.toArray p.n2
def PotG (p : PotS) (k : Nat) : Prop := IntsAre p.vs p.ns ∧ PotOk p.ns p.st p.pl k
theorem PotG.mono {p : PotS} {k k' : Nat} (h : PotG p k) (hk : k ≤ k') : PotG p k' := ⟨h.1, h.2.len, h.2.pos, h.2.st0, h.2.st1, h.2.pl0, Int.le_trans h.2.pl1 (Int.ofNat_le.mpr hk)⟩
/-- the pot and its cells lie apart -/
structure PotNe (lp lc : Addr) : Prop where
  ne : @Ne Nat lp lc
/-- two entries of the ledger may be replaced -/
def Two (lp lc : Addr) (a b : Obj) (news : Led) (g : Obj → Obj → Led) : Prop := (lp, a) ∈ news ∧ (lc, b) ∈ news ∧ ∀ a' b' p, p ∈ g a' b' → p = (lp, a') ∨ p = (lc, b') ∨ (p ∈ news ∧ p.1 ≠ lp ∧ p.1 ≠ lc)
theorem two_base {lp lc : Addr} {a b : Obj} {r : Led} (h1 : ∀ p ∈ r, p.1 ≠ lp) (h2 : ∀ p ∈ r, p.1 ≠ lc) : Two lp lc a b ((lp, a) :: (lc, b) :: r) (fun a' b' => (lp, a') :: (lc, b') :: r) := by
  refine ⟨.head _, .tail _ (.head _), fun a' b' p hp => ?_⟩
  rcases List.mem_cons.mp hp with e | hp
  · exact .inl e
  rcases List.mem_cons.mp hp with e | hp
  · exact .inr (.inl e)
  · exact .inr (.inr ⟨.tail _ (.tail _ hp), h1 p hp, h2 p hp⟩)
theorem two_skip {lp lc x : Addr} {o a b : Obj} {r : Led} {g : Obj → Obj → Led} (n1 : @Ne Nat x lp) (n2 : @Ne Nat x lc) (h : Two lp lc a b r g) : Two lp lc a b ((x, o) :: r) (fun a' b' => (x, o) :: g a' b') := by
  refine ⟨.tail _ h.1, .tail _ h.2.1, fun a' b' p hp => ?_⟩
  rcases List.mem_cons.mp hp with e | hp
  · exact .inr (.inr ⟨e ▸ .head _, e ▸ n1, e ▸ n2⟩)
  · exact (h.2.2 a' b' p hp).imp id (Or.imp id fun ⟨m, u⟩ => ⟨.tail _ m, u⟩)
theorem draw_use {w : World} {dp un : Nat} {gd : Option (List Code)} {cn : Str} {cs : Scope} {a : Addr} {ccd : Value} {cl : List (Str × Addr)} {outer : List Env} {A₀ : Around} {base h₀ : Heap} {L : Addr} {m : Str → Option Value} {s : Shared}
    {mean : ExcName → Option Value} {mg mb : Str → Option Value} {Q E : Value → Shared → Prop} {lp lc : Addr} {p : PotS} {lim : Int} {t : Tok} {k : Nat} {news : Led} {g : Obj → Obj → Led} (hne : PotNe lp lc)
    (U : Two lp lc (potO lc p) (celO p) news g) (hp : PotG p k) (hk : k < 1000) (hlim : 0 < lim) (hlim2 : lim < 100)
    (B : Below A₀ base outer h₀) (F : Fr h₀ L s.heap m) (X : (hd.heap_1 w.params).In h₀) (N : News h₀ L s.heap news) (T : Top Mine.V LO mean mg mb h₀) (hk' : cs.kind = .function) (h1 : dp + 1 < recursionLimit) (h2 : un + 8 < cLine)
    (ret : ∀ r t' p' h' tk', Fr h₀ L h' m → News h₀ L h' (g (potO lc p') (celO p')) → 0 ≤ r → r < lim → PotG p' (k + 1) → Q (.int r t') { s with heap := h', toks := tk' }) :
    wpAny (model PySem.Challenge.rw_nz0291_01.row.prog w) (ktrTop dp un gd cn cs L a ccd cl outer) (call (.ref 194) [.ref lp, .int lim t]) Q E s := by
  obtain ⟨m1, m2, up⟩ := U
  refine does_use (draw_at w lp lc p.vs p.ns p.st p.pl lim p.t1 p.t2 t p.n1 p.n2 k (news.filter fun p => decide (p.1 ≠ lp) && decide (p.1 ≠ lc)) hne.ne ?_ ?_ hp.1 hp.2 hk hlim hlim2) B F X ?_ T hk' h1 h2 ?_
  · intro q hq
    have := (List.mem_filter.mp hq).2
    simp at this; exact this.1
  · intro q hq
    have := (List.mem_filter.mp hq).2
    simp at this; exact this.2
  · exact news_sub N (all_cons m1 (all_cons m2 fun q hq => (List.mem_filter.mp hq).1))
  · rintro v news' h' tk' F' N' ⟨r, t', vs', ns', st', pl', t1', t2', n1', n2', rfl, h1, h2, rfl, h3, h4⟩
    refine ret r t' ⟨vs', ns', st', pl', t1', t2', n1', n2'⟩ h' tk' F' (news_sub N' fun q hq => ?_) h1 h2 ⟨h3, h4⟩
    rcases up _ _ q hq with e | e | ⟨hq, q1, q2⟩
    · exact e ▸ .head _
    · exact e ▸ .tail _ (.head _)
    · exact .tail _ (.tail _ (List.mem_filter.mpr ⟨hq, by simp [q1, q2]⟩))
end Mine
end
section
set_option maxRecDepth 100000
open PySem PySem.W PyProof.Rows LCg PySem.Builtin PySem.Calls
namespace Mine
theorem obj_ne {h₀ h : Heap} {L : Addr} {led : Led} {T d : Addr} {its : List Value} {c : Nat} {o : Obj} (N : News h₀ L h led) (m : (T, tupOf its c) ∈ led) (m' : (d, o) ∈ led) (hc : o.cls ≠ .type "tuple") : @Ne Nat T d := by
  intro e
  have h1 := (N _ m).1
  have h2 := (N _ m').1
  rw [show (T, tupOf its c).1 = d from e] at h1
  have h3 : some (tupOf its c) = some o := h1.symm.trans h2
  injection h3 with h3
  rw [← h3] at hc
  exact hc rfl
theorem prs_sub {led led' : Led} (hs : ∀ T its c, (T, tupOf its c) ∈ led → (T, tupOf its c) ∈ led') : ∀ {vs : List Value} {l : List Pr}, PrsIn led vs l → PrsIn led' vs l
  | [], [], _ => trivial
  | _ :: _, _ :: _, ⟨⟨T, t1, t2, c, e, m⟩, g⟩ => ⟨⟨T, t1, t2, c, e, hs _ _ _ m⟩, prs_sub hs g⟩
  | [], _ :: _, g => g.elim
  | _ :: _, [], g => g.elim
theorem list_cls (its : Array Value) (n : Nat) : (listOf its n).cls ≠ .type "tuple" := by
  show Value.type "list" ≠ Value.type "tuple"
  decide
theorem truthy_led {prog : Program} {w : World} {A : Around} {E : Value → Shared → Prop} {s : Shared} {h₀ : Heap} {L d : Addr} {news : Led} {vs : List Value} {n : Nat} {Q : Bool → Shared → Prop} (N : News h₀ L s.heap news) (hm : (d, listOf vs.toArray n) ∈ news) (hl : vs.length < 1000) (h : Q (!vs.isEmpty) { s with toks := s.toks + 1 + 1 }) :
    wpAny (model prog w) A (truthy (.ref d)) Q E s := by
  refine wpAny_truthy_list (items := vs.toArray) ⟨_, (N _ hm).1, rfl, _, rfl⟩ (by rw [List.size_toArray]; omega) ?_
  cases vs with
  | nil => exact h
  | cons v r => simpa using h
theorem len_led {prog : Program} {w : World} {A : Around} {E : Value → Shared → Prop} {s : Shared} {h₀ : Heap} {L d : Addr} {news : Led} {vs : List Value} {n : Nat} {Q : Value → Shared → Prop} (N : News h₀ L s.heap news) (hm : (d, listOf vs.toArray n) ∈ news) (hl : vs.length < 1000) (h : Q (.int (vs.length : Int) (s.toks + 1)) { s with toks := s.toks + 1 + 1 }) :
    wpAny (model prog w) A (call (.builtin "len") [.ref d]) Q E s := by
  refine call_len_list (items := vs.toArray) ⟨_, (N _ hm).1, rfl, _, rfl⟩ (by rw [List.size_toArray]; omega) ?_
  rw [List.size_toArray]
  exact h
theorem fits_small {i : Int} (h0 : 0 ≤ i) (h1 : i < 1000) : Builtin.List.listFitsIndex i = true := by
  unfold Builtin.List.listFitsIndex
  simp only [Bool.and_eq_true, decide_eq_true_eq]
  omega
theorem seq_small {i : Int} {n : Nat} (h0 : 0 ≤ i) (h1 : i < (n : Int)) : seqIndex? i n = some i.toNat := by
  unfold seqIndex?
  have hn : ¬ i < 0 := by omega
  simp only [if_neg hn]
  rw [if_pos (by simp; omega)]
theorem split_at : ∀ (ls : List Value) (i : Nat), i < ls.length → ∃ p y q, ls = p ++ y :: q ∧ p.length = i
  | v :: r, 0, _ => ⟨[], v, r, rfl, rfl⟩
  | v :: r, i + 1, h => by
    obtain ⟨p, y, q, e, hl⟩ := split_at r i (by simpa using h)
    exact ⟨v :: p, y, q, by rw [e]; rfl, by rw [List.length_cons, hl]⟩
theorem cut_of : ∀ (p : List Value) (y : Value) (q : List Value), kl_cut (p ++ y :: q) p.length = some (p, y, q)
  | [], y, q => rfl
  | v :: p, y, q => by
    show kl_cut (v :: (p ++ y :: q)) (p.length + 1) = _
    unfold kl_cut
    rw [cut_of p y q]
theorem prs_cut {R : Led} : ∀ {ls : List Value} {ll : List Pr} {p : List Value} {y : Value} {q : List Value}, PrsIn R ls ll → ls = p ++ y :: q →
    ∃ lp x lq, ll = lp ++ x :: lq ∧ PrsIn R p lp ∧ (∃ T t1 t2 c, y = .ref T ∧ (T, tupOf [.str x.key t1, .bytes x.b t2] c) ∈ R) ∧ PrsIn R q lq
  | ls, ll, [], y, q, h, e => by
    subst e
    cases ll with
    | nil => exact h.elim
    | cons x lq => exact ⟨[], x, lq, rfl, trivial, h.1, h.2⟩
  | ls, ll, v :: p, y, q, h, e => by
    subst e
    cases ll with
    | nil => exact h.elim
    | cons x0 ll =>
      obtain ⟨lp, x, lq, e, h1, h2, h3⟩ := prs_cut (p := p) (y := y) (q := q) h.2 rfl
      exact ⟨x0 :: lp, x, lq, by rw [e]; rfl, ⟨h.1, h1⟩, h2, h3⟩
/-- two lists of the ledger, ahead of the rest -/
theorem two_of {h₀ h : Heap} {L lp lc : Addr} {news : Led} {a b : Obj} (N : News h₀ L h news) (hp : (lp, a) ∈ news) (hc : (lc, b) ∈ news) :
    ∃ R : Led, (∀ p ∈ R, p.1 ≠ lp) ∧ (∀ p ∈ R, p.1 ≠ lc) ∧ News h₀ L h ((lp, a) :: (lc, b) :: R) ∧ ∀ p ∈ news, p.1 ≠ lp → p.1 ≠ lc → p ∈ R := by
  refine ⟨news.filter (fun p => decide (p.1 ≠ lp) && decide (p.1 ≠ lc)), fun p hp => ?_, fun p hp => ?_, fun p hp9 => ?_, fun p hp a b => List.mem_filter.mpr ⟨hp, by simp [a, b]⟩⟩
  · have := (List.mem_filter.mp hp).2; simp at this; exact this.1
  · have := (List.mem_filter.mp hp).2; simp at this; exact this.2
  · rcases List.mem_cons.mp hp9 with rfl | hp9
    · exact N _ hp
    rcases List.mem_cons.mp hp9 with rfl | hp9
    · exact N _ hc
    · exact N _ (List.mem_filter.mp hp9).1
end Mine
end
section
set_option maxRecDepth 100000
open PySem PySem.W PyProof.Rows LCg PySem.Builtin PySem.Calls
set_option genSizeOf false
set_option genInjectivity false
namespace Mine
theorem pick_take (vs : List Value) (i : Int) (h : 0 ≤ i) : kms_pick vs none (some i) = vs.take i.toNat := by
  unfold kms_pick kms_lo kms_hi
  have hn : ¬ i < 0 := by omega
  simp only [if_neg hn, List.drop_zero, Nat.sub_zero]
  rcases Nat.le_total i.toNat vs.length with h1 | h1
  · rw [Nat.min_eq_left h1]
  · rw [Nat.min_eq_right h1, List.take_length, List.take_of_length_le h1]
/-- the pairs of the names before i, and of i so far as told -/
structure InvL (l : List Pr) (i : Nat) (done : List Int) : Prop where
  ok : ∀ x ∈ l, x.ok ∧ x.late = false
  nd : (l.map Pr.slot).Nodup
  lt : ∀ x ∈ l, x.n < i ∨ (x.n = i ∧ ∀ k pt, x.p = some (k, pt) → (k : Int) ∈ done)
theorem drop_nm {t1 t2 t3 : Tok} {m i : Nat} {v : Value} {r : List Value} (h : v :: r = (List.take m [Value.str (Str.ofString "a") t1, .str (Str.ofString "b") t2, .str (Str.ofString "title") t3]).drop i) :
    i < 3 ∧ (∃ t, v = .str (nm i) t) ∧ r = (List.take m [Value.str (Str.ofString "a") t1, .str (Str.ofString "b") t2, .str (Str.ofString "title") t3]).drop (i + 1) := by
  have h2 : r = (List.take m [Value.str (Str.ofString "a") t1, .str (Str.ofString "b") t2, .str (Str.ofString "title") t3]).drop (i + 1) := by
    rw [← List.tail_drop, ← h]; rfl
  have h3 : ([Value.str (Str.ofString "a") t1, .str (Str.ofString "b") t2, .str (Str.ofString "title") t3].take m)[i]? = some v := by
    have := congrArg List.head? h
    rw [List.head?_drop] at this
    exact this.symm
  rw [List.getElem?_take] at h3
  by_cases hm : i < m
  · rw [if_pos hm] at h3
    match i, h3 with
    | 0, h3 => exact ⟨by decide, ⟨t1, by cases h3; rfl⟩, h2⟩
    | 1, h3 => exact ⟨by decide, ⟨t2, by cases h3; rfl⟩, h2⟩
    | 2, h3 => exact ⟨by decide, ⟨t3, by cases h3; rfl⟩, h2⟩
    | n + 3, h3 => simp at h3
  · rw [if_neg hm] at h3; cases h3

theorem ints_cut : ∀ {vs : List Value} {js : List Int} {p : List Value} {y : Value} {q : List Value}, IntsAre vs js → vs = p ++ y :: q → ∃ jp j jq, js = jp ++ j :: jq ∧ IntsAre (p ++ q) (jp ++ jq)
  | vs, js, [], y, q, h, e => by
    subst e
    cases h with
    | cons j t h => exact ⟨[], j, _, rfl, h⟩
  | vs, js, v :: p, y, q, h, e => by
    subst e
    cases h with
    | cons j0 t h =>
      obtain ⟨jp, j, jq, e, h1⟩ := ints_cut (p := p) (y := y) (q := q) h rfl
      exact ⟨j0 :: jp, j, jq, by rw [e]; rfl, .cons _ _ h1⟩
/-- numbers fit to be drawn -/
structure NumOk (js : List Int) : Prop where
  nd : js.Nodup
  b : ∀ j ∈ js, 0 ≤ j ∧ j < 4
  len : js.length ≤ 4
theorem numOk_range {r : Int} (h0 : 0 ≤ r) (h1 : r < 5) : NumOk (rangeKs 0 (r - 0).toNat) := by
  have : r = 0 ∨ r = 1 ∨ r = 2 ∨ r = 3 ∨ r = 4 := by omega
  rcases this with rfl | rfl | rfl | rfl | rfl <;> exact ⟨by decide, by decide, by decide⟩
theorem cutN {vs : List Value} {js : List Int} {r : Int} (h : IntsAre vs js) (h0 : 0 ≤ r) (h1 : r < (js.length : Int)) :
    ∃ p y q jp j jq, vs = p ++ y :: q ∧ p.length = r.toNat ∧ js = jp ++ j :: jq ∧ IntsAre (p ++ q) (jp ++ jq) := by
  obtain ⟨p, y, q, e, hl⟩ := split_at vs r.toNat (by rw [h.length]; omega)
  obtain ⟨jp, j, jq, e2, h2⟩ := ints_cut h e
  exact ⟨p, y, q, jp, j, jq, e, hl, e2, h2⟩
theorem numOk_of {vs : List Value} {r : Int} (_ : IntsAre vs (rangeKs 0 (r - 0).toNat)) (h0 : 0 ≤ r) (h1 : r < 5) : NumOk (rangeKs 0 (r - 0).toNat) := numOk_range h0 h1
theorem NumOk.cut {jp : List Int} {j : Int} {jq : List Int} (h : NumOk (jp ++ j :: jq)) : NumOk (jp ++ jq) := by
  have hsub : (jp ++ jq).Sublist (jp ++ j :: jq) := List.Sublist.append_left (List.sublist_cons_self j jq) jp
  exact ⟨h.nd.sublist hsub, fun x hx => h.b x (hsub.subset hx), Nat.le_trans hsub.length_le h.len⟩
theorem InvL.plain {l : List Pr} {i : Nat} (h : InvL l i []) (hlt : ∀ x ∈ l, x.n < i) (hi : i < 3) : InvL (l ++ [⟨i, none, false⟩]) i [] where
  ok := fun x hx => by
    rcases List.mem_append.mp hx with hx | hx
    · exact h.ok x hx
    · rw [List.mem_singleton.mp hx]; exact ⟨⟨hi, fun _ _ e => nomatch e⟩, rfl⟩
  nd := by
    rw [List.map_append]
    refine List.nodup_append.mpr ⟨h.nd, by simp, fun a ha b hb e => ?_⟩
    obtain ⟨x, hx, rfl⟩ := List.mem_map.mp ha
    simp only [List.map_cons, List.map_nil, List.mem_singleton] at hb
    have h1 := hlt x hx
    rw [hb] at e
    have : x.n = i := congrArg Prod.fst e
    omega
  lt := fun x hx => by
    rcases List.mem_append.mp hx with hx | hx
    · exact .inl (hlt x hx)
    · rw [List.mem_singleton.mp hx]; exact .inr ⟨rfl, fun _ _ e => nomatch e⟩
theorem InvL.part {l : List Pr} {i : Nat} {done : List Int} (h : InvL l i done) (hi : i < 3) {j : Int} (h0 : 0 ≤ j) (h4 : j < 4) (hj : j ∉ done) (pt : Pt) : InvL (l ++ [⟨i, some (j.toNat, pt), false⟩]) i (done ++ [j]) where
  ok := fun x hx => by
    rcases List.mem_append.mp hx with hx | hx
    · exact h.ok x hx
    · rw [List.mem_singleton.mp hx]; exact ⟨⟨hi, fun k pt' e => by cases e; omega⟩, rfl⟩
  nd := by
    rw [List.map_append]
    refine List.nodup_append.mpr ⟨h.nd, by simp, fun a ha b hb e => ?_⟩
    obtain ⟨x, hx, rfl⟩ := List.mem_map.mp ha
    simp only [List.map_cons, List.map_nil, List.mem_singleton] at hb
    rw [hb] at e
    have e1 : x.n = i := congrArg Prod.fst e
    have e2 : x.p.map Prod.fst = some j.toNat := congrArg Prod.snd e
    rcases h.lt x hx with c | ⟨_, c⟩
    · omega
    · cases hp : x.p with
      | none => rw [hp] at e2; cases e2
      | some q =>
        rw [hp] at e2
        have e3 : q.1 = j.toNat := by simpa using e2
        have := c q.1 q.2 hp
        rw [e3, Int.toNat_of_nonneg h0] at this
        exact hj this
  lt := fun x hx => by
    rcases List.mem_append.mp hx with hx | hx
    · exact (h.lt x hx).imp id fun ⟨a, c⟩ => ⟨a, fun k pt e => List.mem_append_left _ (c k pt e)⟩
    · rw [List.mem_singleton.mp hx]
      exact .inr ⟨rfl, fun k pt' e => by cases e; rw [Int.toNat_of_nonneg h0]; exact List.mem_append_right _ (.head _)⟩
theorem InvL.next {l : List Pr} {i : Nat} {done : List Int} (h : InvL l i done) : InvL l (i + 1) [] where
  ok := h.ok
  nd := h.nd
  lt := fun x hx => .inl (by rcases h.lt x hx with c | ⟨c, _⟩ <;> omega)
theorem InvL.lt0 {l : List Pr} {i : Nat} (h : InvL l i []) (hp : ∀ x ∈ l, x.n < i) : ∀ x ∈ l, x.n < i := hp
def BytsFrom (f : Nat → Array UInt8) : Nat → List Value → Prop
  | _, [] => True
  | n, v :: r => (∃ t, v = .bytes (f n) t) ∧ BytsFrom f (n + 1) r
theorem BytsFrom.at {f : Nat → Array UInt8} : ∀ {vs : List Value} {n : Nat}, BytsFrom f n vs → ∀ k, k < vs.length → ∃ t, vs[k]? = some (.bytes (f (n + k)) t)
  | [], _, _, k, h => absurd h (Nat.not_lt_zero _)
  | v :: r, n, ⟨⟨t, e⟩, _⟩, 0, _ => ⟨t, by rw [e]; rfl⟩
  | v :: r, n, ⟨_, g⟩, k + 1, h => by
    obtain ⟨t, e⟩ := BytsFrom.at g k (Nat.lt_of_succ_lt_succ h)
    exact ⟨t, by rw [List.getElem?_cons_succ, e, Nat.add_assoc, Nat.add_comm 1 k]⟩
theorem byt_sub {prog : Program} {w : World} {A : Around} {E : Value → Shared → Prop} {s : Shared} {h₀ : Heap} {L D : Addr} {news : Led} {vs : List Value} {n : Nat} {k : Int} {u : Tok} {value slice : PySem.Expr} {Q : Value → Shared → Prop} (f : Nat → Array UInt8)
    (N : News h₀ L s.heap news) (hm : (D, listOf vs.toArray n) ∈ news) (hb : BytsFrom f 0 vs) (h0 : 0 ≤ k) (h1 : k < (vs.length : Int)) (hv : vs.length < 1000) (h : ∀ t, Q (.bytes (f k.toNat) t) s)
    (hs : subscripted slice false (.ref D) (.int k u) = operate [.ref D, .int k u] (getItem (.ref D) (.int k u))) :
    wpAny (model prog w) A (subscriptTail value slice (.ref D) (.int k u)) Q E s := by
  obtain ⟨t, e⟩ := hb.at k.toNat (by omega)
  rw [Nat.zero_add] at e
  exact tail_any (PySem.IsL.isList (n := n) (N _ hm).1).typeIs slot_list_getitem.lookup (wpAny_getItem_list (PySem.IsL.isList (n := n) (N _ hm).1) h0 (by omega) (by simpa using e) (h t)) hs
theorem dig_str {j : Int} (h0 : 0 ≤ j) (h4 : j < 4) : Str.ofString (toString j) = dig j.toNat := by
  have : j = 0 ∨ j = 1 ∨ j = 2 ∨ j = 3 := by omega
  rcases this with rfl | rfl | rfl | rfl <;> decide +kernel
theorem str_dig {prog : Program} {w : World} {A : Around} {E : Value → Shared → Prop} {s : Shared} {j : Int} {t : Tok} {Q : Value → Shared → Prop} (h0 : 0 ≤ j) (h4 : j < 4) (h : ∀ t', Q (.str (dig j.toNat) t') { s with toks := s.toks + 1 }) : wpAny (model prog w) A (call (.type "str") [.int j t]) Q E s := by
  refine P.str_of_int (by have : j = 0 ∨ j = 1 ∨ j = 2 ∨ j = 3 := by omega
                          rcases this with rfl | rfl | rfl | rfl <;> decide +kernel) ?_
  have e := dig_str h0 h4
  have h9 := h s.toks
  rw [← e] at h9
  exact h9
theorem nm_len (i : Nat) : (nm i).length ≤ 5 := by
  match i with
  | 0 => decide +kernel
  | 1 => decide +kernel
  | n + 2 => exact (by decide +kernel : (nm 2).length ≤ 5)
theorem dig_len (i : Nat) : (dig i).length ≤ 1 := by
  match i with
  | 0 => decide +kernel
  | 1 => decide +kernel
  | 2 => decide +kernel
  | n + 3 => exact (by decide +kernel : (dig 3).length ≤ 1)
theorem star_len : (Str.ofString "*").length = 1 := by decide +kernel
theorem lead_size (e : Nat) : (leadB e).size ≤ 10 := by
  cases e with
  | zero => decide
  | succ e => exact (by decide : (leadB 1).size ≤ 10)
theorem words_from {t1 t2 t3 t4 : Tok} : BytsFrom wordB 0 [.bytes #[120] t1, .bytes #[37, 52, 49] t2, .bytes #[] t3, .bytes #[121, 32, 122] t4] := ⟨⟨_, rfl⟩, ⟨_, rfl⟩, ⟨_, rfl⟩, ⟨_, rfl⟩, trivial⟩
theorem leads_from {t1 t2 : Tok} : BytsFrom leadB 0 [.bytes #[117, 116, 102, 45, 56, 39, 101, 110, 39] t1, .bytes #[117, 115, 45, 97, 115, 99, 105, 105, 39, 39] t2] := ⟨⟨_, rfl⟩, ⟨_, rfl⟩, trivial⟩
/-- no entry lies at one of these places -/
def OffL (as : List Addr) (led : Led) : Prop := ∀ p ∈ led, ∀ a ∈ as, p.1 ≠ a
theorem OffL.cons {as : List Addr} {led : Led} {D : Addr} {o : Obj} (h : OffL as led) (l : ∀ a ∈ as, a < D) : OffL as ((D, o) :: led) := fun p hp a ha => by
  rcases List.mem_cons.mp hp with rfl | hp
  · exact Nat.ne_of_gt (l a ha)
  · exact h p hp a ha
theorem OffL.at {as : List Addr} {led : Led} (h : OffL as led) {a : Addr} (ha : a ∈ as) : ∀ p ∈ led, p.1 ≠ a := fun p hp => h p hp a ha
theorem lt5 {x1 x2 x3 x4 x5 D : Addr} (h1 : x1 < D) (h2 : x2 < D) (h3 : x3 < D) (h4 : x4 < D) (h5 : x5 < D) : ∀ a ∈ [x1, x2, x3, x4, x5], a < D := fun a ha => by
  simp only [List.mem_cons, List.not_mem_nil, or_false] at ha
  rcases ha with e | e | e | e | e
  · rw [e]; exact h1
  · rw [e]; exact h2
  · rw [e]; exact h3
  · rw [e]; exact h4
  · rw [e]; exact h5
/-- the state of the pairs' making -/
structure QT where
  p : PotS
  us : List Value
  ue : Nat
  l : List Pr
  k : Nat
  i : Nat
  led : Led
/-- between two names -/
structure OutP (as : List Addr) (xs : List Value) (r : List Value) (c : QT) : Prop where
  i3 : c.i ≤ 3
  hr : r = xs.drop c.i
  pg : PotG c.p c.k
  hk : c.k ≤ 20 + 20 * c.i
  hpr : PrsIn c.led c.us c.l
  hinv : InvL c.l c.i []
  hlt : ∀ x ∈ c.l, x.n < c.i
  hl : c.l.length ≤ 5 * c.i
  off : OffL as c.led
/-- behind the plain one of the name i -/
structure MidQ (as : List Addr) (i m : Nat) (c : QT) : Prop where
  pg : PotG c.p c.k
  hk : c.k ≤ m + 20 * i
  hpr : PrsIn c.led c.us c.l
  hinv : InvL c.l i []
  hl : c.l.length ≤ 5 * i + 1
  off : OffL as c.led
/-- between two numbers of the name i -/
structure InnQ (as : List Addr) (js : List Int) (i k0 n0 : Nat) (r : List Value) (c : QT) : Prop where
  ex : ∃ done rest, done ++ rest = js ∧ IntsAre r rest ∧ c.k ≤ k0 + 3 * done.length ∧ InvL c.l i done ∧ c.l.length = n0 + done.length
  pg : PotG c.p c.k
  hpr : PrsIn c.led c.us c.l
  off : OffL as c.led
theorem InnQ.start {as : List Addr} {js : List Int} {i : Nat} {r : List Value} {c : QT} {m : Nat} (h : MidQ as i m c) (hr : IntsAre r js) : InnQ as js i c.k c.l.length r c := ⟨⟨[], js, rfl, hr, Nat.le_refl _, h.hinv, rfl⟩, h.pg, h.hpr, h.off⟩
theorem InnQ.head {as : List Addr} {js : List Int} {i k0 n0 : Nat} {v : Value} {r : List Value} {c : QT} (h : InnQ as js i k0 n0 (v :: r) c) (hN : NumOk js) : ∃ (j : Int) (t : Tok), v = .int j t ∧ 0 ≤ j ∧ j < 4 ∧ c.k + 3 ≤ k0 + 12 ∧ c.l.length ≤ n0 + 3 := by
  obtain ⟨⟨done, rest, e, hr, hk, _, hl⟩, _, _, _⟩ := h
  cases hr with
  | cons j t hr =>
    have hj := hN.b j (e ▸ List.mem_append_right _ (.head _))
    have hd : done.length ≤ 3 := by
      have := hN.len
      rw [← e, List.length_append, List.length_cons] at this
      omega
    exact ⟨j, t, rfl, hj.1, hj.2, by omega, by omega⟩
theorem InnQ.next {as : List Addr} {js : List Int} {i k0 n0 : Nat} {j : Int} {t : Tok} {r : List Value} {c : QT} (h : InnQ as js i k0 n0 (.int j t :: r) c) (hN : NumOk js) (hi : i < 3) (pt : Pt) {D : Addr} {o : Obj} {p : PotS} {k ue : Nat} (hlt : ∀ a ∈ as, a < D) (pg : PotG p k) (hk : k ≤ c.k + 3)
    (hT : ∃ a1 a2 cc, o = tupOf [.str (Pr.key ⟨i, some (j.toNat, pt), false⟩) a1, .bytes (Pr.b ⟨i, some (j.toNat, pt), false⟩) a2] cc) :
    InnQ as js i k0 n0 r ⟨p, c.us ++ [.ref D], ue, c.l ++ [⟨i, some (j.toNat, pt), false⟩], k, c.i, (D, o) :: c.led⟩ := by
  obtain ⟨⟨done, rest, e, hr, bk, binv, bl⟩, _, bpr, boff⟩ := h
  obtain ⟨a1, a2, cc, rfl⟩ := hT
  cases hr with
  | cons _ _ hr =>
    have hnd := hN.nd
    rw [← e] at hnd
    have hj := hN.b j (e ▸ List.mem_append_right _ (.head _))
    have hjd : j ∉ done := fun h => (List.nodup_append.mp hnd).2.2 j h j (.head _) rfl
    refine ⟨⟨done ++ [j], _, by rw [List.append_assoc]; exact e, hr, ?_, binv.part hi hj.1 hj.2 hjd pt, ?_⟩, pg, PrsIn.append (bpr.mono fun p hp => .tail _ hp) ⟨⟨D, a1, a2, cc, rfl, .head _⟩, trivial⟩, boff.cons hlt⟩
    · show k ≤ k0 + 3 * (done ++ [j]).length
      rw [List.length_append, List.length_singleton]; omega
    · show (c.l ++ [_]).length = n0 + (done ++ [j]).length
      rw [List.length_append, List.length_append, List.length_singleton, List.length_singleton, bl]; omega
theorem InnQ.nxt0 {as : List Addr} {js : List Int} {i k0 n0 : Nat} {j : Int} {t : Tok} {r : List Value} {c : QT} (h : InnQ as js i k0 n0 (.int j t :: r) c) (hN : NumOk js) (hi : i < 3) (hj : j = 0) {e x : Nat} {D : Addr} {o : Obj} {p : PotS} {k ue : Nat} (hlt : ∀ a ∈ as, a < D) (pg : PotG p k) (hk : k ≤ c.k + 3) (ho : ∃ a1 a2 cc, o = tupOf [.str (nm i ++ Str.ofString "*" ++ dig j.toNat ++ Str.ofString "*") a1, .bytes (leadB e ++ wordB x) a2] cc) :
    InnQ as js i k0 n0 r ⟨p, c.us ++ [.ref D], ue, c.l ++ [⟨i, some (j.toNat, (true, e, x)), false⟩], k, c.i, (D, o) :: c.led⟩ :=
  h.next hN hi (true, e, x) hlt pg hk (by subst hj; exact ho)
theorem InnQ.nxt1 {as : List Addr} {js : List Int} {i k0 n0 : Nat} {j : Int} {t : Tok} {r : List Value} {c : QT} (h : InnQ as js i k0 n0 (.int j t :: r) c) (hN : NumOk js) (hi : i < 3) (hj0 : 0 ≤ j) (hj : j ≠ 0) {x : Nat} {D : Addr} {o : Obj} {p : PotS} {k ue : Nat} (hlt : ∀ a ∈ as, a < D) (pg : PotG p k) (hk : k ≤ c.k + 3) (ho : ∃ a1 a2 cc, o = tupOf [.str (nm i ++ Str.ofString "*" ++ dig j.toNat ++ Str.ofString "*") a1, .bytes (#[] ++ wordB x) a2] cc) :
    InnQ as js i k0 n0 r ⟨p, c.us ++ [.ref D], ue, c.l ++ [⟨i, some (j.toNat, (true, 0, x)), false⟩], k, c.i, (D, o) :: c.led⟩ := by
  have e : Pr.b ⟨i, some (j.toNat, (true, 0, x)), false⟩ = #[] ++ wordB x := by
    show ptB j.toNat (true, 0, x) = _
    unfold ptB
    rw [if_neg (by rintro ⟨_, h⟩; have h' : j.toNat = 0 := h; omega)]
    simp
  exact h.next hN hi (true, 0, x) hlt pg hk (by rw [e]; exact ho)
theorem InnQ.nxt2 {as : List Addr} {js : List Int} {i k0 n0 : Nat} {j : Int} {t : Tok} {r : List Value} {c : QT} (h : InnQ as js i k0 n0 (.int j t :: r) c) (hN : NumOk js) (hi : i < 3) {x : Nat} {D : Addr} {o : Obj} {p : PotS} {k ue : Nat} (hlt : ∀ a ∈ as, a < D) (pg : PotG p k) (hk : k ≤ c.k + 3) (ho : ∃ a1 a2 cc, o = tupOf [.str (nm i ++ Str.ofString "*" ++ dig j.toNat) a1, .bytes (wordB x) a2] cc) :
    InnQ as js i k0 n0 r ⟨p, c.us ++ [.ref D], ue, c.l ++ [⟨i, some (j.toNat, (false, 0, x)), false⟩], k, c.i, (D, o) :: c.led⟩ := by
  have e : Pr.b ⟨i, some (j.toNat, (false, 0, x)), false⟩ = wordB x := by
    show ptB j.toNat (false, 0, x) = _
    unfold ptB
    rw [if_neg (by rintro ⟨h, _⟩; exact nomatch h)]
  exact h.next hN hi (false, 0, x) hlt pg hk (by rw [e]; exact ho)
/-- behind the numbers' making -/
structure NumQ (as : List Addr) (i : Nat) (c : QT × List Value × Nat × List Int) : Prop where
  m : MidQ as i 24 c.1
  hI : IntsAre c.2.1 c.2.2.2
  hN : NumOk c.2.2.2
theorem MidQ.start {as : List Addr} {i : Nat} {p : PotS} {us : List Value} {ue : Nat} {l : List Pr} {k : Nat} {led : Led} {as' : List Addr} {xs r : List Value} {c : QT} (b : OutP as' xs r c) (hi : c.i = i) (pg : PotG p k) (hk : k ≤ c.k + 1) (hu : us = c.us) (hl : l = c.l) (hd : led = c.led) (off : OffL as c.led) : MidQ as i 21 ⟨p, us, ue, l, k, i, led⟩ := by
  subst hi hu hl hd
  exact ⟨pg, Nat.le_trans hk (by have := b.hk; omega), b.hpr, b.hinv, Nat.le_succ_of_le b.hl, off⟩
theorem MidQ.plain {as as' : List Addr} {xs r : List Value} {c : QT} (b : OutP as' xs r c) (hi : c.i < 3) {p : PotS} {ue k : Nat} {D : Addr} {o : Obj} (pg : PotG p k) (hk : k ≤ c.k + 1) (off : OffL as c.led) (hlt : ∀ a ∈ as, a < D) (ho : ∃ t1 t2 cc, o = tupOf [.str (nm c.i) t1, .bytes plainB t2] cc) :
    MidQ as c.i 21 ⟨p, c.us ++ [.ref D], ue, c.l ++ [⟨c.i, none, false⟩], k, c.i, (D, o) :: c.led⟩ := by
  obtain ⟨t1, t2, cc, rfl⟩ := ho
  exact ⟨pg, Nat.le_trans hk (by have := b.hk; omega), PrsIn.append (b.hpr.mono fun p hp => .tail _ hp) ⟨⟨D, _, _, _, rfl, .head _⟩, trivial⟩, b.hinv.plain b.hlt hi, (by show (c.l ++ [_]).length ≤ 5 * c.i + 1; rw [List.length_append]; exact Nat.succ_le_succ b.hl), off.cons hlt⟩
theorem MidQ.more {as : List Addr} {i m n : Nat} {c : QT} (h : MidQ as i m c) {p : PotS} {k : Nat} (pg : PotG p k) (hk : k ≤ n + 20 * i) : MidQ as i n ⟨p, c.us, c.ue, c.l, k, c.i, c.led⟩ := ⟨pg, hk, h.hpr, h.hinv, h.hl, h.off⟩
theorem OutP.next {as as' : List Addr} {xs : List Value} {i k0 n0 : Nat} {js : List Int} {c : QT} (h : InnQ as' js i k0 n0 [] c) (hN : NumOk js) (hk : k0 ≤ 24 + 20 * i) (hn : n0 ≤ 5 * i + 1) (hi : i < 3) (off : OffL as c.led) : OutP as xs (xs.drop (i + 1)) ⟨c.p, c.us, c.ue, c.l, c.k, i + 1, c.led⟩ := by
  obtain ⟨⟨done, rest, e, hr, bk, binv, bl⟩, pg, hpr, _⟩ := h
  cases hr with
  | nil =>
    rw [List.append_nil] at e
    subst e
    have := hN.len
    have hv := binv.next
    exact ⟨hi, rfl, pg, by show c.k ≤ 20 + 20 * (i + 1); omega, hpr, hv, (fun x hx => by rcases hv.lt x hx with d | ⟨d, _⟩ <;> first | exact d | (rcases binv.lt x hx with d | ⟨d, _⟩ <;> omega)), by show c.l.length ≤ 5 * (i + 1); omega, off⟩
end Mine
end
section
set_option maxRecDepth 100000
open PySem PySem.W PyProof.Rows LCg PySem.Builtin PySem.Calls
namespace Mine
/-- what the pairs' making hands back -/
structure PairsPost (lp lc PD : Addr) (us : List Value) (ue : Nat) (l : List Pr) (p : PotS) (news' : Led) : Prop where
  mP : (PD, listOf us.toArray ue) ∈ news'
  prs : PrsIn news' us l
  ok : ∀ x ∈ l, x.ok ∧ x.late = false
  nd : (l.map Pr.slot).Nodup
  len : l.length ≤ 15
  nP : @Ne Nat PD lp
  nC : @Ne Nat PD lc
  mp : (lp, potO lc p) ∈ news'
  mc : (lc, celO p) ∈ news'
  pg : PotG p 100
section
local macro_rules | `(tactic| walk_at "call ref") => `(tactic| (k_here; k_dflt (refine' draw_use ?ne ?U ?G ?k1 ?l0 ?l1 ?B ?F ?X ?N ?T ?K ?d ?u ?_; (case ne => assumption); (case N => k_asm); (case U => first | exact two_base (by assumption) (by assumption) | exact two_skip (by first | assumption | k_ne) (by first | assumption | k_ne) (two_base (by assumption) (by assumption)) | exact two_skip (by first | assumption | k_ne) (by first | assumption | k_ne) (two_skip (by first | assumption | k_ne) (by first | assumption | k_ne) (two_base (by assumption) (by assumption))) | exact two_skip (by first | assumption | k_ne) (by first | assumption | k_ne) (two_skip (by first | assumption | k_ne) (by first | assumption | k_ne) (two_skip (by first | assumption | k_ne) (by first | assumption | k_ne) (two_base (by assumption) (by assumption)))) | exact two_skip (by first | assumption | k_ne) (by first | assumption | k_ne) (two_skip (by first | assumption | k_ne) (by first | assumption | k_ne) (two_skip (by first | assumption | k_ne) (by first | assumption | k_ne) (two_skip (by first | assumption | k_ne) (by first | assumption | k_ne) (two_base (by assumption) (by assumption))))) | exact two_skip (by first | assumption | k_ne) (by first | assumption | k_ne) (two_skip (by first | assumption | k_ne) (by first | assumption | k_ne) (two_skip (by first | assumption | k_ne) (by first | assumption | k_ne) (two_skip (by first | assumption | k_ne) (by first | assumption | k_ne) (two_skip (by first | assumption | k_ne) (by first | assumption | k_ne) (two_base (by assumption) (by assumption)))))) | exact two_skip (by first | assumption | k_ne) (by first | assumption | k_ne) (two_skip (by first | assumption | k_ne) (by first | assumption | k_ne) (two_skip (by first | assumption | k_ne) (by first | assumption | k_ne) (two_skip (by first | assumption | k_ne) (by first | assumption | k_ne) (two_skip (by first | assumption | k_ne) (by first | assumption | k_ne) (two_skip (by first | assumption | k_ne) (by first | assumption | k_ne) (two_base (by assumption) (by assumption))))))) | exact two_skip (by first | assumption | k_ne) (by first | assumption | k_ne) (two_skip (by first | assumption | k_ne) (by first | assumption | k_ne) (two_skip (by first | assumption | k_ne) (by first | assumption | k_ne) (two_skip (by first | assumption | k_ne) (by first | assumption | k_ne) (two_skip (by first | assumption | k_ne) (by first | assumption | k_ne) (two_skip (by first | assumption | k_ne) (by first | assumption | k_ne) (two_skip (by first | assumption | k_ne) (by first | assumption | k_ne) (two_base (by assumption) (by assumption)))))))) | exact two_skip (by first | assumption | k_ne) (by first | assumption | k_ne) (two_skip (by first | assumption | k_ne) (by first | assumption | k_ne) (two_skip (by first | assumption | k_ne) (by first | assumption | k_ne) (two_skip (by first | assumption | k_ne) (by first | assumption | k_ne) (two_skip (by first | assumption | k_ne) (by first | assumption | k_ne) (two_skip (by first | assumption | k_ne) (by first | assumption | k_ne) (two_skip (by first | assumption | k_ne) (by first | assumption | k_ne) (two_skip (by first | assumption | k_ne) (by first | assumption | k_ne) (two_base (by assumption) (by assumption)))))))))); (case G => assumption); (case k1 => omega); (case l0 => first | decide | omega); (case l1 => first | decide | omega); (case B => k_asm); (case F => k_asm); (case X => k_asm); (case T => k_asm); (case K => first | exact rfl | assumption); (case d => ktr_room); (case u => ktr_units)); intro r9' t9' p9' h9' tk9' F9' N9' hr0' hr1' G9'; (try dsimp only at N9'); (try k_sweep)))
local macro_rules | `(tactic| k_all) => `(tactic| first | assumption | exact lt_ne (by assumption))
local macro_rules | `(tactic| k_ne) => `(tactic| first | assumption | (refine neN ?_; (try dsimp only); omega))
local macro_rules | `(tactic| walk_at "subscriptTail Name Slice ref ref") => `(tactic| (k_here; k_dflt (refine' kms_slice_lit ?F ?N ?l ?p ?q ?e ?_ ?s ?t ?z; (case F => k_asm); (case N => k_asm); (case l => kmk_list); (case p => kmk_part); (case q => kmk_part); (case e => k_extra "slice"); (case s => with_unfolding_all rfl); (case t => kmk_pure); (case z => kmk_size)); intro D' h' F' N' l1; (try k_lt l1); (try k_sweep)))
local macro_rules | `(tactic| walk_at "exec For Name Subscript") => `(tactic| (k_here; ((rename Fr _ _ _ _ => lF'); (with_unfolding_all refine' For_turns lF' ?_); k_whole)))
local macro_rules | `(tactic| walk_at "exec For Name Name cons nil") => `(tactic| (k_here; ((rename Fr _ _ _ _ => lF'); (with_unfolding_all refine' For_turns lF' ?_); k_whole)))
local macro_rules | `(tactic| walk_at "pyIter ref") => `(tactic| (refine Stop.of ?_))
local macro_rules | `(tactic| walk_at "newTuple") => `(tactic| (k_here; k_dflt (refine' kup_newTuple ?F ?N ?_ ?z; (case F => k_asm); (case N => k_asm); (case z => exact Nat.le_of_ble_eq_true rfl)); intro D' h' F' N' l1; (try k_lt l1); (try k_sweep)))
local macro_rules | `(tactic| walk_at "call builtin:list.append") => `(tactic| (k_here; k_dflt (refine' append_K ?k1 ?k2 ?k3 ?_ ?z; (case k1 => k_asm); (case k2 => k_asm); (case k3 => k_upd); (case z => first | size_fits | (rw [sizeLine_eq]; omega)); k_whole); intro h' F' N'; (try k_sweep)))
local macro_rules | `(tactic| walk_at "exec If") => `(tactic| ((rename Mark => mk9); clear mk9; refine Stop.of ?_))
local macro_rules | `(tactic| walk_at "call builtin:list.pop") => `(tactic| (refine Stop.of ?_))
local macro_rules | `(tactic| walk_at "subscriptTail") => `(tactic| (k_here; (with_reducible show wpAny _ _ (subscriptTail _ _ (Value.ref _) (Value.int _ _)) _ _ _); k_dflt (refine byt_sub wordB (by k_asm) (.head _) words_from (by assumption) (by (simp only [List.length_cons, List.length_nil]); omega) (by (simp only [List.length_cons, List.length_nil]); omega) ?_ (by rfl)); intro tw9'))
local macro_rules | `(tactic| walk_at "subscriptTail") => `(tactic| (k_here; (with_reducible show wpAny _ _ (subscriptTail _ _ (Value.ref _) (Value.int _ _)) _ _ _); k_dflt (refine byt_sub leadB (by k_asm) (.head _) leads_from (by assumption) (by (simp only [List.length_cons, List.length_nil]); omega) (by (simp only [List.length_cons, List.length_nil]); omega) ?_ (by rfl)); intro tl9'))
local macro_rules | `(tactic| walk_at "call type:str") => `(tactic| (k_here; (with_reducible show wpAny _ _ (call (Value.type "str") [Value.int _ _]) _ _ _); (refine str_dig (by assumption) (by assumption) ?_); intro ts9'))
local macro_rules | `(tactic| walk_at "binaryOp Add str str") => `(tactic| (k_here; (with_reducible show wpAny _ _ (binaryOp Operator.Add (Value.str _ _) (Value.str _ _)) _ _ _); (refine KOpn.add (by k_extra "ssize") ?_); intro tx9' kx9' hx9'; clear hx9'))
local macro_rules | `(tactic| walk_at "binaryOp Add bytes bytes") => `(tactic| (k_here; (with_reducible show wpAny _ _ (binaryOp Operator.Add (Value.bytes _ _) (Value.bytes _ _)) _ _ _); (refine KBy.add_bytes (by k_extra "size") ?_); intro tb9' kb9'))
local macro_rules | `(tactic| walk_at "newList") => `(tactic| (k_here; k_dflt (refine' newList_K ?k1 ?k2 ?_; (case k1 => k_asm); (case k2 => k_asm); k_whole); intro l' h' F' N' l1; (try dsimp only at N'); (try k_lt l1); (try k_sweep)))
set_option maxHeartbeats 4000000 in
theorem law_pairs (w : World) (lp lc : Addr) (p0 : PotS) (k : Nat) (news : Led) (hne : PotNe lp lc) (hp : (lp, potO lc p0) ∈ news) (hc : (lc, celO p0) ∈ news) (ok : PotG p0 k) (hk : k < 10) :
    Does w 201 3 64 [.ref lp] news (fun v news' => ∃ PD us ue l p, v = .ref PD ∧ PairsPost lp lc PD us ue l p news') := by
  intro dp un gd cn cs a ccd cl outer A₀ base h₀ L m s mean mg mb Q E B F X N T hk hdp hun hret
  obtain ⟨R, r1, r2, N, _⟩ := two_of N hp hc
  w_on
  k_with_none
  k_with "slice" => exact pick_take _ _ (by omega)
  refine wpAny_call ?_
  k_dflt ktr_enter
  k_steps
  unfold Stop
  rename_i PD hB2 lPD hB3 NLs hB4 lNL r9 t9 p9 h9 tk9 hr0 hr1 G9 SL hB5 FW NW lSL
  obtain ⟨xs, hxs⟩ : ∃ xs, xs = List.take (1 + r9).toNat [Value.str (Str.ofString "a") (tk + 1), .str (Str.ofString "b") (tk + 1 + 1), .str (Str.ofString "title") (tk + 1 + 1 + 1)] := ⟨_, rfl⟩
  rw [show (List.take (1 + r9).toNat #[Value.str (Str.ofString "a") (tk + 1), Value.str (Str.ofString "b") (tk + 1 + 1), Value.str (Str.ofString "title") (tk + 1 + 1 + 1)].toList) = xs from hxs.symm] at NW
  have q1 : @Ne Nat PD lp := Nat.ne_of_gt lPD.1
  have q2 : @Ne Nat PD lc := Nat.ne_of_gt lPD.2.1
  have q3 : @Ne Nat SL lp := Nat.ne_of_gt lSL.2.2.1
  have q4 : @Ne Nat SL lc := Nat.ne_of_gt lSL.2.2.2.1
  have q6 : @Ne Nat lp PD := Ne.symm q1
  have q7 : @Ne Nat lc PD := Ne.symm q2
  have q5 : @Ne Nat SL PD := Nat.ne_of_gt lSL.2.1
  have hoff : OffL [lp, lc, PD, SL] R := fun p hp => all_cons (r1 p hp) (all_cons (r2 p hp) (all_cons (Nat.ne_of_lt (allLt_mem lPD.2.2 p hp)) (all_cons (Nat.ne_of_lt (allLt_mem lSL.2.2.2.2 p hp)) all_nil)))
  refine loopL (vs := xs) (n := 0) (lo := listOf xs.toArray 0) (fun c : QT => (PD, listOf c.us.toArray c.ue) :: (SL, listOf xs.toArray 0) :: (lp, potO lc c.p) :: (lc, celO c.p) :: c.led) (fun _ => [(Str.ofString "pot", .ref lp), (Str.ofString "pairs", .ref PD)])
    (OutP [lp, lc, PD, SL] xs) ⟨p9, [], 0, [], k + 1, 0, R⟩ (by rfl) FW NW
    (all_cons (.tail _ (.tail _ (.head _))) (sub_keep (sub_skip (sub_skip sub_refl)))) (fun r c _ => .tail _ (.head _)) rfl rfl (all_cons rfl (all_cons rfl all_nil))
    ⟨Nat.zero_le _, rfl, G9, by show k + 1 ≤ 20 + 20 * 0; omega, trivial, ⟨all_nil, List.nodup_nil, all_nil⟩, all_nil, Nat.le_refl _, hoff⟩ ?turn ?done
  case done =>
    clear FW NW hoff r1 r2
    intro c u h tk0 b FC NC
    k_steps
    all_goals
      (rename Fr _ _ _ _ => FZ); (rename News _ _ _ _ => NZ)
      exact hret _ _ _ _ FZ NZ ⟨PD, c.us, c.ue, c.l, c.p, rfl, ⟨.head _, b.hpr.mono (sub_skip (sub_skip (sub_skip (sub_skip sub_refl)))), b.hinv.ok, b.hinv.nd, by have := b.hl; have := b.i3; omega, q1, q2, .tail _ (.tail _ (.head _)), .tail _ (.tail _ (.tail _ (.head _))), b.pg.mono (by have := b.hk; have := b.i3; omega)⟩⟩
  case turn =>
    clear FW NW hoff r1 r2 G9
    intro K c v r u I oI h tk0 hK _ b hoff FC NC
    rw [hxs] at b
    obtain ⟨hi3, ⟨tv, rfl⟩, hr9⟩ := drop_nm b.hr
    rw [← hxs] at b hr9
    have oI1 : @Ne Nat I lp := Ne.symm (hoff _ (.tail _ (.tail _ (.head _))))
    have oI2 : @Ne Nat I lc := Ne.symm (hoff _ (.tail _ (.tail _ (.tail _ (.head _)))))
    have oI3 : @Ne Nat I PD := Ne.symm (hoff _ (.head _))
    have oI4 : @Ne Nat I SL := Ne.symm (hoff _ (.tail _ (.head _)))
    have hi9 : OffL [lp, lc, PD, SL, I] c.led := fun p hp => all_cons (b.off p hp lp (.head _)) (all_cons (b.off p hp lc (.tail _ (.head _))) (all_cons (b.off p hp PD (.tail _ (.tail _ (.head _)))) (all_cons (b.off p hp SL (.tail _ (.tail _ (.tail _ (.head _))))) (all_cons (hoff p (.tail _ (.tail _ (.tail _ (.tail _ hp))))) all_nil))))
    have r1 : ∀ p ∈ c.led, p.1 ≠ lp := hi9.at (.head _)
    have r2 : ∀ p ∈ c.led, p.1 ≠ lc := hi9.at (.tail _ (.head _))
    have r3 : ∀ p ∈ c.led, p.1 ≠ PD := hi9.at (.tail _ (.tail _ (.head _)))
    have G := b.pg
    have hck := b.hk
    have hcl := b.hl
    have hul : c.us.length < 900 := by rw [b.hpr.length]; omega
    have mk : Mark := trivial
    k_steps
    unfold Stop
    (rename Fr _ _ _ _ => FS)
    refine wpAny_cut FS (fun d : QT => (I, oI) :: (PD, listOf d.us.toArray d.ue) :: (SL, listOf xs.toArray 0) :: (lp, potO lc d.p) :: (lc, celO d.p) :: d.led) (MidQ [lp, lc, PD, SL, I] c.i 21) ?S1 ?R1
    case S1 =>
      clear hK
      intro K hK
      k_steps
      · rename_i r9 t9 p9 h9 tk9 hr0 hr1 G9 ha D8 h8 l8 h7 F7 N7
        simp only [List.push_toArray] at N7
        exact hK.go (⟨p9, c.us ++ [.ref D8], c.ue + 1, c.l ++ [⟨c.i, none, false⟩], c.k + 1, c.i, (D8, _) :: c.led⟩ : QT) F7 N7 (all_cons (.tail _ (.head _)) (all_cons (.tail _ (.tail _ (.head _))) (all_cons (.tail _ (.tail _ (.tail _ (.head _)))) (all_cons (.tail _ (.tail _ (.tail _ (.tail _ (.head _))))) (all_cons (.tail _ (.tail _ (.tail _ (.tail _ (.tail _ (.head _)))))) (all_cons (.head _) (sub_skip (sub_skip (sub_skip (sub_skip (sub_skip (sub_skip (sub_refl))))))))))))) (MidQ.plain b hi3 G9 (Nat.le_refl _) hi9 (lt5 (by first | exact l8.1 | exact l8.2.1 | exact l8.2.2.1 | exact l8.2.2.2.1 | exact l8.2.2.2.2.1 | exact l8.2.2.2.2.2.1 | exact l8.2.2.2.2.2.2.1 | exact l8.2.2.2.2.2.2.2.1 | exact l8.2.2.2.2.2.2.2.2.1 | exact l8.2.2.2.2.2.2.2.2.2.1) (by first | exact l8.1 | exact l8.2.1 | exact l8.2.2.1 | exact l8.2.2.2.1 | exact l8.2.2.2.2.1 | exact l8.2.2.2.2.2.1 | exact l8.2.2.2.2.2.2.1 | exact l8.2.2.2.2.2.2.2.1 | exact l8.2.2.2.2.2.2.2.2.1 | exact l8.2.2.2.2.2.2.2.2.2.1) (by first | exact l8.1 | exact l8.2.1 | exact l8.2.2.1 | exact l8.2.2.2.1 | exact l8.2.2.2.2.1 | exact l8.2.2.2.2.2.1 | exact l8.2.2.2.2.2.2.1 | exact l8.2.2.2.2.2.2.2.1 | exact l8.2.2.2.2.2.2.2.2.1 | exact l8.2.2.2.2.2.2.2.2.2.1) (by first | exact l8.1 | exact l8.2.1 | exact l8.2.2.1 | exact l8.2.2.2.1 | exact l8.2.2.2.2.1 | exact l8.2.2.2.2.2.1 | exact l8.2.2.2.2.2.2.1 | exact l8.2.2.2.2.2.2.2.1 | exact l8.2.2.2.2.2.2.2.2.1 | exact l8.2.2.2.2.2.2.2.2.2.1) (by first | exact l8.1 | exact l8.2.1 | exact l8.2.2.1 | exact l8.2.2.2.1 | exact l8.2.2.2.2.1 | exact l8.2.2.2.2.2.1 | exact l8.2.2.2.2.2.2.1 | exact l8.2.2.2.2.2.2.2.1 | exact l8.2.2.2.2.2.2.2.2.1 | exact l8.2.2.2.2.2.2.2.2.2.1)) ⟨_, _, _, rfl⟩)
      · rename_i r9 t9 p9 h9 tk9 F9 N9 hr0 hr1 G9 ha
        exact hK.go (⟨p9, c.us, c.ue, c.l, c.k + 1, c.i, c.led⟩ : QT) F9 N9 sub_refl (MidQ.start b rfl G9 (Nat.le_refl _) rfl rfl rfl hi9)
    case R1 =>
      clear FS hoff r1 r2 r3 G hck hcl hul hi9
      intro d h tk FC NC b9
      have r1 : ∀ p ∈ d.led, p.1 ≠ lp := b9.off.at (.head _)
      have r2 : ∀ p ∈ d.led, p.1 ≠ lc := b9.off.at (.tail _ (.head _))
      have G := b9.pg
      have hck := b9.hk
      have mk : Mark := trivial
      k_steps
      unfold Stop
      rename_i r9 t9 p9 h9 tk9 hr0 hr1 G9 _ _ _ _ _ _ _ NB nvs nep h8 tk8 hI8 l8 h7 FS NS
      have hN8 : NumOk (rangeKs 0 (r9 - 0).toNat) := numOk_range hr0 hr1
      obtain ⟨js, hjs⟩ : ∃ js, js = rangeKs 0 (r9 - 0).toNat := ⟨_, rfl⟩
      rw [← hjs] at hI8 hN8
      have hL8 := hI8.length
      have hL9 := hN8.len
      have b1 : @Ne Nat NB lp := Nat.ne_of_gt l8.2.2.2.1
      have b2 : @Ne Nat NB lc := Nat.ne_of_gt l8.2.2.2.2.1
      have b3 : @Ne Nat NB PD := Nat.ne_of_gt l8.2.1
      have b4 : @Ne Nat NB I := Nat.ne_of_gt l8.1
      have b5 : @Ne Nat NB SL := Nat.ne_of_gt l8.2.2.1
      refine wpAny_cut FS (fun c : QT × List Value × Nat × List Int => (NB, listOf c.2.1.toArray c.2.2.1) :: (I, oI) :: (PD, listOf c.1.us.toArray c.1.ue) :: (SL, listOf xs.toArray 0) :: (lp, potO lc c.1.p) :: (lc, celO c.1.p) :: c.1.led) (NumQ [lp, lc, PD, SL, I] c.i) ?S3 ?R3
      case S3 =>
        clear hK
        intro K hK
        k_steps
        · unfold Stop
          rename_i r9 t9 p9 h9 tk9 F9 N9 hr0 hr1 G9
          obtain ⟨p', y', q', jp, jy, jq, e9, hl9, ej9, hI9⟩ := cutN hI8 hr0 hr1
          have hlc : p'.length + (q'.length + 1) = nvs.length := by rw [e9, List.length_append, List.length_cons]
          rw [e9] at N9
          refine' kl_popAt (its := (p' ++ y' :: q').toArray) (n := nep) (k := r9.toNat) F9 N9 (fits_small hr0 (by omega)) (seq_small hr0 (by rw [List.size_toArray, ← e9, hL8]; exact hr1)) (by rw [← hl9]; exact cut_of p' y' q') ?U (by rw [sizeLine_eq]; simp only [List.size_toArray, ← e9]; omega) ?_
          case U => k_upd
          intro h6 F6 N6
          clear N9 F9
          k_steps
          exact hK.go (⟨⟨p9, d.us, d.ue, d.l, d.k + 1 + 1 + 1, d.i, d.led⟩, p' ++ q', nep + 1, jp ++ jq⟩ : QT × List Value × Nat × List Int) F6 N6 sub_refl ⟨b9.more G9 (by have := b9.hk; omega), hI9, (ej9 ▸ hN8).cut⟩
        · rename_i r9 t9 p9 h9 tk9 F9 N9 hr0 hr1 G9 ha
          exact hK.go (⟨⟨p9, d.us, d.ue, d.l, d.k + 1 + 1, d.i, d.led⟩, nvs, nep, js⟩ : QT × List Value × Nat × List Int) F9 N9 sub_refl ⟨b9.more G9 (by have := b9.hk; omega), hI8, hN8⟩
        · (rename Fr _ _ _ _ => FZ); (rename News _ _ _ _ => NZ)
          exact hK.go (⟨⟨_, d.us, d.ue, d.l, d.k + 1, d.i, d.led⟩, nvs, nep, js⟩ : QT × List Value × Nat × List Int) FZ NZ sub_refl ⟨b9.more (by assumption) (by have := b9.hk; omega), hI8, hN8⟩
      case R3 =>
        clear FS hI8 hN8 hL8 hL9 G G9 r1 r2 hck b9
        intro d h tk FC NC b9
        obtain ⟨d, nvs, nep, js⟩ := d
        have hN7 : NumOk js := b9.hN
        have hI7 : IntsAre nvs js := b9.hI
        have b8 : MidQ [lp, lc, PD, SL, I] c.i 24 d := b9.m
        k_steps
        unfold Stop
        (rename Fr _ _ _ _ => FS)
        refine loopL (vs := nvs) (n := nep) (lo := listOf nvs.toArray nep) (fun c : QT => (NB, listOf nvs.toArray nep) :: (I, oI) :: (PD, listOf c.us.toArray c.ue) :: (SL, listOf xs.toArray 0) :: (lp, potO lc c.p) :: (lc, celO c.p) :: c.led) (fun _ => [(Str.ofString "name", .str (nm c.i) tv), (Str.ofString "pot", .ref lp), (Str.ofString "pairs", .ref PD)])
          (InnQ [lp, lc, PD, SL, I] js c.i d.k d.l.length) d (by rfl) FS NC sub_refl (fun r c _ => .head _) rfl rfl (all_cons rfl (all_cons rfl (all_cons rfl all_nil))) (InnQ.start b8 hI7) ?turnI ?doneI
        case doneI =>
          clear FS NC
          intro e u h tk be FC NC
          have hcI : ∀ p ∈ e.led, p.1 ≠ I := be.off.at (.tail _ (.tail _ (.tail _ (.tail _ (.head _)))))
          k_steps
          (rename Fr _ _ _ _ => FZ); (rename News _ _ _ _ => NZ)
          rw [hr9] at hK
          exact hK.go (⟨e.p, e.us, e.ue, e.l, e.k, c.i + 1, e.led⟩ : QT) FZ NZ (sub_skip sub_refl) (all_cons (Ne.symm oI3) (all_cons (Ne.symm oI4) (all_cons (Ne.symm oI1) (all_cons (Ne.symm oI2) hcI)))) (all_cons rfl (all_cons rfl all_nil))
            (OutP.next be hN7 b8.hk b8.hl hi3 fun p hp => all_cons (be.off p hp lp (.head _)) (all_cons (be.off p hp lc (.tail _ (.head _))) (all_cons (be.off p hp PD (.tail _ (.tail _ (.head _)))) (all_cons (be.off p hp SL (.tail _ (.tail _ (.tail _ (.head _))))) all_nil))))
        case turnI =>
          have hk8 := b8.hk
          have hl8 := b8.hl
          clear FS NC hK b8 b9
          intro K d v r u J oJ h tk hK _ b6 hoff FC NC
          obtain ⟨j, t, rfl, hj0, hj4, hck, hcl⟩ := b6.head hN7
          have G := b6.pg
          have r1 : ∀ p ∈ d.led, p.1 ≠ lp := b6.off.at (.head _)
          have r2 : ∀ p ∈ d.led, p.1 ≠ lc := b6.off.at (.tail _ (.head _))
          have r3 : ∀ p ∈ d.led, p.1 ≠ PD := b6.off.at (.tail _ (.tail _ (.head _)))
          have j1 : @Ne Nat J lp := Ne.symm (hoff _ (.tail _ (.tail _ (.tail _ (.tail _ (.head _))))))
          have j2 : @Ne Nat J lc := Ne.symm (hoff _ (.tail _ (.tail _ (.tail _ (.tail _ (.tail _ (.head _)))))))
          have j3 : @Ne Nat J PD := Ne.symm (hoff _ (.tail _ (.tail _ (.head _))))
          have hul : d.us.length < 900 := by rw [b6.hpr.length]; omega
          k_with "ssize" => (have z1 := nm_len c.i; have z2 := dig_len j.toNat; have z3 := star_len; (try simp only [PySem.Str.length_append]); omega)
          k_with "size" => first | exact Nat.le_trans (Nat.add_le_add (lead_size _) (word_size _)) (by decide) | exact Nat.le_trans (Nat.add_le_add (Nat.le_refl 0) (word_size _)) (by decide)
          k_steps
          · rename_i D8 h8 l8 h7 F7 N7
            simp only [List.push_toArray] at N7
            exact hK.go (⟨_, d.us ++ [.ref D8], d.ue + 1, d.l ++ [⟨c.i, some (j.toNat, (true, _, _)), false⟩], d.k + 1 + 1 + 1, d.i, (D8, _) :: d.led⟩ : QT) F7 N7 (all_cons (.tail _ (.tail _ (.tail _ (.head _)))) (all_cons (.tail _ (.tail _ (.tail _ (.tail _ (.head _))))) (all_cons (.tail _ (.tail _ (.tail _ (.tail _ (.tail _ (.head _)))))) (all_cons (.tail _ (.tail _ (.tail _ (.tail _ (.tail _ (.tail _ (.head _))))))) (all_cons (.tail _ (.tail _ (.tail _ (.tail _ (.tail _ (.tail _ (.tail _ (.head _)))))))) (all_cons (.tail _ (.tail _ (.tail _ (.tail _ (.tail _ (.tail _ (.tail _ (.tail _ (.head _))))))))) (all_cons (.tail _ (.tail _ (.tail _ (.tail _ (.tail _ (.tail _ (.tail _ (.tail _ (.tail _ (.head _)))))))))) (all_cons (.head _) (sub_skip (sub_skip (sub_skip (sub_skip (sub_skip (sub_skip (sub_skip (sub_skip (sub_skip (sub_skip (sub_refl)))))))))))))))))))
              (all_cons (hoff _ (.head _)) (all_cons (hoff _ (.tail _ (.head _))) (all_cons (Ne.symm j3) (all_cons (hoff _ (.tail _ (.tail _ (.tail _ (.head _))))) (all_cons (Ne.symm j1) (all_cons (Ne.symm j2) (all_cons (Nat.ne_of_gt (by first | exact l8.1 | exact l8.2.1 | exact l8.2.2.1)) fun p hp => hoff p (.tail _ (.tail _ (.tail _ (.tail _ (.tail _ (.tail _ hp))))))))))))) (all_cons rfl (all_cons rfl (all_cons rfl all_nil)))
              (b6.nxt0 hN7 hi3 (by assumption) (lt5 (by first | exact l8.1 | exact l8.2.1 | exact l8.2.2.1 | exact l8.2.2.2.1 | exact l8.2.2.2.2.1 | exact l8.2.2.2.2.2.1 | exact l8.2.2.2.2.2.2.1 | exact l8.2.2.2.2.2.2.2.1 | exact l8.2.2.2.2.2.2.2.2.1 | exact l8.2.2.2.2.2.2.2.2.2.1) (by first | exact l8.1 | exact l8.2.1 | exact l8.2.2.1 | exact l8.2.2.2.1 | exact l8.2.2.2.2.1 | exact l8.2.2.2.2.2.1 | exact l8.2.2.2.2.2.2.1 | exact l8.2.2.2.2.2.2.2.1 | exact l8.2.2.2.2.2.2.2.2.1 | exact l8.2.2.2.2.2.2.2.2.2.1) (by first | exact l8.1 | exact l8.2.1 | exact l8.2.2.1 | exact l8.2.2.2.1 | exact l8.2.2.2.2.1 | exact l8.2.2.2.2.2.1 | exact l8.2.2.2.2.2.2.1 | exact l8.2.2.2.2.2.2.2.1 | exact l8.2.2.2.2.2.2.2.2.1 | exact l8.2.2.2.2.2.2.2.2.2.1) (by first | exact l8.1 | exact l8.2.1 | exact l8.2.2.1 | exact l8.2.2.2.1 | exact l8.2.2.2.2.1 | exact l8.2.2.2.2.2.1 | exact l8.2.2.2.2.2.2.1 | exact l8.2.2.2.2.2.2.2.1 | exact l8.2.2.2.2.2.2.2.2.1 | exact l8.2.2.2.2.2.2.2.2.2.1) (by first | exact l8.1 | exact l8.2.1 | exact l8.2.2.1 | exact l8.2.2.2.1 | exact l8.2.2.2.2.1 | exact l8.2.2.2.2.2.1 | exact l8.2.2.2.2.2.2.1 | exact l8.2.2.2.2.2.2.2.1 | exact l8.2.2.2.2.2.2.2.2.1 | exact l8.2.2.2.2.2.2.2.2.2.1)) (by assumption) (by show d.k + 1 + 1 + 1 ≤ d.k + 3; omega) ⟨_, _, _, rfl⟩)
          · rename_i D8 h8 l8 h7 F7 N7
            simp only [List.push_toArray] at N7
            exact hK.go (⟨_, d.us ++ [.ref D8], d.ue + 1, d.l ++ [⟨c.i, some (j.toNat, (true, 0, _)), false⟩], d.k + 1 + 1, d.i, (D8, _) :: d.led⟩ : QT) F7 N7 (all_cons (.tail _ (.tail _ (.head _))) (all_cons (.tail _ (.tail _ (.tail _ (.head _)))) (all_cons (.tail _ (.tail _ (.tail _ (.tail _ (.head _))))) (all_cons (.tail _ (.tail _ (.tail _ (.tail _ (.tail _ (.head _)))))) (all_cons (.tail _ (.tail _ (.tail _ (.tail _ (.tail _ (.tail _ (.head _))))))) (all_cons (.tail _ (.tail _ (.tail _ (.tail _ (.tail _ (.tail _ (.tail _ (.head _)))))))) (all_cons (.tail _ (.tail _ (.tail _ (.tail _ (.tail _ (.tail _ (.tail _ (.tail _ (.head _))))))))) (all_cons (.head _) (sub_skip (sub_skip (sub_skip (sub_skip (sub_skip (sub_skip (sub_skip (sub_skip (sub_skip (sub_refl))))))))))))))))))
              (all_cons (hoff _ (.head _)) (all_cons (hoff _ (.tail _ (.head _))) (all_cons (Ne.symm j3) (all_cons (hoff _ (.tail _ (.tail _ (.tail _ (.head _))))) (all_cons (Ne.symm j1) (all_cons (Ne.symm j2) (all_cons (Nat.ne_of_gt (by first | exact l8.1 | exact l8.2.1 | exact l8.2.2.1)) fun p hp => hoff p (.tail _ (.tail _ (.tail _ (.tail _ (.tail _ (.tail _ hp))))))))))))) (all_cons rfl (all_cons rfl (all_cons rfl all_nil)))
              (b6.nxt1 hN7 hi3 hj0 (by assumption) (lt5 (by first | exact l8.1 | exact l8.2.1 | exact l8.2.2.1 | exact l8.2.2.2.1 | exact l8.2.2.2.2.1 | exact l8.2.2.2.2.2.1 | exact l8.2.2.2.2.2.2.1 | exact l8.2.2.2.2.2.2.2.1 | exact l8.2.2.2.2.2.2.2.2.1 | exact l8.2.2.2.2.2.2.2.2.2.1) (by first | exact l8.1 | exact l8.2.1 | exact l8.2.2.1 | exact l8.2.2.2.1 | exact l8.2.2.2.2.1 | exact l8.2.2.2.2.2.1 | exact l8.2.2.2.2.2.2.1 | exact l8.2.2.2.2.2.2.2.1 | exact l8.2.2.2.2.2.2.2.2.1 | exact l8.2.2.2.2.2.2.2.2.2.1) (by first | exact l8.1 | exact l8.2.1 | exact l8.2.2.1 | exact l8.2.2.2.1 | exact l8.2.2.2.2.1 | exact l8.2.2.2.2.2.1 | exact l8.2.2.2.2.2.2.1 | exact l8.2.2.2.2.2.2.2.1 | exact l8.2.2.2.2.2.2.2.2.1 | exact l8.2.2.2.2.2.2.2.2.2.1) (by first | exact l8.1 | exact l8.2.1 | exact l8.2.2.1 | exact l8.2.2.2.1 | exact l8.2.2.2.2.1 | exact l8.2.2.2.2.2.1 | exact l8.2.2.2.2.2.2.1 | exact l8.2.2.2.2.2.2.2.1 | exact l8.2.2.2.2.2.2.2.2.1 | exact l8.2.2.2.2.2.2.2.2.2.1) (by first | exact l8.1 | exact l8.2.1 | exact l8.2.2.1 | exact l8.2.2.2.1 | exact l8.2.2.2.2.1 | exact l8.2.2.2.2.2.1 | exact l8.2.2.2.2.2.2.1 | exact l8.2.2.2.2.2.2.2.1 | exact l8.2.2.2.2.2.2.2.2.1 | exact l8.2.2.2.2.2.2.2.2.2.1)) (by assumption) (by show d.k + 1 + 1 ≤ d.k + 3; omega) ⟨_, _, _, rfl⟩)
          · rename_i D8 h8 l8 h7 F7 N7
            simp only [List.push_toArray] at N7
            exact hK.go (⟨_, d.us ++ [.ref D8], d.ue + 1, d.l ++ [⟨c.i, some (j.toNat, (false, 0, _)), false⟩], d.k + 1 + 1, d.i, (D8, _) :: d.led⟩ : QT) F7 N7 (all_cons (.tail _ (.tail _ (.head _))) (all_cons (.tail _ (.tail _ (.tail _ (.head _)))) (all_cons (.tail _ (.tail _ (.tail _ (.tail _ (.head _))))) (all_cons (.tail _ (.tail _ (.tail _ (.tail _ (.tail _ (.head _)))))) (all_cons (.tail _ (.tail _ (.tail _ (.tail _ (.tail _ (.tail _ (.head _))))))) (all_cons (.tail _ (.tail _ (.tail _ (.tail _ (.tail _ (.tail _ (.tail _ (.head _)))))))) (all_cons (.tail _ (.tail _ (.tail _ (.tail _ (.tail _ (.tail _ (.tail _ (.tail _ (.head _))))))))) (all_cons (.head _) (sub_skip (sub_skip (sub_skip (sub_skip (sub_skip (sub_skip (sub_skip (sub_skip (sub_skip (sub_refl))))))))))))))))))
              (all_cons (hoff _ (.head _)) (all_cons (hoff _ (.tail _ (.head _))) (all_cons (Ne.symm j3) (all_cons (hoff _ (.tail _ (.tail _ (.tail _ (.head _))))) (all_cons (Ne.symm j1) (all_cons (Ne.symm j2) (all_cons (Nat.ne_of_gt (by first | exact l8.1 | exact l8.2.1 | exact l8.2.2.1)) fun p hp => hoff p (.tail _ (.tail _ (.tail _ (.tail _ (.tail _ (.tail _ hp))))))))))))) (all_cons rfl (all_cons rfl (all_cons rfl all_nil)))
              (b6.nxt2 hN7 hi3 (lt5 (by first | exact l8.1 | exact l8.2.1 | exact l8.2.2.1 | exact l8.2.2.2.1 | exact l8.2.2.2.2.1 | exact l8.2.2.2.2.2.1 | exact l8.2.2.2.2.2.2.1 | exact l8.2.2.2.2.2.2.2.1 | exact l8.2.2.2.2.2.2.2.2.1 | exact l8.2.2.2.2.2.2.2.2.2.1) (by first | exact l8.1 | exact l8.2.1 | exact l8.2.2.1 | exact l8.2.2.2.1 | exact l8.2.2.2.2.1 | exact l8.2.2.2.2.2.1 | exact l8.2.2.2.2.2.2.1 | exact l8.2.2.2.2.2.2.2.1 | exact l8.2.2.2.2.2.2.2.2.1 | exact l8.2.2.2.2.2.2.2.2.2.1) (by first | exact l8.1 | exact l8.2.1 | exact l8.2.2.1 | exact l8.2.2.2.1 | exact l8.2.2.2.2.1 | exact l8.2.2.2.2.2.1 | exact l8.2.2.2.2.2.2.1 | exact l8.2.2.2.2.2.2.2.1 | exact l8.2.2.2.2.2.2.2.2.1 | exact l8.2.2.2.2.2.2.2.2.2.1) (by first | exact l8.1 | exact l8.2.1 | exact l8.2.2.1 | exact l8.2.2.2.1 | exact l8.2.2.2.2.1 | exact l8.2.2.2.2.2.1 | exact l8.2.2.2.2.2.2.1 | exact l8.2.2.2.2.2.2.2.1 | exact l8.2.2.2.2.2.2.2.2.1 | exact l8.2.2.2.2.2.2.2.2.2.1) (by first | exact l8.1 | exact l8.2.1 | exact l8.2.2.1 | exact l8.2.2.2.1 | exact l8.2.2.2.2.1 | exact l8.2.2.2.2.2.1 | exact l8.2.2.2.2.2.2.1 | exact l8.2.2.2.2.2.2.2.1 | exact l8.2.2.2.2.2.2.2.2.1 | exact l8.2.2.2.2.2.2.2.2.2.1)) (by assumption) (by show d.k + 1 + 1 ≤ d.k + 3; omega) ⟨_, _, _, rfl⟩)
end
end Mine
end
section
set_option maxRecDepth 100000
open PySem PySem.W PyProof.Rows PySem.Spec PySem.Calls
namespace Mine
theorem keys_miss {prog : Program} {w : World} {A : Around} {E : Value → Shared → Prop} {s : Shared} {a : Addr} {xs : Array Value} {k : Nat} {Q : Option Value → Shared → Prop}
    (hx : s.heap.get? a = some (listOf xs k)) (hA : A.handled = none) (hmiss : typeLookup (.type "list") "keys" = pure none)
    (h : ∀ h' tk, (∀ b o, s.heap.get? b = some o → h'.get? b = some o) → Q none { s with heap := h', toks := tk }) :
    wpAny (model prog w) A (getAttr? (.ref a) "keys") Q E s := by
  obtain ⟨hp, g, d, tk, os⟩ := s
  have hT : ∀ tk', (⟨hp, g, d, tk', os⟩ : Shared).TypeIs (.ref a) "list" := fun _ => ⟨_, hx, rfl⟩
  have f1 := sub_AttributeError
  have f3 := F.slot_list_getattribute.lookup
  have f4 := F.slot_list_getattribute.bind (.ref a)
  have f5 := am_list_getattr_none
  unfold getAttr? getAttrBy? getAttrBy
  repeat (any_goals (first | assumption | exact hT _ | ((with_reducible show wpAny _ _ (call (Value.builtin "list.__getattribute__") _ _) _ _ _); refine call_meets F.slot_list_getattribute (hT _) am_entry_list_getattribute (F.args_list_getattribute_2 _ _) (meets_getattribute_miss_list a xs k _ "keys" _ hmiss (by decide +kernel) (by decide)) ⟨hx, hA, fun h' tk' e hx' => ?_⟩) | wp_step))
  obtain ⟨t', u', he⟩ := hx'.there
  show wpAny _ _ (getattributeRaised _ _ _ _ _ _ _) _ _ _
  unfold getattributeRaised
  repeat (any_goals (first | assumption | wp_step))
  exact h _ _ hx'.keeps
theorem list_no_keys : typeLookup (.type "list") "keys" = pure none := am_miss_of_fast (by decide +kernel)
theorem plain_dul : plainId "dict.update.loop" = true := by decide +kernel
theorem entry_dul : entryFor table "dict.update.loop" = some Builtin.«dict.update.loop» := entryFor_of_fast (by kernel_rfl)
theorem stored_len {K : Type} [DecidableEq K] (kvs : List (K × Value)) (k : K) (v : Value) : (stored kvs k v).length ≤ kvs.length + 1 := by
  unfold stored
  split
  · rw [List.length_map]; exact Nat.le_succ _
  · rw [List.length_append]; exact Nat.le_refl _
/-- values that are pairs with a str ahead -/
def StrPairs (h : Heap) (bad : List Addr) : List Value → List (Str × Value) → Prop
  | [], [] => True
  | v :: vs, p :: ps => (∃ T t c, v = .ref T ∧ h.get? T = some (tupOf [.str p.1 t, p.2] c) ∧ T ∉ bad) ∧ StrPairs h bad vs ps
  | _, _ => False
theorem StrPairs.keep {h h' : Heap} {bad : List Addr} (hk : ∀ b o, b ∉ bad → h.get? b = some o → h'.get? b = some o) : ∀ {vs : List Value} {ps : List (Str × Value)}, StrPairs h bad vs ps → StrPairs h' bad vs ps
  | [], [], _ => trivial
  | _ :: _, _ :: _, ⟨⟨T, t, c, e, g, nb⟩, r⟩ => ⟨⟨T, t, c, e, hk _ _ nb g, nb⟩, StrPairs.keep hk r⟩
  | [], _ :: _, g => g.elim
  | _ :: _, [], g => g.elim
theorem dict_loop {prog : Program} {w : World} {ax I d : Addr} {vs : List Value} (hI : @Ne Nat ax I) (hd : @Ne Nat ax d) (hId : @Ne Nat I d) :
    ∀ (r : List Value) (ps : List (Str × Value)) (i : Nat) (kvs : List (Str × Value)) (A : Around) (R : Result → Shared → Prop) (s : Shared), A.handled = none → vs.drop i = r → StrPairs s.heap [I, d] r ps → s.heap.IsListIter I ax i → s.heap.IsList ax vs.toArray → s.heap.DictOf (PySem.strKind prog w) d kvs → kvs.length + ps.length < 1000 →
      (∀ h' tk, (∀ b o, b ∉ [I, d] → s.heap.get? b = some o → h'.get? b = some o) → h'.DictOf (PySem.strKind prog w) d (ps.foldl (fun a p => stored a p.1 p.2) kvs) → R (.ok (.ret .none)) { s with heap := h', toks := tk }) →
      codeAny (model prog w) A (.builtin "dict.update.loop" ⟨[.ref d, .ref I, rawInt i, .none], []⟩) R s := by
  intro r
  induction r with
  | nil =>
    intro ps i kvs A R s hA hr hp hit hl hD hsz k
    cases ps with
    | cons p ps => exact hp.elim
    | nil =>
      refine codeAny_builtin entry_dul ?_
      rw [Around.under_plainId plain_dul _]
      have hx : vs.toArray[i]? = none := by
        rw [List.getElem?_toArray, ← List.head?_drop, hr]; rfl
      show wpAny _ _ (pyNext (.ref I) >>= _) _ _ _
      refine wpAny_bind (wpAny_pyNext_list_end hA hit hl hx fun h' hs => ?_)
      repeat (any_goals (first | assumption | wp_step))
      exact k h' _ (fun b o hb g => hs b o (fun e => hb (by rw [e]; exact .head _)) g) (hD.extBut hs (Ne.symm hId))
  | cons v r ih =>
    intro ps i kvs A R s hA hr hp hit hl hD hsz k
    cases ps with
    | nil => exact hp.elim
    | cons p ps =>
      obtain ⟨⟨T, t, c, rfl, hT, nb⟩, hp⟩ := hp
      refine codeAny_builtin entry_dul ?_
      rw [Around.under_plainId plain_dul _]
      have hx : vs.toArray[i]? = some (.ref T) := by
        rw [List.getElem?_toArray, ← List.head?_drop, hr]; rfl
      show wpAny _ _ (pyNext (.ref I) >>= _) _ _ _
      refine wpAny_bind (wpAny_pyNext_list_item hit hl hx fun h' hit' hs => ?_)
      have hT' : h'.get? T = some (tupOf [.str p.1 t, p.2] c) := hs.extBut _ _ (fun e => nb (by rw [e]; exact .head _)) hT
      have hTT : ({ s with heap := h' } : Shared).TypeIs (.ref T) "tuple" := ⟨_, hT', rfl⟩
      have hD' : h'.DictOf (PySem.strKind prog w) d kvs := hD.extBut hs.extBut (Ne.symm hId)
      refine wpAny_bind (wpAny_holding ?_)
      refine wpAny_bind (wpAny_tryCatch ?_)
      unfold Builtin.Dict.pairItems
      refine wpAny_bind (wpAny_typeOf hTT ?_)
      rw [if_pos (by decide)]
      refine wpAny_bind (wpAny_seqItems hT' rfl (wpAny_pure ?_))
      show wpAny _ _ (holding [Value.str p.1 t, p.2] (dictSet d (Value.str p.1 t) p.2)) _ _ _
      rw [List.length_cons] at hsz
      refine wpAny_holding (wpAny_dictSet_pairs (knd := PySem.strKind prog w) (k := p.1) (by show Value.isStrOf p.1 (.str p.1 t) = true; simp [Value.isStrOf]) hD' (fun h2 hD2 hs2 => ?_) (by rw [sizeLine_eq]; omega))
      refine wpAny_pure ⟨plainId_quiet plain_dul _, ?_⟩
      have hkk : ∀ b o, b ∉ [I, d] → s.heap.get? b = some o → h2.get? b = some o := fun b o hb g => hs2.extBut b o (fun e => hb (by rw [e]; exact .tail _ (.head _))) (hs.extBut b o (fun e => hb (by rw [e]; exact .head _)) g)
      refine ih ps (i + 1) (stored kvs p.1 p.2) A R { s with heap := h2, toks := s.toks + 1 } hA (by rw [← List.tail_drop, hr]; rfl) (hp.keep hkk) (hit'.extBut hs2.extBut hId) ?_ hD2 ?_ (fun h3 tk3 hk3 hD3 => k h3 tk3 (fun b o hb g => hk3 b o hb (hkk b o hb g)) hD3)
      · obtain ⟨o, g, r⟩ := hl
        exact ⟨o, hkk ax o (by simp only [List.mem_cons, List.not_mem_nil, or_false, not_or]; exact ⟨hI, hd⟩) g, r⟩
      · have := stored_len kvs p.1 p.2
        omega
/-- dict of a list of pairs -/
theorem dict_of_list {prog : Program} {w : World} {A : Around} {E : Value → Shared → Prop} {s : Shared} {h₀ : Heap} {L ax : Addr} {m : Str → Option Value} {news : Led} {vs : List Value} {n : Nat} {ps : List (Str × Value)} {Q : Value → Shared → Prop}
    (hA : A.handled = none) (F₁ : Fr h₀ L s.heap m) (N : News h₀ L s.heap news) (hbig : sysModules < h₀.objs.size) (hm : (ax, listOf vs.toArray n) ∈ news) (hp : ∀ bad, (∀ p ∈ news, p.1 ∉ bad) → StrPairs s.heap bad vs ps) (hsz : ps.length < 900)
    (k : ∀ D h' o tk, Fr h₀ L h' m → News h₀ L h' ((D, o) :: news) → (∀ p ∈ news, p.1 < D) → (D == sysModules) = false → o.IsDictOf (PySem.strKind prog w) (ps.foldl (fun a p => stored a p.1 p.2) []) → Q (.ref D) { s with heap := h', toks := tk }) :
    wpAny (model prog w) A (call (.type "dict") [.ref ax]) Q E s := by
  refine callType_codes (Q₁ := fun obj s₁ => obj = .ref s.heap.objs.size ∧ s₁ = { s with heap := s.heap.push { cls := .type "dict", data := .dict #[] } }) PySem.F.kt_called_dict (PySem.F.kt_typeCall_dict_1 _) PySem.F.entry_dict_init (kt_code_dict_new _ ⟨rfl, rfl⟩) ?_
  rintro obj s₁ ⟨rfl, rfl⟩
  have hnew : (s.heap.push { cls := .type "dict", data := .dict #[] }).DictOf (PySem.strKind prog w) s.heap.objs.size [] := Heap.DictOf.new s.heap
  have hlt : ∀ p ∈ news, p.1 < s.heap.objs.size := fun p hp => Heap.lt_size (N p hp).1
  have N1 := News.push F₁ N { cls := .type "dict", data := .dict #[] }
  have hax := (N1 _ (.tail _ hm)).1
  refine ⟨hnew.typeIs, PySem.F.args_dict_init_2 _ _, ?_⟩
  unfold Builtin.«dict.__init__»
  refine wpAny_bind ?_
  unfold Builtin.Dict.selfAndRest
  refine wpAny_bind (wpAny_notOrdered_dict hnew.typeIs ?_)
  show wpAny _ _ (pure (s.heap.objs.size, [Value.ref ax])) _ _ _
  refine wpAny_pure ?_
  show wpAny _ _ (Builtin.Dict.updateFrom "dict.__init__" s.heap.objs.size (.ref ax) [] .none) _ _ _
  unfold Builtin.Dict.updateFrom
  refine wpAny_bind (wpAny_typeOf (T := "list") ⟨_, hax, rfl⟩ ?_)
  rw [if_pos (by decide)]
  refine wpAny_bind (keys_miss hax hA list_no_keys fun h2 tk2 hk2 => ?_)
  refine wpAny_bind (wpAny_rule ?_)
  refine wpAny_bind (wpAny_pyIter_list (items := vs.toArray) ⟨_, hk2 _ _ hax, rfl, _, rfl⟩ ?_)
  have hax2 := hk2 _ _ hax
  have hI2 : s.heap.objs.size < h2.objs.size := Heap.lt_size (hk2 _ _ (N1 _ (.head _)).1)
  refine wpAny_pure ⟨plainId_quiet plain_dul _, ?_⟩
  have hp2 : ∀ b o, (s.heap.push { cls := .type "dict", data := .dict #[] }).get? b = some o → (h2.push { cls := .type "list_iterator", data := .fields #[.ref ax, .int 0 0] }).get? b = some o := fun b o g => Heap.get?_push_of_some _ (hk2 b o g)
  have nb : ∀ p ∈ news, p.1 ∉ [h2.objs.size, s.heap.objs.size] := fun p hp => by
    have := hlt p hp
    simp only [List.mem_cons, List.not_mem_nil, or_false, not_or]
    exact ⟨fun e => by rw [e] at this; exact absurd hI2 (Nat.not_lt.mpr (Nat.le_of_lt this)), fun e => by rw [e] at this; exact Nat.lt_irrefl _ this⟩
  refine dict_loop (prog := prog) (w := w) (ax := ax) (I := h2.objs.size) (d := s.heap.objs.size) (vs := vs) (fun e => nb _ hm (by simp [e])) (fun e => nb _ hm (by simp [e])) (fun e => by have := hI2; rw [← e] at this; exact Nat.lt_irrefl _ this)
    vs ps 0 [] A.in1 _ { s with heap := h2.push { cls := .type "list_iterator", data := .fields #[.ref ax, .int 0 0] }, toks := tk2 } hA rfl ?_ ?_ ?_ ?_ (by simp only [List.length_nil]; omega) ?_
  · exact (hp _ nb).keep fun b o _ g => hp2 b o (Heap.get?_push_of_some _ g)
  · exact ⟨_, Heap.get?_push_size _ rfl, rfl, rfl⟩
  · exact ⟨_, hp2 _ _ hax, rfl, _, rfl⟩
  · obtain ⟨o, es, ep, ho, r⟩ := hnew
    exact ⟨o, es, ep, hp2 _ _ ho, r⟩
  · intro h' tk hk hD
    obtain ⟨o', ho', hd'⟩ := Heap.dictOf_iff.mp hD
    have F2 := (F₁.push { cls := .type "dict", data := .dict #[] }).keeps hp2
    have nbs : ∀ b, b < s.heap.objs.size → b ∉ [h2.objs.size, s.heap.objs.size] := fun b hb => by
      simp only [List.mem_cons, List.not_mem_nil, or_false, not_or]
      exact ⟨fun e => by rw [e] at hb; exact absurd hI2 (Nat.not_lt.mpr (Nat.le_of_lt hb)), fun e => by rw [e] at hb; exact Nat.lt_irrefl _ hb⟩
    refine ⟨rfl, k s.heap.objs.size h' o' tk ⟨F2.ns.at' fun o e => hk L o (nbs L F₁.ns.lt) e, fun b o e => hk b o (nbs b (Heap.lt_size (F₁.keep b o e))) (F2.keep b o e), F2.above⟩ (fun p hp => ?_) hlt (F₁.notModules hbig) hd'⟩
    rcases List.mem_cons.mp hp with rfl | hp
    · exact ⟨ho', (N1 _ (.head _)).2⟩
    · exact ⟨hk _ _ (nb p hp) (hp2 _ _ (N1 _ (.tail _ hp)).1), (N p hp).2⟩
end Mine
end
section
set_option maxRecDepth 100000
open PySem PySem.W PyProof.Rows PySem.Spec PySem.Calls LCg
namespace Mine
section
variable {prog : Program} {w : World} {A : Around} {E : Value → Shared → Prop} {s : Shared} {h₀ : Heap} {L : Addr} {m : Str → Option Value} {env : Env}
/-- the turns of a comprehension with a pair of names and one test -/
theorem pt_loop {ct elt iter : Expr} {elts : List Expr} {x1} {tp : Pos} {scope : Scope} {pos : Pos} {it acc : Value} {env : Env} {R : Result → Shared → Prop} (I : Nat → Shared → Prop)
    (turn : ∀ n s, I n s → wpAny (model prog w) A (pyNext it) (fun r s₁ => match r with
      | none => R (.ok .next) s₁
      | some v => wpAny (model prog w) A (letOwnedTupleGo (.Tuple elts x1 tp) it v) (fun _ s₁' => wpAny (model prog w) A (assign (.Tuple elts x1 tp) env v) (fun _ s₂ =>
          wpAny (model prog w) A (isTrue ct env (eval ct env)) (fun ok s₃ => if ok = true then wpAny (model prog w) A (eval elt env) (fun x s₄ =>
              wpAny (model prog w) A (call (.builtin "list.append") [acc, x]) (fun _ s₅ => ∃ m, m < n ∧ I m s₅) (notedBy (model prog w) A env fun e s' => R (.error e) s') s₄) (notedBy (model prog w) A env fun e s' => R (.error e) s') s₃
            else ∃ m, m < n ∧ I m s₃) (notedBy (model prog w) A env fun e s' => R (.error e) s') s₂)
          (notedBy (model prog w) A env fun e s' => R (.error e) s') s₁') (notedBy (model prog w) A env fun e s' => R (.error e) s') s₁) (notedBy (model prog w) A env fun e s' => R (.error e) s') s)
    (n : Nat) (h : I n s) : codeAny (model prog w) A (.compLoop (.ListComp elt [⟨.Tuple elts x1 tp, iter, [ct], 0⟩] scope pos) 0 it acc env) R s := by
  refine codeAny_loop rfl I (fun n s hI => ?_) n h
  show wpAny _ A ((compTurn (.ListComp elt [⟨.Tuple elts x1 tp, iter, [ct], 0⟩] scope pos) 0 it acc env).onRaise (fun x => do noteFrame x env; theTreesLotGoes x)) _ _ s
  refine wpAny_noted ?_
  rw [compTurn_list]
  refine wpAny_bind (wpAny_standAt (wpAny_bind (wpAny_mono (turn n s hI) (fun r s₁ h₁ => ?_) fun _ _ h' => h')))
  cases r with
  | none => exact wpAny_pure h₁
  | some v =>
    refine wpAny_bind (wpAny_mono h₁ (fun _ s₁' h₁' => ?_) fun _ _ h' => h')
    refine wpAny_bind (wpAny_mono h₁' (fun _ s₂ h₂ => wpAny_bind (wpAny_tests_one (wpAny_mono h₂ (fun ok s₃ h₃ => ?_) fun _ _ h' => h'))) fun _ _ h' => h')
    cases ok with
    | true =>
      simp only [if_true] at h₃
      exact wpAny_bind (wpAny_bind (wpAny_mono h₃ (fun x s₄ h₄ => wpAny_bind (wpAny_mono h₄ (fun _ s₅ h₅ => wpAny_pure (wpAny_pure ⟨rfl, h₅⟩)) fun _ _ h' => h')) fun _ _ h' => h'))
    | false =>
      simp only [Bool.false_eq_true, if_false] at h₃
      exact wpAny_bind (wpAny_pure (wpAny_pure ⟨rfl, h₃⟩))
/-- what a turn of a comprehension hands on: a value to be laid, or none -/
def PGoes (h₀ : Heap) (L : Addr) (m : Str → Option Value) (s : Shared) (I : Addr) (oI : Obj) (C : Addr) (oC : Obj) (D : Addr) (ys : List Value) (S : Led → Prop) (Inv : List Value → Led → Prop) (K : Value → Shared → Prop) : Prop :=
  ∀ y h' tk' nw' all, Fr h₀ L h' m → News h₀ L h' all → (∀ p ∈ (I, oI) :: (C, oC) :: (D, lst ys) :: nw', p ∈ all) → (∀ p ∈ nw', p.1 ≠ I ∧ p.1 ≠ C ∧ p.1 ≠ D) → S nw' → Inv (ys ++ [y]) nw' → K y { s with heap := h', toks := tk' }
def PSkips (h₀ : Heap) (L : Addr) (m : Str → Option Value) (s : Shared) (I : Addr) (oI : Obj) (C : Addr) (oC : Obj) (D : Addr) (ys : List Value) (S : Led → Prop) (Inv : List Value → Led → Prop) (K : Shared → Prop) : Prop :=
  ∀ h' tk' nw' all, Fr h₀ L h' m → News h₀ L h' all → (∀ p ∈ (I, oI) :: (C, oC) :: (D, lst ys) :: nw', p ∈ all) → (∀ p ∈ nw', p.1 ≠ I ∧ p.1 ≠ C ∧ p.1 ≠ D) → S nw' → Inv ys nw' → K { s with heap := h', toks := tk' }
/-- a list's comprehension with a pair of names and one test, by an invariant over the turns, the values and the ledger -/
def PTurn (prog : Program) (w : World) (A : Around) (h₀ : Heap) (L : Addr) (m : Str → Option Value) (env : Env) (ct elt : Expr) (x x₂ : Str) (scope : Scope) (cl : List (Str × Addr)) (s : Shared) (S : Led → Prop) (Inv : Nat → List Value → Led → Prop) (its : Array Value) : Prop :=
  ∀ i v ys nw, its[i]? = some v → Inv i ys nw → S nw → ∃ (t : Addr) (v₁ v₂ : Value) (c : Nat), v = .ref t ∧ (t, ({ cls := .type "tuple", data := .seq #[v₁, v₂] c } : Obj)) ∈ nw ∧
    ∀ I oI C oC D m₂ h tk (E' : Value → Shared → Prop) (Kt : Value → Shared → Prop) (Kf : Shared → Prop), NsObj oC m₂ → m₂ x = some v₁ → m₂ x₂ = some v₂ → Fr h₀ L h m → News h₀ L h ((I, oI) :: (C, oC) :: (D, lst ys) :: nw) → (∀ p ∈ nw, p.1 ≠ I ∧ p.1 ≠ C ∧ p.1 ≠ D) →
      PGoes h₀ L m s I oI C oC D ys S (Inv (i + 1)) Kt → PSkips h₀ L m s I oI C oC D ys S (Inv (i + 1)) Kf →
      wpAny (model prog w) A (isTrue ct (compEnvC scope cl C env) (eval ct (compEnvC scope cl C env))) (fun ok s' => if ok = true then wpAny (model prog w) A (eval elt (compEnvC scope cl C env)) Kt E' s' else Kf s') E' { s with heap := h, toks := tk }

theorem pt_block {ct elt iter : Expr} {x x₂ : Str} {px px₂ tp : Pos} {tk} {scope : Scope} {cl : List (Str × Addr)} {pos : Pos} {s₂ : Shared} {I : Addr} {fp : List Addr} {its : Array Value} {St : Nat → Heap → Prop} {S : Led → Prop} {Inv : Nat → List Value → Led → Prop} {news : Led}
    {RR : Value → Addr → Result → Shared → Prop}
    (W : Walks prog w A I fp [I] its.size (fun i v => its[i]? = some v) St) (hsz : its.size ≤ sizeLine) (hIo : ∀ i h, St i h → ∃ o, h.get? I = some o)
    (hSt : ∀ i h h' o nw, St i h → h.get? I = some o → h'.get? I = some o → (∀ b o, h₀.get? b = some o → h'.get? b = some o) → News h₀ L h' nw → S nw → St i h')
    (hcell : ∀ y ∈ scope.names, y.2 ≠ .cell) (hkind : scope.kind = .function) (hx : scope.names.lookup x = some .local) (hx₂ : scope.names.lookup x₂ = some .local) (hxx : x ≠ x₂) (hh : A.handled = none) (hLI : ∀ i h, St i h → ∃ l j, h.IsListIter I l j) (hst : St 0 s₂.heap) (hfp : ∀ b ∈ fp, b < s₂.heap.objs.size)
    (F : Fr h₀ L s₂.heap m) (N : News h₀ L s₂.heap news) (hIL : L ≠ I) (hI₀ : h₀.get? I = none) (off : ∀ p ∈ news, p.1 ≠ I) (hS : S news)
    (hI : Inv 0 [] news) (R : PTurn prog w A h₀ L m env ct elt x x₂ scope cl s₂ S Inv its)
    (hRR : ∀ D C h tk m' ys news', Fr h₀ L h m → News h₀ L h ((D, lst ys) :: news') → Off1 D news' → h.Ns C m' → h₀.get? C = none → C ≠ L → C ≠ D → (∀ p ∈ news', p.1 ≠ C) → S news' → Inv its.size ys news' → RR (.ref D) C (.ok .next) { s₂ with heap := h, toks := tk }) :
    wpAny (model prog w) A (newList []) (fun acc s₃ => wpAny (model prog w) A (newFunctionEnv scope env.globals cl [] env.qual none .none (some env)) (fun cenv s₄ =>
      codeAny (model prog w) A (.compStart (.ListComp elt [⟨.Tuple [.Name x px, .Name x₂ px₂] tk tp, iter, [ct], 0⟩] scope pos) 0 (.ref I) acc { cenv with scope := relabel scope env }) (RR acc cenv.locals) s₄) E s₃) E s₂ := by
  refine wpAny_newObj_type (wpAny_newFunctionEnv hcell (by intro y hy; simp at hy) (fun h₁ hns₁ hsb₁ => ?_) hkind)
  dsimp only at hns₁ hsb₁ ⊢
  generalize hH2 : s₂.heap.push { cls := .type "list", dict := none, data := .seq ([] : List Value).toArray } = H2 at hns₁ hsb₁ ⊢
  obtain ⟨D, hDe⟩ : ∃ D, D = s₂.heap.objs.size := ⟨_, rfl⟩
  obtain ⟨C, hCe⟩ : ∃ C, C = H2.objs.size := ⟨_, rfl⟩
  rw [← hDe]
  rw [← hCe] at hns₁ hsb₁ ⊢
  have hC : C = D + 1 := by rw [hCe, hDe, ← hH2, Heap.size_push]
  have hDC : D ≠ C := by omega
  have below : ∀ b, b < s₂.heap.objs.size → b ≠ C ∧ b ≠ D := fun b hb => by rw [← hDe] at hb; exact ⟨Nat.ne_of_lt (by rw [hC]; exact Nat.lt_succ_of_lt hb), Nat.ne_of_lt hb⟩
  have hDf : D ∉ fp := fun hm => (below D (hfp D hm)).2 rfl
  have hCf : C ∉ fp := fun hm => (below C (hfp C hm)).1 rfl
  have hIlt : I < s₂.heap.objs.size := hfp I (W.sub I (List.mem_singleton.mpr rfl))
  have old : ∀ b o, s₂.heap.get? b = some o → h₁.get? b = some o := fun b o e => hsb₁.extBut b o (below b (Heap.lt_size e)).1 (Heap.get?_push_of_some _ (hH2 ▸ Heap.get?_push_of_some _ e))
  have fresh₀ : ∀ a, s₂.heap.objs.size ≤ a → h₀.get? a = none := fun a ha => by
    cases e : h₀.get? a with
    | none => rfl
    | some o' => exact absurd (Heap.lt_size (F.keep a o' e)) (Nat.not_lt.mpr ha)
  have hacc : h₁.get? D = some (lst []) := hsb₁.extBut _ _ hDC (Heap.get?_push_of_some _ (by rw [← hH2, hDe]; exact Heap.get?_push_size _ rfl))
  have hD₀ : h₀.get? D = none := fresh₀ _ (hDe ▸ Nat.le_refl _)
  have hC₀ : h₀.get? C = none := fresh₀ _ (by rw [hC, hDe]; exact Nat.le_succ _)
  have hLlt : L < s₂.heap.objs.size := F.ns.lt
  have hDL : D ≠ L := Ne.symm (below L hLlt).2
  have hCL : C ≠ L := Ne.symm (below L hLlt).1
  have hCI : I ≠ C := (below I hIlt).1
  have hDI : I ≠ D := (below I hIlt).2
  have off₀ : Off3 I C D news := Off3.of fun p hp => ⟨off p hp, (below _ (Heap.lt_size (N p hp).1)).1, (below _ (Heap.lt_size (N p hp).1)).2⟩
  have hst₁ : St 0 h₁ := W.frame _ _ _ hst fun b _ o e => old b o e
  have loop : ∀ s₃ : Shared, s₃ = { s₂ with heap := h₁, toks := s₂.toks + ([] : List (Str × Value)).length } →
      codeAny (model prog w) A (.compLoop (.ListComp elt [⟨.Tuple [.Name x px, .Name x₂ px₂] tk tp, iter, [ct], 0⟩] scope pos) 0 (.ref I) (.ref D) (compEnvC scope cl C env)) (RR (.ref D) C) s₃ := by
    rintro s₃ rfl
    refine pt_loop (fun k s' => ∃ h' tk i ys m' nw, s' = { s₂ with heap := h', toks := tk } ∧ i ≤ its.size ∧ k = its.size + 1 - i ∧ ys.length ≤ i ∧ St i h' ∧ Fr h₀ L h' m ∧ h'.Ns C m' ∧ News h₀ L h' ((D, lst ys) :: nw) ∧ Off3 I C D nw ∧ S nw ∧ Inv i ys nw) ?_ (its.size + 1)
      ⟨h₁, _, 0, [], _, news, rfl, Nat.zero_le _, rfl, Nat.le_refl _, hst₁, F.keeps old, hns₁, fun p hp => ?_, off₀, hS, hI⟩
    · rintro k s' ⟨h', tk, i, ys, m', nw, rfl, hi, rfl, hyl, hst', F', hn', N', off', hS', hI'⟩
      have off3 := off'.mem
      have NB : ∀ h₂ : Heap, (∀ b o, b ∉ [I] → h'.get? b = some o → h₂.get? b = some o) → News h₀ L h₂ ((D, lst ys) :: nw) := fun h₂ hk₂ => news_but N' hk₂ fun p hp => by
        rcases List.mem_cons.mp hp with rfl | hp
        · exact Ne.symm hDI
        · exact (off3 p hp).1
      by_cases hlt : i < its.size
      · refine W.item i _ _ _ hlt hst' fun v h₂ tk₂ hPv hst₂ hk₂ => ?_
        obtain ⟨t, v₁, v₂, nt, rfl, hmt, R'⟩ := R i v ys nw hPv hI' hS'
        have N₂ := NB h₂ hk₂
        have ht : IsTup h₂ t #[v₁, v₂] := ⟨_, (N₂ _ (List.mem_cons_of_mem _ hmt)).1, rfl, nt, rfl⟩
        obtain ⟨lI, jI, hLi⟩ := hLI _ _ hst₂
        refine wpAny_letOwnedTupleGo_listiter hLi ?_
        refine assign_Tuple_tuple hh ht rfl rfl fun h₅ he => ?_
        have he' : ∀ b o, h₂.get? b = some o → h₅.get? b = some o := fun b o e => he b o (Nat.ne_of_lt (Heap.lt_size e)) e
        refine assignInOrder_cons (wpAny_assign_Name (wpAny_storeName_local (lookup_relabel_local hx) ((hn'.at' fun o e => hk₂ _ o (by simpa using Ne.symm hCI) e).at' fun o e => he' _ o e) (fun h₆ hn₆ hs₆ => ?_) (by simp [compEnvC, relabel, hkind])))
        refine assignInOrder_cons (wpAny_assign_Name (wpAny_storeName_local (lookup_relabel_local hx₂) hn₆ (fun h₃ hn₃ hs₃ => ?_) (by simp [compEnvC, relabel, hkind])))
        refine assignInOrder_nil ?_
        have old3 : ∀ b o, b ≠ C → h₂.get? b = some o → h₃.get? b = some o := fun b o hb e => hs₃.extBut b o hb (hs₆.extBut b o hb (he' b o e))
        have hst₃ : St (i + 1) h₃ := W.frame _ _ _ hst₂ fun b hb o e => old3 b o (fun q => hCf (by rw [← q]; exact hb)) e
        obtain ⟨oI, heI⟩ := hIo _ _ hst₃
        obtain ⟨oC, heC, hoC⟩ := ns_obj hn₃
        have F₃ : Fr h₀ L h₃ m := (((fr_but F' hk₂ hIL hI₀).keeps he').change hs₆ hCL hC₀).change hs₃ hCL hC₀
        have N₃ : News h₀ L h₃ ((I, oI) :: (C, oC) :: (D, lst ys) :: nw) := fun p hp => by
          rcases List.mem_cons.mp hp with rfl | hp
          · exact ⟨heI, Ne.symm hIL, hI₀⟩
          · rcases List.mem_cons.mp hp with rfl | hp
            · exact ⟨heC, hCL, hC₀⟩
            · have z := N₂ p hp
              refine ⟨old3 _ _ ?_ z.1, z.2⟩
              rcases List.mem_cons.mp hp with rfl | hp
              · exact hDC
              · exact (off3 p hp).2.1
        refine R' I oI C oC D _ h₃ _ _ _ _ hoC (by simp [hxx]) (by simp) F₃ N₃ (fun p hp => off3 p hp) (fun y h₄ tk₄ nw₄ all F₄ NA hsub off4 hS₄ I₄ => ?_) (fun h₅ tk₄ nw₄ all F₄ NA hsub off4 hS₄ I₄ => ?_)
        · have N₄ : News h₀ L h₄ ((I, oI) :: (C, oC) :: (D, lst ys) :: nw₄) := fun p hp => NA p (hsub p hp)
          have zD := (N₄ (D, lst ys) (.tail _ (.tail _ (.head _)))).1
          have N₄' : News h₀ L h₄ nw₄ := fun p hp => N₄ p (.tail _ (.tail _ (.tail _ hp)))
          have hst₄ : St (i + 1) h₄ := hSt _ _ _ _ _ hst₃ heI (N₄ (I, oI) (.head _)).1 F₄.keep N₄' hS₄
          refine append_at (hsz := by show ys.toArray.size ≤ sizeLine; rw [List.size_toArray]; exact Nat.le_trans (Nat.le_trans hyl hi) hsz) zD fun h₅ hs₅ hD₅ => ?_
          refine ⟨its.size + 1 - (i + 1), by omega, h₅, tk₄, i + 1, ys ++ [y], _, nw₄, rfl, hlt, rfl, by rw [List.length_append, List.length_singleton]; exact Nat.succ_le_succ hyl, W.frame _ _ _ hst₄ fun b hb o e => hs₅.extBut b o (fun q => hDf (q ▸ hb)) e, F₄.change hs₅ hDL hD₀,
            (hoC.ns (N₄ (C, oC) (.tail _ (.head _))).1).sameBut hs₅ (Ne.symm hDC), fun p hp => ?_, Off3.of off4, hS₄, I₄⟩
          rcases List.mem_cons.mp hp with rfl | hp
          · exact ⟨hD₅.trans (congrArg some (lst_snoc ys y)), hDL, hD₀⟩
          · exact ⟨hs₅.extBut _ _ (off4 p hp).2.2 (N₄' p hp).1, (N₄' p hp).2⟩
        · have N₄ : News h₀ L h₅ ((I, oI) :: (C, oC) :: (D, lst ys) :: nw₄) := fun p hp => NA p (hsub p hp)
          have N₄' : News h₀ L h₅ nw₄ := fun p hp => N₄ p (.tail _ (.tail _ (.tail _ hp)))
          have hst₄ : St (i + 1) h₅ := hSt _ _ _ _ _ hst₃ heI (N₄ (I, oI) (.head _)).1 F₄.keep N₄' hS₄
          exact ⟨its.size + 1 - (i + 1), by omega, h₅, tk₄, i + 1, ys, _, nw₄, rfl, hlt, rfl, Nat.le_succ_of_le hyl, hst₄, F₄, hoC.ns (N₄ (C, oC) (.tail _ (.head _))).1, fun p hp => N₄ p (.tail _ (.tail _ hp)), Off3.of off4, hS₄, I₄⟩
      · obtain rfl : i = its.size := Nat.le_antisymm hi (Nat.not_lt.mp hlt)
        refine W.done _ _ _ hst' fun h₂ tk₂ hk₂ => ?_
        exact hRR _ _ h₂ tk₂ _ ys nw (fr_but F' hk₂ hIL hI₀) (NB h₂ hk₂) off'.one (hn'.at' fun o e => hk₂ _ o (by simpa using Ne.symm hCI) e) hC₀ hCL (Ne.symm hDC) (fun p hp => (off3 p hp).2.1) hS' hI'
    · rcases List.mem_cons.mp hp with rfl | hp
      · exact ⟨hacc, hDL, hD₀⟩
      · exact ⟨old _ _ (N p hp).1, (N p hp).2⟩
  exact codeAny_compStart_list (loop _ rfl) (W.self 0 _ _ _ hst₁ (loop _ rfl))

/-- what the iterable's value is to be -/
def PTSrc (prog : Program) (w : World) (A : Around) (h₀ : Heap) (L : Addr) (m : Str → Option Value) (env : Env) (ct elt : Expr) (x x₂ : Str) (scope : Scope) (cl : List (Str × Addr)) (Q : Value → Shared → Prop) (xv : Value) (s₁ : Shared) : Prop :=
  ∃ (ax : Addr) (its : List Value) (k : Nat) (news : Led) (Inv : Nat → List Value → Led → Prop), xv = .ref ax ∧ A.handled = none ∧ Fr h₀ L s₁.heap m ∧ News h₀ L s₁.heap news ∧ (ax, listOf its.toArray k) ∈ news ∧ its.length ≤ sizeLine ∧ Inv 0 [] news ∧
    (∀ g, PTurn prog w A h₀ L m env ct elt x x₂ scope cl { s₁ with heap := g } (fun nw => (ax, listOf its.toArray k) ∈ nw) Inv its.toArray) ∧
    ∀ D ys nw h tk, Fr h₀ L h m → News h₀ L h ((D, lst ys) :: nw) → (∀ p ∈ nw, p.1 ≠ D) → (ax, listOf its.toArray k) ∈ nw → Inv its.length ys nw → Q (.ref D) { s₁ with heap := h, toks := tk }

theorem comp_pt {ct elt iter : Expr} {x x₂ : Str} {px px₂ tp : Pos} {tk} {scope : Scope} {cl : List (Str × Addr)} {pos : Pos} {Q : Value → Shared → Prop} (_F₀ : Fr h₀ L s.heap m)
    (hclos : closureFor scope env = pure cl) (hcell : ∀ y ∈ scope.names, y.2 ≠ .cell) (hkind : scope.kind = .function)
    (hnames : ∀ y ∈ scope.names, y.2 = .local → scope.names.lookup y.1 = some .local) (hx : scope.names.lookup x = some .local) (hx₂ : scope.names.lookup x₂ = some .local) (hxx : x ≠ x₂)
    (h : wpAny (model prog w) A (eval iter env) (PTSrc prog w A h₀ L m env ct elt x x₂ scope cl Q) E s)
    (hs : ∀ x, foldedSetIterable iter env x = pure x := by intro _; rfl) :
    wpAny (model prog w) A (eval (.ListComp elt [⟨.Tuple [.Name x px, .Name x₂ px₂] tk tp, iter, [ct], 0⟩] scope pos) env) Q E s := by
  rw [eval_ListComp]
  refine wpAny_comprehension_free (use := none) rfl hs hclos hkind hnames (wpAny_mono h (fun xv s₁ h₁ => ?_) fun _ _ e => e)
  obtain ⟨ax, its, k, news, Inv, rfl, hh, F, N, hm, hsz, hI, R, done⟩ := h₁
  have hl : s₁.heap.IsList ax its.toArray := ⟨_, (N _ hm).1, rfl, _, rfl⟩
  have hlt : ax < s₁.heap.objs.size := Heap.lt_size (N _ hm).1
  refine wpAny_pyIter_list hl ?_
  have up : ∀ b o, s₁.heap.get? b = some o → (s₁.heap.push { cls := .type "list_iterator", data := .fields #[.ref ax, .int 0 0] }).get? b = some o := fun b o e => Heap.get?_push_of_some _ e
  refine pt_block (its := its.toArray) (S := fun nw => (ax, listOf its.toArray k) ∈ nw) (Inv := Inv) (Walks.list hh s₁.heap.objs.size ax (Nat.ne_of_lt hlt) its.toArray) (by rw [List.size_toArray]; exact hsz) (fun i h st => by obtain ⟨o, e, _⟩ := st.1; exact ⟨o, e⟩) ?_ hcell hkind hx hx₂ hxx hh (fun i h st => ⟨_, _, st.1⟩)
    ⟨⟨_, Heap.get?_push_size _ rfl, rfl, rfl⟩, hl.push _⟩ (fun b hb => ?_) (F.keeps up) (N.grown up) (Nat.ne_of_lt F.ns.lt) (next_is_new F) (fun p hp => Nat.ne_of_lt (Heap.lt_size (N p hp).1)) hm hI (R _) ?_
  · rintro i h h' o nw ⟨⟨o', q, r⟩, _⟩ e e' _ N' hS
    rw [e] at q; cases q
    exact ⟨⟨o, e', r⟩, _, (N' _ hS).1, rfl, _, rfl⟩
  · show b < (s₁.heap.push _).objs.size
    rw [Heap.size_push]
    rcases List.mem_cons.mp hb with rfl | hb
    · exact Nat.lt_succ_self _
    · rw [List.mem_singleton.mp hb]; exact Nat.lt_succ_of_lt hlt
  · intro D C h tk m' ys news' F' N' o1 hn hC₀ hCL hCD offC hS fin
    have off1 : ∀ {l : Led}, Off1 D l → ∀ p ∈ l, p.1 ≠ D := by
      intro l
      induction l with
      | nil => intro _ p hp; cases hp
      | cons x l ih =>
        intro h p hp
        rcases List.mem_cons.mp hp with rfl | hp
        · exact h.1
        · exact ih h.2 p hp
    refine ⟨m', hn, fun h'' hs'' => done D ys news' h'' tk (F'.change hs'' hCL hC₀) (fun p hp => ?_) (off1 o1) hS (by rw [List.size_toArray] at fin; exact fin)⟩
    refine ⟨hs''.extBut _ _ ?_ (N' p hp).1, (N' p hp).2⟩
    rcases List.mem_cons.mp hp with rfl | hp
    · exact Ne.symm hCD
    · exact offC p hp
end
end Mine
end
section
set_option maxRecDepth 100000
open PySem PySem.W PyProof.Rows LCg PySem.Builtin PySem.Calls
set_option genSizeOf false
set_option genInjectivity false
namespace Mine
theorem prs_at {led : Led} : ∀ {vs : List Value} {l : List Pr} {i : Nat} {v : Value}, PrsIn led vs l → vs[i]? = some v → ∃ x, l[i]? = some x ∧ ∃ T t1 t2 c, v = .ref T ∧ (T, tupOf [.str x.key t1, .bytes x.b t2] c) ∈ led
  | [], [], _, _, _, h => by simp at h
  | v :: vs, x :: l, 0, _, ⟨a, _⟩, h => ⟨x, rfl, by cases h; exact a⟩
  | v :: vs, x :: l, i + 1, _, ⟨_, g⟩, h => by
    obtain ⟨y, e, r⟩ := prs_at g (i := i) (by simpa using h)
    exact ⟨y, by simpa using e, r⟩
  | [], _ :: _, _, _, g, _ => g.elim
  | _ :: _, [], _, _, g, _ => g.elim
/-- the values are pairs with a str ahead, in the ledger -/
def KVIn (nw : Led) : List Value → List (Str × Value) → Prop
  | [], [] => True
  | v :: vs, p :: ps => (∃ T t c, v = .ref T ∧ (T, tupOf [.str p.1 t, p.2] c) ∈ nw) ∧ KVIn nw vs ps
  | _, _ => False
theorem KVIn.mono {nw nw' : Led} (h : ∀ p ∈ nw, p ∈ nw') : ∀ {vs : List Value} {ps : List (Str × Value)}, KVIn nw vs ps → KVIn nw' vs ps
  | [], [], _ => trivial
  | _ :: _, _ :: _, ⟨⟨T, t, c, e, m⟩, g⟩ => ⟨⟨T, t, c, e, h _ m⟩, KVIn.mono h g⟩
  | [], _ :: _, g => g.elim
  | _ :: _, [], g => g.elim
theorem KVIn.append {nw : Led} : ∀ {vs ws : List Value} {ps qs : List (Str × Value)}, KVIn nw vs ps → KVIn nw ws qs → KVIn nw (vs ++ ws) (ps ++ qs)
  | [], _, [], _, _, h => h
  | _ :: _, _, _ :: _, _, ⟨a, g⟩, h => ⟨a, KVIn.append g h⟩
  | [], _, _ :: _, _, g, _ => g.elim
  | _ :: _, _, [], _, g, _ => g.elim
theorem KVIn.length {nw : Led} : ∀ {vs : List Value} {ps : List (Str × Value)}, KVIn nw vs ps → vs.length = ps.length
  | [], [], _ => rfl
  | _ :: _, _ :: _, ⟨_, g⟩ => by rw [List.length_cons, List.length_cons, KVIn.length g]
  | [], _ :: _, g => g.elim
  | _ :: _, [], g => g.elim
theorem KVIn.pairs {h₀ h : Heap} {L : Addr} {nw : Led} (N : News h₀ L h nw) : ∀ {vs : List Value} {ps : List (Str × Value)}, KVIn nw vs ps → ∀ bad, (∀ p ∈ nw, p.1 ∉ bad) → StrPairs h bad vs ps
  | [], [], _, _, _ => trivial
  | _ :: _, _ :: _, ⟨⟨T, t, c, e, m⟩, g⟩, bad, hb => ⟨⟨T, t, c, e, (N _ m).1, hb _ m⟩, KVIn.pairs N g bad hb⟩
  | [], _ :: _, g, _, _ => g.elim
  | _ :: _, [], g, _, _ => g.elim
/-- the pairs chosen of l, by their keys -/
structure Sel (c : Pr → Prop) (G : Pr → Value → Prop) (l : List Pr) (ps : List (Str × Value)) : Prop where
  of : ∀ p ∈ ps, ∃ x ∈ l, c x ∧ p.1 = x.key ∧ G x p.2
  on : ∀ x ∈ l, c x → ∃ p ∈ ps, p.1 = x.key
  len : ps.length ≤ l.length
theorem Sel.nil {c : Pr → Prop} {G : Pr → Value → Prop} : Sel c G [] [] := ⟨fun _ hp => (List.not_mem_nil hp).elim, fun _ hx => (List.not_mem_nil hx).elim, Nat.le_refl _⟩
theorem Sel.take {c : Pr → Prop} {G : Pr → Value → Prop} {l : List Pr} {ps : List (Str × Value)} {i : Nat} {x : Pr} (h : Sel c G (l.take i) ps) (hx : l[i]? = some x) (hc : c x) {v : Value} (hg : G x v) : Sel c G (l.take (i + 1)) (ps ++ [(x.key, v)]) := by
  have e : l.take (i + 1) = l.take i ++ [x] := by rw [List.take_add_one, hx]; rfl
  rw [e]
  refine ⟨fun p hp => ?_, fun y hy hcy => ?_, by rw [List.length_append, List.length_append]; exact Nat.add_le_add_right h.len _⟩
  · rcases List.mem_append.mp hp with hp | hp
    · obtain ⟨y, hy, r⟩ := h.of p hp
      exact ⟨y, List.mem_append_left _ hy, r⟩
    · rw [List.mem_singleton.mp hp]
      exact ⟨x, List.mem_append_right _ (.head _), hc, rfl, hg⟩
  · rcases List.mem_append.mp hy with hy | hy
    · obtain ⟨p, hp, r⟩ := h.on y hy hcy
      exact ⟨p, List.mem_append_left _ hp, r⟩
    · rw [List.mem_singleton.mp hy]
      exact ⟨_, List.mem_append_right _ (.head _), rfl⟩
theorem Sel.skip {c : Pr → Prop} {G : Pr → Value → Prop} {l : List Pr} {ps : List (Str × Value)} {i : Nat} {x : Pr} (h : Sel c G (l.take i) ps) (hx : l[i]? = some x) (hc : ¬ c x) : Sel c G (l.take (i + 1)) ps := by
  have e : l.take (i + 1) = l.take i ++ [x] := by rw [List.take_add_one, hx]; rfl
  rw [e]
  refine ⟨fun p hp => ?_, fun y hy hcy => ?_, by rw [List.length_append]; exact Nat.le_succ_of_le h.len⟩
  · obtain ⟨y, hy, r⟩ := h.of p hp
    exact ⟨y, List.mem_append_left _ hy, r⟩
  · rcases List.mem_append.mp hy with hy | hy
    · exact h.on y hy hcy
    · rw [List.mem_singleton.mp hy] at hcy
      exact absurd hcy hc
/-- what a dict made of pairs tells -/
theorem fold_va {K : Type} [DecidableEq K] : ∀ (ps acc : List (K × Value)) (k : K), (∀ v, valueAt (ps.foldl (fun a p => stored a p.1 p.2) acc) k = some v → (k, v) ∈ ps ∨ valueAt acc k = some v) ∧ (valueAt acc k ≠ none ∨ (∃ p ∈ ps, p.1 = k) → valueAt (ps.foldl (fun a p => stored a p.1 p.2) acc) k ≠ none)
  | [], acc, k => ⟨fun v h => .inr h, fun h => h.elim id fun ⟨p, hp, _⟩ => by cases hp⟩
  | q :: ps, acc, k => by
    obtain ⟨a, b⟩ := fold_va ps (stored acc q.1 q.2) k
    refine ⟨fun v h => ?_, fun h => ?_⟩
    · rcases a v h with h | h
      · exact .inl (.tail _ h)
      · rw [va_stored] at h
        by_cases hk : k = q.1
        · rw [if_pos hk] at h
          cases h
          rw [hk]
          exact .inl (.head _)
        · rw [if_neg hk] at h
          exact .inr h
    · refine b ?_
      rw [va_stored]
      by_cases hk : k = q.1
      · rw [if_pos hk]
        exact .inl fun q => nomatch q
      · rw [if_neg hk]
        rcases h with h | ⟨p, hp, e⟩
        · exact .inl h
        · rcases List.mem_cons.mp hp with rfl | hp
          · exact absurd e.symm hk
          · exact .inr ⟨p, hp, e⟩
theorem fold_keys {K : Type} [DecidableEq K] : ∀ (ps acc : List (K × Value)) (y : K × Value), y ∈ ps.foldl (fun a p => stored a p.1 p.2) acc → (∃ p ∈ ps, y.1 = p.1) ∨ ∃ z ∈ acc, y.1 = z.1
  | [], acc, y, h => .inr ⟨y, h, rfl⟩
  | q :: ps, acc, y, h => by
    rcases fold_keys ps _ y h with ⟨p, hp, e⟩ | ⟨z, hz, e⟩
    · exact .inl ⟨p, .tail _ hp, e⟩
    · rcases stored_keys hz with e2 | ⟨z2, hz2, e2⟩
      · exact .inl ⟨q, .head _, e.trans e2⟩
      · exact .inr ⟨z2, hz2, e.trans e2⟩
abbrev dictOfP (ps : List (Str × Value)) : List (Str × Value) := ps.foldl (fun a p => stored a p.1 p.2) []
theorem sel_some {c : Pr → Prop} {G : Pr → Value → Prop} {l : List Pr} {ps : List (Str × Value)} (h : Sel c G l ps) {k : Str} {v : Value} (hv : valueAt (dictOfP ps) k = some v) : ∃ x ∈ l, c x ∧ k = x.key ∧ G x v := by
  rcases (fold_va ps [] k).1 v hv with h1 | h1
  · obtain ⟨x, hx, hc, e, hg⟩ := h.of _ h1
    exact ⟨x, hx, hc, e, hg⟩
  · cases h1
theorem sel_ne {c : Pr → Prop} {G : Pr → Value → Prop} {l : List Pr} {ps : List (Str × Value)} (h : Sel c G l ps) {x : Pr} (hx : x ∈ l) (hc : c x) : valueAt (dictOfP ps) x.key ≠ none := (fold_va ps [] x.key).2 (.inr (h.on x hx hc))
theorem key_inj3 : ∀ n : Fin 3, ∀ k : Fin 4, ∀ e : Bool, ∀ n' : Fin 3, ∀ k' : Fin 4, ∀ e' : Bool, keyS n k e = keyS n' k' e' → n = n' ∧ k = k' ∧ e = e' := by decide +kernel
theorem key_nm : ∀ n : Fin 3, ∀ n' : Fin 3, ∀ k' : Fin 4, ∀ e' : Bool, nm n ≠ keyS n' k' e' := by decide +kernel
theorem key_slot {x y : Pr} (hx : x.ok) (hy : y.ok) (h : x.key = y.key) : x.slot = y.slot := by
  unfold Pr.key at h
  unfold Pr.slot
  obtain ⟨hx1, hx2⟩ := hx
  obtain ⟨hy1, hy2⟩ := hy
  cases hpx : x.p with
  | none =>
    cases hpy : y.p with
    | none => rw [hpx, hpy] at h; rw [nm_inj hx1 hy1 h]
    | some q =>
      rw [hpx, hpy] at h
      exact absurd h (key_nm ⟨_, hx1⟩ ⟨_, hy1⟩ ⟨_, hy2 q.1 q.2 hpy⟩ q.2.1)
  | some q =>
    cases hpy : y.p with
    | none =>
      rw [hpx, hpy] at h
      exact absurd h.symm (key_nm ⟨_, hy1⟩ ⟨_, hx1⟩ ⟨_, hx2 q.1 q.2 hpx⟩ q.2.1)
    | some r =>
      rw [hpx, hpy] at h
      obtain ⟨a, b, _⟩ := key_inj3 ⟨_, hx1⟩ ⟨_, hx2 q.1 q.2 hpx⟩ q.2.1 ⟨_, hy1⟩ ⟨_, hy2 r.1 r.2 hpy⟩ r.2.1 h
      have a' : x.n = y.n := congrArg Fin.val a
      have b' : q.1 = r.1 := congrArg Fin.val b
      rw [a']
      show (y.n, some q.1) = (y.n, some r.1)
      rw [b']
theorem slot_uniq : ∀ {l : List Pr} {x y : Pr}, (l.map Pr.slot).Nodup → x ∈ l → y ∈ l → x.slot = y.slot → x = y
  | [], _, _, _, h, _, _ => by cases h
  | z :: l, x, y, hn, hx, hy, e => by
    rw [List.map_cons, List.nodup_cons] at hn
    rcases List.mem_cons.mp hx with hx | hx <;> rcases List.mem_cons.mp hy with hy | hy
    · rw [hx, hy]
    · exact absurd (List.mem_map.mpr ⟨y, hy, by rw [← e, hx]⟩) hn.1
    · exact absurd (List.mem_map.mpr ⟨x, hx, by rw [e, hy]⟩) hn.1
    · exact slot_uniq hn.2 hx hy e
theorem look_mem {l : List Pr} {s : Nat × Option Nat} {x : Pr} (h : look l s = some x) : x ∈ l := List.mem_of_find?_eq_some h
theorem look_of {l : List Pr} {x : Pr} (hn : (l.map Pr.slot).Nodup) (hx : x ∈ l) : look l x.slot = some x := by
  cases h : look l x.slot with
  | none =>
    unfold look at h
    rw [List.find?_eq_none] at h
    exact absurd (by simp) (h x hx)
  | some y => rw [slot_uniq hn (look_mem h) hx (look_slot h)]
/-- the pairs, as the law draws them -/
structure PrsOk (l : List Pr) : Prop where
  ok : ∀ x ∈ l, x.ok ∧ x.late = false
  nd : (l.map Pr.slot).Nodup
/-- the parts of the name n, by key -/
theorem held_at {l : List Pr} (H : PrsOk l) {n k : Nat} {enc : Bool} (hn : n < 3) (hk : k < 4) {ps : List (Str × Value)} (h : Sel (fun x => x.n = n ∧ x.p ≠ none) (fun x v => ∃ t, v = .bytes x.b t) l ps) :
    match part l n k with
    | some pt => if pt.1 = enc then ∃ t, valueAt (dictOfP ps) (keyS n k enc) = some (.bytes (ptB k pt) t) else valueAt (dictOfP ps) (keyS n k enc) = none
    | none => valueAt (dictOfP ps) (keyS n k enc) = none := by
  have hex : ∀ v, valueAt (dictOfP ps) (keyS n k enc) = some v → ∃ x ∈ l, ∃ pt, x.n = n ∧ x.p = some (k, pt) ∧ pt.1 = enc ∧ ∃ t, v = .bytes x.b t := by
    intro v hv
    obtain ⟨x, hx, ⟨hxn, hxp⟩, e, hg⟩ := sel_some h hv
    cases hp : x.p with
    | none => exact absurd hp hxp
    | some q =>
      have hq := (H.ok x hx).1.2 q.1 q.2 hp
      have e' : keyS n k enc = keyS x.n q.1 q.2.1 := by rw [e]; unfold Pr.key; rw [hp]
      obtain ⟨_, b, c⟩ := key_inj3 ⟨n, hn⟩ ⟨k, hk⟩ enc ⟨_, (H.ok x hx).1.1⟩ ⟨_, hq⟩ q.2.1 e'
      have b' : k = q.1 := congrArg Fin.val b
      exact ⟨x, hx, q.2, hxn, by rw [hp, b'], c.symm, hg⟩
  have hpart : ∀ x ∈ l, ∀ pt, x.n = n → x.p = some (k, pt) → part l n k = some pt := by
    intro x hx pt e1 e2
    have hs : x.slot = (n, some k) := by unfold Pr.slot; rw [e1, e2]; rfl
    have hl := look_of H.nd hx
    unfold part
    rw [← hs, hl]
    show x.p.map Prod.snd = _
    rw [e2]; rfl
  have hnone : (∀ pt, part l n k = some pt → pt.1 ≠ enc) → valueAt (dictOfP ps) (keyS n k enc) = none := by
    intro hne
    cases hv : valueAt (dictOfP ps) (keyS n k enc) with
    | none => rfl
    | some v =>
      obtain ⟨x, hx, pt, e1, e2, e3, _⟩ := hex v hv
      exact absurd e3 (hne pt (hpart x hx pt e1 e2))
  cases hp : part l n k with
  | none => exact hnone fun pt e => by rw [hp] at e; cases e
  | some pt =>
    show if pt.1 = enc then _ else _
    by_cases hen : pt.1 = enc
    · rw [if_pos hen]
      have hl : ∃ x, look l (n, some k) = some x ∧ x.p.map Prod.snd = some pt := by
        unfold part at hp
        cases hl : look l (n, some k) with
        | none => rw [hl] at hp; cases hp
        | some x => rw [hl] at hp; exact ⟨x, rfl, hp⟩
      obtain ⟨x, hl, hxp⟩ := hl
      have hx := look_mem hl
      have hs := look_slot hl
      obtain ⟨q, hq⟩ : ∃ q, x.p = some q := by
        cases hq : x.p with
        | none => rw [hq] at hxp; cases hxp
        | some q => exact ⟨q, rfl⟩
      have e1 : x.n = n := congrArg Prod.fst hs
      have e2 : x.p.map Prod.fst = some k := congrArg Prod.snd hs
      rw [hq] at hxp e2
      have e3 : q.2 = pt := by simpa using hxp
      have e4 : q.1 = k := by simpa using e2
      have hkey : x.key = keyS n k enc := by unfold Pr.key; rw [hq]; show keyS x.n q.1 q.2.1 = _; rw [e1, e4, e3, hen]
      have hne := sel_ne h hx ⟨e1, by rw [hq]; exact fun z => nomatch z⟩
      rw [hkey] at hne
      cases hv : valueAt (dictOfP ps) (keyS n k enc) with
      | none => exact absurd hv hne
      | some v =>
        obtain ⟨y, hy, pt', f1, f2, f3, t, f4⟩ := hex v hv
        have hp' := hpart y hy pt' f1 f2
        rw [hp] at hp'
        cases hp'
        refine ⟨t, ?_⟩
        rw [f4]
        have hb : y.b = ptB k pt := by
          unfold Pr.b
          rw [(H.ok y hy).2, f2]
          rfl
        rw [hb]
    · rw [if_neg hen]
      exact hnone fun pt' e => by rw [hp] at e; cases e; exact hen
/-- what stands at a name ahead of its parts -/
def Init (l : List Pr) (kd : List (Str × Value)) (n : Nat) : Prop := (look l (n, none) = none ∧ valueAt kd (nm n) = none) ∨ (look l (n, none) ≠ none ∧ ∃ t, valueAt kd (nm n) = some (.str (Str.ofString "plain") t))
theorem plain_key {l : List Pr} {n : Nat} (H : PrsOk l) (hn : n < 3) {x : Pr} (hx : x ∈ l) (e : nm n = x.key) : x.slot = (n, none) := by
  have hox : Pr.ok ⟨n, none, false⟩ := ⟨hn, fun _ _ q => nomatch q⟩
  exact (key_slot (x := ⟨n, none, false⟩) hox (H.ok x hx).1 e).symm
theorem init_at {l : List Pr} (H : PrsOk l) {n : Nat} (hn : n < 3) {ps : List (Str × Value)} (h : Sel (fun x => x.p = none) (fun _ v => ∃ t, v = .str (Str.ofString "plain") t) l ps) : Init l (dictOfP ps) n := by
  cases hl : look l (n, none) with
  | none =>
    refine .inl ⟨hl, ?_⟩
    cases hv : valueAt (dictOfP ps) (nm n) with
    | none => rfl
    | some v =>
      obtain ⟨x, hx, hc, e, _⟩ := sel_some h hv
      have := look_of H.nd hx
      rw [plain_key H hn hx e, hl] at this
      cases this
  | some x =>
    refine .inr ⟨(by rw [hl]; exact fun q => nomatch q), ?_⟩
    have hx := look_mem hl
    have hs := look_slot hl
    have e1 : x.n = n := congrArg Prod.fst hs
    have e2 : x.p.map Prod.fst = none := congrArg Prod.snd hs
    have e3 : x.p = none := by
      cases hp : x.p with
      | none => rfl
      | some q => rw [hp] at e2; cases e2
    have hk : x.key = nm n := by unfold Pr.key; rw [e3, e1]
    have hne := sel_ne h hx e3
    rw [hk] at hne
    cases hv : valueAt (dictOfP ps) (nm n) with
    | none => exact absurd hv hne
    | some v =>
      obtain ⟨_, _, _, _, t, e⟩ := sel_some h hv
      exact ⟨t, by rw [e]⟩
theorem init_keys {l : List Pr} (H : PrsOk l) {ps : List (Str × Value)} (h : Sel (fun x => x.p = none) (fun _ v => ∃ t, v = .str (Str.ofString "plain") t) l ps) : ∀ y ∈ dictOfP ps, ∃ n, n < 3 ∧ y.1 = nm n := by
  intro y hy
  rcases fold_keys ps [] y hy with ⟨p, hp, e⟩ | ⟨z, hz, _⟩
  · obtain ⟨x, hx, hc, e2, _⟩ := h.of p hp
    exact ⟨x.n, (H.ok x hx).1.1, by rw [e, e2]; unfold Pr.key; rw [hc]⟩
  · cases hz
/-- the figures, and the four behind them -/
def dgx : Nat → Str
  | 0 => dig 0
  | 1 => dig 1
  | 2 => dig 2
  | 3 => dig 3
  | _ => Str.ofString "4"
theorem dgx_len (i : Nat) : (dgx i).length ≤ 1 := by
  match i with
  | 0 => decide +kernel
  | 1 => decide +kernel
  | 2 => decide +kernel
  | 3 => decide +kernel
  | n + 4 => exact (by decide +kernel : (dgx 4).length ≤ 1)
theorem str_dgx {prog : Program} {w : World} {A : Around} {E : Value → Shared → Prop} {s : Shared} {j : Nat} {t : Tok} {Q : Value → Shared → Prop} (h4 : j ≤ 4) (h : ∀ t', Q (.str (dgx j) t') { s with toks := s.toks + 1 }) : wpAny (model prog w) A (call (.type "str") [.int (j : Int) t]) Q E s := by
  have hj : j = 0 ∨ j = 1 ∨ j = 2 ∨ j = 3 ∨ j = 4 := by omega
  refine P.str_of_int (by rcases hj with rfl | rfl | rfl | rfl | rfl <;> decide +kernel) ?_
  have e : Str.ofString (toString (j : Int)) = dgx j := by rcases hj with rfl | rfl | rfl | rfl | rfl <;> decide +kernel
  have h9 := h s.toks
  rw [← e] at h9
  exact h9
def keyX (n k : Nat) (enc : Bool) : Str := if enc then nm n ++ Str.ofString "*" ++ dgx k ++ Str.ofString "*" else nm n ++ Str.ofString "*" ++ dgx k
theorem keyX_S : ∀ n : Fin 3, ∀ k : Fin 4, ∀ e : Bool, keyX n k e = keyS n k e := by decide +kernel
theorem keyX_4 : ∀ n : Fin 3, ∀ e : Bool, ∀ n' : Fin 3, ∀ k' : Fin 4, ∀ e' : Bool, keyX n 4 e ≠ keyS n' k' e' := by decide +kernel
theorem part_4 {l : List Pr} (H : PrsOk l) (n : Nat) {k : Nat} (hk : 4 ≤ k) : part l n k = none := by
  rw [part_none]
  cases hl : look l (n, some k) with
  | none => rfl
  | some x =>
    have hs := look_slot hl
    have e2 : x.p.map Prod.fst = some k := congrArg Prod.snd hs
    cases hp : x.p with
    | none => rw [hp] at e2; cases e2
    | some q =>
      rw [hp] at e2
      have e3 : q.1 = k := by simpa using e2
      have := (H.ok x (look_mem hl)).1.2 q.1 q.2 hp
      omega
theorem held_x {l : List Pr} (H : PrsOk l) {n k : Nat} {enc : Bool} (hn : n < 3) (hk : k ≤ 4) {ps : List (Str × Value)} (h : Sel (fun x => x.n = n ∧ x.p ≠ none) (fun x v => ∃ t, v = .bytes x.b t) l ps) :
    match part l n k with
    | some pt => if pt.1 = enc then ∃ t, valueAt (dictOfP ps) (keyX n k enc) = some (.bytes (ptB k pt) t) else valueAt (dictOfP ps) (keyX n k enc) = none
    | none => valueAt (dictOfP ps) (keyX n k enc) = none := by
  by_cases h4 : k < 4
  · rw [keyX_S ⟨n, hn⟩ ⟨k, h4⟩ enc]
    exact held_at H hn h4 h
  · have hk4 : k = 4 := by omega
    subst hk4
    rw [part_4 H n (Nat.le_refl _)]
    show _ = none
    cases hv : valueAt (dictOfP ps) (keyX n 4 enc) with
    | none => rfl
    | some v =>
      obtain ⟨x, hx, ⟨hxn, hxp⟩, e, _⟩ := sel_some h hv
      cases hp : x.p with
      | none => exact absurd hp hxp
      | some q =>
        have e' : keyX n 4 enc = keyS x.n q.1 q.2.1 := by rw [e]; unfold Pr.key; rw [hp]
        exact absurd e' (keyX_4 ⟨n, hn⟩ enc ⟨_, (H.ok x hx).1.1⟩ ⟨_, (H.ok x hx).1.2 q.1 q.2 hp⟩ q.2.1)
/-- what is due, as far as the name i and its part k -/
structure DueAt (w : World) (l : List Pr) (i k : Nat) (od : Obj) (kd : List (Str × Value)) : Prop where
  dk : od.IsDictOf (PySem.strKind PRG w) kd
  keys : ∀ x ∈ kd, ∃ n, n < 3 ∧ x.1 = nm n
  old : ∀ n, n < i → ∃ x, Tx l n x ∧ At3 kd n x
  new : ∀ n, i < n → n < 3 → Init l kd n
  cur0 : k = 0 → i < 3 → Init l kd i
  cur : 0 < k → ∃ t, valueAt kd (nm i) = some (.str (textOf (KBw.bInts (catD (part l i) k))) t)
  runs : ∀ j, j < k → part l i j ≠ none
theorem DueAt.len {w : World} {l : List Pr} {i k : Nat} {od : Obj} {kd : List (Str × Value)} (h : DueAt w l i k od kd) : kd.length ≤ 3 := by
  have := nodup_le (kd.map (·.1)) [nm 0, nm 1, nm 2] (dict_nodup h.dk) fun x hx => by
    obtain ⟨y, hy, rfl⟩ := List.mem_map.mp hx
    obtain ⟨n, hn, e⟩ := h.keys y hy
    rw [e]
    match n, hn with
    | 0, _ => exact .head _
    | 1, _ => exact .tail _ (.head _)
    | 2, _ => exact .tail _ (.tail _ (.head _))
  rwa [List.length_map] at this
theorem DueAt.set {w : World} {l : List Pr} {i k : Nat} {od od' : Obj} {kd : List (Str × Value)} {t : Tok} (h : DueAt w l i k od kd) (hi : i < 3) (hp : part l i k ≠ none) (hd : od'.IsDictOf (PySem.strKind PRG w) (stored kd (nm i) (.str (textOf (KBw.bInts (catD (part l i) (k + 1)))) t))) :
    DueAt w l i (k + 1) od' (stored kd (nm i) (.str (textOf (KBw.bInts (catD (part l i) (k + 1)))) t)) where
  dk := hd
  keys := fun y hy => by
    rcases stored_keys hy with e | ⟨z, hz, e⟩
    · exact ⟨i, hi, e⟩
    · obtain ⟨n, a, b⟩ := h.keys z hz
      exact ⟨n, a, e.trans b⟩
  old := fun n hn => by
    obtain ⟨x, a, b⟩ := h.old n hn
    refine ⟨x, a, ?_⟩
    have hne : ¬ nm n = nm i := fun q => by have := nm_inj (by omega) hi q; omega
    cases x with
    | none => show valueAt (stored kd (nm i) _) (nm n) = none; rw [va_stored, if_neg hne]; exact b
    | some tx => obtain ⟨t', b⟩ := b; exact ⟨t', by rw [va_stored, if_neg hne]; exact b⟩
  new := fun n hn h3 => by
    have hne : ¬ nm n = nm i := fun q => by have := nm_inj h3 hi q; omega
    unfold Init
    rw [va_stored, if_neg hne]
    exact h.new n hn h3
  cur0 := fun q => by omega
  cur := fun _ => ⟨t, by rw [va_stored, if_pos rfl]⟩
  runs := fun j hj => by
    by_cases e : j = k
    · rw [e]; exact hp
    · exact h.runs j (by omega)
theorem DueAt.step {w : World} {l : List Pr} {i k : Nat} {od : Obj} {kd : List (Str × Value)} (h : DueAt w l i k od kd) (hi : i < 3) (hp : part l i k = none) : DueAt w l (i + 1) 0 od kd where
  dk := h.dk
  keys := h.keys
  old := fun n hn => by
    by_cases e : n = i
    · subst e
      cases k with
      | zero =>
        rcases h.cur0 rfl hi with ⟨a, b⟩ | ⟨a, t, b⟩
        · exact ⟨none, .inr (.inr ⟨hp, a, rfl⟩), b⟩
        · exact ⟨some _, .inr (.inl ⟨hp, a, rfl⟩), t, b⟩
      | succ k =>
        obtain ⟨t, b⟩ := h.cur (Nat.succ_pos _)
        exact ⟨some _, .inl ⟨h.runs 0 (Nat.succ_pos _), k + 1, ⟨h.runs, hp⟩, rfl⟩, t, b⟩
    · exact h.old n (by omega)
  new := fun n hn h3 => h.new n (by omega) h3
  cur0 := fun _ h3 => h.new (i + 1) (by omega) h3
  cur := fun q => absurd q (Nat.lt_irrefl 0)
  runs := fun j hj => absurd hj (Nat.not_lt_zero j)
theorem due_start {w : World} {l : List Pr} (H : PrsOk l) {ps : List (Str × Value)} {od : Obj} (h : Sel (fun x => x.p = none) (fun _ v => ∃ t, v = .str (Str.ofString "plain") t) l ps) (hd : od.IsDictOf (PySem.strKind PRG w) (dictOfP ps)) : DueAt w l 0 0 od (dictOfP ps) where
  dk := hd
  keys := init_keys H h
  old := fun n hn => absurd hn (Nat.not_lt_zero n)
  new := fun n _ h3 => init_at H h3 h
  cur0 := fun _ h3 => init_at H h3 h
  cur := fun q => absurd q (Nat.lt_irrefl 0)
  runs := fun j hj => absurd hj (Nat.not_lt_zero j)
/-- the last piece at the signs ' -/
def cutB (k : Nat) (p : Pt) : List (Array UInt8) := if p.1 = true ∧ k = 0 then [csetB p.2.1, midB p.2.1, wordB p.2.2] else [wordB p.2.2]
theorem star_nm : ∀ n : Fin 3, (Str.occurrences (nm n) (Str.ofString "*") 0 (nm n).length 1).isEmpty = true := by decide +kernel
theorem star_keyS : ∀ n : Fin 3, ∀ k : Fin 4, ∀ e : Bool, (Str.occurrences (keyS n k e) (Str.ofString "*") 0 (keyS n k e).length 1).isEmpty = false := by decide +kernel
theorem star_key {x : Pr} (hx : x.ok) : (Str.occurrences x.key (Str.ofString "*") 0 x.key.length 1).isEmpty = x.p.isNone := by
  unfold Pr.key
  cases hp : x.p with
  | none => exact star_nm ⟨_, hx.1⟩
  | some q => exact star_keyS ⟨_, hx.1⟩ ⟨_, hx.2 q.1 q.2 hp⟩ q.2.1
theorem len_nm : ∀ n : Fin 3, (nm n).length ≤ 8 := by decide +kernel
theorem len_keyS : ∀ n : Fin 3, ∀ k : Fin 4, ∀ e : Bool, (keyS n k e).length ≤ 8 := by decide +kernel
theorem key_len {x : Pr} (hx : x.ok) : x.key.length ≤ 8 := by
  unfold Pr.key
  cases hp : x.p with
  | none => exact len_nm ⟨_, hx.1⟩
  | some q => exact len_keyS ⟨_, hx.1⟩ ⟨_, hx.2 q.1 q.2 hp⟩ q.2.1
theorem slice_nm : ∀ i : Fin 3, ∀ n : Fin 3, (Txt.slice (nm n) none (some (((nm i).length : Int) + 1)) == nm i ++ Str.ofString "*") = false := by decide +kernel
theorem slice_keyS : ∀ i : Fin 3, ∀ n : Fin 3, ∀ k : Fin 4, ∀ e : Bool, (Txt.slice (keyS n k e) none (some (((nm i).length : Int) + 1)) == nm i ++ Str.ofString "*") = decide (n = i) := by decide +kernel
theorem slice_key {i : Nat} (hi : i < 3) {x : Pr} (hx : x.ok) : (Txt.slice x.key none (some (((nm i).length : Int) + 1)) == nm i ++ Str.ofString "*") = true ↔ (x.n = i ∧ x.p ≠ none) := by
  cases hp : x.p with
  | none =>
    have e : x.key = nm x.n := by unfold Pr.key; rw [hp]
    rw [e, slice_nm ⟨i, hi⟩ ⟨_, hx.1⟩]
    exact ⟨fun q => Bool.noConfusion q, fun q => absurd rfl q.2⟩
  | some q =>
    have e : x.key = keyS x.n q.1 q.2.1 := by unfold Pr.key; rw [hp]
    rw [e, slice_keyS ⟨i, hi⟩ ⟨_, hx.1⟩ ⟨_, hx.2 q.1 q.2 hp⟩ q.2.1, decide_eq_true_eq]
    exact ⟨fun h => ⟨congrArg Fin.val h, (fun z => nomatch z)⟩, fun h => Fin.ext h.1⟩
theorem textOf_app (a b : List Int) : textOf (a ++ b) = textOf a ++ textOf b := by
  unfold textOf
  refine PySem.Str.ext' ?_
  rw [PySem.Str.cps_append]
  simp
theorem textOf_len (ks : List Int) : (textOf ks).length = ks.length := by
  show ((ks.map Int.toNat).toArray).size = _
  simp
theorem text_succ {part : Nat → Option Pt} {k : Nat} {p : Pt} (h : part k = some p) : textOf (KBw.bInts (catD part (k + 1))) = textOf (KBw.bInts (catD part k)) ++ textOf (KBw.bInts (ptD p)) := by
  rw [catD_succ h, ints_append, textOf_app]
theorem text_zero (part : Nat → Option Pt) : textOf (KBw.bInts (catD part 0)) = Str.ofString "" := by
  show textOf (KBw.bInts #[]) = _
  decide +kernel
theorem split0 (e j : Nat) : (if (splitQ (leadB e ++ wordB j) #[39] ((leadB e ++ wordB j).size + 1)).isEmpty = true then [leadB e ++ wordB j] else Bytes.between (leadB e ++ wordB j) 1 (splitQ (leadB e ++ wordB j) #[39] ((leadB e ++ wordB j).size + 1))) = [csetB e, midB e, wordB j] := by
  have h : ∀ e : Fin 2, ∀ j : Fin 4, (if (splitQ (leadB e ++ wordB j) #[39] ((leadB e ++ wordB j).size + 1)).isEmpty = true then [leadB e ++ wordB j] else Bytes.between (leadB e ++ wordB j) 1 (splitQ (leadB e ++ wordB j) #[39] ((leadB e ++ wordB j).size + 1))) = [csetB e, midB e, wordB j] := by decide +kernel
  have he : ∃ e' : Fin 2, leadB e = leadB e' ∧ csetB e = csetB e' ∧ midB e = midB e' := by
    cases e with
    | zero => exact ⟨0, rfl, rfl, rfl⟩
    | succ e => exact ⟨1, rfl, rfl, rfl⟩
  have hj : ∃ j' : Fin 4, wordB j = wordB j' := by
    match j with
    | 0 => exact ⟨0, rfl⟩
    | 1 => exact ⟨1, rfl⟩
    | 2 => exact ⟨2, rfl⟩
    | n + 3 => exact ⟨3, rfl⟩
  obtain ⟨e', h1, h2, h3⟩ := he
  obtain ⟨j', h4⟩ := hj
  rw [h1, h2, h3, h4]
  exact h e' j'
theorem split1 (j : Nat) : (if (splitQ (wordB j) #[39] ((wordB j).size + 1)).isEmpty = true then [wordB j] else Bytes.between (wordB j) 1 (splitQ (wordB j) #[39] ((wordB j).size + 1))) = [wordB j] := by
  have h : ∀ j : Fin 4, (if (splitQ (wordB j) #[39] ((wordB j).size + 1)).isEmpty = true then [wordB j] else Bytes.between (wordB j) 1 (splitQ (wordB j) #[39] ((wordB j).size + 1))) = [wordB j] := by decide +kernel
  match j with
  | 0 => exact h 0
  | 1 => exact h 1
  | 2 => exact h 2
  | n + 3 => exact h 3
theorem parts1 {vs : List Value} {a : Array UInt8} (h : PartsAre vs [a]) : ∃ t1, vs = [.bytes a t1] := by
  obtain ⟨h1, h2⟩ := h
  match vs, h1 with
  | [x], _ =>
    obtain ⟨t1, e1⟩ := h2 0 a rfl
    simp at e1
    exact ⟨t1, by rw [e1]⟩
theorem word_41 (j : Nat) : ((wordB j).toList == (#[37, 52, 49] : Array UInt8).toList) = true → textOf (KBw.bInts (decB j)) = Str.ofString "A" := by
  match j with
  | 0 => exact fun h => absurd h (by decide +kernel)
  | 1 => exact fun _ => by decide +kernel
  | 2 => exact fun h => absurd h (by decide +kernel)
  | n + 3 => exact fun h => absurd (show ((wordB 3).toList == (#[37, 52, 49] : Array UInt8).toList) = true from h) (by decide +kernel)
theorem word_not (j : Nat) : ((wordB j).toList == (#[37, 52, 49] : Array UInt8).toList) = false → decB j = wordB j := by
  match j with
  | 0 => exact fun _ => rfl
  | 1 => exact fun h => absurd h (by decide +kernel)
  | 2 => exact fun _ => rfl
  | n + 3 => exact fun _ => rfl
theorem word_size1 (j : Nat) : ∀ p ∈ [wordB j], p.size ≤ PySem.sizeLine := by
  intro p hp
  rw [List.mem_singleton.mp hp, sizeLine_eq]
  have := word_size j
  omega
/-- between two turns of a comprehension over the pairs -/
structure CInv (base : Led) (l : List Pr) (c : Pr → Prop) (G : Pr → Value → Prop) (i : Nat) (ys : List Value) (nw : Led) : Prop where
  sub : ∀ p ∈ base, p ∈ nw
  ex : ∃ ps, KVIn nw ys ps ∧ Sel c G (l.take i) ps
theorem CInv.start {base : Led} {l : List Pr} {c : Pr → Prop} {G : Pr → Value → Prop} : CInv base l c G 0 [] base := ⟨sub_refl, [], trivial, Sel.nil⟩
theorem CInv.take {base : Led} {l : List Pr} {c : Pr → Prop} {G : Pr → Value → Prop} {i : Nat} {ys : List Value} {nw : Led} (h : CInv base l c G i ys nw) {x : Pr} (hx : l[i]? = some x) (hc : c x) {D : Addr} {o : Obj} {v : Value} (hv : G x v) (ho : ∃ t cc, o = tupOf [.str x.key t, v] cc) : CInv base l c G (i + 1) (ys ++ [.ref D]) ((D, o) :: nw) := by
  obtain ⟨hs, ps, hk, hp⟩ := h
  obtain ⟨t, cc, rfl⟩ := ho
  exact ⟨sub_skip hs, ps ++ [(x.key, v)], KVIn.append (hk.mono fun p hp => .tail _ hp) ⟨⟨D, t, cc, rfl, .head _⟩, trivial⟩, hp.take hx hc hv⟩
theorem CInv.skip {base : Led} {l : List Pr} {c : Pr → Prop} {G : Pr → Value → Prop} {i : Nat} {ys : List Value} {nw : Led} (h : CInv base l c G i ys nw) {x : Pr} (hx : l[i]? = some x) (hc : ¬ c x) : CInv base l c G (i + 1) ys nw := by
  obtain ⟨hs, ps, hk, hp⟩ := h
  exact ⟨hs, ps, hk, hp.skip hx hc⟩
section
variable {prog : Program} {w : World} {A : Around} {E : Value → Shared → Prop} {s : Shared} {h₀ : Heap} {L : Addr} {m : Str → Option Value} {env : Env}
/-- a turn of a comprehension over the pairs -/
def PrTurn (prog : Program) (w : World) (A : Around) (h₀ : Heap) (L : Addr) (m : Str → Option Value) (env : Env) (ct elt : Expr) (x x₂ : Str) (scope : Scope) (cl : List (Str × Addr)) (s : Shared) (base : Led) (l : List Pr) (c : Pr → Prop) (G : Pr → Value → Prop) (S : Led → Prop) : Prop :=
  ∀ i y ys nw t1 t2, l[i]? = some y → CInv base l c G i ys nw → S nw → ∀ I oI C oC D m₂ h tk (E' : Value → Shared → Prop) (Kt : Value → Shared → Prop) (Kf : Shared → Prop), m₂ x = some (.str y.key t1) → m₂ x₂ = some (.bytes y.b t2) → NsObj oC m₂ → Fr h₀ L h m → News h₀ L h ((I, oI) :: (C, oC) :: (D, lst ys) :: nw) → (∀ p ∈ nw, p.1 ≠ I ∧ p.1 ≠ C ∧ p.1 ≠ D) →
      PGoes h₀ L m s I oI C oC D ys S (CInv base l c G (i + 1)) Kt → PSkips h₀ L m s I oI C oC D ys S (CInv base l c G (i + 1)) Kf →
      wpAny (model prog w) A (isTrue ct (compEnvC scope cl C env) (eval ct (compEnvC scope cl C env))) (fun ok s' => if ok = true then wpAny (model prog w) A (eval elt (compEnvC scope cl C env)) Kt E' s' else Kf s') E' { s with heap := h, toks := tk }
theorem comp_prs {ct elt : Expr} {x x₂ : Str} {scope : Scope} {cl : List (Str × Addr)} {Q : Value → Shared → Prop} {PD : Addr} {us : List Value} {ep : Nat} {l : List Pr} (base : Led) (c : Pr → Prop) (G : Pr → Value → Prop)
    (hh : A.handled = none) (F : Fr h₀ L s.heap m) (N : News h₀ L s.heap base) (hP : (PD, listOf us.toArray ep) ∈ base) (hus : PrsIn base us l) (hul : us.length ≤ 15)
    (turn : ∀ g, PrTurn prog w A h₀ L m env ct elt x x₂ scope cl { s with heap := g } base l c G (fun nw => (PD, listOf us.toArray ep) ∈ nw))
    (done : ∀ D ys nw h tk, Fr h₀ L h m → News h₀ L h ((D, lst ys) :: nw) → (∀ p ∈ nw, p.1 ≠ D) → CInv base l c G l.length ys nw → Q (.ref D) { s with heap := h, toks := tk }) :
    PTSrc prog w A h₀ L m env ct elt x x₂ scope cl Q (.ref PD) s := by
  refine ⟨PD, us, ep, base, CInv base l c G, rfl, hh, F, N, hP, by rw [sizeLine_eq]; omega, CInv.start, fun g i v ys nw hv hI hS => ?_, fun D ys nw h tk F' N' hD _ hI => done D ys nw h tk F' N' hD (by rw [← hus.length]; exact hI)⟩
  rw [List.getElem?_toArray] at hv
  obtain ⟨y, hy, T, t1, t2, cc, rfl, hm⟩ := prs_at hus hv
  exact ⟨T, .str y.key t1, .bytes y.b t2, cc, rfl, hI.sub _ hm, fun I oI C oC D m₂ h tk E' Kt Kf hC h1 h2 F' N' off a b => turn g i y ys nw t1 t2 hy hI hS I oI C oC D m₂ h tk E' Kt Kf h1 h2 hC F' N' off a b⟩
theorem dict_cinv {Q : Value → Shared → Prop} {D : Addr} {ys : List Value} {nw base : Led} {l : List Pr} {c : Pr → Prop} {G : Pr → Value → Prop} (hA : A.handled = none) (F : Fr h₀ L s.heap m) (N : News h₀ L s.heap ((D, lst ys) :: nw)) (hbig : sysModules < h₀.objs.size) (hI : CInv base l c G l.length ys nw) (hl : l.length ≤ 15)
    (k : ∀ X h' o tk ps, Fr h₀ L h' m → News h₀ L h' ((X, o) :: (D, lst ys) :: nw) → (∀ p ∈ base, p.1 < X) → (X == sysModules) = false → Sel c G l ps → o.IsDictOf (PySem.strKind prog w) (dictOfP ps) → Q (.ref X) { s with heap := h', toks := tk }) :
    wpAny (model prog w) A (call (.type "dict") [.ref D]) Q E s := by
  obtain ⟨hs, ps, hk, hp⟩ := hI
  rw [List.take_length] at hp
  exact dict_of_list hA F N hbig (.head _) ((hk.mono fun p hp => .tail _ hp).pairs N) (by have := hp.len; omega) fun X h' o tk F' N' hlt hm hd => k X h' o tk ps F' N' (fun p hq => hlt p (.tail _ (hs p hq))) hm hp hd
end
/-- between two names of what is due -/
structure DS where
  oC : Obj
  od : Obj
  kd : List (Str × Value)
  i : Nat
  v0 : Option Value
structure DueP (w : World) (l : List Pr) (xs r : List Value) (c : DS) : Prop where
  i3 : c.i ≤ 3
  hr : r = xs.drop c.i
  cell : c.oC.data = .cell c.v0
  due : DueAt w l c.i 0 c.od c.kd
structure WS where
  k : Nat
  t1 : Tok
  t2 : Tok
  od : Obj
  kd : List (Str × Value)
structure WhP (w : World) (l : List Pr) (i : Nat) (c : WS) : Prop where
  k4 : c.k ≤ 4
  due : DueAt w l i c.k c.od c.kd
theorem DueP.end3 {w : World} {l : List Pr} {a b c' : Value} {c : DS} (h : DueP w l [a, b, c'] [] c) : c.i = 3 := by
  have hr := h.hr
  have h3 := h.i3
  match hi : c.i, h3 with
  | 0, _ => rw [hi] at hr; cases hr
  | 1, _ => rw [hi] at hr; cases hr
  | 2, _ => rw [hi] at hr; cases hr
  | 3, _ => rfl
theorem strs_of_word {j : Nat} {ys : List Value} (hl : ys.length = (KBw.bInts (wordB j)).length) (hg : ∀ (i : Nat) y, ys[i]? = some y → ∃ k, (KBw.bInts (wordB j))[i]? = some k ∧ ∃ t, y = .str (chrS k) t) : StrsAre ys ((KBw.bInts (wordB j)).map chrS) :=
  strsAre_of ys _ (by rw [List.length_map]; exact hl) fun i y hy => by
    obtain ⟨c, hc, t9, e9⟩ := hg i y hy
    exact ⟨_, by rw [List.getElem?_map, hc]; rfl, t9, e9⟩
theorem weigh_word (j : Nat) : (((KBw.bInts (wordB j)).map chrS).map (·.length)).sum + ((KBw.bInts (wordB j)).map chrS).length ≤ 1048576 := weigh_chr _ (by have := word_size j; rw [KBw.ints_length]; omega)
theorem wordT_len (j : Nat) : (textOf (KBw.bInts (wordB j))).length ≤ 3 := by rw [textOf_len, KBw.ints_length]; exact word_size j
theorem text_len12 (part : Nat → Option Pt) {k : Nat} (hk : k ≤ 4) : (textOf (KBw.bInts (catD part k))).length ≤ 12 := by
  rw [textOf_len, KBw.ints_length]
  have := catD_size part k
  omega
end Mine
end
section
set_option maxRecDepth 100000
open PySem PySem.W PyProof.Rows LCg PySem.Builtin PySem.Calls
namespace Mine
/-- what is due, as a dict -/
structure DuePost (w : World) (l : List Pr) (D : Addr) (o : Obj) (kvs : List (Str × Value)) (news news' : Led) : Prop where
  mem : (D, o) ∈ news'
  sub : ∀ p ∈ news, p ∈ news'
  dk : o.IsDictOf (PySem.strKind PRG w) kvs
  mods : (D == sysModules) = false
  keys : ∀ x ∈ kvs, ∃ n, n < 3 ∧ x.1 = nm n
  at3 : ∀ n, n < 3 → ∃ x, Tx l n x ∧ At3 kvs n x
section
local macro_rules | `(tactic| k_ne) => `(tactic| first | assumption | (refine neN ?_; (try dsimp only); omega))
local macro_rules | `(tactic| k_all) => `(tactic| first | assumption | exact lt_ne (by assumption))
local macro_rules | `(tactic| walk_at "eval ListComp") => `(tactic| (refine Stop.of ?_))
local macro_rules | `(tactic| walk_at "call type:dict") => `(tactic| (refine Stop.of ?_))
local macro_rules | `(tactic| walk_at "exec For Name List") => `(tactic| (k_here; ((rename Fr _ _ _ _ => lF'); (with_unfolding_all refine' For_turns lF' ?_); k_whole)))
local macro_rules | `(tactic| walk_at "newList") => `(tactic| (k_here; k_dflt (refine' newList_K ?k1 ?k2 ?_; (case k1 => k_asm); (case k2 => k_asm); k_whole); intro l' h' F' N' l1; (try dsimp only at N'); (try k_lt l1); (try k_sweep)))
local macro_rules | `(tactic| walk_at "binaryOp Add str str") => `(tactic| (k_here; (with_reducible show wpAny _ _ (binaryOp Operator.Add (Value.str _ _) (Value.str _ _)) _ _ _); (refine KOpn.add (by k_extra "ssize") ?_); intro tx9' kx9' hx9'; clear hx9'))
local macro_rules | `(tactic| walk_at "exec While Constant") => `(tactic| (refine Stop.of ?_))
local macro_rules | `(tactic| walk_at "no such key") => `(tactic| fail)
local macro_rules | `(tactic| walk_at "no such key") => `(tactic| fail)
local macro_rules | `(tactic| walk_at "call type:str") => `(tactic| (k_here; (with_reducible show wpAny _ _ (call (Value.type "str") [Value.int _ _]) _ _ _); (refine str_dgx (by assumption) ?_); intro ts9'))
local macro_rules | `(tactic| walk_at "compareOp In str ref") => `(tactic| (k_here; k_dflt (first
  | refine kda_in (knd := PySem.strKind _ _) (by k_asm) (by first | exact .head _ | exact .tail _ (.head _) | exact .tail _ (.tail _ (.head _)) | exact .tail _ (.tail _ (.tail _ (.head _))) | exact .tail _ (.tail _ (.tail _ (.tail _ (.head _)))) | exact .tail _ (.tail _ (.tail _ (.tail _ (.tail _ (.head _))))) | exact .tail _ (.tail _ (.tail _ (.tail _ (.tail _ (.tail _ (.head _)))))) | exact .tail _ (.tail _ (.tail _ (.tail _ (.tail _ (.tail _ (.tail _ (.head _))))))) | exact .tail _ (.tail _ (.tail _ (.tail _ (.tail _ (.tail _ (.tail _ (.tail _ (.head _))))))))) (by assumption) (by assumption) (strKind_is _ _ _ _) true (by k_extra "has") ?_
  | refine kda_in (knd := PySem.strKind _ _) (by k_asm) (by first | exact .head _ | exact .tail _ (.head _) | exact .tail _ (.tail _ (.head _)) | exact .tail _ (.tail _ (.tail _ (.head _))) | exact .tail _ (.tail _ (.tail _ (.tail _ (.head _)))) | exact .tail _ (.tail _ (.tail _ (.tail _ (.tail _ (.head _))))) | exact .tail _ (.tail _ (.tail _ (.tail _ (.tail _ (.tail _ (.head _)))))) | exact .tail _ (.tail _ (.tail _ (.tail _ (.tail _ (.tail _ (.tail _ (.head _))))))) | exact .tail _ (.tail _ (.tail _ (.tail _ (.tail _ (.tail _ (.tail _ (.tail _ (.head _))))))))) (by assumption) (by assumption) (strKind_is _ _ _ _) false (by k_extra "has") ?_)))
local macro_rules | `(tactic| walk_at "subscriptTail") => `(tactic| (k_here; (with_reducible show wpAny _ _ (subscriptTail _ _ (Value.ref _) (Value.str _ _)) _ _ _); k_dflt (refine kda_item (knd := PySem.strKind _ _) (by k_asm) (by first | exact .head _ | exact .tail _ (.head _) | exact .tail _ (.tail _ (.head _)) | exact .tail _ (.tail _ (.tail _ (.head _))) | exact .tail _ (.tail _ (.tail _ (.tail _ (.head _)))) | exact .tail _ (.tail _ (.tail _ (.tail _ (.tail _ (.head _))))) | exact .tail _ (.tail _ (.tail _ (.tail _ (.tail _ (.tail _ (.head _)))))) | exact .tail _ (.tail _ (.tail _ (.tail _ (.tail _ (.tail _ (.tail _ (.head _))))))) | exact .tail _ (.tail _ (.tail _ (.tail _ (.tail _ (.tail _ (.tail _ (.tail _ (.head _))))))))) (by assumption) (strKind_is _ _ _ _) (by k_extra "val") ?_)))
local macro_rules | `(tactic| walk_at "subscriptTail Call UnaryOp ref int") => `(tactic| (k_here; (with_reducible show wpAny _ _ (subscriptTail _ _ (Value.ref _) (Value.int _ _)) _ _ _); (with_unfolding_all refine' kde_neg ?k1 ?k2 ?k3 ?k4 ?k5 ?_ ?k6; (case k2 => decide); (case k3 => decide); (case k1 => is_list); (case k4 => exact rfl); (case k5 => exact rfl); (case k6 => with_unfolding_all rfl); k_whole)))
local macro_rules | `(tactic| walk_at "setItem ref str") => `(tactic| (k_here; k_dflt (refine' kda_set (knd := PySem.strKind _ _) ?F ?N ?U ?d (strKind_is _ _ _ _) ?z ?_; (case F => k_asm); (case N => k_asm); (case U => k_updF); (case d => assumption); (case z => k_extra "fits")); intro h' o' F' N' hd'; (try dsimp only at N')))
local macro_rules | `(tactic| walk_at "getMethod bytes") => `(tactic| (k_here; refine meth_split ?_))
local macro_rules | `(tactic| walk_at "call builtin:bytes.split") => `(tactic| (refine Stop.of ?_))
local macro_rules | `(tactic| walk_at "call builtin:str.join") => `(tactic| (k_here; k_dflt (refine' join_listW ?l ?i ?s ?w ?_; (case l => is_list); (case i => first | assumption | k_extra "strs"); (case s => decide); (case w => k_extra "weigh")); intro t' k'; (try rw [join_chr])))
local macro_rules | `(tactic| walk_at "pyIter ref") => `(tactic| (refine Stop.of ?_))
set_option maxHeartbeats 4000000 in
theorem law_due (w : World) (PD : Addr) (us : List Value) (ep : Nat) (l : List Pr) (news : Led) (hP : (PD, listOf us.toArray ep) ∈ news) (hus : PrsIn news us l) (H : PrsOk l) (hlen : l.length ≤ 15) :
    Does w 206 3 64 [.ref PD] news (fun v news' => ∃ D o kvs, v = .ref D ∧ DuePost w l D o kvs news news') := by
  intro dp un gd cn cs a ccd cl outer A₀ base h₀ L m s mean mg mb Q E B F X N T hk hdp hun hret
  w_on
  k_with_none
  have N : News h₀ L s.heap ((PD, listOf us.toArray ep) :: news) := fun p hp => N p (all_cons hP sub_refl p hp)
  have hul : us.length ≤ 15 := by rw [hus.length]; exact hlen
  refine wpAny_call ?_
  k_dflt (refine' code_defC ?k1 ?k2 ?k3 ?k4 ?k5 ?kA ?kF ?kK ?k6 ?k7 ?k8 ?k9 ?kB ?kD ?_ ?c2 ?c3 ?c4; (case kA => exact rfl); (case kF => exact rfl); (case kK => assumption); (case k1 => k_asm); (case k2 => k_asm); (case k3 => k_asm); (case k4 => k_asm); (case k5 => k_asm); (case k6 => k_is); (case k7 => k_is); (case k8 => ktr_room); (case k9 => exact BindsTo.of_eq rfl); (case kB => exact rfl); (case kD => decide +kernel); (case c2 => exact rfl); (case c3 => exact rfl); (case c4 => exact rfl); k_whole; intro g' L' h' tk' cells' FG' F' N' Y' B' X' T' l1; (try k_lt l1); k_cells Y'; (try simp only [List.cons_append, List.nil_append] at N'); (try dsimp only); (try k_fold))
  k_steps
  unfold Stop
  rename_i oC dC
  obtain ⟨v0, hoC⟩ : ∃ v0, oC.data = .cell v0 := ⟨_, dC⟩
  clear dC
  have hus1 : PrsIn ((L' + 1, oC) :: (PD, listOf us.toArray ep) :: news) us l := hus.mono (sub_skip (sub_skip sub_refl))
  k_dflt (refine comp_pt (by k_asm) (by with_unfolding_all rfl) (by decide) (by rfl) (by decide) (by rfl) (by rfl) (by decide) ?_)
  k_steps
  refine comp_prs _ (fun x => x.p = none) (fun _ v => ∃ t, v = .str (Str.ofString "plain") t) rfl (by k_asm) N' (.tail _ (.head _)) hus1 hul ?_ ?_
  · intro g1 i x ys nw t1 t2 hx hI hS I oI C oC2 D m₂ h tk E' Kt Kf hx1 hx2 hC F2 N2 off hKt hKf
    have hox := (H.ok x (List.mem_of_getElem? hx)).1
    k_steps
    · rename_i ha D2 h2 F3 N3 l3
      rw [star_key hox] at ha
      exact hKt _ _ _ ((D2, _) :: nw) _ F3 N3 (all_cons (.tail _ (.head _)) (all_cons (.tail _ (.tail _ (.head _))) (all_cons (.tail _ (.tail _ (.tail _ (.head _)))) (all_cons (.head _) (sub_skip (sub_skip (sub_skip (sub_skip (sub_refl))))))))) (all_cons ⟨Nat.ne_of_gt l3.1, Nat.ne_of_gt l3.2.1, Nat.ne_of_gt l3.2.2.1⟩ off) (.tail _ hS) (hI.take hx (by simpa using ha) ⟨_, rfl⟩ ⟨_, _, rfl⟩)
    · rename_i ha
      rw [star_key hox] at ha
      exact hKf _ _ nw _ F2 N2 sub_refl off hS (hI.skip hx (by intro q; rw [q] at ha; cases ha))
  · intro D ys nw h tk F2 N2 hD hI
    k_steps
    unfold Stop
    refine dict_cinv (prog := PySem.Challenge.rw_nz0291_01.row.prog) (w := w) rfl F2 N2 (modules_low T'.nolimit) hI hlen ?_
    intro DU h3 od tk3 ps F3 N3 l3 lo3 hsel hd3
    have hD0 := due_start H hsel hd3
    have hsub := hI.sub
    clear hI hsel hd3
    k_steps
    unfold Stop
    rename_i _ SL h4 F4 N4 l4
    obtain ⟨xs, hxs⟩ : ∃ xs, xs = List.take 3 [Value.str (Str.ofString "a") (tk3 + 1), .str (Str.ofString "b") (tk3 + 1 + 1), .str (Str.ofString "title") (tk3 + 1 + 1 + 1)] := ⟨_, rfl⟩
    rw [show #[Value.str (Str.ofString "a") (tk3 + 1), Value.str (Str.ofString "b") (tk3 + 1 + 1), Value.str (Str.ofString "title") (tk3 + 1 + 1 + 1)] = xs.toArray from by rw [hxs]; rfl] at N4
    have n1 : @Ne Nat SL DU := Nat.ne_of_gt l4.1
    have n2 : @Ne Nat PD DU := Nat.ne_of_lt (l3 _ (.tail _ (.head _)))
    have n3 : @Ne Nat (L' + 1) DU := Nat.ne_of_lt (l3 _ (.head _))
    have n4 : @Ne Nat DU (L' + 1) := Ne.symm n3
    have n5 : @Ne Nat SL (L' + 1) := Nat.ne_of_gt (allLt_mem l4.2.2 _ (hsub _ (.head _)))
    have n6 : @Ne Nat PD (L' + 1) := Nat.ne_of_lt (Nat.lt_succ_of_lt l1.1)
    have n7 : ∀ p ∈ news, p.1 ≠ L' + 1 := fun p hp => Nat.ne_of_lt (Nat.lt_succ_of_lt (allLt_mem l1.2 _ hp))
    have n8 : ∀ p ∈ news, p.1 ≠ DU := fun p hp => Nat.ne_of_lt (l3 _ (.tail _ (.tail _ hp)))
    refine loopL (vs := xs) (n := 0) (lo := listOf xs.toArray 0) (fun c : DS => (L' + 1, c.oC) :: (DU, c.od) :: (SL, listOf xs.toArray 0) :: (PD, listOf us.toArray ep) :: news) (fun _ => [(Str.ofString "due", .ref DU), (Str.ofString "pairs", .ref PD)])
      (DueP w l xs) ⟨oC, od, dictOfP ps, 0, v0⟩ (by rfl) F4 N4 (all_cons (.tail _ (.tail _ (.tail _ (hsub _ (.head _))))) (all_cons (.tail _ (.head _)) (all_cons (.head _) fun p hp => .tail _ (.tail _ (.tail _ (hsub _ (.tail _ hp)))))))
      (fun r c _ => .tail _ (.tail _ (.head _))) rfl rfl (all_cons rfl (all_cons rfl all_nil)) ⟨Nat.zero_le _, rfl, hoC, hD0⟩ ?turn ?done
    case done =>
      clear F4 N4 hsub hD l3 l4 hD0 hoC
      intro c u h tk0 b FC NC
      have hi9 : c.i = 3 := DueP.end3 (by rw [hxs] at b; exact b)
      have hd9 := b.due
      rw [hi9] at hd9
      k_steps
      (rename Fr _ _ _ _ => FZ); (rename News _ _ _ _ => NZ)
      exact hret _ _ _ _ FZ NZ ⟨DU, c.od, c.kd, rfl, ⟨.tail _ (.head _), sub_skip (sub_skip (sub_skip (sub_skip sub_refl))), hd9.dk, lo3, hd9.keys, hd9.old⟩⟩
    case turn =>
      clear F4 N4 hsub hD l3 l4 hD0 hoC
      intro Ko c v r u I oI h tk0 hKo _ b hoff FC NC
      rw [hxs] at b
      obtain ⟨hi3, ⟨tv, rfl⟩, hr9⟩ := drop_nm b.hr
      rw [← hxs] at b hr9
      have hoC := b.cell
      have s1 : @Ne Nat I (L' + 1) := Ne.symm (hoff _ (.head _))
      have s2 : @Ne Nat I DU := Ne.symm (hoff _ (.tail _ (.head _)))
      k_steps
      unfold Stop
      rename_i hX oC2 hoC h5 h6 F5 N5
      have z1 := nm_len c.i
      k_with "ssize" => (have z1 := nm_len c.i; have z3 := star_len; (try simp only [PySem.Str.length_append]); omega)
      have hus2 : PrsIn ((I, oI) :: (L' + 1, oC2) :: (DU, c.od) :: (SL, listOf xs.toArray 0) :: (PD, listOf us.toArray ep) :: news) us l := hus.mono (sub_skip (sub_skip (sub_skip (sub_skip (sub_skip sub_refl)))))
      k_dflt (refine comp_pt (by k_asm) (by with_unfolding_all rfl) (by decide) (by rfl) (by decide) (by rfl) (by rfl) (by decide) ?_)
      k_steps
      refine comp_prs _ (fun x => x.n = c.i ∧ x.p ≠ none) (fun x v => ∃ t, v = .bytes x.b t) rfl (by k_asm) N5 (.tail _ (.tail _ (.tail _ (.tail _ (.head _))))) hus2 hul ?_ ?_
      · intro g1 q x ys nw t1 t2 hx hI hS J oJ C oC3 D5 m₂ h tk E' Kt Kf hx1 hx2 hC F2 N2 off hKt hKf
        have hox := (H.ok x (List.mem_of_getElem? hx)).1
        have N2 : News g' L' h ((J, oJ) :: (C, oC3) :: (D5, lst ys) :: (L' + 1, oC2) :: nw) := news_sub N2 (sub_keep (sub_keep (sub_keep (all_cons (hI.sub _ (.tail _ (.head _))) sub_refl))))
        have hxl := key_len hox
        k_steps
        · rename_i ha D2 h2 F3 N3 l3
          have hc := (slice_key hi3 hox).mp ha
          exact hKt _ _ _ ((D2, _) :: nw) _ F3 N3 (all_cons (.tail _ (.head _)) (all_cons (.tail _ (.tail _ (.head _))) (all_cons (.tail _ (.tail _ (.tail _ (.head _)))) (all_cons (.head _) (sub_skip (sub_skip (sub_skip (sub_skip (sub_skip sub_refl)))))))))
            (all_cons ⟨Nat.ne_of_gt l3.1, Nat.ne_of_gt l3.2.1, Nat.ne_of_gt l3.2.2.1⟩ off) (.tail _ hS) (hI.take hx hc ⟨_, rfl⟩ ⟨_, _, rfl⟩)
        · rename_i ha
          (rename Fr _ _ _ _ => FZ); (rename News _ _ _ _ => NZ)
          exact hKf _ _ nw _ FZ NZ (sub_keep (sub_keep (sub_keep (sub_skip sub_refl)))) off hS (hI.skip hx (fun hc => by have := (slice_key hi3 hox).mpr hc; rw [this] at ha; cases ha))
      · intro D5 ys nw h tk F2 N2 hD5 hI
        k_steps
        unfold Stop
        refine dict_cinv (prog := PySem.Challenge.rw_nz0291_01.row.prog) (w := w) rfl F2 N2 (modules_low T'.nolimit) hI hlen ?_
        intro HD h7 oh tk7 ps F7 N7 l7 lo7 hsel hd8
        have hheld := fun k enc hk => held_x H (n := c.i) (k := k) (enc := enc) hi3 hk hsel
        have hsub := hI.sub
        clear hI hsel hD5 F2 N2
        generalize dictOfP ps = kh at hd8 hheld
        k_steps
        unfold Stop
        rename_i h8 F8 N8
        have w1 : @Ne Nat HD DU := Nat.ne_of_gt (l7 _ (.tail _ (.tail _ (.head _))))
        refine loopW (fun d : WS => (HD, oh) :: (I, oI) :: (L' + 1, oC2) :: (DU, d.od) :: (SL, listOf xs.toArray 0) :: (PD, listOf us.toArray ep) :: news)
          (fun d => [(Str.ofString "number", .int (d.k : Int) d.t1), (Str.ofString "text", .str (textOf (KBw.bInts (catD (part l c.i) d.k))) d.t2), (Str.ofString "held", .ref HD), (Str.ofString "due", .ref DU), (Str.ofString "pairs", .ref PD)])
          (WhP w l c.i) (fun d => 5 - d.k) ⟨0, _, _, c.od, c.kd⟩ F8 N8 (all_cons (.head _) fun p hp => .tail _ (.tail _ (hsub p hp))) (all_cons rfl (all_cons (by rw [text_zero]; exact rfl) (all_cons rfl (all_cons rfl (all_cons rfl all_nil))))) ⟨Nat.zero_le _, b.due⟩ ?turnW
        case turnW =>
          clear F8 N8 hsub l7
          intro K d u2 h tk hK hB _ bd FC NC
          have hk4 := bd.k4
          have hdk := bd.due.dk
          have hkl := bd.due.len
          have tl1 : (textOf (KBw.bInts (catD (part l c.i) d.k))).length ≤ 12 := text_len12 _ hk4
          have z2 := dgx_len d.k
          have hF := hheld d.k false hk4
          have hT := hheld d.k true hk4
          rw [show keyX c.i d.k false = nm c.i ++ Str.ofString "*" ++ dgx d.k from rfl] at hF
          rw [show keyX c.i d.k true = nm c.i ++ Str.ofString "*" ++ dgx d.k ++ Str.ofString "*" from rfl] at hT
          k_with "ssize" => (have z3 := star_len; have z4 := wordT_len; (try simp only [PySem.Str.length_append]); omega)
          k_with "fits" => (rw [sizeLine_eq]; omega)
          cases hp0 : part l c.i d.k with
          | none =>
            rw [hp0] at hF hT
            replace hF : valueAt kh (nm c.i ++ Str.ofString "*" ++ dgx d.k) = none := hF
            replace hT : valueAt kh (nm c.i ++ Str.ofString "*" ++ dgx d.k ++ Str.ofString "*") = none := hT
            k_with "has" => first | (rw [hF]; rfl) | (rw [hT]; rfl)
            k_steps
            refine hB _ ?_
            k_steps
            (rename Fr _ _ _ _ => FZ); (rename News _ _ _ _ => NZ)
            exact hKo.go (⟨oC2, d.od, d.kd, c.i + 1, _⟩ : DS) FZ NZ (sub_skip sub_refl) (all_cons (Ne.symm s1) (all_cons (Ne.symm s2) (all_cons (hoff _ (.tail _ (.tail _ (.head _)))) (all_cons (hoff _ (.tail _ (.tail _ (.tail _ (.head _))))) fun p hp => hoff p (.tail _ (.tail _ (.tail _ (.tail _ hp)))))))) (all_cons rfl (all_cons rfl all_nil))
              ⟨hi3, hr9, hoC, bd.due.step hi3 hp0⟩
          | some pt =>
            obtain ⟨enc, e, j⟩ := pt
            rw [hp0] at hF hT
            have hjs := word_size j
            have hk3 : d.k < 4 := by
              rcases Nat.lt_or_ge d.k 4 with h | h
              · exact h
              · rw [part_4 H c.i h] at hp0; cases hp0
            cases enc with
            | false =>
              replace hF : ∃ t, valueAt kh (nm c.i ++ Str.ofString "*" ++ dgx d.k) = some (.bytes (wordB j) t) := hF
              obtain ⟨bt, hF⟩ := hF
              k_with "has" => (rw [hF]; rfl)
              k_with "val" => exact hF
              k_steps
              unfold Stop
              k_dflt (refine comp_bytes (fun k y => ∃ t, y = .str (chrS k) t) (by k_asm) (by with_unfolding_all rfl) (by decide) (by rfl) (by decide) (by rfl) ?_)
              k_steps
              refine ⟨_, _, _, rfl, rfl, (by rw [sizeLine_eq]; omega), by k_asm, by k_asm, ?_, ?_⟩
              · intro q tk' h' hk' I2 oI2 C2 oC4 D2 ys m₂ h tk E' hC hx' F' N' off
                have hlh := word_low j q hk'
                have hlo := hlh.1
                have hhi := hlh.2
                k_steps
                exact elt_end (by k_asm) (by k_asm) (fun p hp => hp) ⟨_, rfl⟩
              · intro D2 ys h tk F' N' off hl hg
                have hstr : StrsAre ys ((KBw.bInts (wordB j)).map chrS) := strs_of_word hl hg
                k_with "weigh" => exact weigh_word j
                have z5 := wordT_len j
                have d1 : @Ne Nat D2 DU := Ne.symm (off _ (.tail _ (.tail _ (.tail _ (.head _)))))
                k_steps
                rename_i tx9 kx9 hx9 hy9 o9 hd9 h9 FZ NZ
                have e9x : textOf (KBw.bInts (catD (part l c.i) (d.k + 1))) = textOf (KBw.bInts (catD (part l c.i) d.k)) ++ textOf (KBw.bInts (wordB j)) := text_succ hp0
                rw [← e9x] at hd9
                exact hK.go (⟨d.k + 1, _, _, o9, _⟩ : WS) FZ NZ (sub_skip sub_refl) (all_cons rfl (all_cons (by rw [e9x]; exact rfl) (all_cons rfl (all_cons rfl (all_cons rfl all_nil))))) ⟨hk3, bd.due.set hi3 (by rw [hp0]; exact fun q => nomatch q) hd9⟩ (by show 5 - (d.k + 1) < 5 - d.k; omega)
            | true =>
              replace hF : valueAt kh (nm c.i ++ Str.ofString "*" ++ dgx d.k) = none := hF
              replace hT : ∃ t, valueAt kh (nm c.i ++ Str.ofString "*" ++ dgx d.k ++ Str.ofString "*") = some (.bytes (ptB d.k (true, e, j)) t) := hT
              obtain ⟨bt, hT⟩ := hT
              k_with "has" => first | (rw [hF]; rfl) | (rw [hT]; rfl)
              k_with "val" => exact hT
              by_cases hk0 : d.k = 0
              · have hpb : ptB d.k (true, e, j) = leadB e ++ wordB j := by unfold ptB; rw [if_pos ⟨rfl, hk0⟩]
                rw [hpb] at hT
                k_steps
                unfold Stop
                k_dflt (refine split_bytes2 (by k_asm) (by k_asm) (by decide) (split0 e j) (parts_size e j) (show 3 ≤ PySem.sizeLine from by decide) ?_)
                intro D vs h' k2 F' N' lt hp
                obtain ⟨t1, t2, t3, rfl⟩ := parts3 hp
                have d3 : @Ne Nat D DU := Ne.symm (Nat.ne_of_lt (lt _ (.tail _ (.tail _ (.tail _ (.head _))))))
                clear hp lt
                k_steps
                · rename_i ha9 tx9 kx9 la9 hx9 hy9 o9 hd9 h9 FZ NZ
                  have e9x : textOf (KBw.bInts (catD (part l c.i) (d.k + 1))) = textOf (KBw.bInts (catD (part l c.i) d.k)) ++ Str.ofString "A" := (text_succ hp0).trans (by show _ ++ textOf (KBw.bInts (decB j)) = _; rw [word_41 j ha9])
                  rw [← e9x] at hd9
                  exact hK.go (⟨d.k + 1, _, _, o9, _⟩ : WS) FZ NZ (sub_skip sub_refl) (all_cons rfl (all_cons (by rw [e9x]; exact rfl) (all_cons rfl (all_cons rfl (all_cons rfl all_nil))))) ⟨hk3, bd.due.set hi3 (by rw [hp0]; exact fun q => nomatch q) hd9⟩ (by show 5 - (d.k + 1) < 5 - d.k; omega)
                · rename_i ha9
                  unfold Stop
                  k_dflt (refine comp_bytes (fun k y => ∃ t, y = .str (chrS k) t) (by k_asm) (by with_unfolding_all rfl) (by decide) (by rfl) (by decide) (by rfl) ?_)
                  k_steps
                  refine ⟨_, _, _, rfl, rfl, (by rw [sizeLine_eq]; omega), by k_asm, by k_asm, ?_, ?_⟩
                  · intro q tk' h' hk' I2 oI2 C2 oC4 D2 ys m₂ h tk E' hC hx' F' N' off
                    have hlh := word_low j q hk'
                    have hlo := hlh.1
                    have hhi := hlh.2
                    k_steps
                    exact elt_end (by k_asm) (by k_asm) (fun p hp => hp) ⟨_, rfl⟩
                  · intro D2 ys h tk F' N' off hl hg
                    have hstr : StrsAre ys ((KBw.bInts (wordB j)).map chrS) := strs_of_word hl hg
                    k_with "weigh" => exact weigh_word j
                    have z5 := wordT_len j
                    have d1 : @Ne Nat D2 DU := Ne.symm (off _ (.tail _ (.tail _ (.tail _ (.tail _ (.head _))))))
                    k_steps
                    rename_i tx9 kx9 hx9 hy9 o9 hd9 h9 FZ NZ
                    have e9x : textOf (KBw.bInts (catD (part l c.i) (d.k + 1))) = textOf (KBw.bInts (catD (part l c.i) d.k)) ++ textOf (KBw.bInts (wordB j)) := (text_succ hp0).trans (by show _ ++ textOf (KBw.bInts (decB j)) = _; rw [word_not j ha9])
                    rw [← e9x] at hd9
                    exact hK.go (⟨d.k + 1, _, _, o9, _⟩ : WS) FZ NZ (sub_skip (sub_skip sub_refl)) (all_cons rfl (all_cons (by rw [e9x]; exact rfl) (all_cons rfl (all_cons rfl (all_cons rfl all_nil))))) ⟨hk3, bd.due.set hi3 (by rw [hp0]; exact fun q => nomatch q) hd9⟩ (by show 5 - (d.k + 1) < 5 - d.k; omega)
              · have hpb : ptB d.k (true, e, j) = wordB j := by unfold ptB; rw [if_neg (fun q => hk0 q.2)]
                rw [hpb] at hT
                k_steps
                unfold Stop
                k_dflt (refine split_bytes2 (by k_asm) (by k_asm) (by decide) (split1 j) (word_size1 j) (show 1 ≤ PySem.sizeLine from by decide) ?_)
                intro D vs h' k2 F' N' lt hp
                obtain ⟨t1, rfl⟩ := parts1 hp
                have d3 : @Ne Nat D DU := Ne.symm (Nat.ne_of_lt (lt _ (.tail _ (.tail _ (.tail _ (.head _))))))
                clear hp lt
                k_steps
                · rename_i ha9 tx9 kx9 la9 hx9 hy9 o9 hd9 h9 FZ NZ
                  have e9x : textOf (KBw.bInts (catD (part l c.i) (d.k + 1))) = textOf (KBw.bInts (catD (part l c.i) d.k)) ++ Str.ofString "A" := (text_succ hp0).trans (by show _ ++ textOf (KBw.bInts (decB j)) = _; rw [word_41 j ha9])
                  rw [← e9x] at hd9
                  exact hK.go (⟨d.k + 1, _, _, o9, _⟩ : WS) FZ NZ (sub_skip sub_refl) (all_cons rfl (all_cons (by rw [e9x]; exact rfl) (all_cons rfl (all_cons rfl (all_cons rfl all_nil))))) ⟨hk3, bd.due.set hi3 (by rw [hp0]; exact fun q => nomatch q) hd9⟩ (by show 5 - (d.k + 1) < 5 - d.k; omega)
                · rename_i ha9
                  unfold Stop
                  k_dflt (refine comp_bytes (fun k y => ∃ t, y = .str (chrS k) t) (by k_asm) (by with_unfolding_all rfl) (by decide) (by rfl) (by decide) (by rfl) ?_)
                  k_steps
                  refine ⟨_, _, _, rfl, rfl, (by rw [sizeLine_eq]; omega), by k_asm, by k_asm, ?_, ?_⟩
                  · intro q tk' h' hk' I2 oI2 C2 oC4 D2 ys m₂ h tk E' hC hx' F' N' off
                    have hlh := word_low j q hk'
                    have hlo := hlh.1
                    have hhi := hlh.2
                    k_steps
                    exact elt_end (by k_asm) (by k_asm) (fun p hp => hp) ⟨_, rfl⟩
                  · intro D2 ys h tk F' N' off hl hg
                    have hstr : StrsAre ys ((KBw.bInts (wordB j)).map chrS) := strs_of_word hl hg
                    k_with "weigh" => exact weigh_word j
                    have z5 := wordT_len j
                    have d1 : @Ne Nat D2 DU := Ne.symm (off _ (.tail _ (.tail _ (.tail _ (.tail _ (.head _))))))
                    k_steps
                    rename_i tx9 kx9 hx9 hy9 o9 hd9 h9 FZ NZ
                    have e9x : textOf (KBw.bInts (catD (part l c.i) (d.k + 1))) = textOf (KBw.bInts (catD (part l c.i) d.k)) ++ textOf (KBw.bInts (wordB j)) := (text_succ hp0).trans (by show _ ++ textOf (KBw.bInts (decB j)) = _; rw [word_not j ha9])
                    rw [← e9x] at hd9
                    exact hK.go (⟨d.k + 1, _, _, o9, _⟩ : WS) FZ NZ (sub_skip (sub_skip sub_refl)) (all_cons rfl (all_cons (by rw [e9x]; exact rfl) (all_cons rfl (all_cons rfl (all_cons rfl all_nil))))) ⟨hk3, bd.due.set hi3 (by rw [hp0]; exact fun q => nomatch q) hd9⟩ (by show 5 - (d.k + 1) < 5 - d.k; omega)
end
end Mine
end
section
set_option maxRecDepth 100000
open PySem PySem.W PyProof.Rows LCg PySem.Builtin PySem.Calls
set_option genSizeOf false
set_option genInjectivity false
namespace Mine
structure OS where
  p : PotS
  ls : List Value
  le : Nat
  ll : List Pr
  fs : List Value
  fe : Nat
  fl : List Pr
  k : Nat
structure OSP (R : Led) (l : List Pr) (kl : Nat) (c : OS) : Prop where
  pg : PotG c.p c.k
  hk : c.k + c.ll.length ≤ kl
  hl : PrsIn R c.ls c.ll
  hf : PrsIn R c.fs c.fl
  pm : (c.fl ++ c.ll).Perm l
/-- what the other order hands back -/
structure OtherPost (lp lc FD : Addr) (us : List Value) (ep : Nat) (l l' : List Pr) (news news' : Led) : Prop where
  mem : (FD, listOf us.toArray ep) ∈ news'
  pm : l'.Perm l
  prs : PrsIn news' us l'
  keep : ∀ p ∈ news, p.1 ≠ lp → p.1 ≠ lc → p ∈ news'
theorem OSP.cut {R : Led} {l : List Pr} {kl : Nat} {c : OS} (h : OSP R l kl c) {p' : List Value} {y : Value} {q' : List Value} (e : c.ls = p' ++ y :: q') {p : PotS} {le fe k : Nat} (pg : PotG p k) (hk : k = c.k + 1) : ∃ ll fl, OSP R l kl ⟨p, p' ++ q', le, ll, c.fs ++ [y], fe, fl, k⟩ := by
  obtain ⟨lp, x, lq, e8, h81, h82, h83⟩ := prs_cut h.hl e
  refine ⟨lp ++ lq, c.fl ++ [x], pg, ?_, h81.append h83, h.hf.append ⟨h82, trivial⟩, ?_⟩
  · have h1 := congrArg List.length e8
    have h2 := h.hk
    rw [List.length_append, List.length_cons] at h1
    show k + (lp ++ lq).length ≤ kl
    rw [List.length_append]; omega
  · refine List.Perm.trans ?_ h.pm
    show (c.fl ++ [x] ++ (lp ++ lq)).Perm (c.fl ++ c.ll)
    rw [e8, List.append_assoc]
    exact List.Perm.append_left c.fl (show (x :: (lp ++ lq)).Perm (lp ++ x :: lq) from List.perm_middle.symm)
section
local macro_rules | `(tactic| walk_at "call ref") => `(tactic| (k_here; k_dflt (refine' draw_use ?ne ?U ?G ?k1 ?l0 ?l1 ?B ?F ?X ?N ?T ?K ?d ?u ?_; (case ne => assumption); (case N => k_asm); (case U => first | exact two_base (by assumption) (by assumption) | exact two_skip (by first | assumption | k_ne) (by first | assumption | k_ne) (two_base (by assumption) (by assumption)) | exact two_skip (by first | assumption | k_ne) (by first | assumption | k_ne) (two_skip (by first | assumption | k_ne) (by first | assumption | k_ne) (two_base (by assumption) (by assumption))) | exact two_skip (by first | assumption | k_ne) (by first | assumption | k_ne) (two_skip (by first | assumption | k_ne) (by first | assumption | k_ne) (two_skip (by first | assumption | k_ne) (by first | assumption | k_ne) (two_base (by assumption) (by assumption)))) | exact two_skip (by first | assumption | k_ne) (by first | assumption | k_ne) (two_skip (by first | assumption | k_ne) (by first | assumption | k_ne) (two_skip (by first | assumption | k_ne) (by first | assumption | k_ne) (two_skip (by first | assumption | k_ne) (by first | assumption | k_ne) (two_base (by assumption) (by assumption))))) | exact two_skip (by first | assumption | k_ne) (by first | assumption | k_ne) (two_skip (by first | assumption | k_ne) (by first | assumption | k_ne) (two_skip (by first | assumption | k_ne) (by first | assumption | k_ne) (two_skip (by first | assumption | k_ne) (by first | assumption | k_ne) (two_skip (by first | assumption | k_ne) (by first | assumption | k_ne) (two_base (by assumption) (by assumption)))))) | exact two_skip (by first | assumption | k_ne) (by first | assumption | k_ne) (two_skip (by first | assumption | k_ne) (by first | assumption | k_ne) (two_skip (by first | assumption | k_ne) (by first | assumption | k_ne) (two_skip (by first | assumption | k_ne) (by first | assumption | k_ne) (two_skip (by first | assumption | k_ne) (by first | assumption | k_ne) (two_skip (by first | assumption | k_ne) (by first | assumption | k_ne) (two_base (by assumption) (by assumption))))))) | exact two_skip (by first | assumption | k_ne) (by first | assumption | k_ne) (two_skip (by first | assumption | k_ne) (by first | assumption | k_ne) (two_skip (by first | assumption | k_ne) (by first | assumption | k_ne) (two_skip (by first | assumption | k_ne) (by first | assumption | k_ne) (two_skip (by first | assumption | k_ne) (by first | assumption | k_ne) (two_skip (by first | assumption | k_ne) (by first | assumption | k_ne) (two_skip (by first | assumption | k_ne) (by first | assumption | k_ne) (two_base (by assumption) (by assumption)))))))) | exact two_skip (by first | assumption | k_ne) (by first | assumption | k_ne) (two_skip (by first | assumption | k_ne) (by first | assumption | k_ne) (two_skip (by first | assumption | k_ne) (by first | assumption | k_ne) (two_skip (by first | assumption | k_ne) (by first | assumption | k_ne) (two_skip (by first | assumption | k_ne) (by first | assumption | k_ne) (two_skip (by first | assumption | k_ne) (by first | assumption | k_ne) (two_skip (by first | assumption | k_ne) (by first | assumption | k_ne) (two_skip (by first | assumption | k_ne) (by first | assumption | k_ne) (two_base (by assumption) (by assumption)))))))))); (case G => assumption); (case k1 => omega); (case l0 => first | decide | assumption | omega); (case l1 => first | decide | assumption | omega); (case B => k_asm); (case F => k_asm); (case X => k_asm); (case T => k_asm); (case K => first | exact rfl | assumption); (case d => ktr_room); (case u => ktr_units)); intro r9' t9' p9' h9' tk9' F9' N9' hr0' hr1' G9'; (try dsimp only at N9'); (try k_sweep)))
local macro_rules | `(tactic| k_ne) => `(tactic| first | assumption | (refine neN ?_; (try dsimp only); omega))
local macro_rules | `(tactic| k_all) => `(tactic| first | assumption | exact lt_ne (by assumption))
local macro_rules | `(tactic| walk_at "exec While Name cons nil") => `(tactic| (refine Stop.of ?_))
local macro_rules | `(tactic| walk_at "truthy ref") => `(tactic| (k_here; (with_reducible show wpAny _ _ (truthy (Value.ref _)) _ _ _); k_dflt (refine truthy_led (by k_asm) (by first | exact .head _ | exact .tail _ (.head _) | exact .tail _ (.tail _ (.head _)) | exact .tail _ (.tail _ (.tail _ (.head _)))) (by first | assumption | (simp only [List.length_nil, List.length_cons]; omega)) ?_); (try simp only [List.isEmpty_cons, List.isEmpty_nil, Bool.not_false, Bool.not_true])))
local macro_rules | `(tactic| walk_at "call builtin:len") => `(tactic| (k_here; (with_reducible show wpAny _ _ (call (Value.builtin "len") [Value.ref _]) _ _ _); k_dflt (refine len_led (by k_asm) (by first | exact .head _ | exact .tail _ (.head _) | exact .tail _ (.tail _ (.head _)) | exact .tail _ (.tail _ (.tail _ (.head _)))) (by first | assumption | (simp only [List.length_nil, List.length_cons]; omega)) ?_)))
local macro_rules | `(tactic| walk_at "call builtin:list.pop") => `(tactic| (refine Stop.of ?_))
set_option maxHeartbeats 4000000 in
theorem law_other (w : World) (lp lc PD : Addr) (p0 : PotS) (k ep : Nat) (us : List Value) (l : List Pr) (news : Led) (hne : PotNe lp lc)
    (hp : (lp, potO lc p0) ∈ news) (hc : (lc, celO p0) ∈ news) (ok : PotG p0 k) (hk : k + l.length < 900) (hlen : l.length < 90)
    (hP : (PD, listOf us.toArray ep) ∈ news) (hPp : @Ne Nat PD lp) (hPc : @Ne Nat PD lc) (hus : PrsIn news us l) :
    Does w 213 3 64 [.ref lp, .ref PD] news (fun v news' => ∃ FD us' ep' l', v = .ref FD ∧ OtherPost lp lc FD us' ep' l l' news news') := by
  intro dp un gd cn cs a ccd cl outer A₀ base h₀ L m s mean mg mb Q E B F X N T hk' hdp hun hret
  w_on
  k_with_none
  have hul : us.length < 90 := by rw [hus.length]; exact hlen
  obtain ⟨R, r1, r2, NR, hRm⟩ := two_of N hp hc
  have husR : PrsIn R us l := prs_sub (fun T its c m => hRm _ m (obj_ne N m hp (list_cls _ _)) (obj_ne N m hc (list_cls _ _))) hus
  have NR : News h₀ L s.heap ((PD, listOf us.toArray ep) :: (lp, potO lc p0) :: (lc, celO p0) :: R) := fun p hp' => (List.mem_cons.mp hp').elim (fun e => e ▸ N _ hP) (NR p)
  clear N
  refine wpAny_call ?_
  k_dflt ktr_enter
  k_steps
  unfold Stop
  rename_i g' L' hB1 FG' BG' XG' TG' ld le0 hB2 lx hB3 fd hB4 lf hB5 FW NW
  have e1 : @Ne Nat ld lp := Nat.ne_of_gt lx.2.1
  have e2 : @Ne Nat ld lc := Nat.ne_of_gt lx.2.2.1
  have e3 : @Ne Nat fd lp := Nat.ne_of_gt lf.2.2.1
  have e4 : @Ne Nat fd lc := Nat.ne_of_gt lf.2.2.2.1
  have e5 : @Ne Nat fd ld := Nat.ne_of_gt lf.1
  have e6 : @Ne Nat ld fd := Nat.ne_of_lt lf.1
  have e7 : @Ne Nat lp ld := Ne.symm e1
  have e8 : @Ne Nat lc ld := Ne.symm e2
  have e9 : @Ne Nat lp fd := Ne.symm e3
  have e10 : @Ne Nat lc fd := Ne.symm e4
  have r3 : ∀ p ∈ R, p.1 ≠ ld := fun p hp => Nat.ne_of_lt (allLt_mem lx.2.2.2 p hp)
  have r4 : ∀ p ∈ R, p.1 ≠ fd := fun p hp => Nat.ne_of_lt (allLt_mem lf.2.2.2.2 p hp)
  refine loopW (fun c : OS => (fd, listOf c.fs.toArray c.fe) :: (ld, listOf c.ls.toArray c.le) :: (lp, potO lc c.p) :: (lc, celO c.p) :: R) (fun _ => [(Str.ofString "pot", .ref lp), (Str.ofString "left", .ref ld), (Str.ofString "found", .ref fd)])
      (OSP R l (k + l.length)) (fun c => c.ls.length) ⟨p0, us, le0, l, [], 0, [], k⟩ FW NW ?hn (all_cons rfl (all_cons rfl (all_cons rfl all_nil))) ⟨ok, Nat.le_refl _, husR, trivial, .refl _⟩ ?turn
  case hn => exact sub_keep (sub_keep (sub_skip sub_refl))
  case turn =>
    clear FW NW
    rintro K ⟨p, ls, le, ll, fs, fe, fl, kk⟩ u h9 tk hK _ _ b FC NC
    have hll : ls.length = ll.length := b.hl.length
    have hfl : fs.length = fl.length := b.hf.length
    have hsum : fl.length + ll.length = l.length := by rw [← List.length_append]; exact b.pm.length_eq
    have hls9 : ls.length < 90 := by omega
    have hfs9 : fs.length < 90 := by omega
    have hck : kk + ll.length ≤ k + l.length := b.hk
    have G : PotG p kk := b.pg
    cases ls with
    | nil =>
      have hll0 : ll = [] := by
        cases ll with
        | nil => rfl
        | cons x r => simp at hll
      have hpm : fl.Perm l := by have := b.pm; rw [hll0, List.append_nil] at this; exact this
      k_steps
      (rename Fr _ _ _ _ => FZ); (rename News _ _ _ _ => NZ)
      exact hret _ _ _ _ FZ NZ ⟨fd, fs, fe, fl, rfl, ⟨.head _, hpm, b.hf.mono (sub_skip (sub_skip (sub_skip (sub_skip sub_refl)))), fun p hp a b => .tail _ (.tail _ (.tail _ (.tail _ (hRm p hp a b))))⟩⟩
    | cons v0 ls =>
      rw [List.length_cons] at hll hls9
      have l0 : (0 : Int) < ((v0 :: ls).length : Int) := by rw [List.length_cons]; omega
      have l1 : ((v0 :: ls).length : Int) < 100 := by rw [List.length_cons]; omega
      k_steps
      unfold Stop
      rename_i r9 t9 p9 h9 tk9 F9 N9 hr0 hr1 G9
      obtain ⟨p', y', q', e', hl'⟩ := split_at (v0 :: ls) r9.toNat (by omega)
      obtain ⟨ll', fl', bn⟩ := b.cut e' (le := le + 1) (fe := fe + 1) G9 rfl
      have hlc : p'.length + (q'.length + 1) = ls.length + 1 := by
        have := congrArg List.length e'
        rw [List.length_append, List.length_cons, List.length_cons] at this
        omega
      rw [e'] at N9
      refine' kl_popAt (its := (p' ++ y' :: q').toArray) (n := le) (k := r9.toNat) F9 N9 (fits_small hr0 (by omega)) (seq_small hr0 (by rw [List.size_toArray, ← e']; exact hr1)) (by rw [← hl']; exact cut_of p' y' q') ?U (by rw [sizeLine_eq, ← e']; simp only [List.length_cons]; omega) ?_
      case U => k_upd
      intro h8 F8 N8
      clear N9 F9
      k_steps
      (rename Fr _ _ _ _ => FZ); (rename News _ _ _ _ => NZ)
      simp only [List.push_toArray] at NZ
      exact hK.go (⟨p9, p' ++ q', le + 1, ll', fs ++ [y'], fe + 1, fl', kk + 1⟩ : OS) FZ NZ sub_refl (all_cons rfl (all_cons rfl (all_cons rfl all_nil))) bn (by show (p' ++ q').length < (v0 :: ls).length; rw [List.length_append, List.length_cons]; omega)
end
end Mine
end
section
set_option maxRecDepth 100000
open PySem PySem.W PyProof.Rows LCg PySem.Builtin PySem.Calls
namespace Mine
section
variable {w : World} {dp un : Nat} {gd : Option (List Code)} {cn : Str} {cs : Scope} {a : Addr} {ccd : Value} {cl : List (Str × Addr)} {outer : List Env} {A₀ : Around} {base h₀ : Heap} {L : Addr} {m : Str → Option Value} {s : Shared} {mean : ExcName → Option Value} {mg mb : Str → Option Value} {Q E : Value → Shared → Prop} {news : Led}
/-- what params_of tells of the pairs l -/
structure ParPost (w : World) (l : List Pr) (D : Addr) (o : Obj) (kvs : List (Str × Value)) (news news' : Led) : Prop where
  mem : (D, o) ∈ news'
  sub : ∀ p ∈ news, p ∈ news'
  dk : o.IsDictOf (PySem.strKind PRG w) kvs
  mods : (D == sysModules) = false
  keys : ∀ x ∈ kvs, ∃ n, n < 3 ∧ x.1 = nm n
  at3 : ∀ n, n < 3 → ∃ x, Tx l n x ∧ (match x with | none => valueAt kvs (nm n) = none | some tx => ∃ t, valueAt kvs (nm n) = some (.str tx t))
theorem pairs_use {lp lc : Addr} {p0 : PotS} {k : Nat} (hne : PotNe lp lc) (hp : (lp, potO lc p0) ∈ news) (hc : (lc, celO p0) ∈ news) (ok : PotG p0 k) (hk : k < 10)
    (B : Below A₀ base outer h₀) (F : Fr h₀ L s.heap m) (X : (hd.heap_1 w.params).In h₀) (N : News h₀ L s.heap news) (T : Top Mine.V LO mean mg mb h₀) (hk' : cs.kind = .function) (h1 : dp + 3 < recursionLimit) (h2 : un + 64 < cLine)
    (ret : ∀ PD us ue l p news' h' tk', Fr h₀ L h' m → News h₀ L h' news' → PairsPost lp lc PD us ue l p news' → Q (.ref PD) { s with heap := h', toks := tk' }) :
    wpAny (model PySem.Challenge.rw_nz0291_01.row.prog w) (ktrTop dp un gd cn cs L a ccd cl outer) (call (.ref 201) [.ref lp]) Q E s :=
  does_use (law_pairs w lp lc p0 k news hne hp hc ok hk) B F X N T hk' h1 h2 fun v news' h' tk' F' N' ⟨PD, us, ue, l, p, e, h⟩ => e ▸ ret PD us ue l p news' h' tk' F' N' h
theorem due_use {PD : Addr} {us : List Value} {ep : Nat} {l : List Pr} (hP : (PD, listOf us.toArray ep) ∈ news) (hus : PrsIn news us l) (H : PrsOk l) (hlen : l.length ≤ 15)
    (B : Below A₀ base outer h₀) (F : Fr h₀ L s.heap m) (X : (hd.heap_1 w.params).In h₀) (N : News h₀ L s.heap news) (T : Top Mine.V LO mean mg mb h₀) (hk' : cs.kind = .function) (h1 : dp + 3 < recursionLimit) (h2 : un + 64 < cLine)
    (ret : ∀ D o kvs news' h' tk', Fr h₀ L h' m → News h₀ L h' news' → DuePost w l D o kvs news news' → Q (.ref D) { s with heap := h', toks := tk' }) :
    wpAny (model PySem.Challenge.rw_nz0291_01.row.prog w) (ktrTop dp un gd cn cs L a ccd cl outer) (call (.ref 206) [.ref PD]) Q E s :=
  does_use (law_due w PD us ep l news hP hus H hlen) B F X N T hk' h1 h2 fun v news' h' tk' F' N' ⟨D, o, kvs, e, h⟩ => e ▸ ret D o kvs news' h' tk' F' N' h
theorem params_use {LA : Addr} {vs : List Value} {ep : Nat} {l : List Pr} (hL : (LA, listOf vs.toArray ep) ∈ news) (hvs : PrsIn news vs l) (hok : ∀ x ∈ l, x.ok) (hlen : l.length ≤ 200) (hgood : ∀ s x, look l s = some x → x.late = false)
    (B : Below A₀ base outer h₀) (F : Fr h₀ L s.heap m) (X : (hd.heap_1 w.params).In h₀) (N : News h₀ L s.heap news) (T : Top Mine.V LO mean mg mb h₀) (hk' : cs.kind = .function) (h1 : dp + 9 < recursionLimit) (h2 : un + 256 < cLine)
    (ret : ∀ D o kvs news' h' tk', Fr h₀ L h' m → News h₀ L h' news' → ParPost w l D o kvs news news' → Q (.ref D) { s with heap := h', toks := tk' }) :
    wpAny (model PySem.Challenge.rw_nz0291_01.row.prog w) (ktrTop dp un gd cn cs L a ccd cl outer) (call (.ref 182) [.ref LA]) Q E s :=
  does_use (params_of w LA vs ep l news hL hvs hok hlen hgood) B F X N T hk' h1 h2 fun v news' h' tk' F' N' ⟨D, o, kvs, e, h1, h2, h3, h4, _, h6, h7⟩ => e ▸ ret D o kvs news' h' tk' F' N' ⟨h1, h2, h3, h4, h6, h7⟩
theorem other_use {lp lc PD : Addr} {p0 : PotS} {k ep : Nat} {us : List Value} {l : List Pr} (hne : PotNe lp lc) (hp : (lp, potO lc p0) ∈ news) (hc : (lc, celO p0) ∈ news) (ok : PotG p0 k) (hk : k + l.length < 900) (hlen : l.length < 90)
    (hP : (PD, listOf us.toArray ep) ∈ news) (hPp : @Ne Nat PD lp) (hPc : @Ne Nat PD lc) (hus : PrsIn news us l)
    (B : Below A₀ base outer h₀) (F : Fr h₀ L s.heap m) (X : (hd.heap_1 w.params).In h₀) (N : News h₀ L s.heap news) (T : Top Mine.V LO mean mg mb h₀) (hk' : cs.kind = .function) (h1 : dp + 3 < recursionLimit) (h2 : un + 64 < cLine)
    (ret : ∀ FD us' ep' l' news' h' tk', Fr h₀ L h' m → News h₀ L h' news' → OtherPost lp lc FD us' ep' l l' news news' → Q (.ref FD) { s with heap := h', toks := tk' }) :
    wpAny (model PySem.Challenge.rw_nz0291_01.row.prog w) (ktrTop dp un gd cn cs L a ccd cl outer) (call (.ref 213) [.ref lp, .ref PD]) Q E s :=
  does_use (law_other w lp lc PD p0 k ep us l news hne hp hc ok hk hlen hP hPp hPc hus) B F X N T hk' h1 h2 fun v news' h' tk' F' N' ⟨FD, us', ep', l', e, h⟩ => e ▸ ret FD us' ep' l' news' h' tk' F' N' h
end
theorem part_of_look {l l2 : List Pr} (h : look l = look l2) (n : Nat) : part l n = part l2 n := by
  funext k
  unfold part
  rw [h]
theorem Tx_of_look {l l2 : List Pr} (h : look l = look l2) {n : Nat} {x : Option Str} (g : Tx l n x) : Tx l2 n x := by
  unfold Tx at g ⊢
  rw [← part_of_look h, ← h]
  exact g
/-- what params_of tells, and what is due: the same -/
theorem same3_due {l l2 : List Pr} {ka kb : List (Str × Value)} (h : look l = look l2) (ha : ∀ x ∈ ka, ∃ n, n < 3 ∧ x.1 = nm n) (hb : ∀ x ∈ kb, ∃ n, n < 3 ∧ x.1 = nm n)
    (ta : ∀ n, n < 3 → ∃ x, Tx l n x ∧ (match x with | none => valueAt ka (nm n) = none | some tx => ∃ t, valueAt ka (nm n) = some (.str tx t))) (tb : ∀ n, n < 3 → ∃ x, Tx l2 n x ∧ At3 kb n x) : Same3 ka kb := by
  refine ⟨ha, hb, fun n hn => ?_⟩
  obtain ⟨x, t1, a⟩ := ta n hn
  obtain ⟨y, t2, b⟩ := tb n hn
  have e := (Tx_of_look h t1).uniq t2
  subst e
  refine ⟨x, ?_, b⟩
  cases x with
  | none => exact a
  | some tx => exact a
theorem look_perm {l l' : List Pr} (hp : l'.Perm l) (hn : (l.map Pr.slot).Nodup) : look l' = look l := by
  funext s
  cases h : look l' s with
  | some x =>
    have hx := hp.mem_iff.mp (look_mem h)
    have := look_of hn hx
    rw [look_slot h] at this
    exact this.symm
  | none =>
    cases g : look l s with
    | none => rfl
    | some y =>
      have hy := hp.mem_iff.mpr (look_mem g)
      unfold look at h
      rw [List.find?_eq_none] at h
      exact absurd (by simpa using look_slot g) (h y hy)
/-- the same pair, later -/
def Pr.again (x : Pr) : Pr := ⟨x.n, x.p, true⟩
theorem again_slot (x : Pr) : x.again.slot = x.slot := rfl
theorem again_key (x : Pr) : x.again.key = x.key := rfl
theorem again_b (x : Pr) : x.again.b = laterB := rfl
theorem look_again (l : List Pr) : look (l ++ l.map Pr.again) = look l := by
  funext s
  unfold look
  rw [List.find?_append]
  cases h : l.find? (fun x => decide (x.slot = s)) with
  | some x => rfl
  | none =>
    rw [Option.none_or, List.find?_eq_none]
    intro y hy
    obtain ⟨x, hx, rfl⟩ := List.mem_map.mp hy
    rw [List.find?_eq_none] at h
    exact h x hx
theorem prs_again {nw : Led} : ∀ (l : List Pr) (ys : List Value), ys.length = l.length → (∀ (i : Nat) y, ys[i]? = some y → ∃ x, l[i]? = some x ∧ ∃ T t1 t2 c, y = .ref T ∧ (T, tupOf [.str x.key t1, .bytes laterB t2] c) ∈ nw) → PrsIn nw ys (l.map Pr.again)
  | [], [], _, _ => trivial
  | x :: l, y :: ys, hl, h => by
    obtain ⟨x', e, r⟩ := h 0 y rfl
    cases e
    exact ⟨r, prs_again l ys (by simpa using hl) fun i y hy => h (i + 1) y hy⟩
  | [], _ :: _, hl, _ => by simp at hl
  | _ :: _, [], hl, _ => by simp at hl
section
variable {prog : Program} {w : World} {A : Around} {E : Value → Shared → Prop} {s : Shared} {h₀ : Heap} {L : Addr} {m : Str → Option Value} {env : Env}
def PTurn0 (prog : Program) (w : World) (A : Around) (h₀ : Heap) (L : Addr) (m : Str → Option Value) (env : Env) (elt : Expr) (x x₂ : Str) (scope : Scope) (cl : List (Str × Addr)) (s : Shared) (S : Led → Prop) (Inv : Nat → List Value → Led → Prop) (its : Array Value) : Prop :=
  ∀ i v ys nw, its[i]? = some v → Inv i ys nw → S nw → ∃ (t : Addr) (v₁ v₂ : Value) (c : Nat), v = .ref t ∧ (t, tupOf [v₁, v₂] c) ∈ nw ∧
    ∀ I oI C oC D m₂ h tk (E' : Value → Shared → Prop), NsObj oC m₂ → m₂ x = some v₁ → m₂ x₂ = some v₂ → Fr h₀ L h m → News h₀ L h ((I, oI) :: (C, oC) :: (D, lst ys) :: nw) → Off3 I C D nw → ((@Ne Nat I C) ∧ (@Ne Nat I D) ∧ (@Ne Nat C D)) →
      wpAny (model prog w) A (eval elt (compEnvC scope cl C env)) (CompEnd h₀ L m { s with heap := h, toks := tk } I oI C oC D (lst ys) S (fun y nw' => Inv (i + 1) (ys ++ [y]) nw')) E' { s with heap := h, toks := tk }
theorem restP {elt : Expr} {x x₂ : Str} {scope : Scope} {cl : List (Str × Addr)} {S : Led → Prop} {Inv : Nat → List Value → Led → Prop} {its : Array Value} {Fin : List Value → Led → Prop}
    (turn : PTurn0 prog w A h₀ L m env elt x x₂ scope cl s S Inv its) (done : ∀ ys nw, Inv its.size ys nw → S nw → Fin ys nw) :
    ∀ (k i : Nat) (ys : List Value) (nw : Led), i + k = its.size → Inv i ys nw → S nw → LCp.CompRestP prog w A h₀ L m env elt x x₂ scope cl s S (fun i v => its[i]? = some v) Fin k i ys nw := by
  intro k
  induction k with
  | zero =>
    intro i ys nw hi hI hS
    have hi' : i = its.size := by omega
    subst hi'
    exact LCp.CompRestP.zero (done ys nw hI hS)
  | succ k ih =>
    intro i ys nw hi hI hS
    refine LCp.CompRestP.succ fun v hv => ?_
    obtain ⟨t, v₁, v₂, c, rfl, hm, R⟩ := turn i v ys nw hv hI hS
    refine ⟨t, _, v₁, v₂, c, rfl, hm, rfl, rfl, fun I oI C oC D m₂ h tk E' hC h1 h2 F N off ne => ?_⟩
    refine wpAny_mono (R I oI C oC D m₂ h tk E' hC h1 h2 F N off ne) (fun y s' hy => ?_) fun _ _ e => e
    obtain ⟨h', tk', nw', e, F', N', off', hS', hI'⟩ := hy
    exact ⟨h', tk', nw', e, F', N', off', hS', ih (i + 1) (ys ++ [y]) nw' (by omega) hI' hS'⟩
/-- what the iterable's value is to be -/
def PSrc0 (prog : Program) (w : World) (A : Around) (h₀ : Heap) (L : Addr) (m : Str → Option Value) (env : Env) (elt : Expr) (x x₂ : Str) (scope : Scope) (cl : List (Str × Addr)) (Q : Value → Shared → Prop) (xv : Value) (s₁ : Shared) : Prop :=
  ∃ (ax : Addr) (its : List Value) (k : Nat) (news : Led) (Inv : Nat → List Value → Led → Prop), xv = .ref ax ∧ A.handled = none ∧ Fr h₀ L s₁.heap m ∧ News h₀ L s₁.heap news ∧ (ax, listOf its.toArray k) ∈ news ∧ its.length ≤ sizeLine ∧ Inv 0 [] news ∧
    (∀ i ys nw, Inv i ys nw → (ax, listOf its.toArray k) ∈ nw) ∧
    (∀ g, PTurn0 prog w A h₀ L m env elt x x₂ scope cl { s₁ with heap := g } (SrcAt h₀ ax its.toArray) Inv its.toArray) ∧
    ∀ D ys nw h tk, Fr h₀ L h m → News h₀ L h ((D, lst ys) :: nw) → Inv its.length ys nw → Q (.ref D) { s₁ with heap := h, toks := tk }
theorem comp_p0 {elt iter : Expr} {x x₂ : Str} {px px₂ tp : Pos} {tk} {scope : Scope} {cl : List (Str × Addr)} {pos : Pos} {Q : Value → Shared → Prop} (F₀ : Fr h₀ L s.heap m)
    (hclos : closureFor scope env = pure cl) (hcell : ∀ y ∈ scope.names, y.2 ≠ .cell) (hkind : scope.kind = .function)
    (hnames : ∀ y ∈ scope.names, y.2 = .local → scope.names.lookup y.1 = some .local) (hx : scope.names.lookup x = some .local) (hx₂ : scope.names.lookup x₂ = some .local) (hxx : x ≠ x₂)
    (h : wpAny (model prog w) A (eval iter env) (PSrc0 prog w A h₀ L m env elt x x₂ scope cl Q) E s)
    (hs : ∀ x, foldedSetIterable iter env x = pure x := by intro _; rfl) :
    wpAny (model prog w) A (eval (.ListComp elt [⟨.Tuple [.Name x px, .Name x₂ px₂] tk tp, iter, [], 0⟩] scope pos) env) Q E s := by
  refine LCp.ListComp_P F₀ hclos hcell hkind hnames hx hx₂ hxx (wpAny_mono h (fun xv s₁ h₁ => ?_) fun _ _ e => e) hs
  obtain ⟨ax, its, k, news, Inv, rfl, hh, F, N, hm, hsz, hI, hmem, R, done⟩ := h₁
  refine LCp.SrcLP.ledger (its := its.toArray) (k := k) hh F N hm (by rw [List.size_toArray]; exact hsz) fun g => ?_
  refine restP (Inv := Inv) (R g) (fun ys nw hI hS => ?_) its.toArray.size 0 [] news (Nat.zero_add _) hI (.inr ⟨_, hm, rfl, _, rfl⟩)
  intro D h tk F' N' _
  exact done D ys nw h tk F' N' (by rw [List.size_toArray] at hI; exact hI)
end
/-- the later pairs so far -/
def Agn (l : List Pr) (nw : Led) (ys : List Value) : Prop := ∀ (j : Nat) y, ys[j]? = some y → ∃ x, l[j]? = some x ∧ ∃ T t1 t2 c, y = .ref T ∧ (T, tupOf [.str x.key t1, .bytes laterB t2] c) ∈ nw
theorem Agn.snoc {l : List Pr} {nw : Led} {ys : List Value} {i : Nat} {x : Pr} {D : Addr} {t1 t2 : Tok} {c : Nat} (h : Agn l nw ys) (hl : ys.length = i) (hx : l[i]? = some x) : Agn l ((D, tupOf [.str x.key t1, .bytes laterB t2] c) :: nw) (ys ++ [.ref D]) := by
  intro j y hy
  by_cases hj : j < ys.length
  · rw [List.getElem?_append_left hj] at hy
    obtain ⟨z, a, T, u1, u2, c', e, m⟩ := h j y hy
    exact ⟨z, a, T, u1, u2, c', e, .tail _ m⟩
  · rw [List.getElem?_append_right (by omega)] at hy
    have hj' : j - ys.length = 0 := by
      cases hq : j - ys.length with
      | zero => rfl
      | succ q => rw [hq] at hy; simp at hy
    rw [hj'] at hy
    simp at hy
    have hji : j = i := by omega
    rw [hji, ← hy]
    exact ⟨x, hx, D, t1, t2, c, rfl, .head _⟩
end Mine
end
section
set_option maxRecDepth 100000
open PySem PySem.W PyProof.Rows LCg PySem.Builtin PySem.Calls
namespace Mine
theorem pot_fold (vs : List Int) : 0 ≤ List.foldl (fun a' n' => Int.fmod (a' * 48271 + Int.fmod n' 2147483647 + 12345) 2147483647) 1 vs ∧ List.foldl (fun a' n' => Int.fmod (a' * 48271 + Int.fmod n' 2147483647 + 12345) 2147483647) 1 vs < 2147483647 := by
  have : ∀ (vs : List Int) (a : Int), 0 ≤ a ∧ a < 2147483647 → 0 ≤ List.foldl (fun a' n' => Int.fmod (a' * 48271 + Int.fmod n' 2147483647 + 12345) 2147483647) a vs ∧ List.foldl (fun a' n' => Int.fmod (a' * 48271 + Int.fmod n' 2147483647 + 12345) 2147483647) a vs < 2147483647 := by
    intro vs
    induction vs with
    | nil => exact fun a h => h
    | cons v r ih => exact fun a h => ih _ ⟨fmod_lo _ (by decide), fmod_hi _ (by decide)⟩
  exact this vs 1 (by decide)
theorem dict_list_ne {h₀ h : Heap} {L : Addr} {led : Led} {d a : Addr} {o : Obj} {its : Array Value} {n : Nat} (N : News h₀ L h led) (m : (d, o) ∈ led) (m' : (a, listOf its n) ∈ led) (hc : o.cls = .type "dict") : @Ne Nat d a := by
  intro e
  have h1 := (N _ m).1
  have h2 := (N _ m').1
  rw [show (d, o).1 = a from e] at h1
  have h3 : some o = some (listOf its n) := h1.symm.trans h2
  injection h3 with h3
  rw [h3] at hc
  exact absurd (show Value.type "list" = Value.type "dict" from hc) (by decide)
section
variable {lp lc PD : Addr} {us : List Value} {ue : Nat} {l : List Pr} {p : PotS} {nw : Led}
theorem PairsPost.ok1 (H : PairsPost lp lc PD us ue l p nw) : ∀ x ∈ l, x.ok := fun x hx => (H.ok x hx).1
theorem PairsPost.good (H : PairsPost lp lc PD us ue l p nw) : ∀ s x, look l s = some x → x.late = false := fun s x hx => (H.ok x (look_mem hx)).2
theorem PairsPost.k900 (H : PairsPost lp lc PD us ue l p nw) : 100 + l.length < 900 := by have := H.len; omega
theorem PairsPost.k90 (H : PairsPost lp lc PD us ue l p nw) : l.length < 90 := by have := H.len; omega
end
/-- what stands after the other order is drawn -/
structure After (PD : Addr) (us : List Value) (ue : Nat) (DU : Addr) (ou : Obj) (l l4 : List Pr) (nw4 : Led) : Prop where
  ok : ∀ x ∈ l4, x.ok
  len : l4.length ≤ 200
  good : ∀ s x, look l4 s = some x → x.late = false
  look : look l4 = look l
  mD : (DU, ou) ∈ nw4
  mP : (PD, listOf us.toArray ue) ∈ nw4
  prs : PrsIn nw4 us l
  ul : us.length ≤ 15
theorem OtherPost.after {w : World} {lp lc PD FD DU : Addr} {us us4 : List Value} {ue ep4 : Nat} {l l4 : List Pr} {p : PotS} {nw1 nw3 nw4 : Led} {ou : Obj} {ku : List (Str × Value)} {h₀ h : Heap} {L : Addr} (H : OtherPost lp lc FD us4 ep4 l l4 nw3 nw4) (N : News h₀ L h nw3) (ha : (lp, potO lc p) ∈ nw3) (hb : (lc, celO p) ∈ nw3)
    (HP : PairsPost lp lc PD us ue l p nw1) (hD : (DU, ou) ∈ nw3) (hd : ou.IsDictOf (PySem.strKind PRG w) ku) (hus : PrsIn nw3 us l) (hP : (PD, listOf us.toArray ue) ∈ nw3) : After PD us ue DU ou l l4 nw4 := by
  have hl := look_perm H.pm HP.nd
  exact ⟨fun x hx => HP.ok1 x (H.pm.mem_iff.mp hx), by rw [H.pm.length_eq]; exact Nat.le_trans HP.len (by decide), fun s x hx => HP.good s x (by rw [← hl]; exact hx), hl,
    H.keep _ hD (dict_list_ne N hD ha (dict_cls hd)) (dict_list_ne N hD hb (dict_cls hd)), H.keep _ hP HP.nP HP.nC,
    prs_sub (fun T its c m => H.keep _ m (obj_ne N m ha (list_cls _ _)) (obj_ne N m hb (list_cls _ _))) hus, by rw [hus.length]; exact HP.len⟩
theorem After.sz {PD : Addr} {us : List Value} {ue : Nat} {DU : Addr} {ou : Obj} {l l4 : List Pr} {nw4 : Led} (H : After PD us ue DU ou l l4 nw4) : us.length ≤ sizeLine := by rw [sizeLine_eq]; exact Nat.le_trans H.ul (by decide)
/-- the second list so far -/
structure AgI (l : List Pr) (nw5 : Led) (i : Nat) (ys : List Value) (nw : Led) : Prop where
  sub : ∀ p ∈ nw5, p ∈ nw
  len : ys.length = i
  ag : Agn l nw ys
section
variable {l l4 : List Pr} {nw4 nw5 nw : Led} {i : Nat} {us ys : List Value} {PD DU : Addr} {ou : Obj} {ue : Nat}
theorem AgI.nil : AgI l nw5 0 [] nw5 := ⟨fun _ h => h, rfl, fun j y hy => by simp at hy⟩
theorem AgI.turn {v : Value} {G : Prop} (hus : PrsIn nw5 us l) (hv : us.toArray[i]? = some v) (H : AgI l nw5 i ys nw)
    (K : ∀ T x t1 t2 c, l[i]? = some x → v = .ref T → (T, tupOf [.str x.key t1, .bytes x.b t2] c) ∈ nw → G) : G := by
  rw [List.getElem?_toArray] at hv
  obtain ⟨x, hx, T, t1, t2, c, e, hm⟩ := prs_at hus hv
  exact K T x t1 t2 c hx e (H.sub _ hm)
theorem AgI.goes {h₀ h : Heap} {L I C D D2 : Addr} {oI oC : Obj} {m : Str → Option Value} {s1 : Shared} {x : Pr} {t1 t2 : Tok} {c tk : Nat} (H : AgI l nw5 i ys nw) (hP : (PD, listOf us.toArray ue) ∈ nw5) (hx : l[i]? = some x) (off : Off3 I C D nw) (a1 : I < D2) (a2 : C < D2) (a3 : D < D2)
    (F : Fr h₀ L h m) (N : News h₀ L h ((D2, tupOf [.str x.key t1, .bytes laterB t2] c) :: (I, oI) :: (C, oC) :: (D, lst ys) :: nw)) :
    CompEnd h₀ L m s1 I oI C oC D (lst ys) (SrcAt h₀ PD us.toArray) (fun y nw' => AgI l nw5 (i + 1) (ys ++ [y]) nw') (.ref D2) { s1 with heap := h, toks := tk } := by
  refine CompEnd.intro F N ((D2, tupOf [.str x.key t1, .bytes laterB t2] c) :: nw) ?_ ?_ (.inr ⟨_, .tail _ (H.sub _ hP), rfl, _, rfl⟩) ⟨fun p hp => .tail _ (H.sub p hp), by rw [List.length_append, List.length_singleton, H.len], H.ag.snoc H.len hx⟩
  · intro p hp
    rcases List.mem_cons.mp hp with rfl | hp
    · exact .tail _ (.head _)
    rcases List.mem_cons.mp hp with rfl | hp
    · exact .tail _ (.tail _ (.head _))
    rcases List.mem_cons.mp hp with rfl | hp
    · exact .tail _ (.tail _ (.tail _ (.head _)))
    rcases List.mem_cons.mp hp with rfl | hp
    · exact .head _
    · exact .tail _ (.tail _ (.tail _ (.tail _ hp)))
  · refine Off3.of fun p hp => ?_
    rcases List.mem_cons.mp hp with rfl | hp
    · exact ⟨Nat.ne_of_gt a1, Nat.ne_of_gt a2, Nat.ne_of_gt a3⟩
    · exact off.mem p hp
theorem AgI.sz (H : AgI l nw5 us.length ys nw) (A : After PD us ue DU ou l l4 nw4) : us.length + ys.length ≤ sizeLine := by rw [sizeLine_eq]; have := A.ul; have := H.len; omega
theorem AgI.prs9 {D9 D : Addr} {o9 o : Obj} (H : AgI l nw5 us.length ys nw) (hus : PrsIn nw5 us l) : PrsIn ((D9, o9) :: (D, o) :: nw) (us ++ ys) (l ++ l.map Pr.again) :=
  PrsIn.append (hus.mono fun p hp => .tail _ (.tail _ (H.sub p hp))) (prs_again l ys (by rw [H.len, hus.length]) fun j y hy => by
    obtain ⟨x, a, T, u1, u2, c', e, m⟩ := H.ag j y hy
    exact ⟨x, a, T, u1, u2, c', e, .tail _ (.tail _ m)⟩)
theorem again_ok (h : ∀ x ∈ l, x.ok) : ∀ x ∈ l ++ l.map Pr.again, x.ok := fun x hx => by
  rcases List.mem_append.mp hx with hx | hx
  · exact h x hx
  · obtain ⟨y, hy, rfl⟩ := List.mem_map.mp hx
    exact h y hy
theorem again_len (h : l.length ≤ 15) : (l ++ l.map Pr.again).length ≤ 200 := by rw [List.length_append, List.length_map]; omega
theorem again_good (h : ∀ s x, look l s = some x → x.late = false) : ∀ s x, look (l ++ l.map Pr.again) s = some x → x.late = false := fun s x hx => h s x (by rw [← look_again l]; exact hx)
end
section
local macro_rules | `(tactic| k_ne) => `(tactic| first | assumption | (refine neN ?_; (try dsimp only); omega))
local macro_rules | `(tactic| walk_at "call ref") => `(tactic| ((with_reducible show wpAny _ _ (call (Value.ref 201) _) _ _ _); refine Stop.of ?_))
local macro_rules | `(tactic| walk_at "call ref") => `(tactic| ((with_reducible show wpAny _ _ (call (Value.ref 206) _) _ _ _); refine Stop.of ?_))
local macro_rules | `(tactic| walk_at "call ref") => `(tactic| ((with_reducible show wpAny _ _ (call (Value.ref 182) _) _ _ _); refine Stop.of ?_))
local macro_rules | `(tactic| walk_at "call ref") => `(tactic| ((with_reducible show wpAny _ _ (call (Value.ref 213) _) _ _ _); refine Stop.of ?_))
local macro_rules | `(tactic| walk_at "compareOp NotEq ref ref") => `(tactic| (refine Stop.of ?_))
local macro_rules | `(tactic| walk_at "compareOp Eq ref ref") => `(tactic| (refine Stop.of ?_))
local macro_rules | `(tactic| walk_at "binaryOp Add ref ref") => `(tactic| (refine Stop.of ?_))
local macro_rules | `(tactic| walk_at "eval ListComp") => `(tactic| ((rename Mark => mk9); clear mk9; refine Stop.of ?_))
local macro_rules | `(tactic| k_qdec) => `(tactic| decide +kernel)
set_option maxHeartbeats 8000000 in
theorem law_holds : PySem.Challenge.rw_nz0291_01.Holds := hd (by
  k_go0
  (all_goals try k_fold)
  k_steps
  unfold Stop
  (rename IntsAre _ (List.map _ (List.map _ _)) => hiP)
  (rename News _ _ _ _ => N1)
  (rename Fr _ _ _ _ => F1)
  k_dflt (refine' pairs_use (p0 := ⟨_, _, _, _, _, _, _, _⟩) (k := 0) ⟨?ne⟩ (.head _) (.tail _ (.head _)) ⟨hiP, ?ok⟩ (by decide) ?B F1 ?X N1 ?T ?K ?d ?u ?_)
  case ne => k_ne
  case ok =>
    exact ⟨by rw [List.length_map, List.length_map, List.length_take]; omega, (fun x hx => by obtain ⟨y, _, rfl⟩ := List.mem_map.mp hx; exact fmod_lo _ (by decide)), (pot_fold _).1, (pot_fold _).2, Int.le_refl _, Int.le_refl _⟩
  case B => k_asm
  case X => k_asm
  case T => k_asm
  case K => exact rfl
  case d => ktr_room
  case u => ktr_units
  clear N1 F1 hiP
  intro PD us ue l p nw1 h1 tk1 F1 N1 HP
  have mk : Mark := trivial
  k_steps
  unfold Stop
  (rename News _ _ _ _ => N2)
  (rename Fr _ _ _ _ => F2)
  k_dflt (refine' due_use HP.mP HP.prs ⟨HP.ok, HP.nd⟩ HP.len ?B F2 ?X N2 ?T ?K ?d ?u ?_)
  case B => k_asm
  case X => k_asm
  case T => k_asm
  case K => exact rfl
  case d => ktr_room
  case u => ktr_units
  clear N2 F2
  intro DU ou ku nw2 h2 tk2 F1 N1 HD
  k_steps
  unfold Stop
  (rename News _ _ _ _ => N2)
  (rename Fr _ _ _ _ => F2)
  k_dflt (refine' params_use (HD.sub _ HP.mP) (HP.prs.mono HD.sub) HP.ok1 (Nat.le_trans HP.len (by decide)) HP.good ?B F2 ?X N2 ?T ?K ?d ?u ?_)
  case B => k_asm
  case X => k_asm
  case T => k_asm
  case K => exact rfl
  case d => ktr_room
  case u => ktr_units
  clear N2 F2
  intro D1 o1 k1 nw3 h3 tk3 F1 N1 H1
  k_steps
  unfold Stop
  (rename News _ _ _ _ => N2)
  k_dflt (refine dict_ne N2 H1.mem (H1.sub _ HD.mem) H1.dk HD.dk H1.mods HD.mods (same3_due rfl H1.keys HD.keys H1.at3 HD.at3) (by ktr_units) ?_)
  k_steps
  unfold Stop
  (rename News _ _ _ _ => N2)
  (rename Fr _ _ _ _ => F2)
  have S3 : ∀ q ∈ nw1, q ∈ nw3 := fun q hq => H1.sub _ (HD.sub _ hq)
  k_dflt (refine' other_use (k := 100) ⟨?ne⟩ (S3 _ HP.mp) (S3 _ HP.mc) HP.pg (HP.k900) (HP.k90) (S3 _ HP.mP) HP.nP HP.nC (HP.prs.mono S3) ?B F2 ?X N2 ?T ?K ?d ?u ?_)
  case ne => k_ne
  case B => k_asm
  case X => k_asm
  case T => k_asm
  case K => exact rfl
  case d => ktr_room
  case u => ktr_units
  intro FD us4 ep4 l4 nw4 h4 tk4 F1 N1 HO
  have A4 := HO.after N2 (S3 _ HP.mp) (S3 _ HP.mc) HP (H1.sub _ HD.mem) HD.dk (HP.prs.mono S3) (S3 _ HP.mP)
  clear N2 F2
  k_steps
  unfold Stop
  (rename News _ _ _ _ => N2)
  (rename Fr _ _ _ _ => F2)
  k_dflt (refine' params_use HO.mem HO.prs A4.ok A4.len A4.good ?B F2 ?X N2 ?T ?K ?d ?u ?_)
  case B => k_asm
  case X => k_asm
  case T => k_asm
  case K => exact rfl
  case d => ktr_room
  case u => ktr_units
  clear N2 F2
  intro D2 o2 k2 nw5 h5 tk5 F1 N1 H2
  k_steps
  unfold Stop
  (rename News _ _ _ _ => N2)
  k_dflt (refine dict_ne N2 H2.mem (H2.sub _ A4.mD) H2.dk HD.dk H2.mods HD.mods (same3_due A4.look H2.keys HD.keys H2.at3 HD.at3) (by ktr_units) ?_)
  k_steps
  unfold Stop
  (rename News _ _ _ _ => N2)
  (rename Fr _ _ _ _ => F2)
  k_dflt (refine comp_p0 (by k_asm) (by with_unfolding_all rfl) (by decide) (by rfl) (by decide) (by rfl) (by rfl) (by decide) ?_)
  k_steps
  refine ⟨PD, us, ue, nw5, AgI l nw5, rfl, rfl, by k_asm, N2, H2.sub _ A4.mP, A4.sz, AgI.nil, fun i ys nw hI => hI.sub _ (H2.sub _ A4.mP), ?_, ?_⟩
  · intro g1 i v ys nw hv hI hS
    refine AgI.turn (A4.prs.mono H2.sub) hv hI ?_
    intro T x t1 t2 c hx e hm
    refine ⟨T, .str x.key t1, .bytes x.b t2, c, e, hm, ?_⟩
    intro I oI C oC D m₂ h tk E' hC hx1 hx2 F2 N2 off ne
    k_steps
    rename_i D2 h2 F3 N3 l3
    exact hI.goes (H2.sub _ A4.mP) hx off l3.1 l3.2.1 l3.2.2.1 F3 N3
  · intro D ys nw h tk F2 N2 hI
    k_steps
    unfold Stop
    refine kmk_add_lit (zs := us ++ ys) F2 N2 ⟨_, (N2 _ (.tail _ (hI.sub _ (H2.sub _ A4.mP)))).1, rfl, _, rfl⟩ ⟨_, (N2 _ (.head _)).1, rfl, _, rfl⟩ rfl ?_ (hI.sz A4)
    intro D9 h9 F9 N9 l9
    k_steps
    unfold Stop
    (rename News _ _ _ _ => N1)
    (rename Fr _ _ _ _ => F1)
    k_dflt (refine' params_use (.head _) (hI.prs9 (A4.prs.mono H2.sub)) (again_ok HP.ok1) (again_len HP.len) (again_good HP.good) ?B F1 ?X N1 ?T ?K ?d ?u ?_)
    case B => k_asm
    case X => k_asm
    case T => k_asm
    case K => exact rfl
    case d => ktr_room
    case u => ktr_units
    clear N1 F1
    intro D3 o3 k3 nw6 h6 tk6 F1 N1 H3
    k_steps
    unfold Stop
    (rename News _ _ _ _ => N2)
    k_dflt (refine dict_eq N2 H3.mem (H3.sub _ (.tail _ (.tail _ (hI.sub _ (H2.sub _ A4.mD))))) H3.dk HD.dk H3.mods HD.mods (same3_due (look_again l) H3.keys HD.keys H3.at3 HD.at3) (by ktr_units) ?_)
    k_steps)
end
end Mine
end
theorem PySem.Challenge.cw_nz0291_01_holds : PySem.Challenge.rw_nz0291_01.Holds := by
  exact Mine.law_holds
