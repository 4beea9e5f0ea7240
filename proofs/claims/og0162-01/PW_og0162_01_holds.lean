import PyProof.Rows.All
import Wide.All
import OpenK.AllK
import Wide.FinOn
import PySem.Challenge.RW_og0162_01
set_option Elab.async false
set_option linter.all false
section
open PySem PySem.W PyProof.Rows
set_option synthInstance.maxSize 1 in
set_option maxHeartbeats 8000000 in
open_top hd for PySem.Challenge.rw_og0162_01
end
theorem Mine.room {a b k c : Nat} (h : a < b) (hk : b + k ≤ c) : a + k < c := Nat.lt_of_lt_of_le (Nat.add_lt_add_right h k) hk
local macro_rules | `(tactic| k_ne) => `(tactic| first | (with_reducible assumption) | exact Ne.symm (by with_reducible assumption) | (refine PySem.W.neN ?_; (try dsimp only); omega))
local macro_rules | `(tactic| walk_at $s:str) => `(tactic| k_extra $s)
section
open PySem PySem.W PyProof.Rows PySem.Calls
namespace Mine
theorem fresh_P1 : True := by
  w_top off
  k_with_none
  trivial
def IsPen (k : Int) (o : Obj) : Prop := ∃ p q tp tq nn, o = listOf #[.int p tp, .int q tq] nn ∧ 0 ≤ p ∧ 0 ≤ q ∧ q ≤ k
theorem IsPen.mono {k k' : Int} {o : Obj} (h : IsPen k o) (hk : k ≤ k') : IsPen k' o := by
  obtain ⟨p, q, tp, tq, nn, e, h1, h2, h3⟩ := h
  exact ⟨p, q, tp, tq, nn, e, h1, h2, by omega⟩
theorem fmod_in {a b : Int} (hb : 0 < b) : 0 ≤ a.fmod b ∧ a.fmod b < b := ⟨Int.fmod_nonneg_of_pos a hb, Int.fmod_lt_of_pos a hb⟩
theorem fdiv_in {a b : Int} (ha : 0 ≤ a) (hb : 0 < b) : 0 ≤ a.fdiv b := Int.fdiv_nonneg ha (Int.le_of_lt hb)
set_option maxRecDepth 100000 in
set_option maxHeartbeats 8000000 in
theorem draw_spec {w : World} {mean : ExcName → Option Value} {mg mb : Str → Option Value} {dp un : Nat} {gd : Option (List Code)} {cn : Str} {cs : Scope} {a : Addr} {ccd : Value} {cl : List (Str × Addr)} {outer : List Env} {A₀ : Around} {base h₀ : Heap} {L : Addr} {m : Str → Option Value} {s : Shared} {Q E : Value → Shared → Prop}
    (B : Below A₀ base outer h₀) (F : Fr h₀ L s.heap m) (X : (hd.heap_39 w.params).In h₀) (T : Top hd.view_39 (looseW hd.view_39 []) mean mg mb h₀) (hk : cs.kind = .function)
    {pen : Addr} {po : Obj} {k many : Int} {tm : Tok}
    (N : News h₀ L s.heap [(pen, po)]) (hpo : IsPen k po)
    (hq2 : k < 100000) (hm : 0 < many) (hm2 : many < 1000) (hd : dp < 900) (hu : un < 9000)
    (ret : ∀ d td po' h' tk', 0 ≤ d → d < many → IsPen (k + 1) po' → Fr h₀ L h' m → News h₀ L h' [(pen, po')] →
      (∀ b o, s.heap.get? b = some o → b ≠ pen → h'.get? b = some o) → Q (.int d td) { s with heap := h', toks := tk' }) :
    wpAny (model Challenge.rw_og0162_01.row.prog w) (ktrTop dp un gd cn cs L a ccd cl outer) (call (.ref 117) [.ref pen, .int many tm]) Q E s := by
  k_with_none
  obtain ⟨p, q, tp, tq, nn, rfl, hp, hq, hqk⟩ := hpo
  revert X; k_fill; intro X
  refine wpAny_call ?_
  k_dflt (refine' code_defG ?k1 ?k2 ?k3 ?k4 ?k5 ?kA ?kF ?kK ?k6 ?k7 ?k8 ?k9 ?kB ?_ ?c2 ?c3 ?c4 ?c5; (case kA => exact rfl); (case kF => exact rfl); (case kK => assumption); (case k1 => k_asm); (case k2 => k_asm); (case k3 => k_asm); (case k4 => k_asm); (case k5 => k_asm); (case k6 => k_is); (case k7 => k_is); (case k8 => ktr_room); (case k9 => exact BindsTo.of_eq rfl); (case c5 => decide); (case kB => exact locs rfl); (case c2 => exact rfl); (case c3 => exact rfl); (case c4 => exact rfl))
  k_whole
  intro g' L' h₁ FG' F' N' B' X' T' kG'
  (try dsimp only)
  (try k_fold)
  k_steps
  all_goals (refine ret _ _ _ _ _ (fmod_in hm).1 (fmod_in hm).2 ⟨_, _, _, _, _, rfl, ?_, ?_, ?_⟩ (by assumption) (by assumption) (fun b o e hb => Fr.keep (h₀ := g') (L := L') (by assumption) b o (kG' b o e (by simpa using hb))))
  all_goals first | omega | (refine fdiv_in ?_ hm; simp; omega) | (simp; omega)
end Mine
end
section
open PySem PySem.W PyProof.Rows PySem.Calls
namespace Mine
theorem fresh_P2 : True := by
  w_top off
  k_with_none
  trivial

theorem news_use {h₀ h h' : Heap} {L pen : Addr} {po po' : Obj} {ns : List (Addr × Obj)} {g : Obj → List (Addr × Obj)} (N : News h₀ L h ns) (U : UpdF pen po ns g) (N1 : News h₀ L h' [(pen, po')])
    (hk : ∀ b o, h.get? b = some o → b ≠ pen → h'.get? b = some o) : News h₀ L h' (g po') := by
  obtain ⟨pre, post, rfl, hg, a, b⟩ := U.split
  rw [hg]
  intro p hp
  rcases List.mem_append.mp hp with hp | hp
  · have z := N p (List.mem_append.mpr (.inl hp))
    exact ⟨hk _ _ z.1 (a p hp), z.2⟩
  · rcases List.mem_cons.mp hp with rfl | hp
    · exact N1 _ (.head _)
    · have z := N p (List.mem_append.mpr (.inr (.tail _ hp)))
      exact ⟨hk _ _ z.1 (b p hp), z.2⟩
theorem news_of_upd {h₀ h : Heap} {L pen : Addr} {po : Obj} {ns : List (Addr × Obj)} {g : Obj → List (Addr × Obj)} (N : News h₀ L h ns) (U : UpdF pen po ns g) : News h₀ L h [(pen, po)] := by
  obtain ⟨pre, post, rfl, hg, a, b⟩ := U.split
  intro p hp
  rw [List.mem_singleton.mp hp]
  exact N _ (List.mem_append.mpr (.inr (.head _)))
set_option maxRecDepth 100000 in
set_option maxHeartbeats 8000000 in
theorem draw_use {w : World} {mean : ExcName → Option Value} {mg mb : Str → Option Value} {dp un : Nat} {gd : Option (List Code)} {cn : Str} {cs : Scope} {a : Addr} {ccd : Value} {cl : List (Str × Addr)} {outer : List Env} {A₀ : Around} {base h₀ : Heap} {L : Addr} {m : Str → Option Value} {s : Shared} {Q E : Value → Shared → Prop}
    (B : Below A₀ base outer h₀) (F : Fr h₀ L s.heap m) (X : (hd.heap_39 w.params).In h₀) (T : Top hd.view_39 (looseW hd.view_39 []) mean mg mb h₀) (hk : cs.kind = .function)
    {pen : Addr} {po : Obj} {k many : Int} {tm : Tok} {ns : List (Addr × Obj)} {g : Obj → List (Addr × Obj)}
    (N : News h₀ L s.heap ns) (U : UpdF pen po ns g) (hpo : IsPen k po)
    (hq2 : k < 100000) (hm : 0 < many) (hm2 : many < 1000) (hd : dp < 900) (hu : un < 9000)
    (ret : ∀ d td po' h' tk', 0 ≤ d → d < many → IsPen (k + 1) po' → Fr h₀ L h' m → News h₀ L h' (g po') → Q (.int d td) { s with heap := h', toks := tk' }) :
    wpAny (model Challenge.rw_og0162_01.row.prog w) (ktrTop dp un gd cn cs L a ccd cl outer) (call (.ref 117) [.ref pen, .int many tm]) Q E s :=
  draw_spec B F X T hk (news_of_upd N U) hpo hq2 hm hm2 hd hu fun d td po' h' tk' h1 h2 h3 h4 h5 h6 => ret d td po' h' tk' h1 h2 h3 h4 (news_use N U h5 h6)

theorem item_open {prog : Program} {w : World} {A : Around} {E : Value → Shared → Prop} {s : Shared} {value slice : PySem.Expr} {l : Addr} {vs : List Value} {k : Int} {u : Tok} {Q : Value → Shared → Prop}
    (hl : s.heap.IsList l vs.toArray) (h0 : 0 ≤ k) (hlt : k < (vs.length : Int)) (hsz : vs.length < 1000) (h : ∀ v, v ∈ vs → vs[k.toNat]? = some v → Q v s)
    (hs : subscripted slice false (.ref l) (.int k u) = operate [.ref l, .int k u] (getItem (.ref l) (.int k u)) := by with_unfolding_all rfl) :
    wpAny (model prog w) A (subscriptTail value slice (.ref l) (.int k u)) Q E s := by
  have hx : k.toNat < vs.length := by omega
  have hg : vs[k.toNat]? = some vs[k.toNat] := List.getElem?_eq_getElem hx
  exact tail_any hl.typeIs slot_list_getitem.lookup (wpAny_getItem_list hl h0 (by omega) (by simpa using hg) (h _ (List.getElem_mem hx) hg)) hs

theorem len_L {prog : Program} {w : World} {A : Around} {E : Value → Shared → Prop} {s : Shared} {l : Addr} {vs : List Value} {Q : Value → Shared → Prop}
    (hl : s.heap.IsList l vs.toArray) (hsz : vs.length < 1000) (h : Q (.int (vs.length : Int) (s.toks + 1)) { s with toks := s.toks + 1 + 1 }) :
    wpAny (model prog w) A (call (.builtin "len") [.ref l]) Q E s :=
  Calls.call_len_list hl (by simp; omega) (by simpa using h)
set_option maxRecDepth 100000 in
set_option maxHeartbeats 8000000 in
theorem pick_spec {w : World} {mean : ExcName → Option Value} {mg mb : Str → Option Value} {dp un : Nat} {gd : Option (List Code)} {cn : Str} {cs : Scope} {a : Addr} {ccd : Value} {cl : List (Str × Addr)} {outer : List Env} {A₀ : Around} {base h₀ : Heap} {L : Addr} {m : Str → Option Value} {s : Shared} {Q E : Value → Shared → Prop}
    (B : Below A₀ base outer h₀) (F : Fr h₀ L s.heap m) (X : (hd.heap_39 w.params).In h₀) (T : Top hd.view_39 (looseW hd.view_39 []) mean mg mb h₀) (hk : cs.kind = .function)
    {pen l : Addr} {po : Obj} {k : Int} {vs : List Value}
    (N : News h₀ L s.heap [(pen, po)]) (hpo : IsPen k po) (hl : s.heap.IsList l vs.toArray) (hlp : l ≠ pen) (hv1 : 0 < vs.length) (hv2 : vs.length < 1000)
    (hq2 : k < 100000) (hd : dp < 890) (hu : un < 8900)
    (ret : ∀ v po' h' tk', v ∈ vs → IsPen (k + 1) po' → Fr h₀ L h' m → News h₀ L h' [(pen, po')] →
      (∀ b o, s.heap.get? b = some o → b ≠ pen → h'.get? b = some o) → Q v { s with heap := h', toks := tk' }) :
    wpAny (model Challenge.rw_og0162_01.row.prog w) (ktrTop dp un gd cn cs L a ccd cl outer) (call (.ref 124) [.ref pen, .ref l]) Q E s := by
  k_with_none
  k_with "call ref" => (k_here; (with_reducible show wpAny _ _ (call (Value.ref 117) _ _) _ _ _); k_dflt (refine' draw_use ?y_k1 ?y_k2 ?y_k3 ?y_k4 ?y_k5 ?y_kN ?y_kU ?y_kp ?y_q ?y_m1 ?y_m2 ?y_d ?y_u ?_; (case y_k1 => k_asm); (case y_k2 => k_asm); (case y_k3 => k_asm); (case y_k4 => k_asm); (case y_k5 => first | rfl | assumption); (case y_kN => k_asm); (case y_kU => k_updF); (case y_kp => assumption); (case y_q => omega); (case y_m1 => first | decide | omega); (case y_m2 => first | decide | omega); (case y_d => (dsimp only [Around.deeper, Around.in1, ktrTop]; first | exact Mine.room (by assumption) (Nat.le_of_ble_eq_true rfl) | omega)); (case y_u => (dsimp only [Around.deeper, Around.in1, ktrTop]; first | exact Mine.room (by assumption) (Nat.le_of_ble_eq_true rfl) | omega))); k_whole; intro z_d' z_td' z_po' z_h' z_tk' z_hd1' z_hd2' z_hpo' z_F' z_N'; (try dsimp only at z_N'); (try dsimp only); (try k_fold); (try k_sweep))
  k_with "call builtin:len" => (k_here; (with_reducible show wpAny _ _ (call (Value.builtin "len") [Value.ref _]) _ _ _); k_dflt (refine' len_L ?y_l ?y_z ?_; (case y_l => is_list); (case y_z => (simp only [List.length_append, List.length_cons, List.length_nil]; omega)); k_whole))
  k_with "call builtin:len" => (k_here; (with_reducible show wpAny _ _ (call (Value.builtin "len") [Value.ref _]) _ _ _); k_dflt (refine' len_L ?y_l ?y_z ?_; (case y_l => is_list); (case y_z => omega); k_whole))
  k_with "subscriptTail" => (k_here; (with_reducible show wpAny _ _ (subscriptTail _ _ (Value.ref _) (Value.int _ _)) _ _ _); k_dflt (refine' item_open ?y_l ?y_a ?y_b ?y_z ?_ ?y_e; (case y_l => is_list); (case y_a => omega); (case y_b => omega); (case y_z => omega); (case y_e => with_unfolding_all rfl); k_whole); intro z_v' z_hv' z_hx')
  revert X; k_fill; intro X
  refine wpAny_call ?_
  k_dflt (refine' code_defG ?k1 ?k2 ?k3 ?k4 ?k5 ?kA ?kF ?kK ?k6 ?k7 ?k8 ?k9 ?kB ?_ ?c2 ?c3 ?c4 ?c5; (case kA => exact rfl); (case kF => exact rfl); (case kK => assumption); (case k1 => k_asm); (case k2 => k_asm); (case k3 => k_asm); (case k4 => k_asm); (case k5 => k_asm); (case k6 => k_is); (case k7 => k_is); (case k8 => ktr_room); (case k9 => exact BindsTo.of_eq rfl); (case c5 => decide); (case kB => exact locs rfl); (case c2 => exact rfl); (case c3 => exact rfl); (case c4 => exact rfl))
  k_whole
  intro g' L' h₁ FG' F' N' B' X' T' kG'
  (try dsimp only)
  (try k_fold)
  have hl' : g'.IsList l vs.toArray := let ⟨o, ho, r⟩ := hl; ⟨o, kG' _ _ ho (by simpa using hlp), r⟩
  k_steps
  all_goals (refine ret _ _ _ _ (by assumption) (by assumption) (by assumption) (by assumption) (fun b o e hb => Fr.keep (h₀ := g') (L := L') (by assumption) b o (kG' b o e (by simpa using hb))))
end Mine
end
section
open PySem PySem.W PyProof.Rows PySem.Calls
namespace Mine

def MvEnd (h₀ : Heap) (L : Addr) (J : (Str → Option Value) → List (Addr × Obj) → Prop) (own : List (Addr × Obj)) (s₁ s₂ : Shared) : Prop :=
  ∃ h' tk m' news' nx, s₂ = { s₁ with heap := h', toks := tk } ∧ Fr h₀ L h' m' ∧ News h₀ L h' news' ∧ (∀ p ∈ nx, p ∈ news') ∧ (∀ p ∈ own, p ∈ news') ∧ (∀ p ∈ nx, ∀ q ∈ own, p.1 ≠ q.1) ∧ J m' nx
def MvPost (h₀ : Heap) (L : Addr) (J : (Str → Option Value) → List (Addr × Obj) → Prop) (own : List (Addr × Obj)) (s₁ : Shared) (Q : Flow → Shared → Prop) (f : Flow) (s₂ : Shared) : Prop :=
  match f with
  | .ret v => Q (.ret v) s₂
  | .brk => Q .next s₂
  | _ => MvEnd h₀ L J own s₁ s₂
section
variable {prog : Program} {w : World} {A : Around} {E : Value → Shared → Prop} {s : Shared} {env : Env} {h₀ : Heap} {x : Str} {body : List Stmt} {Q : Flow → Shared → Prop}
theorem loop_mv {I : Addr} {fp wr : List Addr} {n : Nat} {P : Nat → Value → Prop} {St : Nat → Heap → Prop} {m₀ : Str → Option Value} {news : List (Addr × Obj)} (J : Nat → (Str → Option Value) → List (Addr × Obj) → Prop)
    (W : Walks prog w A I fp wr n P St) (hlive : ∀ i h, St i h → ∀ b ∈ wr, ∃ o, h.get? b = some o) (hLf : env.locals ∉ fp) (hwr : ∀ b ∈ wr, h₀.get? b = none) (hnw : ∀ p ∈ news, p.1 ∉ wr)
    (hst : St 0 s.heap) (F : Fr h₀ env.locals s.heap m₀) (N : News h₀ env.locals s.heap news) (hj : J 0 m₀ news)
    (turn : ∀ i v m₁ nx h tk own, i < n → P i v → J i m₁ nx → (∀ p ∈ nx, p.1 ∉ wr) → (∀ p ∈ own, p.1 ∈ fp) → (∀ b ∈ wr, ∃ o, (b, o) ∈ own) → Fr h₀ env.locals h (fun y => if y = x then some v else m₁ y) → News h₀ env.locals h (nx ++ own) →
      wpAny (model prog w) A (execs body env) (MvPost h₀ env.locals (J (i + 1)) own { s with heap := h, toks := tk } Q) E { s with heap := h, toks := tk })
    (done : ∀ m₁ nx h tk, J n m₁ nx → Fr h₀ env.locals h m₁ → News h₀ env.locals h nx → Q .next { s with heap := h, toks := tk }) :
    LoopAtV prog w A h₀ env x body Q E (.ref I) s := by
  refine ⟨I, fp, wr, n, P, St, m₀, news, J, rfl, W, hLf, hwr, hnw, hst, F, N, hj, ?_, ?_⟩
  · rintro i v m₁ nx s₁ own ⟨hh', tk', rfl⟩ hin hP hJ hoff hown hget hall hst₁ F₁ N₁
    have hwo : ∀ b ∈ wr, ∃ o, (b, o) ∈ own := fun b hb => by
      obtain ⟨o, ho⟩ := hlive _ _ hst₁ b hb
      exact ⟨o, hall b (W.sub b hb) (hwr b hb) o ho⟩
    have N₂ : News h₀ env.locals hh' (nx ++ own) := fun p hp => N₁ p ((List.mem_append.mp hp).elim (fun h => List.mem_append.mpr (.inr h)) fun h => List.mem_append.mpr (.inl h))
    refine wpAny_mono (turn i v m₁ nx hh' tk' own hin hP hJ hoff hown hwo F₁ N₂) (fun f s₂ p => ?_) fun _ _ e => e
    have fin : MvEnd h₀ env.locals (J (i + 1)) own { s with heap := hh', toks := tk' } s₂ → LoopStepU h₀ env.locals wr own (J (i + 1)) { s with heap := hh', toks := tk' } .next s₂ := by
      rintro ⟨h', tk, m', news', ny, e, F', N', hn, ho, ha, hm⟩
      refine ⟨rfl, h', tk, m', ny, e, F', fun p hp => N' p ((List.mem_append.mp hp).elim (ho p) (hn p)), fun p hp hq => ?_, hm⟩
      obtain ⟨o, hbo⟩ := hwo p.1 hq
      exact ha p hp _ hbo rfl
    cases f with
    | ret v => exact .ret p
    | brk => exact .brk p
    | next => exact .next (fin p)
    | cont => exact .cont (fin p)
  · rintro h' tk m' news' F' N' _ hJ
    exact done m' news' h' tk hJ F' N'
theorem loop_range {r : Addr} {a₀ b₀ : Int} {t₀ u₀ v₀ : Tok} {n : Nat} {m₀ : Str → Option Value} {news : List (Addr × Obj)} (J : Nat → (Str → Option Value) → List (Addr × Obj) → Prop)
    (hh : A.handled = none) (hr : IsRange s.heap r a₀ b₀ 1 t₀ u₀ v₀) (hsmall : Builtin.Range.small a₀ b₀ 1 = true) (hn : Builtin.Range.rangeSize a₀ b₀ 1 = (n : Int)) (F : Fr h₀ env.locals s.heap m₀) (N : News h₀ env.locals s.heap news) (hj : J 0 m₀ news)
    (turn : ∀ i t m₁ nx h tk own, i < n → J i m₁ nx → (∀ p ∈ nx, ∀ q ∈ own, q.1 ≠ p.1) → Fr h₀ env.locals h (fun y => if y = x then some (.int (a₀ + (i : Int)) t) else m₁ y) → News h₀ env.locals h (nx ++ own) →
      wpAny (model prog w) A (execs body env) (MvPost h₀ env.locals (J (i + 1)) own { s with heap := h, toks := tk } Q) E { s with heap := h, toks := tk })
    (done : ∀ m₁ nx h tk, J n m₁ nx → Fr h₀ env.locals h m₁ → News h₀ env.locals h nx → Q .next { s with heap := h, toks := tk }) :
    wpAny (model prog w) A (pyIter (.ref r)) (fun it s₂ => LoopAtV prog w A h₀ env x body Q E it s₂) E s := by
  refine wpAny_pyIter_range hr hsmall ?_
  have W : Walks prog w A s.heap.objs.size [s.heap.objs.size] [s.heap.objs.size] n (fun i v => i < n ∧ ∃ t, v = .int (a₀ + i * 1) t)
      (fun i h => IsRangeIter h s.heap.objs.size (a₀ + (i : Nat) * 1) ((n : Int) - (i : Nat)) 1) := (Walks.range hh _ a₀ 1 n).bound
  refine loop_mv J W (fun i h st b hb => ?_) ?_ ?_ ?_ (by show IsRangeIter _ _ _ _ _; rw [hn]; simpa using Heap.get?_push_size _ rfl) (F.push _) (fun p hp => ⟨Heap.get?_push_of_some _ (N p hp).1, (N p hp).2⟩) hj ?_ ?_
  · rw [List.mem_singleton.mp hb]; exact ⟨_, st⟩
  · intro hm
    exact absurd F.ns.lt ((List.mem_singleton.mp hm) ▸ Nat.lt_irrefl _)
  · intro b hb
    rw [List.mem_singleton.mp hb]
    exact next_is_new F
  · intro p hp hI
    exact absurd (Heap.lt_size (N p hp).1) ((List.mem_singleton.mp hI) ▸ Nat.lt_irrefl _)
  · rintro i v m₁ nx h tk own hi ⟨_, t, rfl⟩ hJ hoff hown hwo F' N'
    simp only [Int.mul_one] at F'
    refine turn i t m₁ nx h tk own hi hJ (fun p hp q hq e => ?_) F' N'
    have h1 := List.mem_singleton.mp (hown q hq)
    exact hoff p hp (by rw [← e, h1]; exact List.mem_singleton.mpr rfl)
  · intro m₁ nx h tk hJ F₁ N₁
    exact done m₁ nx h tk hJ F₁ N₁
end
theorem MvEnd.intro {h₀ : Heap} {L : Addr} {J : (Str → Option Value) → List (Addr × Obj) → Prop} {m' : Str → Option Value} {own news' nx : List (Addr × Obj)} {s₁ : Shared} {h' : Heap} {tk : Nat} (F : Fr h₀ L h' m') (N : News h₀ L h' news')
    (hj : J m' nx) (hn : ∀ p ∈ nx, p ∈ news') (ho : ∀ p ∈ own, p ∈ news') (ha : ∀ p ∈ nx, ∀ q ∈ own, p.1 ≠ q.1) : MvEnd h₀ L J own s₁ { s₁ with heap := h', toks := tk } := ⟨h', tk, m', news', nx, rfl, F, N, hn, ho, ha, hj⟩
end Mine
end
section
open PySem PySem.W PyProof.Rows PySem.Calls
namespace Mine
theorem fresh_P4 : True := by
  w_top off
  k_with_none
  trivial

def wordB : Value → Bool
  | .str x _ => decide (x.cps.size ≤ 10)
  | _ => false
def Stop (P : Prop) : Prop := P
theorem stop_here {P : Prop} (h : Stop P) : P := h
theorem Stop.go {P : Prop} (h : P) : Stop P := h
set_option maxRecDepth 100000 in
set_option maxHeartbeats 8000000 in
theorem pick_use {w : World} {mean : ExcName → Option Value} {mg mb : Str → Option Value} {dp un : Nat} {gd : Option (List Code)} {cn : Str} {cs : Scope} {a : Addr} {ccd : Value} {cl : List (Str × Addr)} {outer : List Env} {A₀ : Around} {base h₀ : Heap} {L : Addr} {m : Str → Option Value} {s : Shared} {Q E : Value → Shared → Prop}
    (B : Below A₀ base outer h₀) (F : Fr h₀ L s.heap m) (X : (hd.heap_39 w.params).In h₀) (T : Top hd.view_39 (looseW hd.view_39 []) mean mg mb h₀) (hk : cs.kind = .function)
    {pen l : Addr} {po : Obj} {k : Int} {vs : List Value} {ns : List (Addr × Obj)} {g : Obj → List (Addr × Obj)}
    (N : News h₀ L s.heap ns) (U : UpdF pen po ns g) (hpo : IsPen k po) (hl : s.heap.IsList l vs.toArray) (hlp : l ≠ pen) (hv1 : 0 < vs.length) (hv2 : vs.length < 1000) (hw : vs.all wordB = true)
    (hq2 : k < 100000) (hd : dp < 890) (hu : un < 8900)
    (ret : ∀ v po' h' tk', wordB v = true → IsPen (k + 1) po' → Fr h₀ L h' m → News h₀ L h' (g po') → Q v { s with heap := h', toks := tk' }) :
    wpAny (model Challenge.rw_og0162_01.row.prog w) (ktrTop dp un gd cn cs L a ccd cl outer) (call (.ref 124) [.ref pen, .ref l]) Q E s :=
  pick_spec B F X T hk (news_of_upd N U) hpo hl hlp hv1 hv2 hq2 hd hu fun v po' h' tk' h2 h3 h4 h5 h6 => ret v po' h' tk' (List.all_eq_true.mp hw v h2) h3 h4 (news_use N U h5 h6)

theorem news_two {h₀ h : Heap} {L l pen : Addr} {o po : Obj} {ns : List (Addr × Obj)} (N : News h₀ L h ns) (h1 : (l, o) ∈ ns) (h2 : (pen, po) ∈ ns) : News h₀ L h [(l, o), (pen, po)] := by
  intro p hp
  rcases List.mem_cons.mp hp with rfl | hp
  · exact N _ h1
  · rw [List.mem_singleton.mp hp]; exact N _ h2
theorem fresh_one {h g h' : Heap} {L' l pen : Addr} {o po : Obj} {ns : List (Addr × Obj)} (kG : GSub h g (List.map (fun x => x.1) [(pen, po)])) (N : News g L' h' ns) (hm : (l, o) ∈ ns) (hne : l ≠ pen) : h.get? l = none := by
  cases e : h.get? l with
  | none => rfl
  | some o' =>
    have := kG l o' e (by simpa using hne)
    rw [N.fresh hm] at this; cases this
theorem words_of {vs : List Value} (h : ∀ v ∈ vs, wordB v = true) : vs.all wordB = true := List.all_eq_true.mpr h
local macro_rules | `(tactic| k_all) => `(tactic| assumption)
set_option maxRecDepth 100000 in
set_option maxHeartbeats 8000000 in
theorem path_spec {w : World} {mean : ExcName → Option Value} {mg mb : Str → Option Value} {dp un : Nat} {gd : Option (List Code)} {cn : Str} {cs : Scope} {a : Addr} {ccd : Value} {cl : List (Str × Addr)} {outer : List Env} {A₀ : Around} {base h₀ : Heap} {L : Addr} {m : Str → Option Value} {s : Shared} {Q E : Value → Shared → Prop}
    (B : Below A₀ base outer h₀) (F : Fr h₀ L s.heap m) (X : (hd.heap_39 w.params).In h₀) (T : Top hd.view_39 (looseW hd.view_39 []) mean mg mb h₀) (hk : cs.kind = .function)
    {pen : Addr} {po : Obj} {k : Int}
    (N : News h₀ L s.heap [(pen, po)]) (hpo : IsPen k po)
    (hq2 : k < 90000) (hd : dp < 880) (hu : un < 8800)
    (ret : ∀ (l : Addr) (vs : List Value) (n : Nat) (po' : Obj) (h' : Heap) (tk' : Nat), vs.all wordB = true → vs.length ≤ 5 → IsPen (k + 10) po' → Fr h₀ L h' m → News h₀ L h' [(l, listOf vs.toArray n), (pen, po')] → s.heap.get? l = none →
      (∀ b o, s.heap.get? b = some o → b ≠ pen → h'.get? b = some o) → Q (.ref l) { s with heap := h', toks := tk' }) :
    wpAny (model Challenge.rw_og0162_01.row.prog w) (ktrTop dp un gd cn cs L a ccd cl outer) (call (.ref 131) [.ref pen]) Q E s := by
  k_with_none
  k_with "call ref" => (k_here; (with_reducible show wpAny _ _ (call (Value.ref 117) _ _) _ _ _); k_dflt (refine' draw_use ?y_k1 ?y_k2 ?y_k3 ?y_k4 ?y_k5 ?y_kN ?y_kU ?y_kp ?y_q ?y_m1 ?y_m2 ?y_d ?y_u ?_; (case y_k1 => k_asm); (case y_k2 => k_asm); (case y_k3 => k_asm); (case y_k4 => k_asm); (case y_k5 => first | rfl | assumption); (case y_kN => k_asm); (case y_kU => k_updF); (case y_kp => assumption); (case y_q => omega); (case y_m1 => first | decide | omega); (case y_m2 => first | decide | omega); (case y_d => (dsimp only [Around.deeper, Around.in1, ktrTop]; first | exact Mine.room (by assumption) (Nat.le_of_ble_eq_true rfl) | omega)); (case y_u => (dsimp only [Around.deeper, Around.in1, ktrTop]; first | exact Mine.room (by assumption) (Nat.le_of_ble_eq_true rfl) | omega))); k_whole; intro z_d' z_td' z_po' z_h' z_tk' z_hd1' z_hd2' z_hpo' z_F' z_N'; (try dsimp only at z_N'); (try dsimp only); (try k_fold); (try k_sweep))
  k_with "call ref" => (k_here; (with_reducible show wpAny _ _ (call (Value.ref 124) _ _) _ _ _); k_dflt (refine' pick_use ?y_k1 ?y_k2 ?y_k3 ?y_k4 ?y_k5 ?y_kN ?y_kU ?y_kp ?y_kl ?y_kne ?y_v1 ?y_v2 ?y_kw ?y_q ?y_d ?y_u ?_; (case y_k1 => k_asm); (case y_k2 => k_asm); (case y_k3 => k_asm); (case y_k4 => k_asm); (case y_k5 => first | rfl | assumption); (case y_kN => k_asm); (case y_kU => k_updF); (case y_kp => assumption); (case y_kl => is_list); (case y_kne => k_ne); (case y_v1 => exact Nat.le_of_ble_eq_true rfl); (case y_v2 => exact Nat.le_of_ble_eq_true rfl); (case y_kw => rfl); (case y_q => omega); (case y_d => (dsimp only [Around.deeper, Around.in1, ktrTop]; first | exact Mine.room (by assumption) (Nat.le_of_ble_eq_true rfl) | omega)); (case y_u => (dsimp only [Around.deeper, Around.in1, ktrTop]; first | exact Mine.room (by assumption) (Nat.le_of_ble_eq_true rfl) | omega))); k_whole; intro z_v' z_po' z_h' z_tk' z_hw' z_hpo' z_F' z_N'; (try dsimp only at z_N'); (try dsimp only); (try k_fold); (try k_sweep))
  revert X; k_fill; intro X
  refine wpAny_call ?_
  k_dflt (refine' code_defG ?k1 ?k2 ?k3 ?k4 ?k5 ?kA ?kF ?kK ?k6 ?k7 ?k8 ?k9 ?kB ?_ ?c2 ?c3 ?c4 ?c5; (case kA => exact rfl); (case kF => exact rfl); (case kK => assumption); (case k1 => k_asm); (case k2 => k_asm); (case k3 => k_asm); (case k4 => k_asm); (case k5 => k_asm); (case k6 => k_is); (case k7 => k_is); (case k8 => ktr_room); (case k9 => exact BindsTo.of_eq rfl); (case c5 => decide); (case kB => exact locs rfl); (case c2 => exact rfl); (case c3 => exact rfl); (case c4 => exact rfl))
  k_whole
  intro g' L' h₁ FG' F' N' B' X' T' kG'
  (try dsimp only)
  (try k_fold)
  k_steps
  all_goals (refine' ret _ _ _ _ _ _ ?w ?len ?ip ?f ?n ?fr ?kp; (case f => assumption); (case n => exact news_two (by assumption) (by k_mem) (by k_mem)); (case fr => exact fresh_one kG' (by assumption) (by k_mem) (by k_ne)); (case ip => exact IsPen.mono (by assumption) (by omega)); (case kp => exact fun b o e hb => Fr.keep (h₀ := g') (L := L') (by assumption) b o (kG' b o e (by simpa using hb))); (case len => exact Nat.le_of_ble_eq_true rfl); (case w => simp only [List.all_cons, List.all_nil, Bool.and_true, Bool.and_eq_true]; repeat' (first | assumption | constructor)))
end Mine
end
section
open PySem PySem.W PyProof.Rows PySem.Calls
namespace Mine
theorem fresh_P5 : True := by
  w_top off
  k_with_none
  trivial

def RowT (pen : Addr) (m₀ : Str → Option Value) (bb : Nat) (kk : Int) (m : Str → Option Value) (nx : List (Addr × Obj)) : Prop :=
  ∃ (f : Addr) (vs : List Value) (nf : Nat) (po : Obj), nx = [(f, listOf vs.toArray nf), (pen, po)] ∧ f ≠ pen ∧ vs.all wordB = true ∧ vs.length ≤ bb ∧ IsPen kk po ∧ m (Str.ofString "found") = some (.ref f) ∧
    ∀ z, z ≠ Str.ofString "turn" → z ≠ Str.ofString "way" → z ≠ Str.ofString "found" → m z = m₀ z
theorem row_map {m m₀ : Str → Option Value} {f : Addr} {v : Value} (h1 : m (Str.ofString "found") = some (.ref f)) (h2 : ∀ z, z ≠ Str.ofString "turn" → z ≠ Str.ofString "way" → z ≠ Str.ofString "found" → m z = m₀ z) :
    (fun y => if y = Str.ofString "turn" then some v else m y) = fun y => if y = Str.ofString "turn" then some v else if y = Str.ofString "found" then some (.ref f) else if y = Str.ofString "way" then m y else m₀ y := by
  funext z
  by_cases e1 : z = Str.ofString "turn"
  · simp [e1]
  · by_cases e2 : z = Str.ofString "found"
    · rw [if_neg e1, if_neg e1, if_pos e2, e2, h1]
    · by_cases e3 : z = Str.ofString "way"
      · rw [if_neg e1, if_neg e1, if_neg e2, if_pos e3]
      · rw [if_neg e1, if_neg e1, if_neg e2, if_neg e3, h2 z e1 e3 e2]
theorem row_done {m m₀ : Str → Option Value} {f : Addr} (h1 : m (Str.ofString "found") = some (.ref f)) (h2 : ∀ z, z ≠ Str.ofString "turn" → z ≠ Str.ofString "way" → z ≠ Str.ofString "found" → m z = m₀ z) :
    m = fun y => if y = Str.ofString "found" then some (.ref f) else if y = Str.ofString "turn" then m y else if y = Str.ofString "way" then m y else m₀ y := by
  funext z
  by_cases e2 : z = Str.ofString "found"
  · rw [if_pos e2, e2, h1]
  · by_cases e1 : z = Str.ofString "turn"
    · rw [if_neg e2, if_pos e1]
    · by_cases e3 : z = Str.ofString "way"
      · rw [if_neg e2, if_neg e1, if_pos e3]
      · rw [if_neg e2, if_neg e1, if_neg e3, h2 z e1 e3 e2]
theorem RowT.mono {pen : Addr} {m₀ m : Str → Option Value} {bb bb' : Nat} {kk kk' : Int} {nx : List (Addr × Obj)} (h : RowT pen m₀ bb kk m nx) (h1 : bb ≤ bb') (h2 : kk ≤ kk') : RowT pen m₀ bb' kk' m nx := by
  obtain ⟨f, vs, nf, po, e, a1, a2, a3, a4, a5, a6⟩ := h
  exact ⟨f, vs, nf, po, e, a1, a2, Nat.le_trans a3 h1, a4.mono h2, a5, a6⟩
theorem MvPost.mono {h₀ : Heap} {L : Addr} {J J' : (Str → Option Value) → List (Addr × Obj) → Prop} {own : List (Addr × Obj)} {s₁ s₂ : Shared} {Q : Flow → Shared → Prop} {f : Flow} (h : MvPost h₀ L J own s₁ Q f s₂) (hJ : ∀ m nx, J m nx → J' m nx) : MvPost h₀ L J' own s₁ Q f s₂ := by
  cases f with
  | ret v => exact h
  | brk => exact h
  | next => obtain ⟨a1, a2, a3, a4, a5, a6, a7, a8, a9, b1, b2, b3⟩ := h; exact ⟨a1, a2, a3, a4, a5, a6, a7, a8, a9, b1, b2, hJ _ _ b3⟩
  | cont => obtain ⟨a1, a2, a3, a4, a5, a6, a7, a8, a9, b1, b2, b3⟩ := h; exact ⟨a1, a2, a3, a4, a5, a6, a7, a8, a9, b1, b2, hJ _ _ b3⟩
theorem loop_row {prog : Program} {w : World} {A : Around} {E : Value → Shared → Prop} {s : Shared} {env : Env} {h₀ : Heap} {body : List Stmt} {Q : Flow → Shared → Prop}
    {r : Addr} {b₀ : Int} {t₀ u₀ v₀ : Tok} {m₀ : Str → Option Value} {news : List (Addr × Obj)} {f pen : Addr} {nf : Nat} {po : Obj} {k c1 : Int} (b1 : Nat)
    (hh : A.handled = none) (hr : IsRange s.heap r 0 b₀ 1 t₀ u₀ v₀) (hb0 : 0 ≤ b₀) (hb1 : b₀ < 3) (F : Fr h₀ env.locals s.heap m₀) (N : News h₀ env.locals s.heap news)
    (hf : (f, listOf #[] nf) ∈ news) (hp : (pen, po) ∈ news) (hfp : f ≠ pen) (hpo : IsPen k po) (hm : m₀ (Str.ofString "found") = some (.ref f))
    (hc0 : 0 ≤ c1)
    (turn : ∀ (i : Nat) t (u : Str → Option Value) f (vs : List Value) nf po' (kk : Int) h tk own, i < 2 → (@Ne Nat f pen) → vs.all wordB = true → vs.length ≤ b1 → kk ≤ k + c1 → IsPen kk po' → (∀ q ∈ own, q.1 ≠ f) → (∀ q ∈ own, q.1 ≠ pen) →
      Fr h₀ env.locals h (fun y => if y = Str.ofString "turn" then some (.int (0 + (i : Int)) t) else if y = Str.ofString "found" then some (.ref f) else if y = Str.ofString "way" then u y else m₀ y) →
      News h₀ env.locals h ((f, listOf vs.toArray nf) :: (pen, po') :: own) →
      wpAny (model prog w) A (execs body env) (MvPost h₀ env.locals (RowT pen m₀ (vs.length + b1) (kk + c1)) own { s with heap := h, toks := tk } Q) E { s with heap := h, toks := tk })
    (done : ∀ (u : Str → Option Value) f (vs : List Value) nf po' h tk, (@Ne Nat f pen) → vs.all wordB = true → vs.length ≤ 2 * b1 → IsPen (k + 2 * c1) po' →
      Fr h₀ env.locals h (fun y => if y = Str.ofString "found" then some (.ref f) else if y = Str.ofString "turn" then u y else if y = Str.ofString "way" then u y else m₀ y) →
      News h₀ env.locals h [(f, listOf vs.toArray nf), (pen, po')] → Q .next { s with heap := h, toks := tk }) :
    wpAny (model prog w) A (pyIter (.ref r)) (fun it s₂ => LoopAtV prog w A h₀ env (Str.ofString "turn") body Q E it s₂) E s := by
  have hs : Builtin.Range.small 0 b₀ 1 = true := small_one (by omega) (by omega) (by omega) (by omega)
  have hn : Builtin.Range.rangeSize 0 b₀ 1 = (b₀.toNat : Int) := by
    unfold Builtin.Range.rangeSize
    rcases (by omega : b₀ = 0 ∨ b₀ = 1 ∨ b₀ = 2) with e | e | e <;> subst e <;> decide
  refine loop_range (fun i => RowT pen m₀ (i * b1) (k + i * c1)) hh hr hs hn F (news_two N hf hp) ⟨f, [], nf, po, rfl, hfp, rfl, by simp, by simpa using hpo, hm, fun _ _ _ _ => rfl⟩ ?_ ?_
  · rintro i t m₁ nx h tk own hi ⟨f, vs, nf, po', rfl, hfp, hw, hl, hpo', hmf, hmz⟩ hoff F₁ N₁
    rw [row_map hmf hmz] at F₁
    have hi2 : i = 0 ∨ i = 1 := by omega
    refine wpAny_mono (turn i t m₁ f vs nf po' _ h tk own (by omega) hfp hw (by rcases hi2 with e | e <;> subst e <;> omega) (by rcases hi2 with e | e <;> subst e <;> simp <;> omega) hpo' (hoff (f, listOf vs.toArray nf) (.head _)) (hoff (pen, po') (.tail _ (.head _))) F₁ N₁) (fun fl s' hp => ?_) fun _ _ e => e
    refine hp.mono fun m nx hJ => hJ.mono ?_ ?_
    · rcases hi2 with e | e <;> subst e <;> omega
    · rcases hi2 with e | e <;> subst e <;> simp <;> omega
  · rintro m₁ nx h tk ⟨f, vs, nf, po', rfl, hfp, hw, hl, hpo', hmf, hmz⟩ F₁ N₁
    have hn2 : b₀.toNat = 0 ∨ b₀.toNat = 1 ∨ b₀.toNat = 2 := by omega
    refine done m₁ f vs nf po' h tk hfp hw ?_ (hpo'.mono ?_) ?_ N₁
    · rcases hn2 with e | e | e <;> rw [e] at hl <;> omega
    · rcases hn2 with e | e | e <;> rw [e] <;> simp <;> omega
    · rw [← row_done hmf hmz]; exact F₁

def RowC (w : World) (d c : Int) (b : Nat) : Prop := ∀ {mean : ExcName → Option Value} {mg mb : Str → Option Value} {dp un : Nat} {gd : Option (List Code)} {cn : Str} {cs : Scope} {a : Addr} {ccd : Value} {cl : List (Str × Addr)} {outer : List Env} {A₀ : Around} {base h₀ : Heap} {L : Addr} {m : Str → Option Value} {s : Shared} {Q E : Value → Shared → Prop}
    (B : Below A₀ base outer h₀) (F : Fr h₀ L s.heap m) (X : (hd.heap_39 w.params).In h₀) (T : Top hd.view_39 (looseW hd.view_39 []) mean mg mb h₀) (hk : cs.kind = .function)
    {pen : Addr} {po : Obj} {k : Int} {td : Tok} {it : Bool}
    (aN : News h₀ L s.heap [(pen, po)]) (ahpo : IsPen k po)
    (ahq2 : k + c < 90000) (ahd : (dp : Int) + 10 * (4 - d) < 870) (ahu : (un : Int) + 100 * (4 - d) < 8700)
    (aret : ∀ (l : Addr) (vs : List Value) (n : Nat) (po' : Obj) (h' : Heap) (tk' : Nat), vs.all wordB = true → vs.length ≤ b → IsPen (k + c) po' → Fr h₀ L h' m → News h₀ L h' [(l, listOf vs.toArray n), (pen, po')] → s.heap.get? l = none →
      (∀ b o, s.heap.get? b = some o → b ≠ pen → h'.get? b = some o) → Q (.ref l) { s with heap := h', toks := tk' }),
    wpAny (model Challenge.rw_og0162_01.row.prog w) (ktrTop dp un gd cn cs L a ccd cl outer) (call (.ref 138) [.ref pen, .int d td, .bool it]) Q E s

def AllNe (d : Nat) : List (Addr × Obj) → Prop
  | [] => True
  | p :: r => @Ne Nat p.1 d ∧ AllNe d r
theorem allNe_of {d : Addr} : ∀ {l : List (Addr × Obj)}, (∀ p ∈ l, p.1 ≠ d) → AllNe d l
  | [], _ => trivial
  | p :: _, h => ⟨h p (.head _), allNe_of fun q hq => h q (.tail _ hq)⟩
theorem AllNe.out {d : Addr} : ∀ {l : List (Addr × Obj)}, AllNe d l → ∀ p ∈ l, p.1 ≠ d
  | [], _, _, hp => nomatch hp
  | q :: r, h, p, hp => by
    rcases List.mem_cons.mp hp with rfl | hp
    · exact h.1
    · exact AllNe.out h.2 p hp
theorem AllLt.ne {d : Addr} : ∀ {l : List (Addr × Obj)}, AllLt d l → ∀ p ∈ l, p.1 ≠ d
  | [], _, _, hp => nomatch hp
  | q :: r, h, p, hp => by
    rcases List.mem_cons.mp hp with rfl | hp
    · exact Nat.ne_of_lt h.1
    · exact AllLt.ne h.2 p hp
theorem ne_of_none {h₀ h : Heap} {L l : Addr} {ns : List (Addr × Obj)} (N : News h₀ L h ns) (hl : h.get? l = none) : ∀ p ∈ ns, p.1 ≠ l := by
  intro p hp e
  have := (N p hp).1
  rw [e, hl] at this; cases this
theorem news_cons {h₀ h : Heap} {L l : Addr} {o : Obj} {ns ns' : List (Addr × Obj)} (N : News h₀ L h ((l, o) :: ns)) (N' : News h₀ L h ns') : News h₀ L h ((l, o) :: ns') := by
  intro p hp
  rcases List.mem_cons.mp hp with rfl | hp
  · exact N _ (.head _)
  · exact N' p hp

theorem two_mem {p q : Addr × Obj} {ns : List (Addr × Obj)} (h1 : p ∈ ns) (h2 : q ∈ ns) : ∀ x ∈ [p, q], x ∈ ns := by
  intro x hx
  rcases List.mem_cons.mp hx with rfl | hx
  · exact h1
  · rw [List.mem_singleton.mp hx]; exact h2
theorem two_ne {p q : Addr × Obj} {own : List (Addr × Obj)} (h1 : ∀ x ∈ own, x.1 ≠ p.1) (h2 : ∀ x ∈ own, x.1 ≠ q.1) : ∀ x ∈ [p, q], ∀ y ∈ own, x.1 ≠ y.1 := by
  intro x hx y hy
  rcases List.mem_cons.mp hx with rfl | hx
  · exact (h1 y hy).symm
  · rw [List.mem_singleton.mp hx]; exact (h2 y hy).symm
theorem off_of_lt {D : Addr} {ns own : List (Addr × Obj)} (h : ∀ p ∈ ns, p.1 < D) (hs : ∀ p ∈ own, p ∈ ns) : ∀ p ∈ own, p.1 ≠ D := fun p hp => Nat.ne_of_lt (h p (hs p hp))

theorem add_L {prog : Program} {w : World} {A : Around} {E : Value → Shared → Prop} {s : Shared} {h₀ : Heap} {L a b : Addr} {m : Str → Option Value} {news : List (Addr × Obj)} {vs ws : List Value} {Q : Value → Shared → Prop}
    (F : Fr h₀ L s.heap m) (N : News h₀ L s.heap news) (ha : s.heap.IsList a vs.toArray) (hb : s.heap.IsList b ws.toArray) (hz : vs.length + ws.length < 3000)
    (h : ∀ D h', Fr h₀ L h' m → News h₀ L h' ((D, listOf (vs ++ ws).toArray 0) :: news) → (∀ p ∈ news, p.1 < D) → Q (.ref D) { s with heap := h' }) : wpAny (model prog w) A (binaryOp .Add (.ref a) (.ref b)) Q E s :=
  add_lists F N ha hb (fun h' F' N' => h _ h' F' N' fun p hp => Heap.lt_size (N p hp).1) (Nat.le_trans (Nat.le_of_lt hz) (by rw [sizeLine_eq]; omega))

theorem append_L {prog : Program} {w : World} {A : Around} {E : Value → Shared → Prop} {s : Shared} {h₀ : Heap} {L D : Addr} {m : Str → Option Value} {news news' : List (Addr × Obj)} {vs : List Value} {n : Nat} {x : Value} {Q : Value → Shared → Prop}
    (F : Fr h₀ L s.heap m) (N : News h₀ L s.heap news) (U : Upd D (listOf vs.toArray n) (listOf (vs ++ [x]).toArray (n + 1)) news news') (hz : vs.length < 3000)
    (h : ∀ h', Fr h₀ L h' m → News h₀ L h' news' → Q .none { s with heap := h' }) : wpAny (model prog w) A (call (.builtin "list.append") [.ref D, x]) Q E s :=
  append_K F N (by rw [List.push_toArray]; exact U) h (by rw [List.size_toArray]; exact Nat.le_trans (Nat.le_of_lt hz) (by rw [sizeLine_eq]; omega))

theorem row_end {h₀ : Heap} {L pen : Addr} {m₀ m' : Str → Option Value} {bb : Nat} {kk : Int} {own ns : List (Addr × Obj)} {s₁ : Shared} {Q : Flow → Shared → Prop} {h' : Heap} {tk : Nat} {f : Addr} {vs : List Value} {nf : Nat} {po : Obj}
    (F : Fr h₀ L h' m') (hf : m' (Str.ofString "found") = some (.ref f)) (N : News h₀ L h' ns) (h1 : (f, listOf vs.toArray nf) ∈ ns) (h2 : (pen, po) ∈ ns) (hfp : @Ne Nat f pen) (hw : vs.all wordB = true) (hl : vs.length ≤ bb) (hpo : IsPen kk po)
    (hz : ∀ z, z ≠ Str.ofString "turn" → z ≠ Str.ofString "way" → z ≠ Str.ofString "found" → m' z = m₀ z) (ho : ∀ p ∈ own, p ∈ ns) (hof : ∀ p ∈ own, p.1 ≠ f) (hop : ∀ p ∈ own, p.1 ≠ pen) :
    MvPost h₀ L (RowT pen m₀ bb kk) own s₁ Q .next { s₁ with heap := h', toks := tk } :=
  MvEnd.intro F N ⟨f, vs, nf, po, rfl, hfp, hw, hl, hpo, hf, hz⟩ (two_mem h1 h2) ho (two_ne hof hop)
set_option maxRecDepth 100000 in
set_option maxHeartbeats 8000000 in
theorem path_use {w : World} {mean : ExcName → Option Value} {mg mb : Str → Option Value} {dp un : Nat} {gd : Option (List Code)} {cn : Str} {cs : Scope} {a : Addr} {ccd : Value} {cl : List (Str × Addr)} {outer : List Env} {A₀ : Around} {base h₀ : Heap} {L : Addr} {m : Str → Option Value} {s : Shared} {Q E : Value → Shared → Prop}
    (B : Below A₀ base outer h₀) (F : Fr h₀ L s.heap m) (X : (hd.heap_39 w.params).In h₀) (T : Top hd.view_39 (looseW hd.view_39 []) mean mg mb h₀) (hk : cs.kind = .function)
    {pen : Addr} {po : Obj} {k : Int} {ns : List (Addr × Obj)} {g : Obj → List (Addr × Obj)}
    (N : News h₀ L s.heap ns) (U : UpdF pen po ns g) (hpo : IsPen k po)
    (hq2 : k < 90000) (hd : dp < 880) (hu : un < 8800)
    (ret : ∀ (l : Addr) (vs : List Value) (n : Nat) (po' : Obj) (h' : Heap) (tk' : Nat), vs.all wordB = true → vs.length ≤ 5 → IsPen (k + 10) po' → Fr h₀ L h' m → News h₀ L h' ((l, listOf vs.toArray n) :: g po') → (∀ p ∈ ns, p.1 ≠ l) →
      Q (.ref l) { s with heap := h', toks := tk' }) :
    wpAny (model Challenge.rw_og0162_01.row.prog w) (ktrTop dp un gd cn cs L a ccd cl outer) (call (.ref 131) [.ref pen]) Q E s :=
  path_spec B F X T hk (news_of_upd N U) hpo hq2 hd hu fun l vs n po' h' tk' h1 h2 h3 h4 h5 h6 h7 => ret l vs n po' h' tk' h1 h2 h3 h4 (news_cons h5 (news_use N U (fun p hp => h5 p (.tail _ hp)) h7)) (ne_of_none N h6)
set_option maxRecDepth 100000 in
set_option maxHeartbeats 8000000 in
theorem row_use {w : World} {mean : ExcName → Option Value} {mg mb : Str → Option Value} {dp un : Nat} {gd : Option (List Code)} {cn : Str} {cs : Scope} {a : Addr} {ccd : Value} {cl : List (Str × Addr)} {outer : List Env} {A₀ : Around} {base h₀ : Heap} {L : Addr} {m : Str → Option Value} {s : Shared} {Q E : Value → Shared → Prop}
    (B : Below A₀ base outer h₀) (F : Fr h₀ L s.heap m) (X : (hd.heap_39 w.params).In h₀) (T : Top hd.view_39 (looseW hd.view_39 []) mean mg mb h₀) (hk : cs.kind = .function) {d c : Int} {b : Nat} (H : RowC w d c b)
    {pen : Addr} {po : Obj} {k : Int} {td : Tok} {it : Bool} {ns : List (Addr × Obj)} {g : Obj → List (Addr × Obj)}
    (N : News h₀ L s.heap ns) (U : UpdF pen po ns g) (hpo : IsPen k po)
    (hq2 : k + c < 90000) (hd : (dp : Int) + 10 * (4 - d) < 870) (hu : (un : Int) + 100 * (4 - d) < 8700)
    (ret : ∀ (l : Addr) (vs : List Value) (n : Nat) (po' : Obj) (h' : Heap) (tk' : Nat), vs.all wordB = true → vs.length ≤ b → IsPen (k + c) po' → Fr h₀ L h' m → News h₀ L h' ((l, listOf vs.toArray n) :: g po') → (∀ p ∈ ns, p.1 ≠ l) →
      Q (.ref l) { s with heap := h', toks := tk' }) :
    wpAny (model Challenge.rw_og0162_01.row.prog w) (ktrTop dp un gd cn cs L a ccd cl outer) (call (.ref 138) [.ref pen, .int d td, .bool it]) Q E s :=
  H B F X T hk (news_of_upd N U) hpo hq2 hd hu fun l vs n po' h' tk' h1 h2 h3 h4 h5 h6 h7 => ret l vs n po' h' tk' h1 h2 h3 h4 (news_cons h5 (news_use N U (fun p hp => h5 p (.tail _ hp)) h7)) (ne_of_none N h6)
local macro_rules | `(tactic| k_all) => `(tactic| assumption)
set_option maxRecDepth 100000 in
set_option maxHeartbeats 8000000 in
theorem row_step {w : World} {d c c1 : Int} {b b1 : Nat} (hd0 : 0 ≤ d) (hd3 : d ≤ 3) (ih : d < 3 → RowC w (d + 1) c1 b1) (hc : 2 * c1 + 5 ≤ c) (hc1 : 10 ≤ c1) (hb : 2 * (b1 + 5) ≤ b) (hb2 : b < 500) : RowC w d c b := by
  k_with_none
  k_with "call ref" => (k_here; (with_reducible show wpAny _ _ (call (Value.ref 117) _ _) _ _ _); k_dflt (refine' draw_use ?y_k1 ?y_k2 ?y_k3 ?y_k4 ?y_k5 ?y_kN ?y_kU ?y_kp ?y_q ?y_m1 ?y_m2 ?y_d ?y_u ?_; (case y_k1 => k_asm); (case y_k2 => k_asm); (case y_k3 => k_asm); (case y_k4 => k_asm); (case y_k5 => first | rfl | assumption); (case y_kN => k_asm); (case y_kU => k_updF); (case y_kp => assumption); (case y_q => omega); (case y_m1 => first | decide | omega); (case y_m2 => first | decide | omega); (case y_d => (dsimp only [Around.deeper, Around.in1, ktrTop]; first | exact Mine.room (by assumption) (Nat.le_of_ble_eq_true rfl) | omega)); (case y_u => (dsimp only [Around.deeper, Around.in1, ktrTop]; first | exact Mine.room (by assumption) (Nat.le_of_ble_eq_true rfl) | omega))); k_whole; intro z_d' z_td' z_po' z_h' z_tk' z_hd1' z_hd2' z_hpo' z_F' z_N'; (try dsimp only at z_N'); (try dsimp only); (try k_fold); (try k_sweep))
  k_with "call ref" => (k_here; (with_reducible show wpAny _ _ (call (Value.ref 124) _ _) _ _ _); k_dflt (refine' pick_use ?y_k1 ?y_k2 ?y_k3 ?y_k4 ?y_k5 ?y_kN ?y_kU ?y_kp ?y_kl ?y_kne ?y_v1 ?y_v2 ?y_kw ?y_q ?y_d ?y_u ?_; (case y_k1 => k_asm); (case y_k2 => k_asm); (case y_k3 => k_asm); (case y_k4 => k_asm); (case y_k5 => first | rfl | assumption); (case y_kN => k_asm); (case y_kU => k_updF); (case y_kp => assumption); (case y_kl => is_list); (case y_kne => k_ne); (case y_v1 => exact Nat.le_of_ble_eq_true rfl); (case y_v2 => exact Nat.le_of_ble_eq_true rfl); (case y_kw => rfl); (case y_q => omega); (case y_d => (dsimp only [Around.deeper, Around.in1, ktrTop]; first | exact Mine.room (by assumption) (Nat.le_of_ble_eq_true rfl) | omega)); (case y_u => (dsimp only [Around.deeper, Around.in1, ktrTop]; first | exact Mine.room (by assumption) (Nat.le_of_ble_eq_true rfl) | omega))); k_whole; intro z_v' z_po' z_h' z_tk' z_hw' z_hpo' z_F' z_N'; (try dsimp only at z_N'); (try dsimp only); (try k_fold); (try k_sweep))
  k_with "exec For Name Call cons nil" => (k_here; (rename Fr _ _ _ _ => z_lF'); (with_unfolding_all refine' For_invVF z_lF' ?y_k1 ?y_k2 ?_; (case y_k1 => exact rfl); (case y_k2 => exact rfl); k_whole))
  k_with "pyIter ref" => ((with_reducible show wpAny _ _ (pyIter (Value.ref _)) (fun it s₂ => LoopAtV _ _ _ _ _ _ _ _ _ it s₂) _ _); refine stop_here ?_)
  k_with "call builtin:list.append" => (k_here; (with_reducible show wpAny _ _ (call (Value.builtin _) [Value.ref _, _]) _ _ _); k_dflt (refine' append_L ?y_k1 ?y_k2 ?y_k3 ?y_z ?_; (case y_k1 => k_asm); (case y_k2 => k_asm); (case y_k3 => k_upd); (case y_z => (simp only [List.length_append, List.length_cons, List.length_nil]; omega)); k_whole); intro z_h' z_F' z_N'; (try k_sweep))
  k_with "call builtin:list.append" => (k_here; (with_reducible show wpAny _ _ (call (Value.builtin _) [Value.ref _, _]) _ _ _); k_dflt (refine' append_L ?y_k1 ?y_k2 ?y_k3 ?y_z ?_; (case y_k1 => k_asm); (case y_k2 => k_asm); (case y_k3 => k_upd); (case y_z => omega); k_whole); intro z_h' z_F' z_N'; (try k_sweep))
  k_with "binaryOp Add ref ref" => (k_here; k_dflt (refine' add_L ?y_F ?y_N ?y_a ?y_b ?y_z ?_; (case y_F => k_asm); (case y_N => k_asm); (case y_a => is_list); (case y_b => is_list); (case y_z => first | omega | (simp only [List.length_append, List.length_cons, List.length_nil]; omega)); k_whole); intro z_D' z_h' z_F' z_N' z_l1; (have z_l9 := z_l1); (try k_lt z_l1); (try k_sweep))
  k_with "call ref" => (k_here; (with_reducible show wpAny _ _ (call (Value.ref 131) _ _) _ _ _); k_dflt (refine' path_use ?y_k1 ?y_k2 ?y_k3 ?y_k4 ?y_k5 ?y_kN ?y_kU ?y_kp ?y_q ?y_d ?y_u ?_; (case y_k1 => k_asm); (case y_k2 => k_asm); (case y_k3 => k_asm); (case y_k4 => k_asm); (case y_k5 => first | rfl | assumption); (case y_kN => k_asm); (case y_kU => k_updF); (case y_kp => assumption); (case y_q => omega); (case y_d => (dsimp only [Around.deeper, Around.in1, ktrTop]; first | exact Mine.room (by assumption) (Nat.le_of_ble_eq_true rfl) | omega)); (case y_u => (dsimp only [Around.deeper, Around.in1, ktrTop]; first | exact Mine.room (by assumption) (Nat.le_of_ble_eq_true rfl) | omega))); k_whole; intro z_l' z_vs' z_n' z_po' z_h' z_tk' z_hw' z_hl' z_hpo' z_F' z_N' z_hne'; (try (replace z_hne' := allNe_of z_hne'; simp only [AllNe, and_true] at z_hne')); (try dsimp only at z_N'); (try dsimp only); (try k_fold); (try k_sweep))
  k_with "call ref" => (k_here; (with_reducible show wpAny _ _ (call (Value.ref 138) _ _) _ _ _); k_dflt (refine' row_use ?y_k1 ?y_k2 ?y_k3 ?y_k4 ?y_k5 ?y_H ?y_kN ?y_kU ?y_kp ?y_q ?y_d ?y_u ?_; (case y_H => first | assumption | (refine (by assumption : _ → RowC _ _ _ _) ?_; omega)); (case y_k1 => k_asm); (case y_k2 => k_asm); (case y_k3 => k_asm); (case y_k4 => k_asm); (case y_k5 => first | rfl | assumption); (case y_kN => k_asm); (case y_kU => k_updF); (case y_kp => assumption); (case y_q => omega); (case y_d => (dsimp only [Around.deeper, Around.in1, ktrTop]; first | exact Mine.room (by assumption) (Nat.le_of_ble_eq_true rfl) | omega)); (case y_u => (dsimp only [Around.deeper, Around.in1, ktrTop]; first | exact Mine.room (by assumption) (Nat.le_of_ble_eq_true rfl) | omega))); k_whole; intro z_l' z_vs' z_n' z_po' z_h' z_tk' z_hw' z_hl' z_hpo' z_F' z_N' z_hne'; (try (replace z_hne' := allNe_of z_hne'; simp only [AllNe, and_true] at z_hne')); (try dsimp only at z_N'); (try dsimp only); (try k_fold); (try k_sweep))
  k_with "call type:range" => (k_here; (rename Fr _ _ _ _ => z_F'); (rename News _ _ _ _ => z_N'); (with_unfolding_all refine range1_rows z_F' z_N' ?_); intro z_h' z_tk' z_t1' z_u1' z_v1' z_hR' z_F' z_N' z_hk'; (try k_sweep))
  unfold RowC
  intro mean mg mb dp un gd cn cs a ccd cl outer A₀ base h₀ L m s Q E B F X T hk pen po k td it N hpo hq2 hd hu ret
  revert X; k_fill; intro X
  refine wpAny_call ?_
  k_dflt (refine' code_defG ?k1 ?k2 ?k3 ?k4 ?k5 ?kA ?kF ?kK ?k6 ?k7 ?k8 ?k9 ?kB ?_ ?c2 ?c3 ?c4 ?c5; (case kA => exact rfl); (case kF => exact rfl); (case kK => assumption); (case k1 => k_asm); (case k2 => k_asm); (case k3 => k_asm); (case k4 => k_asm); (case k5 => k_asm); (case k6 => k_is); (case k7 => k_is); (case k8 => ktr_room); (case k9 => exact BindsTo.of_eq rfl); (case c5 => decide); (case kB => exact locs rfl); (case c2 => exact rfl); (case c3 => exact rfl); (case c4 => exact rfl))
  k_whole
  intro g' L' h₁ FG' F' N' B' X' T' kG'
  (try dsimp only)
  (try k_fold)
  k_steps
  refine Stop.go ?_
  (rename Fr _ _ _ _ => F1); (rename News _ _ _ _ => N1); (rename IsRange _ _ _ _ _ _ _ _ => R1)
  (with_unfolding_all refine' loop_row (pen := pen) (c1 := c1 + 2) (b1 + 5) rfl R1 ?b0 ?b3 F1 N1 ?hf ?hp ?hne ?hpo rfl ?hc0 ?turn ?done)
  case b0 => assumption
  case b3 => assumption
  case hf => k_mem
  case hp => k_mem
  case hne => k_ne
  case hpo => assumption
  case hc0 => omega
  case turn =>
    intro i t u f vs nf po' kk h tk own hi hfp hw hl hkk hpo' ho1 ho2 F2 N2
    clear R1 N1 F1
    (try k_fold)
    k_steps
    all_goals (refine' row_end ?F ?hf ?N ?h1 ?h2 ?a1 ?a2 ?a3 ?a4 ?a6 ?ho ?of ?op; (case F => assumption); (case hf => exact rfl); (case N => assumption); (case h1 => k_mem); (case h2 => k_mem); (case a1 => k_ne); (case a4 => exact IsPen.mono (by assumption) (by omega)); (case a3 => (simp only [List.length_append, List.length_cons, List.length_nil]; omega)); (case op => assumption); (case ho => (intro p hp; k_ownIn)); (case of => first | assumption | exact off_of_lt (by assumption) (by (intro p hp; k_ownIn))); (case a6 => (intro z e1 e2 e3; simp only [if_neg e1, if_neg e2, if_neg e3])); (case a2 => (simp only [List.all_append, List.all_cons, List.all_nil, Bool.and_true, Bool.and_eq_true]; repeat' (first | assumption | exact rfl | constructor))))
  case done =>
    intro u f vs nf po' h tk hfp hw hl hpo' F2 N2
    clear R1 N1 F1
    k_steps
    exact ret f vs nf po' _ _ hw (by omega) (hpo'.mono (by omega)) (by assumption) (by assumption) (fresh_one kG' N2 (.head _) hfp) (fun b o e hb => Fr.keep (h₀ := g') (L := L') (by assumption) b o (kG' b o e (by simpa using hb)))
end Mine
end
section
open PySem PySem.W PyProof.Rows PySem.Calls
namespace Mine
theorem fresh_P6 : True := by
  w_top off
  k_with_none
  trivial

theorem row0 {w : World} : RowC w 0 235 150 :=
  row_step (c1 := 115) (b1 := 70) (by decide) (by decide) (fun _ => row_step (c1 := 55) (b1 := 30) (by decide) (by decide) (fun _ => row_step (c1 := 25) (b1 := 10) (by decide) (by decide)
    (fun _ => row_step (c1 := 10) (b1 := 0) (by decide) (by decide) (fun h => absurd h (by decide)) (by decide) (by decide) (by decide) (by decide)) (by decide) (by decide) (by decide) (by decide)) (by decide) (by decide) (by decide) (by decide)) (by decide) (by decide) (by decide) (by decide)

theorem pick_sub {vs : List Value} {lo hi st : Option Int} : ∀ v ∈ (slicePick vs.toArray lo hi st).toList, v ∈ vs := by
  intro v hv
  unfold slicePick at hv
  simp only [List.mem_filterMap] at hv
  obtain ⟨i, _, hi⟩ := hv
  have : vs[i]? = some v := by simpa using hi
  exact List.mem_of_getElem? this
theorem slice_L {prog : Program} {w : World} {A : Around} {E : Value → Shared → Prop} {s : Shared} {h₀ : Heap} {L l : Addr} {m : Str → Option Value} {news : List (Addr × Obj)} {value slice : PySem.Expr} {vs : List Value} {vl vu : Value} {lo hi : Option Int} {Q : Value → Shared → Prop}
    (F : Fr h₀ L s.heap m) (N : News h₀ L s.heap news) (hl : s.heap.IsList l vs.toArray) (pl : IsPart vl lo) (pu : IsPart vu hi) (hz : vs.length < 1000) (hw : vs.all wordB = true)
    (h : ∀ D (zs : List Value) h', zs.all wordB = true → zs.length ≤ vs.length → Fr h₀ L h' m → News h₀ L h' ((D, listOf zs.toArray 0) :: news) → (∀ p ∈ news, p.1 < D) → Q (.ref D) { s with heap := h' })
    (hs : subscripted slice false (.ref l) (.ref s.heap.objs.size) = operate [.ref s.heap.objs.size, .ref l] (getItem (.ref l) (.ref s.heap.objs.size))) (ht : ∀ r, letTemporaryGo value (.ref l) r = pure ()) :
    wpAny (model prog w) A (subscriptTail value slice (.ref l) (.ref s.heap.objs.size)) Q E { s with heap := s.heap.push { cls := .type "slice", data := .fields #[vl, vu, .none] } } := by
  refine kmk_slice F N hl pl pu (fun D h' F' N' l1 => ?_) hs ht (by rw [List.size_toArray, sizeLine_eq]; omega)
  refine h D (slicePick vs.toArray lo hi none).toList h' (List.all_eq_true.mpr fun v hv => List.all_eq_true.mp hw v (pick_sub v hv)) ?_ F' (by rw [Array.toArray_toList]; exact N') l1
  have := slicePick_size_le vs.toArray lo hi none
  rw [Array.length_toList]; simpa using this
local macro_rules | `(tactic| k_all) => `(tactic| assumption)

theorem keep_two {h g h' : Heap} {L' r pen : Addr} {ro po : Obj} {m' : Str → Option Value} {ns : List (Addr × Obj)} (kG : GSub h g (List.map (fun x => x.1) [(r, ro), (pen, po)])) (F : Fr g L' h' m') (hr : h.get? r = some ro) (N : News g L' h' ns) (hm : (r, ro) ∈ ns) :
    ∀ b o, h.get? b = some o → b ≠ pen → h'.get? b = some o := by
  intro b o e hb
  by_cases hbr : b = r
  · subst hbr
    rw [hr] at e; cases e
    exact N.get hm
  · exact F.keep b o (kG b o e (by simpa using ⟨hbr, hb⟩))
set_option maxRecDepth 100000 in
set_option maxHeartbeats 8000000 in
theorem bent_spec {w : World} {mean : ExcName → Option Value} {mg mb : Str → Option Value} {dp un : Nat} {gd : Option (List Code)} {cn : Str} {cs : Scope} {a : Addr} {ccd : Value} {cl : List (Str × Addr)} {outer : List Env} {A₀ : Around} {base h₀ : Heap} {L : Addr} {m : Str → Option Value} {s : Shared} {Q E : Value → Shared → Prop}
    (B : Below A₀ base outer h₀) (F : Fr h₀ L s.heap m) (X : (hd.heap_39 w.params).In h₀) (T : Top hd.view_39 (looseW hd.view_39 []) mean mg mb h₀) (hk : cs.kind = .function)
    {pen r : Addr} {po : Obj} {k : Int} {vs : List Value} {n : Nat}
    (N : News h₀ L s.heap [(r, listOf vs.toArray n), (pen, po)]) (hpo : IsPen k po) (hrp : @Ne Nat r pen) (hw : vs.all wordB = true) (hv2 : vs.length < 400)
    (hq2 : k < 90000) (hd : dp < 870) (hu : un < 8700)
    (ret : ∀ (l : Addr) (vs' : List Value) (n' : Nat) (po' : Obj) (h' : Heap) (tk' : Nat), vs'.all wordB = true → vs'.length ≤ 2 * vs.length + 1 → IsPen (k + 3) po' → Fr h₀ L h' m → News h₀ L h' [(l, listOf vs'.toArray n'), (pen, po')] → @Ne Nat l pen →
      (∀ b o, s.heap.get? b = some o → b ≠ pen → h'.get? b = some o) → Q (.ref l) { s with heap := h', toks := tk' }) :
    wpAny (model Challenge.rw_og0162_01.row.prog w) (ktrTop dp un gd cn cs L a ccd cl outer) (call (.ref 145) [.ref pen, .ref r]) Q E s := by
  k_with_none
  k_with "call ref" => (k_here; (with_reducible show wpAny _ _ (call (Value.ref 117) _ _) _ _ _); k_dflt (refine' draw_use ?y_k1 ?y_k2 ?y_k3 ?y_k4 ?y_k5 ?y_kN ?y_kU ?y_kp ?y_q ?y_m1 ?y_m2 ?y_d ?y_u ?_; (case y_k1 => k_asm); (case y_k2 => k_asm); (case y_k3 => k_asm); (case y_k4 => k_asm); (case y_k5 => first | rfl | assumption); (case y_kN => k_asm); (case y_kU => k_updF); (case y_kp => assumption); (case y_q => omega); (case y_m1 => first | decide | omega); (case y_m2 => first | decide | omega); (case y_d => (dsimp only [Around.deeper, Around.in1, ktrTop]; first | exact Mine.room (by assumption) (Nat.le_of_ble_eq_true rfl) | omega)); (case y_u => (dsimp only [Around.deeper, Around.in1, ktrTop]; first | exact Mine.room (by assumption) (Nat.le_of_ble_eq_true rfl) | omega))); k_whole; intro z_d' z_td' z_po' z_h' z_tk' z_hd1' z_hd2' z_hpo' z_F' z_N'; (try dsimp only at z_N'); (try dsimp only); (try k_fold); (try k_sweep))
  k_with "call ref" => (k_here; (with_reducible show wpAny _ _ (call (Value.ref 124) _ _) _ _ _); k_dflt (refine' pick_use ?y_k1 ?y_k2 ?y_k3 ?y_k4 ?y_k5 ?y_kN ?y_kU ?y_kp ?y_kl ?y_kne ?y_v1 ?y_v2 ?y_kw ?y_q ?y_d ?y_u ?_; (case y_k1 => k_asm); (case y_k2 => k_asm); (case y_k3 => k_asm); (case y_k4 => k_asm); (case y_k5 => first | rfl | assumption); (case y_kN => k_asm); (case y_kU => k_updF); (case y_kp => assumption); (case y_kl => is_list); (case y_kne => k_ne); (case y_v1 => exact Nat.le_of_ble_eq_true rfl); (case y_v2 => exact Nat.le_of_ble_eq_true rfl); (case y_kw => rfl); (case y_q => omega); (case y_d => (dsimp only [Around.deeper, Around.in1, ktrTop]; first | exact Mine.room (by assumption) (Nat.le_of_ble_eq_true rfl) | omega)); (case y_u => (dsimp only [Around.deeper, Around.in1, ktrTop]; first | exact Mine.room (by assumption) (Nat.le_of_ble_eq_true rfl) | omega))); k_whole; intro z_v' z_po' z_h' z_tk' z_hw' z_hpo' z_F' z_N'; (try dsimp only at z_N'); (try dsimp only); (try k_fold); (try k_sweep))
  k_with "call builtin:list.append" => (k_here; (with_reducible show wpAny _ _ (call (Value.builtin _) [Value.ref _, _]) _ _ _); k_dflt (refine' append_L ?y_k1 ?y_k2 ?y_k3 ?y_z ?_; (case y_k1 => k_asm); (case y_k2 => k_asm); (case y_k3 => k_upd); (case y_z => (simp only [List.length_append, List.length_cons, List.length_nil]; omega)); k_whole); intro z_h' z_F' z_N'; (try k_sweep))
  k_with "call builtin:list.append" => (k_here; (with_reducible show wpAny _ _ (call (Value.builtin _) [Value.ref _, _]) _ _ _); k_dflt (refine' append_L ?y_k1 ?y_k2 ?y_k3 ?y_z ?_; (case y_k1 => k_asm); (case y_k2 => k_asm); (case y_k3 => k_upd); (case y_z => omega); k_whole); intro z_h' z_F' z_N'; (try k_sweep))
  k_with "binaryOp Add ref ref" => (k_here; k_dflt (refine' add_L ?y_F ?y_N ?y_a ?y_b ?y_z ?_; (case y_F => k_asm); (case y_N => k_asm); (case y_a => is_list); (case y_b => is_list); (case y_z => first | omega | (simp only [List.length_append, List.length_cons, List.length_nil]; omega)); k_whole); intro z_D' z_h' z_F' z_N' z_l1; (have z_l9 := z_l1); (try k_lt z_l1); (try k_sweep))
  k_with "subscriptTail Name Slice ref ref" => (k_here; (with_reducible show wpAny _ _ (subscriptTail _ (PySem.Expr.Slice _ _ none _) (Value.ref _) (Value.ref _)) _ _ _); k_dflt (refine' slice_L ?y_F ?y_N ?y_l ?y_p ?y_q ?y_z ?y_hw ?_ ?y_s ?y_t; (case y_F => k_asm); (case y_N => k_asm); (case y_l => is_list); (case y_p => kmk_part); (case y_q => kmk_part); (case y_hw => assumption); (case y_s => with_unfolding_all rfl); (case y_t => kmk_pure); (case y_z => omega)); intro z_D' z_zs' z_h' z_hzw' z_hzl' z_F' z_N' z_l1; (have z_l9 := z_l1); (try k_lt z_l1); (try k_sweep))
  k_with "call builtin:len" => (k_here; (with_reducible show wpAny _ _ (call (Value.builtin "len") [Value.ref _]) _ _ _); k_dflt (refine' len_L ?y_l ?y_z ?_; (case y_l => is_list); (case y_z => (simp only [List.length_append, List.length_cons, List.length_nil]; omega)); k_whole))
  k_with "call builtin:len" => (k_here; (with_reducible show wpAny _ _ (call (Value.builtin "len") [Value.ref _]) _ _ _); k_dflt (refine' len_L ?y_l ?y_z ?_; (case y_l => is_list); (case y_z => omega); k_whole))
  k_with "subscriptTail" => (k_here; (with_reducible show wpAny _ _ (subscriptTail _ _ (Value.ref _) (Value.int _ _)) _ _ _); k_dflt (refine' item_open ?y_l ?y_a ?y_b ?y_z ?_ ?y_e; (case y_l => is_list); (case y_a => omega); (case y_b => omega); (case y_z => omega); (case y_e => with_unfolding_all rfl); k_whole); intro z_v' z_hv' z_hx')
  revert X; k_fill; intro X
  refine wpAny_call ?_
  k_dflt (refine' code_defG ?k1 ?k2 ?k3 ?k4 ?k5 ?kA ?kF ?kK ?k6 ?k7 ?k8 ?k9 ?kB ?_ ?c2 ?c3 ?c4 ?c5; (case kA => exact rfl); (case kF => exact rfl); (case kK => assumption); (case k1 => k_asm); (case k2 => k_asm); (case k3 => k_asm); (case k4 => k_asm); (case k5 => k_asm); (case k6 => k_is); (case k7 => k_is); (case k8 => ktr_room); (case k9 => exact BindsTo.of_eq rfl); (case c5 => decide); (case kB => exact locs rfl); (case c2 => exact rfl); (case c3 => exact rfl); (case c4 => exact rfl))
  k_whole
  intro g' L' h₁ FG' F' N' B' X' T' kG'
  (try dsimp only)
  (try k_fold)
  k_steps
  all_goals (refine' ret _ _ _ _ _ _ ?w ?len ?ip ?f ?n ?ne ?kp; (case f => assumption); (case n => exact news_two (by assumption) (by k_mem) (by k_mem)); (case ne => first | assumption | k_ne); (case ip => exact IsPen.mono (by assumption) (by omega)); (case kp => exact keep_two kG' (by assumption) (N.get (.head _)) (by assumption) (by k_mem)); (case len => first | omega | (simp only [List.length_append, List.length_cons, List.length_nil]; omega)); (case w => (try simp only [List.all_append, List.all_cons, List.all_nil, Bool.and_true, Bool.and_eq_true]); repeat' (first | assumption | exact rfl | constructor)))
end Mine
end
section
open PySem PySem.W PyProof.Rows PySem.Calls
namespace Mine
theorem fresh_P7 : True := by
  w_top off
  k_with_none
  trivial

theorem news_sub {h₀ h : Heap} {L l : Addr} {o : Obj} {ns : List (Addr × Obj)} (N : News h₀ L h ns) (h1 : (l, o) ∈ ns) : News h₀ L h [(l, o)] := by
  intro p hp
  rw [List.mem_singleton.mp hp]; exact N _ h1
theorem fresh_nil {h g h' : Heap} {L' l : Addr} {o : Obj} {ns : List (Addr × Obj)} (kG : GSub h g (List.map (fun x => x.1) ([] : List (Addr × Obj)))) (N : News g L' h' ns) (hm : (l, o) ∈ ns) : h.get? l = none := by
  cases e : h.get? l with
  | none => rfl
  | some o' =>
    have := kG l o' e (by simp)
    rw [N.fresh hm] at this; cases this
set_option maxRecDepth 100000 in
set_option maxHeartbeats 8000000 in
theorem pen_spec {w : World} {mean : ExcName → Option Value} {mg mb : Str → Option Value} {dp un : Nat} {gd : Option (List Code)} {cn : Str} {cs : Scope} {a : Addr} {ccd : Value} {cl : List (Str × Addr)} {outer : List Env} {A₀ : Around} {base h₀ : Heap} {L : Addr} {m : Str → Option Value} {s : Shared} {Q E : Value → Shared → Prop}
    (B : Below A₀ base outer h₀) (F : Fr h₀ L s.heap m) (X : (hd.heap_39 w.params).In h₀) (T : Top hd.view_39 (looseW hd.view_39 []) mean mg mb h₀) (hk : cs.kind = .function)
    {l : Addr} {vs : List Value} {ns : List Int}
    (hl : h₀.IsList l vs.toArray) (hi : IntsAre vs ns) (hz : ns.length ≤ 1048576)
    (hd : dp < 870) (hu : un < 8700)
    (ret : ∀ (p : Addr) (po : Obj) (h' : Heap) (tk' : Nat), IsPen 0 po → Fr h₀ L h' m → News h₀ L h' [(p, po)] → (∀ b o, s.heap.get? b = some o → h'.get? b = some o) → s.heap.get? p = none → Q (.ref p) { s with heap := h', toks := tk' }) :
    wpAny (model Challenge.rw_og0162_01.row.prog w) (ktrTop dp un gd cn cs L a ccd cl outer) (call (.ref 110) [.ref l]) Q E s := by
  k_with_none
  have N : News h₀ L s.heap [] := News.nil
  revert X; k_fill; intro X
  refine wpAny_call ?_
  k_dflt (refine' code_defG ?k1 ?k2 ?k3 ?k4 ?k5 ?kA ?kF ?kK ?k6 ?k7 ?k8 ?k9 ?kB ?_ ?c2 ?c3 ?c4 ?c5; (case kA => exact rfl); (case kF => exact rfl); (case kK => assumption); (case k1 => k_asm); (case k2 => k_asm); (case k3 => k_asm); (case k4 => k_asm); (case k5 => k_asm); (case k6 => k_is); (case k7 => k_is); (case k8 => ktr_room); (case k9 => exact BindsTo.of_eq rfl); (case c5 => decide); (case kB => exact locs rfl); (case c2 => exact rfl); (case c3 => exact rfl); (case c4 => exact rfl))
  k_whole
  intro g' L' h₁ FG' F' N' B' X' T' kG'
  (try dsimp only)
  (try k_fold)
  have hl' : g'.IsList l vs.toArray := let ⟨o, ho, r⟩ := hl; ⟨o, FG'.keep _ _ ho, r⟩
  (k_with "pyIter ref" => k_state (fun pre n => 0 ≤ n) "number")
  k_steps
  refine' ret _ _ _ _ ⟨_, _, _, _, _, rfl, ?a, ?b, ?c⟩ ?f (news_sub (by assumption) ?mm) (fun b o e => Fr.keep (h₀ := g') (L := L') (by assumption) b o (kG' b o e (by simp))) ?fr
  case f => assumption
  case mm => k_mem
  case fr => exact fresh_nil kG' (by assumption) (by k_mem)
  case a => first | assumption | omega
  case b => decide
  case c => decide
end Mine
end
section
open PySem PySem.W PyProof.Rows PySem.Calls PyProof.V PySem.Spec
namespace Mine

def MvPostW (h₀ : Heap) (L : Addr) (wr : List Addr) (J : (Str → Option Value) → List (Addr × Obj) → Prop) (own : List (Addr × Obj)) (s₁ : Shared) (Q : Flow → Shared → Prop) (f : Flow) (s₂ : Shared) : Prop :=
  match f with
  | .ret v => Q (.ret v) s₂
  | .brk => Q .next s₂
  | _ => ∃ h' tk m' news' nx, s₂ = { s₁ with heap := h', toks := tk } ∧ Fr h₀ L h' m' ∧ News h₀ L h' news' ∧ (∀ p ∈ nx, p ∈ news') ∧ (∀ p ∈ own, p ∈ news') ∧ (∀ p ∈ nx, p.1 ∉ wr) ∧ J m' nx
section
variable {prog : Program} {w : World} {A : Around} {E : Value → Shared → Prop} {s : Shared} {env : Env} {h₀ : Heap} {x : Str} {body : List Stmt} {Q : Flow → Shared → Prop}
theorem loop_mvw {I : Addr} {fp wr : List Addr} {n : Nat} {P : Nat → Value → Prop} {St : Nat → Heap → Prop} {m₀ : Str → Option Value} {news : List (Addr × Obj)} (J : Nat → (Str → Option Value) → List (Addr × Obj) → Prop)
    (W : Walks prog w A I fp wr n P St) (hLf : env.locals ∉ fp) (hwr : ∀ b ∈ wr, h₀.get? b = none) (hnw : ∀ p ∈ news, p.1 ∉ wr)
    (hst : St 0 s.heap) (F : Fr h₀ env.locals s.heap m₀) (N : News h₀ env.locals s.heap news) (hj : J 0 m₀ news)
    (turn : ∀ i v m₁ nx h tk own, i < n → P i v → J i m₁ nx → (∀ p ∈ nx, p.1 ∉ wr) → (∀ p ∈ own, p.1 ∈ fp) → Fr h₀ env.locals h (fun y => if y = x then some v else m₁ y) → News h₀ env.locals h (nx ++ own) →
      wpAny (model prog w) A (execs body env) (MvPostW h₀ env.locals wr (J (i + 1)) own { s with heap := h, toks := tk } Q) E { s with heap := h, toks := tk })
    (done : ∀ m₁ nx h tk, J n m₁ nx → Fr h₀ env.locals h m₁ → News h₀ env.locals h nx → Q .next { s with heap := h, toks := tk }) :
    LoopAtV prog w A h₀ env x body Q E (.ref I) s := by
  refine ⟨I, fp, wr, n, P, St, m₀, news, J, rfl, W, hLf, hwr, hnw, hst, F, N, hj, ?_, ?_⟩
  · rintro i v m₁ nx s₁ own ⟨hh', tk', rfl⟩ hin hP hJ hoff hown hget hall hst₁ F₁ N₁
    have N₂ : News h₀ env.locals hh' (nx ++ own) := fun p hp => N₁ p ((List.mem_append.mp hp).elim (fun h => List.mem_append.mpr (.inr h)) fun h => List.mem_append.mpr (.inl h))
    refine wpAny_mono (turn i v m₁ nx hh' tk' own hin hP hJ hoff hown F₁ N₂) (fun f s₂ p => ?_) fun _ _ e => e
    have fin : (∃ h' tk m' news' ny, s₂ = { s with heap := h', toks := tk } ∧ Fr h₀ env.locals h' m' ∧ News h₀ env.locals h' news' ∧ (∀ p ∈ ny, p ∈ news') ∧ (∀ p ∈ own, p ∈ news') ∧ (∀ p ∈ ny, p.1 ∉ wr) ∧ J (i + 1) m' ny) → LoopStepU h₀ env.locals wr own (J (i + 1)) { s with heap := hh', toks := tk' } .next s₂ := by
      rintro ⟨h', tk, m', news', ny, e, F', N', hn, ho, ha, hm⟩
      exact ⟨rfl, h', tk, m', ny, e, F', fun p hp => N' p ((List.mem_append.mp hp).elim (ho p) (hn p)), ha, hm⟩
    cases f with
    | ret v => exact .ret p
    | brk => exact .brk p
    | next => exact .next (fin p)
    | cont => exact .cont (fin p)
  · rintro h' tk m' news' F' N' _ hJ
    exact done m' news' h' tk hJ F' N'
end

inductive StrsL : List Value → List Str → Prop
  | nil : StrsL [] []
  | cons {x : Str} {t : Tok} {vs : List Value} {ks : List Str} : StrsL vs ks → StrsL (.str x t :: vs) (x :: ks)
theorem StrsL.len {vs : List Value} {ks : List Str} (h : StrsL vs ks) : vs.length = ks.length := by
  induction h with
  | nil => rfl
  | cons _ ih => simp [ih]
theorem StrsL.get {vs : List Value} {ks : List Str} (h : StrsL vs ks) : ∀ (i : Nat) (v : Value), vs[i]? = some v → ∃ k t, ks[i]? = some k ∧ v = .str k t := by
  induction h with
  | nil => intro i v e; simp at e
  | cons _ ih =>
    intro i v e
    cases i with
    | zero => simp at e; exact ⟨_, _, rfl, e.symm⟩
    | succ i => simp at e; simpa using ih i v e
abbrev tupO (its : Array Value) (n : Nat) : Obj := { cls := .type "tuple", data := .seq its n }
def putS (sg : Str) (D : List (PyData × PyData)) (k : Str) : List (PyData × PyData) := putD (.str k) (.str sg) D
theorem putS_len (sg : Str) (ks : List Str) (D : List (PyData × PyData)) : (ks.foldl (putS sg) D).length ≤ D.length + ks.length := by
  induction ks generalizing D with
  | nil => simp
  | cons k r ih =>
    have h1 := ih (putS sg D k)
    have h2 := putD_length_le (.str k) (.str sg) D
    simp only [List.foldl_cons, List.length_cons]
    unfold putS at h1 ⊢
    omega
theorem updF_mem {d : Addr} {o : Obj} {l : List (Addr × Obj)} {g : Obj → List (Addr × Obj)} (U : UpdF d o l g) : ∀ o', (d, o') ∈ g o' := by
  obtain ⟨pre, post, _, hg, _⟩ := U.split
  intro o'; rw [hg]; exact List.mem_append.mpr (.inr (.head _))
theorem loop_put {prog : Program} {w : World} {A : Around} {E : Value → Shared → Prop} {s : Shared} {env : Env} {h₀ : Heap} {x : Str} {body : List Stmt} {Q : Flow → Shared → Prop}
    {t d : Addr} {vs : List Value} {n : Nat} {m₀ : Str → Option Value} {ns : List (Addr × Obj)} {o : Obj} {kvs : List (Str × Value)} {D : List (PyData × PyData)} {g : Obj → List (Addr × Obj)} (sg : Str) {ks : List Str}
    (hh : A.handled = none) (F : Fr h₀ env.locals s.heap m₀) (N : News h₀ env.locals s.heap ns) (ht : (t, tupO vs.toArray n) ∈ ns) (U : UpdF d o ns g) (hne : @Ne Nat t d) (hks : StrsL vs ks)
    (ho : o.IsDictOf (strKind prog w) kvs) (hf : FlatPairs PyData.str kvs D) (hD : D.length + ks.length ≤ 200)
    (turn : ∀ k u o kvs D h tk rest, o.IsDictOf (strKind prog w) kvs → FlatPairs PyData.str kvs D → D.length ≤ 200 → (∀ q ∈ rest, q.1 ≠ d) → Fr h₀ env.locals h (fun y => if y = x then some (.str k u) else m₀ y) → News h₀ env.locals h ((d, o) :: rest) →
      ∀ (R : Flow → Shared → Prop), (∀ h' tk' o' kvs', o'.IsDictOf (strKind prog w) kvs' → FlatPairs PyData.str kvs' (putS sg D k) → Fr h₀ env.locals h' (fun y => if y = x then some (.str k u) else m₀ y) → News h₀ env.locals h' ((d, o') :: rest) → R .next { s with heap := h', toks := tk' }) →
        wpAny (model prog w) A (execs body env) R E { s with heap := h, toks := tk })
    (done : ∀ (u : Str → Option Value) o' kvs' h tk, o'.IsDictOf (strKind prog w) kvs' → FlatPairs PyData.str kvs' (ks.foldl (putS sg) D) → Fr h₀ env.locals h (fun y => if y = x then u y else m₀ y) → News h₀ env.locals h (g o') → Q .next { s with heap := h, toks := tk }) :
    wpAny (model prog w) A (pyIter (.ref t)) (fun it s₂ => LoopAtV prog w A h₀ env x body Q E it s₂) E s := by
  have hgo : ns = g o := by obtain ⟨pre, post, e, hg, _⟩ := U.split; rw [hg]; exact e
  have hT : s.heap.IsTuple t vs.toArray := ⟨_, N.get ht, rfl, n, rfl⟩
  have htlt : t < s.heap.objs.size := Heap.lt_size (N.get ht)
  refine wpAny_pyIter_tuple hT ?_
  have W := Walks.tuple (prog := prog) (w := w) hh s.heap.objs.size t (Nat.ne_of_lt htlt) vs.toArray
  have up : ∀ b o', s.heap.get? b = some o' → (s.heap.push { cls := .type "tuple_iterator", data := .fields #[.ref t, .int 0 0] }).get? b = some o' := fun b o' e => Heap.get?_push_of_some _ e
  refine loop_mvw (news := ns) (m₀ := m₀) (fun i m nx => ∃ o kvs, nx = g o ∧ o.IsDictOf (strKind prog w) kvs ∧ FlatPairs PyData.str kvs ((ks.take i).foldl (putS sg) D) ∧ ∀ z, z ≠ x → m z = m₀ z) W ?_ ?_ ?_ ⟨⟨_, Heap.get?_push_size _ rfl, rfl, rfl⟩, hT.at fun o' e => up _ _ e⟩ (F.push _) (fun p hp => ⟨up _ _ (N p hp).1, (N p hp).2⟩)
    ⟨o, kvs, hgo, ho, by simpa using hf, fun _ _ => rfl⟩ ?_ ?_
  · intro hm
    rcases List.mem_cons.mp hm with e | hm
    · exact absurd F.ns.lt (e ▸ Nat.lt_irrefl _)
    · have := (N _ ht).2.1
      exact this (List.mem_singleton.mp hm).symm
  · intro b hb
    rw [List.mem_singleton.mp hb]
    exact next_is_new F
  · intro p hp hI
    exact absurd (Heap.lt_size (N p hp).1) ((List.mem_singleton.mp hI) ▸ Nat.lt_irrefl _)
  · rintro i v m₁ nx h tk own hi hP ⟨o, kvs, rfl, ho, hf, hm⟩ hoff hown F₁ N₁
    have hP' : vs[i]? = some v := by simpa using hP
    obtain ⟨k, u, hk, rfl⟩ := hks.get i v hP'
    obtain ⟨pre, post, _, hg, hpre, hpost⟩ := U.split
    have em : (fun y => if y = x then some (Value.str k u) else m₁ y) = fun y => if y = x then some (Value.str k u) else m₀ y := by
      funext z
      by_cases h1 : z = x
      · simp [h1]
      · simp only [if_neg h1]; exact hm z h1
    rw [em] at F₁
    have hs : (ks.take (i + 1)).foldl (putS sg) D = putS sg ((ks.take i).foldl (putS sg) D) k := by
      rw [List.take_add_one, hk]; simp
    have hid : i < ks.length := by
      have := (List.getElem?_eq_some_iff.mp hk).1; exact this
    have hlen : ((ks.take i).foldl (putS sg) D).length ≤ 200 := by
      have h1 := putS_len sg (ks.take i) D
      rw [List.length_take] at h1
      omega
    have hdI : d ≠ s.heap.objs.size := by
      have := hoff (d, o) (updF_mem U o)
      simpa using this
    have hrest : ∀ q ∈ pre ++ post ++ own, q.1 ≠ d := by
      intro q hq
      rcases List.mem_append.mp hq with hq | hq
      · rcases List.mem_append.mp hq with hq | hq
        · exact hpre q hq
        · exact hpost q hq
      · have := hown q hq
        rcases List.mem_cons.mp this with e | this
        · rw [e]; exact Ne.symm hdI
        · rw [List.mem_singleton.mp this]; exact hne
    have N₂ : News h₀ env.locals h ((d, o) :: (pre ++ post ++ own)) := by
      intro p hp
      refine N₁ p ?_
      rw [hg]
      rcases List.mem_cons.mp hp with rfl | hp
      · exact List.mem_append.mpr (.inl (List.mem_append.mpr (.inr (.head _))))
      · rcases List.mem_append.mp hp with hp | hp
        · rcases List.mem_append.mp hp with hp | hp
          · exact List.mem_append.mpr (.inl (List.mem_append.mpr (.inl hp)))
          · exact List.mem_append.mpr (.inl (List.mem_append.mpr (.inr (.tail _ hp))))
        · exact List.mem_append.mpr (.inr hp)
    refine turn k u o kvs _ h tk _ ho hf hlen hrest F₁ N₂ _ (fun h' tk' o' kvs' ho' hf' F' N' => ?_)
    refine ⟨h', tk', _, _, g o', rfl, F', N', ?_, ?_, ?_, o', kvs', rfl, ho', by rw [hs]; exact hf', fun z hz => if_neg hz⟩
    · intro p hp
      rw [hg] at hp
      rcases List.mem_append.mp hp with hp | hp
      · exact .tail _ (List.mem_append.mpr (.inl (List.mem_append.mpr (.inl hp))))
      · rcases List.mem_cons.mp hp with rfl | hp
        · exact .head _
        · exact .tail _ (List.mem_append.mpr (.inl (List.mem_append.mpr (.inr hp))))
    · intro p hp
      exact .tail _ (List.mem_append.mpr (.inr hp))
    · intro p hp
      rw [hg] at hp
      have hpo : ∃ q ∈ g o, q.1 = p.1 := by
        rw [hg]
        rcases List.mem_append.mp hp with hp | hp
        · exact ⟨p, List.mem_append.mpr (.inl hp), rfl⟩
        · rcases List.mem_cons.mp hp with rfl | hp
          · exact ⟨(d, o), List.mem_append.mpr (.inr (.head _)), rfl⟩
          · exact ⟨p, List.mem_append.mpr (.inr (.tail _ hp)), rfl⟩
      obtain ⟨q, hq, e⟩ := hpo
      rw [← e]; exact hoff q hq
  · rintro m₁ nx h tk ⟨o, kvs, rfl, ho, hf, hm⟩ F₁ N₁
    have hl : vs.toArray.size = ks.length := by simp [hks.len]
    rw [hl, List.take_length] at hf
    refine done m₁ o kvs h tk ho hf ?_ N₁
    have em : (fun y => if y = x then m₁ y else m₀ y) = m₁ := by
      funext z
      by_cases h1 : z = x
      · simp [h1]
      · simp only [if_neg h1]; exact (hm z h1).symm
    rw [em]; exact F₁
end Mine
end
section
open PySem PySem.W PyProof.Rows PySem.Calls PyProof.V PySem.Spec
namespace Mine
theorem fresh_P9 : True := by
  w_top off
  k_with_none
  trivial

theorem const_str_gen {M : Model} {A : Around} {E : Value → Shared → Prop} {s : Shared} {env : Env} {x : Str} {k : Nat} {pos : Pos} {Q : Value → Shared → Prop} (h : ∀ t tk', Q (.str x t) { s with toks := tk' }) : wpAny M A (eval (.Constant (.str x) k pos) env) Q E s :=
  Calls.Constant_str (h _ _)
local macro_rules | `(tactic| k_all) => `(tactic| assumption)
set_option maxRecDepth 100000 in
set_option maxHeartbeats 8000000 in
theorem turn_s {w : World} {dp un : Nat} {gd : Option (List Code)} {cn : Str} {cs : Scope} {a : Addr} {ccd : Value} {cl : List (Str × Addr)} {outer : List Env} {L : Addr} {s : Shared} {E : Value → Shared → Prop} {g' : Heap} {L' : Addr} {m₁ : Str → Option Value} (X' : (hd.heap_39 w.params).In g') {sg : Str} {tsg : Tok} (h2 : m₁ (Str.ofString "sign") = some (.str sg tsg)) {d : Addr} (lo : (d == sysModules) = false) (h1 : m₁ (Str.ofString "table") = some (.ref d)) {p1 p2 p3 p4 p5 : Pos} :
    ∀ k u o kvs D h tk rest, o.IsDictOf (strKind Challenge.rw_og0162_01.row.prog w) kvs → FlatPairs PyData.str kvs D → D.length ≤ 200 → (∀ q ∈ rest, q.1 ≠ d) → Fr g' L' h (fun y => if y = Str.ofString "one" then some (.str k u) else m₁ y) → News g' L' h ((d, o) :: rest) →
      ∀ (R : Flow → Shared → Prop), (∀ h' tk' o' kvs', o'.IsDictOf (strKind Challenge.rw_og0162_01.row.prog w) kvs' → FlatPairs PyData.str kvs' (putS sg D k) → Fr g' L' h' (fun y => if y = Str.ofString "one" then some (.str k u) else m₁ y) → News g' L' h' ((d, o') :: rest) → R .next { s with heap := h', toks := tk' }) →
        wpAny (model Challenge.rw_og0162_01.row.prog w) ((ktrTop dp un gd cn cs L a ccd cl outer).deeper (envOf (Str.ofString "_law_sign") { kind := ScopeKind.function, names := [(Str.ofString "word", NameKind.local), (Str.ofString "left_over", NameKind.local), (Str.ofString "table", NameKind.local), (Str.ofString "signs", NameKind.local), (Str.ofString "sign", NameKind.local), (Str.ofString "one", NameKind.local), (Str.ofString "own", NameKind.local)], isGenerator := false, isCoroutine := false, more := [] } L' 152 (Value.ref 151)))
          (execs [Stmt.Assign [(PySem.Expr.Name (Str.ofString "table") p1).Subscript (PySem.Expr.Name (Str.ofString "one") p2) p3] (PySem.Expr.Name (Str.ofString "sign") p4) p5] (envOf (Str.ofString "_law_sign") { kind := ScopeKind.function, names := [(Str.ofString "word", NameKind.local), (Str.ofString "left_over", NameKind.local), (Str.ofString "table", NameKind.local), (Str.ofString "signs", NameKind.local), (Str.ofString "sign", NameKind.local), (Str.ofString "one", NameKind.local), (Str.ofString "own", NameKind.local)], isGenerator := false, isCoroutine := false, more := [] } L' 152 (Value.ref 151))) R E { s with heap := h, toks := tk } := by
  k_with_none
  k_with "eval Constant str" => (refine const_str_gen ?_; intro z_t' z_tk'; (try dsimp only))
  revert X'; k_fill; intro X'
  intro k u o kvs D h tk rest ho hf hD hne F0 N0 R hR
  have em : (fun y => if y = Str.ofString "one" then some (Value.str k u) else m₁ y) = fun y => if y = Str.ofString "one" then some (Value.str k u) else if y = Str.ofString "table" then some (Value.ref d) else if y = Str.ofString "sign" then some (Value.str sg tsg) else m₁ y := by
    funext z
    by_cases e1 : z = Str.ofString "one"
    · rw [if_pos e1, if_pos e1]
    · by_cases e2 : z = Str.ofString "table"
      · rw [if_neg e1, if_neg e1, if_pos e2, e2, h1]
      · by_cases e3 : z = Str.ofString "sign"
        · rw [if_neg e1, if_neg e1, if_neg e2, if_pos e3, e3, h2]
        · rw [if_neg e1, if_neg e1, if_neg e2, if_neg e3]
  rw [em] at F0 hR
  k_steps
  exact hR _ _ _ _ (by assumption) (by assumption) (by assumption) (by assumption)
set_option maxRecDepth 100000 in
set_option maxHeartbeats 8000000 in
theorem turn_f {w : World} {dp un : Nat} {gd : Option (List Code)} {cn : Str} {cs : Scope} {a : Addr} {ccd : Value} {cl : List (Str × Addr)} {outer : List Env} {L : Addr} {s : Shared} {E : Value → Shared → Prop} {g' : Heap} {L' : Addr} {m₁ : Str → Option Value} (X' : (hd.heap_39 w.params).In g')  {d : Addr} (lo : (d == sysModules) = false) (h1 : m₁ (Str.ofString "table") = some (.ref d)) {p1 p2 p3 p4 p5 : Pos} :
    ∀ k u o kvs D h tk rest, o.IsDictOf (strKind Challenge.rw_og0162_01.row.prog w) kvs → FlatPairs PyData.str kvs D → D.length ≤ 200 → (∀ q ∈ rest, q.1 ≠ d) → Fr g' L' h (fun y => if y = Str.ofString "one" then some (.str k u) else m₁ y) → News g' L' h ((d, o) :: rest) →
      ∀ (R : Flow → Shared → Prop), (∀ h' tk' o' kvs', o'.IsDictOf (strKind Challenge.rw_og0162_01.row.prog w) kvs' → FlatPairs PyData.str kvs' (putS (Str.ofString "f") D k) → Fr g' L' h' (fun y => if y = Str.ofString "one" then some (.str k u) else m₁ y) → News g' L' h' ((d, o') :: rest) → R .next { s with heap := h', toks := tk' }) →
        wpAny (model Challenge.rw_og0162_01.row.prog w) ((ktrTop dp un gd cn cs L a ccd cl outer).deeper (envOf (Str.ofString "_law_sign") { kind := ScopeKind.function, names := [(Str.ofString "word", NameKind.local), (Str.ofString "left_over", NameKind.local), (Str.ofString "table", NameKind.local), (Str.ofString "signs", NameKind.local), (Str.ofString "sign", NameKind.local), (Str.ofString "one", NameKind.local), (Str.ofString "own", NameKind.local)], isGenerator := false, isCoroutine := false, more := [] } L' 152 (Value.ref 151)))
          (execs [Stmt.Assign [(PySem.Expr.Name (Str.ofString "table") p1).Subscript (PySem.Expr.Name (Str.ofString "one") p2) p3] (PySem.Expr.Constant (Const.str (Str.ofString "f")) 0 p4) p5] (envOf (Str.ofString "_law_sign") { kind := ScopeKind.function, names := [(Str.ofString "word", NameKind.local), (Str.ofString "left_over", NameKind.local), (Str.ofString "table", NameKind.local), (Str.ofString "signs", NameKind.local), (Str.ofString "sign", NameKind.local), (Str.ofString "one", NameKind.local), (Str.ofString "own", NameKind.local)], isGenerator := false, isCoroutine := false, more := [] } L' 152 (Value.ref 151))) R E { s with heap := h, toks := tk } := by
  k_with_none
  k_with "eval Constant str" => (refine const_str_gen ?_; intro z_t' z_tk'; (try dsimp only))
  revert X'; k_fill; intro X'
  intro k u o kvs D h tk rest ho hf hD hne F0 N0 R hR
  have em : (fun y => if y = Str.ofString "one" then some (Value.str k u) else m₁ y) = fun y => if y = Str.ofString "one" then some (Value.str k u) else if y = Str.ofString "table" then some (Value.ref d) else m₁ y := by
    funext z
    by_cases e1 : z = Str.ofString "one"
    · rw [if_pos e1, if_pos e1]
    · by_cases e2 : z = Str.ofString "table"
      · rw [if_neg e1, if_neg e1, if_pos e2, e2, h1]
      · rw [if_neg e1, if_neg e1, if_neg e2]
  rw [em] at F0 hR
  k_steps
  exact hR _ _ _ _ (by assumption) (by assumption) (by assumption) (by assumption)
set_option maxRecDepth 100000 in
set_option maxHeartbeats 8000000 in
theorem loop_put_s {w : World} {dp un : Nat} {gd : Option (List Code)} {cn : Str} {cs : Scope} {a : Addr} {ccd : Value} {cl : List (Str × Addr)} {outer : List Env} {L : Addr} {E : Value → Shared → Prop} {g' : Heap} {L' : Addr} {m₁ : Str → Option Value} {s₁ : Shared} {Q₁ : Flow → Shared → Prop} (X' : (hd.heap_39 w.params).In g') {sg : Str} {tsg : Tok} (h2 : m₁ (Str.ofString "sign") = some (.str sg tsg)) {d t : Addr} (lo : (d == sysModules) = false) (h1 : m₁ (Str.ofString "table") = some (.ref d)) {p1 p2 p3 p4 p5 : Pos}
    {vs : List Value} {n c : Nat} {ns : List (Addr × Obj)} {o : Obj} {kvs : List (Str × Value)} {D : List (PyData × PyData)} {g : Obj → List (Addr × Obj)} {ks : List Str}
    (F₁ : Fr g' L' s₁.heap m₁) (N₁ : News g' L' s₁.heap ns) (ht : (t, tupO vs.toArray n) ∈ ns) (U : UpdF d o ns g) (hne : @Ne Nat t d) (hks : StrsL vs ks)
    (ho : o.IsDictOf (strKind Challenge.rw_og0162_01.row.prog w) kvs) (hf : FlatPairs PyData.str kvs D) (hD : D.length ≤ c) (hc : c + ks.length ≤ 200)
    (done : ∀ (u : Str → Option Value) o' kvs' h tk, o'.IsDictOf (strKind Challenge.rw_og0162_01.row.prog w) kvs' → FlatPairs PyData.str kvs' (ks.foldl (putS sg) D) → (ks.foldl (putS sg) D).length ≤ c + ks.length →
      Fr g' L' h (fun y => if y = Str.ofString "one" then u y else m₁ y) → News g' L' h (g o') → Q₁ .next { s₁ with heap := h, toks := tk }) :
    wpAny (model Challenge.rw_og0162_01.row.prog w) ((ktrTop dp un gd cn cs L a ccd cl outer).deeper (envOf (Str.ofString "_law_sign") { kind := ScopeKind.function, names := [(Str.ofString "word", NameKind.local), (Str.ofString "left_over", NameKind.local), (Str.ofString "table", NameKind.local), (Str.ofString "signs", NameKind.local), (Str.ofString "sign", NameKind.local), (Str.ofString "one", NameKind.local), (Str.ofString "own", NameKind.local)], isGenerator := false, isCoroutine := false, more := [] } L' 152 (Value.ref 151))) (pyIter (.ref t)) (fun it s₂ => LoopAtV Challenge.rw_og0162_01.row.prog w ((ktrTop dp un gd cn cs L a ccd cl outer).deeper (envOf (Str.ofString "_law_sign") { kind := ScopeKind.function, names := [(Str.ofString "word", NameKind.local), (Str.ofString "left_over", NameKind.local), (Str.ofString "table", NameKind.local), (Str.ofString "signs", NameKind.local), (Str.ofString "sign", NameKind.local), (Str.ofString "one", NameKind.local), (Str.ofString "own", NameKind.local)], isGenerator := false, isCoroutine := false, more := [] } L' 152 (Value.ref 151))) g' (envOf (Str.ofString "_law_sign") { kind := ScopeKind.function, names := [(Str.ofString "word", NameKind.local), (Str.ofString "left_over", NameKind.local), (Str.ofString "table", NameKind.local), (Str.ofString "signs", NameKind.local), (Str.ofString "sign", NameKind.local), (Str.ofString "one", NameKind.local), (Str.ofString "own", NameKind.local)], isGenerator := false, isCoroutine := false, more := [] } L' 152 (Value.ref 151)) (Str.ofString "one")
      [Stmt.Assign [(PySem.Expr.Name (Str.ofString "table") p1).Subscript (PySem.Expr.Name (Str.ofString "one") p2) p3] (PySem.Expr.Name (Str.ofString "sign") p4) p5] Q₁ E it s₂) E s₁ :=
  loop_put sg rfl F₁ N₁ ht U hne hks ho hf (by omega) (turn_s (s := s₁) X' h2 lo h1) fun u o' kvs' h tk a1 a2 a3 a4 => done u o' kvs' h tk a1 a2 (by have := putS_len sg ks D; omega) a3 a4
set_option maxRecDepth 100000 in
set_option maxHeartbeats 8000000 in
theorem loop_put_f {w : World} {dp un : Nat} {gd : Option (List Code)} {cn : Str} {cs : Scope} {a : Addr} {ccd : Value} {cl : List (Str × Addr)} {outer : List Env} {L : Addr} {E : Value → Shared → Prop} {g' : Heap} {L' : Addr} {m₁ : Str → Option Value} {s₁ : Shared} {Q₁ : Flow → Shared → Prop} (X' : (hd.heap_39 w.params).In g')  {d t : Addr} (lo : (d == sysModules) = false) (h1 : m₁ (Str.ofString "table") = some (.ref d)) {p1 p2 p3 p4 p5 : Pos}
    {vs : List Value} {n c : Nat} {ns : List (Addr × Obj)} {o : Obj} {kvs : List (Str × Value)} {D : List (PyData × PyData)} {g : Obj → List (Addr × Obj)} {ks : List Str}
    (F₁ : Fr g' L' s₁.heap m₁) (N₁ : News g' L' s₁.heap ns) (ht : (t, tupO vs.toArray n) ∈ ns) (U : UpdF d o ns g) (hne : @Ne Nat t d) (hks : StrsL vs ks)
    (ho : o.IsDictOf (strKind Challenge.rw_og0162_01.row.prog w) kvs) (hf : FlatPairs PyData.str kvs D) (hD : D.length ≤ c) (hc : c + ks.length ≤ 200)
    (done : ∀ (u : Str → Option Value) o' kvs' h tk, o'.IsDictOf (strKind Challenge.rw_og0162_01.row.prog w) kvs' → FlatPairs PyData.str kvs' (ks.foldl (putS (Str.ofString "f")) D) → (ks.foldl (putS (Str.ofString "f")) D).length ≤ c + ks.length →
      Fr g' L' h (fun y => if y = Str.ofString "one" then u y else m₁ y) → News g' L' h (g o') → Q₁ .next { s₁ with heap := h, toks := tk }) :
    wpAny (model Challenge.rw_og0162_01.row.prog w) ((ktrTop dp un gd cn cs L a ccd cl outer).deeper (envOf (Str.ofString "_law_sign") { kind := ScopeKind.function, names := [(Str.ofString "word", NameKind.local), (Str.ofString "left_over", NameKind.local), (Str.ofString "table", NameKind.local), (Str.ofString "signs", NameKind.local), (Str.ofString "sign", NameKind.local), (Str.ofString "one", NameKind.local), (Str.ofString "own", NameKind.local)], isGenerator := false, isCoroutine := false, more := [] } L' 152 (Value.ref 151))) (pyIter (.ref t)) (fun it s₂ => LoopAtV Challenge.rw_og0162_01.row.prog w ((ktrTop dp un gd cn cs L a ccd cl outer).deeper (envOf (Str.ofString "_law_sign") { kind := ScopeKind.function, names := [(Str.ofString "word", NameKind.local), (Str.ofString "left_over", NameKind.local), (Str.ofString "table", NameKind.local), (Str.ofString "signs", NameKind.local), (Str.ofString "sign", NameKind.local), (Str.ofString "one", NameKind.local), (Str.ofString "own", NameKind.local)], isGenerator := false, isCoroutine := false, more := [] } L' 152 (Value.ref 151))) g' (envOf (Str.ofString "_law_sign") { kind := ScopeKind.function, names := [(Str.ofString "word", NameKind.local), (Str.ofString "left_over", NameKind.local), (Str.ofString "table", NameKind.local), (Str.ofString "signs", NameKind.local), (Str.ofString "sign", NameKind.local), (Str.ofString "one", NameKind.local), (Str.ofString "own", NameKind.local)], isGenerator := false, isCoroutine := false, more := [] } L' 152 (Value.ref 151)) (Str.ofString "one")
      [Stmt.Assign [(PySem.Expr.Name (Str.ofString "table") p1).Subscript (PySem.Expr.Name (Str.ofString "one") p2) p3] (PySem.Expr.Constant (Const.str (Str.ofString "f")) 0 p4) p5] Q₁ E it s₂) E s₁ :=
  loop_put (Str.ofString "f") rfl F₁ N₁ ht U hne hks ho hf (by omega) (turn_f (s := s₁) X' lo h1) fun u o' kvs' h tk a1 a2 a3 a4 => done u o' kvs' h tk a1 a2 (by have := putS_len (Str.ofString "f") ks D; omega) a3 a4
end Mine
end
section
open PySem PySem.W PyProof.Rows PySem.Calls PyProof.V PySem.Spec
namespace Mine
theorem fresh_P10 : True := by
  w_top off
  k_with_none
  trivial

def psF : List Str := [Str.ofString "S", Str.ofString "s", Str.ofString "f", Str.ofString "F", Str.ofString "f*", Str.ofString "B", Str.ofString "B*", Str.ofString "b", Str.ofString "b*", Str.ofString "n"]
def psW : List Str := [Str.ofString "W", Str.ofString "W*"]
def psL : List Str := [Str.ofString "l", Str.ofString "c", Str.ofString "v", Str.ofString "y", Str.ofString "h"]
def psP : List Str := [Str.ofString "m", Str.ofString "re"]
def D0T : List (PyData × PyData) := [(PyData.str (Str.ofString "q"), PyData.str (Str.ofString "q")), (PyData.str (Str.ofString "Q"), PyData.str (Str.ofString "Q")), (PyData.str (Str.ofString "BT"), PyData.str (Str.ofString "t")), (PyData.str (Str.ofString "ET"), PyData.str (Str.ofString "T")), (PyData.str (Str.ofString "BMC"), PyData.str (Str.ofString "c")), (PyData.str (Str.ofString "BDC"), PyData.str (Str.ofString "c")), (PyData.str (Str.ofString "EMC"), PyData.str (Str.ofString "C")), (PyData.str (Str.ofString "BX"), PyData.str (Str.ofString "x")), (PyData.str (Str.ofString "EX"), PyData.str (Str.ofString "X"))]
def own0 (x : Str) : Str := if x = Str.ofString "q" then Str.ofString "q" else if x = Str.ofString "Q" then Str.ofString "Q" else if x = Str.ofString "BT" then Str.ofString "t" else if x = Str.ofString "ET" then Str.ofString "T" else if x = Str.ofString "BMC" then Str.ofString "c" else if x = Str.ofString "BDC" then Str.ofString "c" else if x = Str.ofString "EMC" then Str.ofString "C" else if x = Str.ofString "BX" then Str.ofString "x" else if x = Str.ofString "EX" then Str.ofString "X" else Str.ofString "o"
def ownW (x : Str) : Str := if x ∈ psF then Str.ofString "f" else if x ∈ psW then Str.ofString "w" else if x ∈ psL then Str.ofString "l" else if x ∈ psP then Str.ofString "p" else own0 x
theorem lookup_app (x : Str) (D E : List (PyData × PyData)) : Spec.lookup (.str x) (D ++ E) = (Spec.lookup (.str x) D).or (Spec.lookup (.str x) E) := by
  induction D with
  | nil => rfl
  | cons p D ih =>
    obtain ⟨a, b⟩ := p
    simp only [List.cons_append, Spec.lookup]
    split
    · rfl
    · exact ih
theorem lookup_none (x : Str) (D : List (PyData × PyData)) (h : D.any (fun p => Spec.same p.1 (.str x)) = false) : Spec.lookup (.str x) D = none := by
  induction D with
  | nil => rfl
  | cons p D ih =>
    obtain ⟨a, b⟩ := p
    simp only [List.any_cons, Bool.or_eq_false_iff] at h
    simp only [Spec.lookup, h.1]
    exact ih h.2
theorem same_iff_str {p : PyData} {x y : Str} (h : Spec.same p (.str x) = true) : Spec.same p (.str y) = decide (x = y) := by
  cases p <;> simp only [Spec.same] at h <;> first | (cases h; done) | skip
  rename_i a
  have e : a = x := by simpa using h
  subst e
  rw [same_str]
theorem lookup_map_set (x k : Str) (dv : PyData) (D : List (PyData × PyData)) : Spec.lookup (.str x) (D.map (fun p => if Spec.same p.1 (.str k) then (p.1, dv) else p)) = if k = x then (if D.any (fun p => Spec.same p.1 (.str k)) then some dv else none) else Spec.lookup (.str x) D := by
  induction D with
  | nil => simp [Spec.lookup]
  | cons p D ih =>
    obtain ⟨a, b⟩ := p
    simp only [List.map_cons, List.any_cons]
    by_cases hk : Spec.same a (.str k) = true
    · have e := same_iff_str (y := x) hk
      simp only [hk, if_true, Spec.lookup, Bool.true_or, e]
      by_cases hx : k = x
      · simp [hx]
      · simp only [hx, decide_false, Bool.false_eq_true, if_false]
        rw [ih, if_neg hx]
    · have hk' : Spec.same a (.str k) = false := by simpa using hk
      simp only [hk', Bool.false_eq_true, if_false, Spec.lookup, Bool.false_or]
      by_cases hx : k = x
      · subst hx
        rw [hk', ih]
        simp
      · rw [ih, if_neg hx, if_neg hx]
theorem lookup_putS (x k sg : Str) (D : List (PyData × PyData)) : Spec.lookup (.str x) (putS sg D k) = if k = x then some (.str sg) else Spec.lookup (.str x) D := by
  unfold putS putD
  split
  · rename_i h
    rw [lookup_map_set]
    by_cases hx : k = x
    · rw [if_pos hx, if_pos hx, if_pos h]
    · rw [if_neg hx, if_neg hx]
  · rename_i h
    rw [lookup_app]
    by_cases hx : k = x
    · subst hx
      rw [if_pos rfl, lookup_none _ _ (by simpa using h)]
      simp [Spec.lookup, same_str]
    · rw [if_neg hx]
      have : Spec.lookup (.str x) [(PyData.str k, PyData.str sg)] = none := by simp [Spec.lookup, same_str, hx]
      rw [this]
      cases Spec.lookup (.str x) D <;> rfl
theorem lookup_fold (x sg : Str) (ks : List Str) : ∀ D, Spec.lookup (.str x) (ks.foldl (putS sg) D) = if x ∈ ks then some (.str sg) else Spec.lookup (.str x) D := by
  induction ks with
  | nil => intro D; simp
  | cons k ks ih =>
    intro D
    rw [List.foldl_cons, ih, lookup_putS]
    by_cases h1 : x ∈ ks
    · simp [h1]
    · by_cases h2 : k = x
      · subst h2; simp
      · have h3 : ¬ x = k := fun e => h2 e.symm
        simp [h1, h2, h3]
theorem lookup_D0 (x : Str) : (Spec.lookup (.str x) D0T).getD (.str (Str.ofString "o")) = .str (own0 x) := by
  unfold D0T own0
  simp only [Spec.lookup, same_str, decide_eq_true_eq]
  have sw : ∀ (a : Str), (a = x) = (x = a) := fun a => propext ⟨Eq.symm, Eq.symm⟩
  simp only [sw]
  repeat' (split; rfl)
  rfl
theorem own_eq (x : Str) : (Spec.lookup (.str x) (psF.foldl (putS (Str.ofString "f")) (psW.foldl (putS (Str.ofString "w")) (psL.foldl (putS (Str.ofString "l")) (psP.foldl (putS (Str.ofString "p")) D0T))))).getD (.str (Str.ofString "o")) = .str (ownW x) := by
  simp only [lookup_fold]
  unfold ownW
  (split; rfl); (split; rfl); (split; rfl); (split; rfl)
  exact lookup_D0 x
theorem dget {prog : Program} {w : World} {A : Around} {E : Value → Shared → Prop} {s : Shared} {h₀ : Heap} {L d : Addr} {ns : List (Addr × Obj)} {o : Obj} {kvs : List (Str × Value)} {D : List (PyData × PyData)} {x df : Str} {t td : Tok} {Q : Value → Shared → Prop} (z : Str)
    (N : News h₀ L s.heap ns) (hm : (d, o) ∈ ns) (lo : (d == sysModules) = false) (ho : o.IsDictOf (strKind prog w) kvs) (hf : FlatPairs PyData.str kvs D) (hz : (Spec.lookup (.str x) D).getD (.str df) = .str z)
    (h : ∀ t, Q (.str z t) { s with toks := s.toks + 1 }) : wpAny (model prog w) A (call (.builtin "dict.get") [.ref d, .str x t, .str df td]) Q E s :=
  call_get2_strTab (TabAt.ofNews N hm lo ho hf) (Flat.str _ _) fun v hv => by
    rw [hz] at hv
    obtain ⟨t, rfl⟩ := hv.str_inv
    exact h t

inductive Seen9 : Prop
  | mk
theorem news_lt {h₀ h : Heap} {L : Addr} {ns : List (Addr × Obj)} (N : News h₀ L h ns) : ∀ p ∈ ns, p.1 < h.objs.size := fun p hp => Heap.lt_size (N p hp).1
theorem updF_app {d : Addr} {o : Obj} {own r : List (Addr × Obj)} {g : Obj → List (Addr × Obj)} (h : ∀ p ∈ own, p.1 ≠ d) (U : UpdF d o r g) : UpdF d o (own ++ r) (fun o' => own ++ g o') := by
  induction own with
  | nil => exact U
  | cons q own ih => exact UpdF.tail (h q (.head _)) (ih fun p hp => h p (.tail _ hp))
theorem off_two {d a b : Addr} {own : List (Addr × Obj)} (h : ∀ p ∈ own, p.1 ∈ [a, b]) (h1 : @Ne Nat a d) (h2 : @Ne Nat b d) : ∀ p ∈ own, p.1 ≠ d := by
  intro p hp
  have := h p hp
  rcases List.mem_cons.mp this with e | this
  · rw [e]; exact h1
  · rw [List.mem_singleton.mp this]; exact h2
local macro_rules | `(tactic| k_all) => `(tactic| assumption)
local macro_rules | `(tactic| k_updF) => `(tactic| (refine' updF_app ?a ?b; (case a => exact off_two (by assumption) (by (try dsimp only); omega) (by (try dsimp only); omega)); (case b => k_updF)))

def hasS (y p : Str) : Bool := !(Builtin.Str.occurrences y p 0 y.length 1).isEmpty
def signW (x y : Str) : Str := if (hasS y (Str.ofString "t") && hasS (Str.ofString "qtplwf") (ownW x)) = true then Str.ofString "z" else ownW x
theorem has_no {y p : Str} (h : (Builtin.Str.occurrences y p 0 y.length 1).isEmpty = true) : hasS y p = false := by unfold hasS; rw [h]; rfl
theorem has_yes {y p : Str} (h : (Builtin.Str.occurrences y p 0 y.length 1).isEmpty = false) : hasS y p = true := by unfold hasS; rw [h]; rfl
theorem sign_a {x y : Str} (h : hasS y (Str.ofString "t") = false) : signW x y = ownW x := by unfold signW; rw [h]; rfl
theorem sign_b {x y : Str} (h : hasS (Str.ofString "qtplwf") (ownW x) = false) : signW x y = ownW x := by unfold signW; rw [h, Bool.and_false]; rfl
theorem sign_c {x y : Str} (h1 : hasS y (Str.ofString "t") = true) (h2 : hasS (Str.ofString "qtplwf") (ownW x) = true) : signW x y = Str.ofString "z" := by unfold signW; rw [h1, h2]; rfl
set_option maxRecDepth 100000 in
set_option maxHeartbeats 2000000 in
theorem sign_spec {w : World} {mean : ExcName → Option Value} {mg mb : Str → Option Value} {dp un : Nat} {gd : Option (List Code)} {cn : Str} {cs : Scope} {a : Addr} {ccd : Value} {cl : List (Str × Addr)} {outer : List Env} {A₀ : Around} {base h₀ : Heap} {L : Addr} {m : Str → Option Value} {s : Shared} {Q E : Value → Shared → Prop}
    (B : Below A₀ base outer h₀) (F : Fr h₀ L s.heap m) (X : (hd.heap_39 w.params).In h₀) (T : Top hd.view_39 (looseW hd.view_39 []) mean mg mb h₀) (hk : cs.kind = .function)
    {x y : Str} {tx ty : Tok}
    (hx : x.length ≤ 10) (hy : y.length ≤ 2000)
    (hd : dp < 870) (hu : un < 8700)
    (ret : ∀ (h' : Heap) (tk' : Nat) tz, Fr h₀ L h' m → (∀ b o, s.heap.get? b = some o → h'.get? b = some o) → Q (.str (signW x y) tz) { s with heap := h', toks := tk' }) :
    wpAny (model Challenge.rw_og0162_01.row.prog w) (ktrTop dp un gd cn cs L a ccd cl outer) (call (.ref 152) [.str x tx, .str y ty]) Q E s := by
  k_with_none
  k_with "eval Constant str" => (refine const_str_gen ?_; intro z_t' z_tk'; (try dsimp only))
  k_with "exec For Tuple Tuple cons nil" => ((rename Fr _ _ _ _ => z_F'); (with_reducible refine' For_unrF ?y_cF ?_ ?y_hs ?y_hE); (case y_cF => with_unfolding_all exact z_F'); (case y_hE => passes_own); (case y_hs => (intro _; with_unfolding_all rfl)))
  k_with "exec For Name Name cons nil" => (k_here; (rename Fr _ _ _ _ => z_lF'); (with_reducible refine' For_invVF ?y_lF ?y_k1 ?y_k2 ?_ ?y_k3 ?y_k4); (case y_lF => with_unfolding_all exact z_lF'); (case y_k1 => with_unfolding_all exact rfl); (case y_k2 => with_unfolding_all exact rfl); (case y_k3 => (intro _; with_unfolding_all rfl)); (case y_k4 => passes_own); k_whole)
  k_with "exec For Name Tuple" => (k_here; (rename Fr _ _ _ _ => z_lF'); (with_reducible refine' For_invVF ?y_lF ?y_k1 ?y_k2 ?_ ?y_k3 ?y_k4); (case y_lF => with_unfolding_all exact z_lF'); (case y_k1 => with_unfolding_all exact rfl); (case y_k2 => with_unfolding_all exact rfl); (case y_k3 => (intro _; with_unfolding_all rfl)); (case y_k4 => passes_own); k_whole)
  k_with "pyIter ref" => ((with_reducible show wpAny _ _ (pyIter (Value.ref _)) (fun it s₂ => UnrAt _ _ _ _ _ _ _ _ _ it s₂) _ _); (fail_if_success (rename Seen9 => z_x9)); have sm9 : Seen9 := Seen9.mk; (rename News _ _ _ _ => z_lN'); (have z_l9 := news_lt z_lN'); (k_lt z_l9); walk_at "pyIter ref")
  k_with "pyIter ref" => ((with_reducible show wpAny _ _ (pyIter (Value.ref _)) (fun it s₂ => LoopAtV _ _ _ _ _ _ _ _ _ it s₂) _ _); k_here; (rename Fr _ _ _ _ => z_lF'); (rename News _ _ _ _ => z_lN'); (with_reducible refine' loop_put_s ?y_cX ?y_h2 ?y_lo ?y_h1 ?y_cF ?y_cN ?y_ht ?y_U ?y_hne ?y_hks ?y_ho ?y_hf ?y_hD ?y_hc ?_); k_dflt ((case y_cX => assumption); (case y_cF => with_unfolding_all exact z_lF'); (case y_cN => with_unfolding_all exact z_lN'); (case y_h1 => with_unfolding_all rfl); (case y_h2 => with_unfolding_all rfl); (case y_ht => k_mem); (case y_lo => assumption); (case y_U => k_updF); (case y_hne => k_ne); (case y_hks => repeat constructor); (case y_ho => assumption); (case y_hf => assumption); (case y_hD => first | assumption | exact Nat.le_refl _); (case y_hc => exact Nat.le_of_ble_eq_true rfl)); intro z_u' z_o' z_kvs' z_h' z_tk' z_ho' z_hf' z_hl' z_F' z_N'; (try dsimp only at z_N'); (try dsimp only); (try k_fold); (try k_sweep))
  k_with "pyIter ref" => ((with_reducible show wpAny _ _ (pyIter (Value.ref _)) (fun it s₂ => LoopAtV _ _ _ _ _ _ _ _ _ it s₂) _ _); k_here; (rename Fr _ _ _ _ => z_lF'); (rename News _ _ _ _ => z_lN'); (with_reducible refine' loop_put_f ?y_cX ?y_lo ?y_h1 ?y_cF ?y_cN ?y_ht ?y_U ?y_hne ?y_hks ?y_ho ?y_hf ?y_hD ?y_hc ?_); k_dflt ((case y_cX => assumption); (case y_cF => with_unfolding_all exact z_lF'); (case y_cN => with_unfolding_all exact z_lN'); (case y_h1 => with_unfolding_all rfl); (case y_ht => k_mem); (case y_lo => assumption); (case y_U => k_updF); (case y_hne => k_ne); (case y_hks => repeat constructor); (case y_ho => assumption); (case y_hf => assumption); (case y_hD => first | assumption | exact Nat.le_refl _); (case y_hc => exact Nat.le_of_ble_eq_true rfl)); intro z_u' z_o' z_kvs' z_h' z_tk' z_ho' z_hf' z_hl' z_F' z_N'; (try dsimp only at z_N'); (try dsimp only); (try k_fold); (try k_sweep))
  k_with "call builtin:dict.get" => (k_here; (with_reducible refine' dget (ownW _) ?y_kN ?y_km ?y_ko ?y_ki ?y_kf ?y_kz ?_); k_dflt ((case y_kN => k_asm); (case y_ki => assumption); (case y_ko => assumption); (case y_kf => assumption); (case y_km => k_mem); (case y_kz => exact own_eq _)); intro z_t')
  have N : News h₀ L s.heap [] := News.nil
  have ret2 : ∀ z, signW x y = z → ∀ (h' : Heap) (tk' : Nat) tz, Fr h₀ L h' m → (∀ b o, s.heap.get? b = some o → h'.get? b = some o) → Q (.str z tz) { s with heap := h', toks := tk' } := fun z e => e ▸ ret
  clear ret
  revert X; k_fill; intro X
  refine wpAny_call ?_
  k_dflt (refine' code_defG ?k1 ?k2 ?k3 ?k4 ?k5 ?kA ?kF ?kK ?k6 ?k7 ?k8 ?k9 ?kB ?_ ?c2 ?c3 ?c4 ?c5; (case kA => exact rfl); (case kF => exact rfl); (case kK => assumption); (case k1 => k_asm); (case k2 => k_asm); (case k3 => k_asm); (case k4 => k_asm); (case k5 => k_asm); (case k6 => k_is); (case k7 => k_is); (case k8 => ktr_room); (case k9 => exact BindsTo.of_eq rfl); (case c5 => decide); (case kB => exact locs rfl); (case c2 => exact rfl); (case c3 => exact rfl); (case c4 => exact rfl))
  k_whole
  intro g' L' h₁ FG' F' N' B' X' T' kG'
  (try dsimp only)
  (try k_fold)
  k_steps
  all_goals (refine ret2 _ ?_ _ _ _ (by assumption) (fun b o e => Fr.keep (h₀ := g') (L := L') (by assumption) b o (kG' b o e (by simp))); first | (refine sign_a (has_no ?_); assumption) | (refine sign_b (has_no ?_); assumption) | (refine sign_c (has_yes ?_) (has_yes ?_) <;> assumption))
end Mine
end
section
open PySem PySem.W PyProof.Rows PySem.Calls PyProof.V PySem.Spec
namespace Mine

section
variable {prog : Program} {w : World} {A₀ A : Around} {s : Shared} {base h₀ : Heap} {outer : List Env} {L : Addr} {m : Str → Option Value} {env : Env} {news : List (Addr × Obj)}
theorem code_defCG {K : Frag} {p : Program} {loose : List Str} {mean : ExcName → Option Value} {mg mb : Str → Option Value} {R : Result → Shared → Prop} {name qual : Str} {params : Arguments} {body : List Stmt} {scope : Scope} {dV kV doc pm cdv ct oc : Value} {an od : Option Addr} {osl : Array (Option Value)} {f : Addr} {args : Args} {binds : List (Str × Value)}
    (B : Below A₀ base outer h₀) (F : Fr h₀ L s.heap m) (X₀ : K.In h₀) (N : News h₀ L s.heap news) (T : Top p loose mean mg mb h₀) (hA : A.frames = some (env :: outer)) (hf : env.frame = some L) (hke : env.scope.kind = .function)
    (ho : K.lookup f = some ⟨oc, od, .func (fnOf name qual params body scope dV kV doc pm an cdv ct), osl⟩) (hcd : codeIn K cdv qual = true) (hroom : A.depth < recursionLimit)
    (hbind : BindsTo s (fnOf name qual params body scope dV kV doc pm an cdv ct) args binds) (hkind : (binds.all fun y => scope.names.lookup y.1 == some .local || scope.names.lookup y.1 == some .cell) = true)
    (hnd : ((cellsFrom 0 scope.names []).map (·.1)).Nodup)
    (h : ∀ g L' h₁ tk cells, Fr h₀ L g m → Fr g L' h₁ (bindL (envOfC qual scope L' f cdv).kindOf binds fun _ => none) → News g L' h₁ (cells ++ news) →
      CellsAre (bindC (envOfC qual scope L' f cdv).kindOf binds fun _ => none) (cellsFrom (L' + 1) scope.names []) cells → Below A base (env :: outer) g → K.In g → Top p loose mean mg mb g → (∀ q ∈ news, q.1 < L') → GSub s.heap g (news.map (·.1)) →
      wpAny (model prog w) (A.deeper (envOfC qual scope L' f cdv)) (execs body (envOfC qual scope L' f cdv))
        (fun fl s' => LeaveK h₀ L m g R (match fl with | .ret v => v | _ => .none) s')
        (fun e s' => wpAny (model prog w) (A.deeper (envOfC qual scope L' f cdv)) (leaving (envOfC qual scope L' f cdv) e) (fun _ s'' => R (.error e) s'') (fun e' s'' => R (.error e') s'') s')
        { s with heap := h₁, toks := tk })
    (hco : scope.isCoroutine = false) (hgen : scope.isGenerator = false) (hk : scope.kind = .function) : codeAny (model prog w) A (.call (.ref f) args) R s := by
  obtain ⟨FG, BG, st, lv⟩ := groundX (R := R) B F N hA hf hke
  refine codeAny_call_function (fd := fnX name qual params body scope [] dV kV doc pm an cdv ct) hroom ((X₀.keeps F.keep) _ _ ho) rfl hco hgen rfl (codeRec_of (X₀.keeps F.keep) hcd) (hbind _ _ _ _ ?_)
  refine wpAny_newFunctionEnv_cells hk (kindsX hkind _) fun env' he s' x => ?_
  subst he
  refine ⟨(T.nolimit.keeps F.keep).keeps x.toInCall.keep, codeAny_func ?_⟩
  obtain ⟨h₁, tk, rfl, _⟩ := x.done
  have hk₁ := x.toInCall.keep
  obtain ⟨cells, NC, Y⟩ := Cl.news (h₀ := s.heap) (Nat.le_refl _) fun n c hm => ⟨x.cell n c (lookup_of_mem_nodup (cellsFrom_names scope.names 0 (s.heap.objs.size + 1) [] [] rfl ▸ hnd) hm), x.above n c hm⟩
  refine wpAny_mono (h _ s.heap.objs.size h₁ tk cells FG ⟨x.toInCall.ns, fun b o e => hk₁ b o (of_hideAll _ e), Nat.le_of_eq (hideAll_size _ _)⟩ (fun q hq => ?_) Y BG (X₀.keeps st) (T.keeps st) (fun q hq => Heap.lt_size (N q hq).1) (fun b o e n => hideAll_get _ e n)) (fun fl s' hl => lv _ _ hl) fun _ _ y => y
  rcases List.mem_append.mp hq with hq | hq
  · refine ⟨(NC q hq).1, (NC q hq).2.1, ?_⟩
    cases e : (hideAll s.heap (news.map (·.1))).get? q.1 with
    | none => rfl
    | some o => have := of_hideAll _ e; rw [(NC q hq).2.2] at this; cases this
  · exact ⟨hk₁ _ _ (N q hq).1, Nat.ne_of_lt (Heap.lt_size (N q hq).1), hideAll_none _ (List.mem_map_of_mem hq)⟩
end
end Mine
end
section
open PySem PySem.W PyProof.Rows PySem.Calls PyProof.V PySem.Spec
namespace Mine
theorem fresh_P12 : True := by
  w_top off
  k_with_none
  trivial

def openW (x : Str) : Str := if x = Str.ofString "Q" then Str.ofString "q" else if x = Str.ofString "ET" then Str.ofString "BT" else if x = Str.ofString "EMC" then Str.ofString "BMC" else if x = Str.ofString "EX" then Str.ofString "BX" else Str.ofString ""
theorem open_eq (x : Str) : (Spec.lookup (.str x) [(PyData.str (Str.ofString "Q"), PyData.str (Str.ofString "q")), (PyData.str (Str.ofString "ET"), PyData.str (Str.ofString "BT")), (PyData.str (Str.ofString "EMC"), PyData.str (Str.ofString "BMC")), (PyData.str (Str.ofString "EX"), PyData.str (Str.ofString "BX"))]).getD (.str (Str.ofString "")) = .str (openW x) := by
  unfold openW
  simp only [Spec.lookup, same_str, decide_eq_true_eq]
  have sw : ∀ (a : Str), (a = x) = (x = a) := fun a => propext ⟨Eq.symm, Eq.symm⟩
  simp only [sw]
  repeat' (split; rfl)
  rfl
local macro_rules | `(tactic| k_all) => `(tactic| assumption)
set_option maxRecDepth 100000 in
set_option maxHeartbeats 2000000 in
theorem opened_spec {w : World} {mean : ExcName → Option Value} {mg mb : Str → Option Value} {dp un : Nat} {gd : Option (List Code)} {cn : Str} {cs : Scope} {a : Addr} {ccd : Value} {cl : List (Str × Addr)} {outer : List Env} {A₀ : Around} {base h₀ : Heap} {L : Addr} {m : Str → Option Value} {s : Shared} {Q E : Value → Shared → Prop}
    (B : Below A₀ base outer h₀) (F : Fr h₀ L s.heap m) (X : (hd.heap_39 w.params).In h₀) (T : Top hd.view_39 (looseW hd.view_39 []) mean mg mb h₀) (hk : cs.kind = .function)
    {x : Str} {tx : Tok}
    (hd : dp < 890) (hu : un < 8900)
    (ret : ∀ (h' : Heap) (tk' : Nat) tz, Fr h₀ L h' m → (∀ b o, s.heap.get? b = some o → h'.get? b = some o) → Q (.str (openW x) tz) { s with heap := h', toks := tk' }) :
    wpAny (model Challenge.rw_og0162_01.row.prog w) (ktrTop dp un gd cn cs L a ccd cl outer) (call (.ref 82) [.str x tx]) Q E s := by
  k_with_none
  k_with "eval Constant str" => (refine const_str_gen ?_; intro z_t' z_tk'; (try dsimp only))
  k_with "call builtin:dict.get" => (k_here; (with_reducible refine' dget (openW _) ?y_kN ?y_km ?y_ko ?y_ki ?y_kf ?y_kz ?_); k_dflt ((case y_kN => k_asm); (case y_ki => assumption); (case y_ko => assumption); (case y_kf => assumption); (case y_km => k_mem); (case y_kz => exact open_eq _)); intro z_t')
  have N : News h₀ L s.heap [] := News.nil
  revert X; k_fill; intro X
  refine wpAny_call ?_
  k_dflt (refine' code_defG ?k1 ?k2 ?k3 ?k4 ?k5 ?kA ?kF ?kK ?k6 ?k7 ?k8 ?k9 ?kB ?_ ?c2 ?c3 ?c4 ?c5; (case kA => exact rfl); (case kF => exact rfl); (case kK => assumption); (case k1 => k_asm); (case k2 => k_asm); (case k3 => k_asm); (case k4 => k_asm); (case k5 => k_asm); (case k6 => k_is); (case k7 => k_is); (case k8 => ktr_room); (case k9 => exact BindsTo.of_eq rfl); (case c5 => decide); (case kB => exact locs rfl); (case c2 => exact rfl); (case c3 => exact rfl); (case c4 => exact rfl))
  k_whole
  intro g' L' h₁ FG' F' N' B' X' T' kG'
  (try dsimp only)
  (try k_fold)
  k_steps
  exact ret _ _ _ (by assumption) (fun b o e => Fr.keep (h₀ := g') (L := L') (by assumption) b o (kG' b o e (by simp)))
set_option maxRecDepth 100000 in
set_option maxHeartbeats 2000000 in
theorem news_keep {h₀ h h' : Heap} {L : Addr} {ns : List (Addr × Obj)} (N : News h₀ L h ns) (hk : ∀ b o, h.get? b = some o → h'.get? b = some o) : News h₀ L h' ns := fun p hp => ⟨hk _ _ (N p hp).1, (N p hp).2⟩
set_option maxRecDepth 100000 in
set_option maxHeartbeats 2000000 in
theorem opened_use {w : World} {mean : ExcName → Option Value} {mg mb : Str → Option Value} {dp un : Nat} {gd : Option (List Code)} {cn : Str} {cs : Scope} {a : Addr} {ccd : Value} {cl : List (Str × Addr)} {outer : List Env} {A₀ : Around} {base h₀ : Heap} {L : Addr} {m : Str → Option Value} {s : Shared} {Q E : Value → Shared → Prop}
    (B : Below A₀ base outer h₀) (F : Fr h₀ L s.heap m) (X : (hd.heap_39 w.params).In h₀) (T : Top hd.view_39 (looseW hd.view_39 []) mean mg mb h₀) (hk : cs.kind = .function)
    {x : Str} {tx : Tok} {ns : List (Addr × Obj)} (N : News h₀ L s.heap ns)
    (hd : dp < 890) (hu : un < 8900)
    (ret : ∀ (h' : Heap) (tk' : Nat) tz, Fr h₀ L h' m → News h₀ L h' ns → Q (.str (openW x) tz) { s with heap := h', toks := tk' }) :
    wpAny (model Challenge.rw_og0162_01.row.prog w) (ktrTop dp un gd cn cs L a ccd cl outer) (call (.ref 82) [.str x tx]) Q E s :=
  opened_spec B F X T hk hd hu fun h' tk' tz a b => ret h' tk' tz a (news_keep N b)
end Mine
end
section
open PySem PySem.W PyProof.Rows PySem.Calls PyProof.V PySem.Spec
namespace Mine
theorem fresh_P14 : True := by
  w_top off
  k_with_none
  trivial
local macro_rules | `(tactic| k_all) => `(tactic| assumption)
local macro_rules | `(tactic| k_room) => `(tactic| ktr_room)

abbrev nestD (w : World) (t1 t2 tp : Tok) (pl : Addr) (pv : Str) : Obj := dictOf [⟨PyData.keyHash w.params (Str.ofString "pile"), .str (Str.ofString "pile") t1, .ref pl⟩, ⟨PyData.keyHash w.params (Str.ofString "path"), .str (Str.ofString "path") t2, .str pv tp⟩] 2

def inL (ks : List Str) (x : Str) : Bool := ks.any fun y => y == x
def pathW (pv x : Str) : Option Str :=
  if ((pv == Str.ofString "none") && !(inL [Str.ofString "m", Str.ofString "re"] x)) = true then none
  else if ((pv == Str.ofString "clipped") && inL [Str.ofString "m", Str.ofString "re", Str.ofString "l", Str.ofString "c", Str.ofString "v", Str.ofString "y", Str.ofString "h", Str.ofString "W", Str.ofString "W*"] x) = true then none
  else some (if inL [Str.ofString "m", Str.ofString "re"] x = true then Str.ofString "begun" else if inL [Str.ofString "W", Str.ofString "W*"] x = true then Str.ofString "clipped" else if inL [Str.ofString "l", Str.ofString "c", Str.ofString "v", Str.ofString "y", Str.ofString "h"] x = true then pv else Str.ofString "none")
def TextOf (r : Option Str) (old z q : Str) : Prop := (r = none ∧ z.cps.size ≠ 0 ∧ z.cps.size ≤ 60 ∧ q = old) ∨ (r = some q ∧ z = Str.ofString "")
theorem text_fault {old x y : Str} (hx : x.cps.size ≤ 10) (hy : 0 < y.cps.size) (hy2 : y.cps.size ≤ 50) : TextOf none old (x ++ y) old := .inl ⟨rfl, by rw [Str.cps_append, Array.size_append]; omega, by rw [Str.cps_append, Array.size_append]; omega, rfl⟩
theorem text_ok {old q : Str} : TextOf (some q) old (Str.ofString "") q := .inr ⟨rfl, rfl⟩

theorem keep_snd {h g h' : Heap} {L' r d : Addr} {ro po : Obj} {m' : Str → Option Value} {ns : List (Addr × Obj)} (kG : GSub h g (List.map (fun x => x.1) [(r, ro), (d, po)])) (F : Fr g L' h' m') (hr : h.get? r = some ro) (N : News g L' h' ns) (hm : (r, ro) ∈ ns) :
    ∀ b o, h.get? b = some o → b ≠ d → h'.get? b = some o := keep_two kG F hr N hm
set_option maxRecDepth 100000 in
set_option maxHeartbeats 2000000 in
theorem pathf_spec {w : World} {mean : ExcName → Option Value} {mg mb : Str → Option Value} {dp un : Nat} {gd : Option (List Code)} {cn : Str} {cs : Scope} {a : Addr} {ccd : Value} {cl : List (Str × Addr)} {outer : List Env} {A₀ : Around} {base h₀ : Heap} {L : Addr} {m : Str → Option Value} {s : Shared} {Q E : Value → Shared → Prop}
    (B : Below A₀ base outer h₀) (F : Fr h₀ L s.heap m) (X : (hd.heap_39 w.params).In h₀) (T : Top hd.view_39 (looseW hd.view_39 []) mean mg mb h₀) (hk : cs.kind = .function)
    {x pv : Str} {tx t1 t2 tp : Tok} {nest dx pl : Addr}
    (N : News h₀ L s.heap [(nest, instObj 71 dx), (dx, nestD w t1 t2 tp pl pv)]) (hne : @Ne Nat nest dx)
    (hx : x.length ≤ 10) (hd : dp < 890) (hu : un < 8900)
    (ret : ∀ (z q : Str) (h' : Heap) (tk' : Nat) tz t1' t2' tp', TextOf (pathW pv x) pv z q → Fr h₀ L h' m → News h₀ L h' [(nest, instObj 71 dx), (dx, nestD w t1' t2' tp' pl q)] →
      (∀ b o, s.heap.get? b = some o → b ≠ dx → h'.get? b = some o) → Q (.str z tz) { s with heap := h', toks := tk' }) :
    wpAny (model Challenge.rw_og0162_01.row.prog w) (ktrTop dp un gd cn cs L a ccd cl outer) (call (.ref 96) [.ref nest, .str x tx]) Q E s := by
  k_with_none
  k_with "eval Constant str" => (refine const_str_gen ?_; intro z_t' z_tk'; (try dsimp only))
  k_with "call ref" => (k_here; (with_reducible show wpAny _ _ (call (Value.ref 82) _ _) _ _ _); k_dflt (refine' opened_use ?y_k1 ?y_k2 ?y_k3 ?y_k4 ?y_k5 ?y_kN ?y_d ?y_u ?_; (case y_k1 => k_asm); (case y_k2 => k_asm); (case y_k3 => k_asm); (case y_k4 => k_asm); (case y_k5 => first | rfl | assumption); (case y_kN => k_asm); (case y_d => (dsimp only [Around.deeper, Around.in1, ktrTop]; first | exact Mine.room (by assumption) (Nat.le_of_ble_eq_true rfl) | omega)); (case y_u => (dsimp only [Around.deeper, Around.in1, ktrTop]; first | exact Mine.room (by assumption) (Nat.le_of_ble_eq_true rfl) | omega))); k_whole; intro z_h' z_tk' z_tz' z_F' z_N'; (try dsimp only); (try k_fold); (try k_sweep))
  have hx' : x.cps.size ≤ 10 := hx
  revert X; k_fill; intro X
  refine wpAny_call ?_
  k_dflt (refine' code_defG ?k1 ?k2 ?k3 ?k4 ?k5 ?kA ?kF ?kK ?k6 ?k7 ?k8 ?k9 ?kB ?_ ?c2 ?c3 ?c4 ?c5; (case kA => exact rfl); (case kF => exact rfl); (case kK => assumption); (case k1 => k_asm); (case k2 => k_asm); (case k3 => k_asm); (case k4 => k_asm); (case k5 => k_asm); (case k6 => k_is); (case k7 => k_is); (case k8 => ktr_room); (case k9 => exact BindsTo.of_eq rfl); (case c5 => decide); (case kB => exact locs rfl); (case c2 => exact rfl); (case c3 => exact rfl); (case c4 => exact rfl))
  k_whole
  intro g' L' h₁ FG' F' N' B' X' T' kG'
  (try dsimp only)
  (try k_fold)
  k_steps
  all_goals (refine ret _ _ _ _ _ _ _ _ ?_ (by assumption) (news_two (by assumption) (by k_mem) (by k_mem)) (keep_snd kG' (by assumption) (N.get (.head _)) (by assumption) (by k_mem)))
  all_goals (unfold pathW inL)
  all_goals (try (with_reducible rename ((_ == Str.ofString "none") = _) => e1; rw [e1]; clear e1))
  all_goals (try (with_reducible rename ((_ == Str.ofString "clipped") = _) => e1; rw [e1]; clear e1))
  all_goals (try (with_reducible rename (List.any [Str.ofString "m", Str.ofString "re"] _ = _) => e1; rw [e1]; clear e1))
  all_goals (try (with_reducible rename (List.any [Str.ofString "W", Str.ofString "W*"] _ = _) => e1; rw [e1]; clear e1))
  all_goals (try (with_reducible rename (List.any [Str.ofString "l", Str.ofString "c", Str.ofString "v", Str.ofString "y", Str.ofString "h"] _ = _) => e1; rw [e1]; clear e1))
  all_goals (try (with_reducible rename (List.any [Str.ofString "m", Str.ofString "re", Str.ofString "l", Str.ofString "c", Str.ofString "v", Str.ofString "y", Str.ofString "h", Str.ofString "W", Str.ofString "W*"] _ = _) => e1; rw [e1]; clear e1))
  all_goals (simp only [Bool.not_true, Bool.not_false, Bool.and_true, Bool.and_false, Bool.true_and, Bool.false_and, Bool.false_eq_true, if_true, if_false])
  all_goals first | exact text_ok | exact text_fault hx' (by decide) (by decide)
end Mine
end
section
open PySem PySem.W PyProof.Rows PySem.Calls PyProof.V PySem.Spec
namespace Mine

theorem StrsL.carried {vs : List Value} {ks : List Str} (h : StrsL vs ks) : CarriedAll vs (ks.map PyData.str) := by
  induction h with
  | nil => exact .nil
  | cons _ ih => exact .cons (.str _ _) ih
theorem hits_map (x : Str) (ks : List Str) : (ks.map PyData.str).any (datHitsStr x) = inL ks x := by
  induction ks with
  | nil => rfl
  | cons y r ih =>
    rw [List.map_cons, List.any_cons, ih]; rfl
theorem StrsL.snoc {vs : List Value} {ks : List Str} {x : Str} {t : Tok} (h : StrsL vs ks) : StrsL (vs ++ [.str x t]) (ks ++ [x]) := by
  induction h with
  | nil => exact .cons .nil
  | cons _ ih => exact .cons ih
theorem StrsL.last {vs : List Value} {ks : List Str} (h : StrsL vs ks) (hn : ks.isEmpty = false) : ∃ y t, ks.getLast? = some y ∧ vs = vs.dropLast ++ [.str y t] ∧ StrsL vs.dropLast ks.dropLast := by
  induction h with
  | nil => cases hn
  | @cons x t vs ks h ih =>
    cases h with
    | nil => exact ⟨x, t, rfl, rfl, .nil⟩
    | cons h' =>
      obtain ⟨y, u, a, b, c⟩ := ih rfl
      exact ⟨y, u, by rw [List.getLast?_cons_cons]; exact a, by rw [List.dropLast_cons_cons, List.cons_append, ← b], .cons c⟩
section
variable {prog : Program} {w : World} {A : Around} {E : Value → Shared → Prop} {s : Shared}
theorem in_L {l : Addr} {vs : List Value} {ks : List Str} {x : Str} {u : Tok} {Q : Value → Shared → Prop} (hl : s.heap.IsList l vs.toArray) (hk : StrsL vs ks)
    (h : Q (.bool (inL ks x)) s) : wpAny (model prog w) A (compareOp .In (.str x u) (.ref l)) Q E s :=
  in_made_str hl hk.carried (by rw [hits_map]; exact h)
theorem eqnil_L {l b : Addr} {vs : List Value} {ks : List Str} {Q : Value → Shared → Prop} (hl : s.heap.IsList l vs.toArray) (hb : s.heap.IsList b ([] : List Value).toArray) (hk : StrsL vs ks) (hu : A.units < cLine)
    (h : Q (.bool ks.isEmpty) s) : wpAny (model prog w) A (compareOp .Eq (.ref l) (.ref b)) Q E s := by
  cases hk with
  | nil => exact PySem.SeqAt.eq_listAt (e := fun _ => true) hl hb rfl hu (fun j h1 _ => absurd h1 (Nat.not_lt_zero _)) h
  | cons _ => exact PySem.SeqAt.eq_list_lengthsAt hl hb (by simp) hu h
theorem neg_L {value slice : PySem.Expr} {l : Addr} {vs : List Value} {ks : List Str} {u : Tok} {Q : Value → Shared → Prop} (hl : s.heap.IsList l vs.toArray) (hk : StrsL vs ks) (hn : ks.isEmpty = false)
    (h : ∀ y t, ks.getLast? = some y → Q (.str y t) s) (hs : subscripted slice false (.ref l) (.int (-1) u) = operate [.ref l, .int (-1) u] (getItem (.ref l) (.int (-1) u)) := by with_unfolding_all rfl) :
    wpAny (model prog w) A (subscriptTail value slice (.ref l) (.int (-1) u)) Q E s := by
  obtain ⟨y, t, a, b, c⟩ := hk.last hn
  have hp : vs.length = vs.dropLast.length + 1 := by have := congrArg List.length b; simpa using this
  refine tail_any hl.typeIs slot_list_getitem.lookup (wpAny_getItem_list_neg hl (by decide) (by rw [List.size_toArray]; omega) (by decide) ?_ (h y t a)) hs
  rw [List.size_toArray, hp]
  have : ((-1 : Int) + ((vs.dropLast.length + 1 : Nat) : Int)).toNat = vs.dropLast.length := by omega
  rw [this, b]
  simp
theorem pop_L {h₀ : Heap} {L D : Addr} {m : Str → Option Value} {news news' : List (Addr × Obj)} {n : Nat} {vs : List Value} {ks : List Str} {Q : Value → Shared → Prop} (F : Fr h₀ L s.heap m) (N : News h₀ L s.heap news) (U : Upd D (listOf vs.toArray n) (listOf vs.dropLast.toArray (n + 1)) news news') (hk : StrsL vs ks) (hn : ks.isEmpty = false)
    (hz : vs.length < 3000) (h : ∀ h' v, Fr h₀ L h' m → News h₀ L h' news' → StrsL vs.dropLast ks.dropLast → Q v { s with heap := h' }) : wpAny (model prog w) A (call (.builtin "list.pop") [.ref D]) Q E s := by
  obtain ⟨y, t, a, b, c⟩ := hk.last hn
  refine kl_pop F N (p := vs.dropLast) (y := .str y t) ?_ U (by rw [List.toList_toArray, sizeLine_eq]; omega) fun h' F' N' => h h' _ F' N' c
  have e := kpa_last (.str y t) vs.dropLast
  rw [← b] at e
  simpa using e
end
theorem news_three {h₀ h : Heap} {L l d e : Addr} {o po eo : Obj} {ns : List (Addr × Obj)} (N : News h₀ L h ns) (h1 : (l, o) ∈ ns) (h2 : (d, po) ∈ ns) (h3 : (e, eo) ∈ ns) : News h₀ L h [(l, o), (d, po), (e, eo)] := by
  intro p hp
  rcases List.mem_cons.mp hp with rfl | hp
  · exact N _ h1
  · exact news_two N h2 h3 p hp
theorem keep_third {h g h' : Heap} {L' r d q : Addr} {ro dO qo : Obj} {m' : Str → Option Value} {ns : List (Addr × Obj)} (kG : GSub h g (List.map (fun x => x.1) [(r, ro), (d, dO), (q, qo)])) (F : Fr g L' h' m') (hr : h.get? r = some ro) (hd : h.get? d = some dO) (N : News g L' h' ns) (hm : (r, ro) ∈ ns) (hm2 : (d, dO) ∈ ns) :
    ∀ b o, h.get? b = some o → b ≠ q → h'.get? b = some o := by
  intro b o e hb
  by_cases hbr : b = r
  · subst hbr
    rw [hr] at e; cases e
    exact N.get hm
  · by_cases hbd : b = d
    · subst hbd
      rw [hd] at e; cases e
      exact N.get hm2
    · exact F.keep b o (kG b o e (by simpa using ⟨hbr, hbd, hb⟩))
def nameW (x : Str) : Str := if (x == Str.ofString "BDC") = true then Str.ofString "BMC" else x
def pileW (ks : List Str) (x : Str) : Option (List Str) :=
  if inL [Str.ofString "q", Str.ofString "BT", Str.ofString "BMC", Str.ofString "BX"] (nameW x) = true then
    (if (inL [Str.ofString "q", Str.ofString "BT"] (nameW x) && inL ks (Str.ofString "BT")) = true then none else some (ks ++ [nameW x]))
  else if ks.isEmpty = true then none
  else if (ks.getLast? == some (openW x)) = true then some ks.dropLast else none
def TextL (r : Option (List Str)) (old : List Str) (z : Str) (q : List Str) : Prop := (r = none ∧ z.cps.size ≠ 0 ∧ z.cps.size ≤ 60 ∧ q = old) ∨ (r = some q ∧ z = Str.ofString "")

section
variable {ks : List Str} {x : Str}
abbrev s4 : List Str := [Str.ofString "q", Str.ofString "BT", Str.ofString "BMC", Str.ofString "BX"]
abbrev s2 : List Str := [Str.ofString "q", Str.ofString "BT"]
theorem pileA (e1 : (x == Str.ofString "BDC") = true) : pileW ks x = some (ks ++ [Str.ofString "BMC"]) := by
  have n : nameW x = Str.ofString "BMC" := by unfold nameW; rw [if_pos e1]
  unfold pileW; rw [n, if_pos (by decide), if_neg (by rw [show inL [Str.ofString "q", Str.ofString "BT"] (Str.ofString "BMC") = false by decide]; simp)]
theorem nameF (e1 : (x == Str.ofString "BDC") = false) : nameW x = x := by unfold nameW; rw [e1]; rfl
theorem pileB (e1 : (x == Str.ofString "BDC") = false) (e2 : inL s4 x = true) (e3 : inL s2 x = true) (e4 : inL ks (Str.ofString "BT") = true) : pileW ks x = none := by
  unfold pileW; rw [nameF e1, if_pos e2, e3, e4]; rfl
theorem pileC (e1 : (x == Str.ofString "BDC") = false) (e2 : inL s4 x = true) (e3 : inL s2 x = true) (e4 : inL ks (Str.ofString "BT") = false) : pileW ks x = some (ks ++ [x]) := by
  unfold pileW; rw [nameF e1, if_pos e2, e3, e4]; rfl
theorem pileD (e1 : (x == Str.ofString "BDC") = false) (e2 : inL s4 x = true) (e3 : inL s2 x = false) : pileW ks x = some (ks ++ [x]) := by
  unfold pileW; rw [nameF e1, if_pos e2, e3]; rfl
theorem pileE (e1 : (x == Str.ofString "BDC") = false) (e2 : inL s4 x = false) (e3 : ks.isEmpty = true) : pileW ks x = none := by
  unfold pileW; rw [nameF e1, e2, e3]; rfl
theorem pileF {y : Str} (e1 : (x == Str.ofString "BDC") = false) (e2 : inL s4 x = false) (e3 : ks.isEmpty = false) (hy : ks.getLast? = some y) (hn : (y != openW x) = true) : pileW ks x = none := by
  have hb : (some y == some (openW x)) = false := by
    have : (y == openW x) = false := by simpa [bne] using hn
    exact this
  unfold pileW; rw [nameF e1, e2, e3, hy, hb]; rfl
theorem pileG {y : Str} (e1 : (x == Str.ofString "BDC") = false) (e2 : inL s4 x = false) (e3 : ks.isEmpty = false) (hy : ks.getLast? = some y) (hn : (y != openW x) = false) : pileW ks x = some ks.dropLast := by
  have hb : (some y == some (openW x)) = true := by
    have : (y == openW x) = true := by simpa [bne] using hn
    exact this
  unfold pileW; rw [nameF e1, e2, e3, hy, hb]; rfl
end
theorem textL_fault {r : Option (List Str)} {old : List Str} {x y : Str} (hr : r = none) (hx : x.cps.size ≤ 10) (hy : 0 < y.cps.size) (hy2 : y.cps.size ≤ 50) : TextL r old (x ++ y) old := .inl ⟨hr, by rw [Str.cps_append, Array.size_append]; omega, by rw [Str.cps_append, Array.size_append]; omega, rfl⟩
theorem textL_ok {r : Option (List Str)} {old q : List Str} (hr : r = some q) : TextL r old (Str.ofString "") q := .inr ⟨hr, rfl⟩
end Mine
end
section
open PySem PySem.W PyProof.Rows PySem.Calls PyProof.V PySem.Spec
namespace Mine
theorem fresh_P16 : True := by
  w_top off
  k_with_none
  trivial
local macro_rules | `(tactic| k_all) => `(tactic| assumption)
local macro_rules | `(tactic| k_room) => `(tactic| ktr_room)
set_option maxRecDepth 100000 in
set_option maxHeartbeats 2000000 in
theorem pilef_spec {w : World} {mean : ExcName → Option Value} {mg mb : Str → Option Value} {dp un : Nat} {gd : Option (List Code)} {cn : Str} {cs : Scope} {a : Addr} {ccd : Value} {cl : List (Str × Addr)} {outer : List Env} {A₀ : Around} {base h₀ : Heap} {L : Addr} {m : Str → Option Value} {s : Shared} {Q E : Value → Shared → Prop}
    (B : Below A₀ base outer h₀) (F : Fr h₀ L s.heap m) (X : (hd.heap_39 w.params).In h₀) (T : Top hd.view_39 (looseW hd.view_39 []) mean mg mb h₀) (hk : cs.kind = .function)
    {x pv : Str} {tx t1 t2 tp : Tok} {nest dx pl : Addr} {vs : List Value} {ks : List Str} {n : Nat}
    (N : News h₀ L s.heap [(nest, instObj 71 dx), (dx, nestD w t1 t2 tp pl pv), (pl, listOf vs.toArray n)]) (hne : @Ne Nat nest dx) (hne2 : @Ne Nat nest pl) (hne3 : @Ne Nat dx pl)
    (hS : StrsL vs ks) (hv : vs.length < 1000) (hx : x.length ≤ 10) (hd : dp < 880) (hu : un < 8800)
    (ret : ∀ (z : Str) (ks' : List Str) (vs' : List Value) (n' : Nat) (h' : Heap) (tk' : Nat) tz, TextL (pileW ks x) ks z ks' → StrsL vs' ks' → Fr h₀ L h' m → News h₀ L h' [(nest, instObj 71 dx), (dx, nestD w t1 t2 tp pl pv), (pl, listOf vs'.toArray n')] →
      (∀ b o, s.heap.get? b = some o → b ≠ pl → h'.get? b = some o) → Q (.str z tz) { s with heap := h', toks := tk' }) :
    wpAny (model Challenge.rw_og0162_01.row.prog w) (ktrTop dp un gd cn cs L a ccd cl outer) (call (.ref 89) [.ref nest, .str x tx]) Q E s := by
  k_with_none
  k_with "eval Constant str" => (refine const_str_gen ?_; intro z_t' z_tk'; (try dsimp only))
  k_with "call ref" => (k_here; (with_reducible show wpAny _ _ (call (Value.ref 82) _ _) _ _ _); k_dflt (refine' opened_use ?y_k1 ?y_k2 ?y_k3 ?y_k4 ?y_k5 ?y_kN ?y_d ?y_u ?_; (case y_k1 => k_asm); (case y_k2 => k_asm); (case y_k3 => k_asm); (case y_k4 => k_asm); (case y_k5 => first | rfl | assumption); (case y_kN => k_asm); (case y_d => (dsimp only [Around.deeper, Around.in1, ktrTop]; first | exact Mine.room (by assumption) (Nat.le_of_ble_eq_true rfl) | omega)); (case y_u => (dsimp only [Around.deeper, Around.in1, ktrTop]; first | exact Mine.room (by assumption) (Nat.le_of_ble_eq_true rfl) | omega))); k_whole; intro z_h' z_tk' z_tz' z_F' z_N'; (try dsimp only); (try k_fold); (try k_sweep))
  k_with "call builtin:list.append" => (k_here; (with_reducible show wpAny _ _ (call (Value.builtin _) [Value.ref _, _]) _ _ _); k_dflt (refine' append_L ?y_k1 ?y_k2 ?y_k3 ?y_z ?_; (case y_k1 => k_asm); (case y_k2 => k_asm); (case y_k3 => k_upd); (case y_z => (simp only [List.length_append, List.length_cons, List.length_nil]; omega)); k_whole); intro z_h' z_F' z_N'; (try k_sweep))
  k_with "call builtin:list.append" => (k_here; (with_reducible show wpAny _ _ (call (Value.builtin _) [Value.ref _, _]) _ _ _); k_dflt (refine' append_L ?y_k1 ?y_k2 ?y_k3 ?y_z ?_; (case y_k1 => k_asm); (case y_k2 => k_asm); (case y_k3 => k_upd); (case y_z => omega); k_whole); intro z_h' z_F' z_N'; (try k_sweep))
  k_with "binaryOp Add ref ref" => (k_here; k_dflt (refine' add_L ?y_F ?y_N ?y_a ?y_b ?y_z ?_; (case y_F => k_asm); (case y_N => k_asm); (case y_a => is_list); (case y_b => is_list); (case y_z => first | omega | (simp only [List.length_append, List.length_cons, List.length_nil]; omega)); k_whole); intro z_D' z_h' z_F' z_N' z_l1; (have z_l9 := z_l1); (try k_lt z_l1); (try k_sweep))
  k_with "compareOp In str ref" => (k_here; (with_reducible show wpAny _ _ (compareOp CmpOp.In (Value.str _ _) (Value.ref _)) _ _ _); k_dflt (refine' in_L ?y_l ?y_k ?_; (case y_k => assumption); (case y_l => is_list); k_whole))
  k_with "compareOp Eq ref ref" => (k_here; (with_reducible show wpAny _ _ (compareOp CmpOp.Eq (Value.ref _) (Value.ref _)) _ _ _); k_dflt (refine' eqnil_L ?y_l ?y_b ?y_k ?y_u ?_; (case y_k => assumption); (case y_l => is_list); (case y_b => is_list); (case y_u => ke_room); k_whole))
  k_with "subscriptTail" => (k_here; (with_reducible show wpAny _ _ (subscriptTail _ _ (Value.ref _) (Value.int _ _)) _ _ _); k_dflt (refine' neg_L ?y_l ?y_k ?y_n ?_ ?y_e; (case y_k => assumption); (case y_n => assumption); (case y_l => is_list); (case y_e => with_unfolding_all rfl); k_whole); intro z_y' z_t' z_hy')
  k_with "call builtin:list.pop" => (k_here; (with_reducible show wpAny _ _ (call (Value.builtin _) [Value.ref _]) _ _ _); k_dflt (refine' pop_L ?y_F ?y_N ?y_U ?y_k ?y_n ?y_z ?_; (case y_k => assumption); (case y_n => assumption); (case y_F => k_asm); (case y_N => k_asm); (case y_U => k_upd); (case y_z => omega); k_whole); intro z_h' z_v' z_F' z_N' z_hS'; (try k_sweep))
  have hx' : x.cps.size ≤ 10 := hx
  revert X; k_fill; intro X
  refine wpAny_call ?_
  k_dflt (refine' code_defG ?k1 ?k2 ?k3 ?k4 ?k5 ?kA ?kF ?kK ?k6 ?k7 ?k8 ?k9 ?kB ?_ ?c2 ?c3 ?c4 ?c5; (case kA => exact rfl); (case kF => exact rfl); (case kK => assumption); (case k1 => k_asm); (case k2 => k_asm); (case k3 => k_asm); (case k4 => k_asm); (case k5 => k_asm); (case k6 => k_is); (case k7 => k_is); (case k8 => ktr_room); (case k9 => exact BindsTo.of_eq rfl); (case c5 => decide); (case kB => exact locs rfl); (case c2 => exact rfl); (case c3 => exact rfl); (case c4 => exact rfl))
  k_whole
  intro g' L' h₁ FG' F' N' B' X' T' kG'
  (try dsimp only)
  (try k_fold)
  k_steps
  · exact ret _ _ _ _ _ _ _ (textL_ok (pileA (by assumption))) hS.snoc (by assumption) (news_three (by assumption) (by k_mem) (by k_mem) (by k_mem)) (keep_third kG' (by assumption) (N.get (.head _)) (N.get (.tail _ (.head _))) (by assumption) (by k_mem) (by k_mem))
  · exact ret _ _ _ _ _ _ _ (textL_fault (pileB (by assumption) (by assumption) (by assumption) (by assumption)) hx' (by decide) (by decide)) hS (by assumption) (news_three (by assumption) (by k_mem) (by k_mem) (by k_mem)) (keep_third kG' (by assumption) (N.get (.head _)) (N.get (.tail _ (.head _))) (by assumption) (by k_mem) (by k_mem))
  · exact ret _ _ _ _ _ _ _ (textL_ok (pileC (by assumption) (by assumption) (by assumption) (by assumption))) hS.snoc (by assumption) (news_three (by assumption) (by k_mem) (by k_mem) (by k_mem)) (keep_third kG' (by assumption) (N.get (.head _)) (N.get (.tail _ (.head _))) (by assumption) (by k_mem) (by k_mem))
  · exact ret _ _ _ _ _ _ _ (textL_ok (pileD (by assumption) (by assumption) (by assumption))) hS.snoc (by assumption) (news_three (by assumption) (by k_mem) (by k_mem) (by k_mem)) (keep_third kG' (by assumption) (N.get (.head _)) (N.get (.tail _ (.head _))) (by assumption) (by k_mem) (by k_mem))
  · exact ret _ _ _ _ _ _ _ (textL_fault (pileE (by assumption) (by assumption) (by assumption)) hx' (by decide) (by decide)) hS (by assumption) (news_three (by assumption) (by k_mem) (by k_mem) (by k_mem)) (keep_third kG' (by assumption) (N.get (.head _)) (N.get (.tail _ (.head _))) (by assumption) (by k_mem) (by k_mem))
  · exact ret _ _ _ _ _ _ _ (textL_fault (pileF (by assumption) (by assumption) (by assumption) (by assumption) (by assumption)) hx' (by decide) (by decide)) hS (by assumption) (news_three (by assumption) (by k_mem) (by k_mem) (by k_mem)) (keep_third kG' (by assumption) (N.get (.head _)) (N.get (.tail _ (.head _))) (by assumption) (by k_mem) (by k_mem))
  · exact ret _ _ _ _ _ _ _ (textL_ok (pileG (by assumption) (by assumption) (by assumption) (by assumption) (by assumption))) (by assumption) (by assumption) (news_three (by assumption) (by k_mem) (by k_mem) (by k_mem)) (keep_third kG' (by assumption) (N.get (.head _)) (N.get (.tail _ (.head _))) (by assumption) (by k_mem) (by k_mem))
end Mine
end
section
open PySem PySem.W PyProof.Rows PySem.Calls PyProof.V PySem.Spec
namespace Mine
def putE (sg : PyData) (D : List (PyData × PyData)) (k : Str) : List (PyData × PyData) := putD (.str k) sg D
theorem putE_len (sg : PyData) (ks : List Str) (D : List (PyData × PyData)) : (ks.foldl (putE sg) D).length ≤ D.length + ks.length := by
  induction ks generalizing D with
  | nil => simp
  | cons k r ih =>
    have h1 := ih (putE sg D k)
    have h2 := putD_length_le (.str k) sg D
    simp only [List.foldl_cons, List.length_cons]
    unfold putE at h1 ⊢
    omega
theorem loop_putc {prog : Program} {w : World} {A : Around} {E : Value → Shared → Prop} {s : Shared} {env : Env} {h₀ : Heap} {x : Str} {body : List Stmt} {Q : Flow → Shared → Prop}
    {t d : Addr} {vs : List Value} {n : Nat} {m₀ : Str → Option Value} {ns : List (Addr × Obj)} {o : Obj} {kvs : List (Str × Value)} {D : List (PyData × PyData)} {g : Obj → List (Addr × Obj)} (sg : PyData) {ks : List Str} {c : Addr} {co : Obj} (hcm : (c, co) ∈ ns) (hcd : @Ne Nat c d)
    (hh : A.handled = none) (F : Fr h₀ env.locals s.heap m₀) (N : News h₀ env.locals s.heap ns) (ht : (t, tupO vs.toArray n) ∈ ns) (U : UpdF d o ns g) (hne : @Ne Nat t d) (hks : StrsL vs ks)
    (ho : o.IsDictOf (strKind prog w) kvs) (hf : FlatPairs PyData.str kvs D) (hD : D.length + ks.length ≤ 200)
    (turn : ∀ k u o kvs D h tk rest, o.IsDictOf (strKind prog w) kvs → FlatPairs PyData.str kvs D → D.length ≤ 200 → (∀ q ∈ rest, q.1 ≠ d) → Fr h₀ env.locals h (fun y => if y = x then some (.str k u) else m₀ y) → News h₀ env.locals h ((d, o) :: (c, co) :: rest) →
      ∀ (R : Flow → Shared → Prop), (∀ h' tk' o' kvs', o'.IsDictOf (strKind prog w) kvs' → FlatPairs PyData.str kvs' (putE sg D k) → Fr h₀ env.locals h' (fun y => if y = x then some (.str k u) else m₀ y) → News h₀ env.locals h' ((d, o') :: (c, co) :: rest) → R .next { s with heap := h', toks := tk' }) →
        wpAny (model prog w) A (execs body env) R E { s with heap := h, toks := tk })
    (done : ∀ (u : Str → Option Value) o' kvs' h tk, o'.IsDictOf (strKind prog w) kvs' → FlatPairs PyData.str kvs' (ks.foldl (putE sg) D) → Fr h₀ env.locals h (fun y => if y = x then u y else m₀ y) → News h₀ env.locals h (g o') → Q .next { s with heap := h, toks := tk }) :
    wpAny (model prog w) A (pyIter (.ref t)) (fun it s₂ => LoopAtV prog w A h₀ env x body Q E it s₂) E s := by
  have hgo : ns = g o := by obtain ⟨pre, post, e, hg, _⟩ := U.split; rw [hg]; exact e
  have hT : s.heap.IsTuple t vs.toArray := ⟨_, N.get ht, rfl, n, rfl⟩
  have htlt : t < s.heap.objs.size := Heap.lt_size (N.get ht)
  refine wpAny_pyIter_tuple hT ?_
  have W := Walks.tuple (prog := prog) (w := w) hh s.heap.objs.size t (Nat.ne_of_lt htlt) vs.toArray
  have up : ∀ b o', s.heap.get? b = some o' → (s.heap.push { cls := .type "tuple_iterator", data := .fields #[.ref t, .int 0 0] }).get? b = some o' := fun b o' e => Heap.get?_push_of_some _ e
  refine loop_mvw (news := ns) (m₀ := m₀) (fun i m nx => ∃ o kvs, nx = g o ∧ o.IsDictOf (strKind prog w) kvs ∧ FlatPairs PyData.str kvs ((ks.take i).foldl (putE sg) D) ∧ ∀ z, z ≠ x → m z = m₀ z) W ?_ ?_ ?_ ⟨⟨_, Heap.get?_push_size _ rfl, rfl, rfl⟩, hT.at fun o' e => up _ _ e⟩ (F.push _) (fun p hp => ⟨up _ _ (N p hp).1, (N p hp).2⟩)
    ⟨o, kvs, hgo, ho, by simpa using hf, fun _ _ => rfl⟩ ?_ ?_
  · intro hm
    rcases List.mem_cons.mp hm with e | hm
    · exact absurd F.ns.lt (e ▸ Nat.lt_irrefl _)
    · have := (N _ ht).2.1
      exact this (List.mem_singleton.mp hm).symm
  · intro b hb
    rw [List.mem_singleton.mp hb]
    exact next_is_new F
  · intro p hp hI
    exact absurd (Heap.lt_size (N p hp).1) ((List.mem_singleton.mp hI) ▸ Nat.lt_irrefl _)
  · rintro i v m₁ nx h tk own hi hP ⟨o, kvs, rfl, ho, hf, hm⟩ hoff hown F₁ N₁
    have hP' : vs[i]? = some v := by simpa using hP
    obtain ⟨k, u, hk, rfl⟩ := hks.get i v hP'
    obtain ⟨pre, post, hns, hg, hpre, hpost⟩ := U.split
    have em : (fun y => if y = x then some (Value.str k u) else m₁ y) = fun y => if y = x then some (Value.str k u) else m₀ y := by
      funext z
      by_cases h1 : z = x
      · simp [h1]
      · simp only [if_neg h1]; exact hm z h1
    rw [em] at F₁
    have hs : (ks.take (i + 1)).foldl (putE sg) D = putE sg ((ks.take i).foldl (putE sg) D) k := by
      rw [List.take_add_one, hk]; simp
    have hid : i < ks.length := by
      have := (List.getElem?_eq_some_iff.mp hk).1; exact this
    have hlen : ((ks.take i).foldl (putE sg) D).length ≤ 200 := by
      have h1 := putE_len sg (ks.take i) D
      rw [List.length_take] at h1
      omega
    have hdI : d ≠ s.heap.objs.size := by
      have := hoff (d, o) (updF_mem U o)
      simpa using this
    have hrest : ∀ q ∈ pre ++ post ++ own, q.1 ≠ d := by
      intro q hq
      rcases List.mem_append.mp hq with hq | hq
      · rcases List.mem_append.mp hq with hq | hq
        · exact hpre q hq
        · exact hpost q hq
      · have := hown q hq
        rcases List.mem_cons.mp this with e | this
        · rw [e]; exact Ne.symm hdI
        · rw [List.mem_singleton.mp this]; exact hne
    have N₂ : News h₀ env.locals h ((d, o) :: (pre ++ post ++ own)) := by
      intro p hp
      refine N₁ p ?_
      rw [hg]
      rcases List.mem_cons.mp hp with rfl | hp
      · exact List.mem_append.mpr (.inl (List.mem_append.mpr (.inr (.head _))))
      · rcases List.mem_append.mp hp with hp | hp
        · rcases List.mem_append.mp hp with hp | hp
          · exact List.mem_append.mpr (.inl (List.mem_append.mpr (.inl hp)))
          · exact List.mem_append.mpr (.inl (List.mem_append.mpr (.inr (.tail _ hp))))
        · exact List.mem_append.mpr (.inr hp)
    have hcr : (c, co) ∈ pre ++ post ++ own := by
      rw [hns] at hcm
      rcases List.mem_append.mp hcm with hq | hq
      · exact List.mem_append.mpr (.inl (List.mem_append.mpr (.inl hq)))
      · rcases List.mem_cons.mp hq with e | hq
        · exact absurd (congrArg Prod.fst e) hcd
        · exact List.mem_append.mpr (.inl (List.mem_append.mpr (.inr hq)))
    refine turn k u o kvs _ h tk _ ho hf hlen hrest F₁ (fun p hp => by rcases List.mem_cons.mp hp with rfl | hp; exact N₂ _ (.head _); rcases List.mem_cons.mp hp with rfl | hp; exact N₂ _ (.tail _ hcr); exact N₂ _ (.tail _ hp)) _ (fun h' tk' o' kvs' ho' hf' F' N'' => ?_)
    have N' : News h₀ env.locals h' ((d, o') :: (pre ++ post ++ own)) := fun p hp => by rcases List.mem_cons.mp hp with rfl | hp; exact N'' _ (.head _); exact N'' _ (.tail _ (.tail _ hp))
    refine ⟨h', tk', _, _, g o', rfl, F', N', ?_, ?_, ?_, o', kvs', rfl, ho', by rw [hs]; exact hf', fun z hz => if_neg hz⟩
    · intro p hp
      rw [hg] at hp
      rcases List.mem_append.mp hp with hp | hp
      · exact .tail _ (List.mem_append.mpr (.inl (List.mem_append.mpr (.inl hp))))
      · rcases List.mem_cons.mp hp with rfl | hp
        · exact .head _
        · exact .tail _ (List.mem_append.mpr (.inl (List.mem_append.mpr (.inr hp))))
    · intro p hp
      exact .tail _ (List.mem_append.mpr (.inr hp))
    · intro p hp
      rw [hg] at hp
      have hpo : ∃ q ∈ g o, q.1 = p.1 := by
        rw [hg]
        rcases List.mem_append.mp hp with hp | hp
        · exact ⟨p, List.mem_append.mpr (.inl hp), rfl⟩
        · rcases List.mem_cons.mp hp with rfl | hp
          · exact ⟨(d, o), List.mem_append.mpr (.inr (.head _)), rfl⟩
          · exact ⟨p, List.mem_append.mpr (.inr (.tail _ hp)), rfl⟩
      obtain ⟨q, hq, e⟩ := hpo
      rw [← e]; exact hoff q hq
  · rintro m₁ nx h tk ⟨o, kvs, rfl, ho, hf, hm⟩ F₁ N₁
    have hl : vs.toArray.size = ks.length := by simp [hks.len]
    rw [hl, List.take_length] at hf
    refine done m₁ o kvs h tk ho hf ?_ N₁
    have em : (fun y => if y = x then m₁ y else m₀ y) = m₁ := by
      funext z
      by_cases h1 : z = x
      · simp [h1]
      · simp only [if_neg h1]; exact (hm z h1).symm
    rw [em]; exact F₁
end Mine
end
section
open PySem PySem.W PyProof.Rows PySem.Calls PyProof.V PySem.Spec
namespace Mine
open Sem (wp)
open Builtin in
set_option maxRecDepth 100000 in
theorem tm_mul (l : Addr) (v : Value) (n : Nat) (x : Int) (u : Tok) (h0 : 0 ≤ x) (h1 : x ≤ 6) (h2 : x ≠ 1) :
    Meets (Builtin.«tuple.__mul__» ⟨[.ref l, .int x u], []⟩) (fun _ R s => s.heap.get? l = some { cls := .type "tuple", dict := none, data := .seq #[v] n, slots := #[] } ∧ ∀ ys, R (.ok (.ret (Value.ref s.heap.objs.size))) { s with heap := s.heap.push { cls := Value.type "tuple", data := Data.seq ys } }) :=
  .of_wp fun prog w A R s h => by
    obtain ⟨hp, g, d, tk, os⟩ := s; obtain ⟨hl, h⟩ := h
    wp_walk
    refine wpAny_ite_false (by simp; omega) ?_
    wp_walk
    by_cases hx : x ≤ 0
    · refine wpAny_ite_true (by simpa using hx) ?_
      wp_walk
      exact ⟨_, rfl, h _⟩
    · refine wpAny_ite_false (by simpa using hx) ?_
      wp_walk
      refine wpAny_ite_false (by simp; omega) ?_
      wp_walk
      refine wpAny_ite_false (by unfold Tuple.tupleTooMany; rw [sizeLine_eq]; simp; omega) ?_
      wp_walk
      have hsz : (List.foldl (fun x1 x2 => x1 ++ x2) #[] (List.replicate x.toNat #[v])).size ≤ 6 := by
        have e : x = 1 ∨ x = 2 ∨ x = 3 ∨ x = 4 ∨ x = 5 ∨ x = 6 := by omega
        rcases e with rfl | rfl | rfl | rfl | rfl | rfl
        all_goals exact Nat.le_of_ble_eq_true rfl
      refine wpAny_ite_false (decide_eq_false (Nat.not_lt.mpr (Nat.le_trans hsz (by rw [sizeLine_eq]; omega)))) ?_
      wp_walk
      exact ⟨_, rfl, h _⟩
theorem noFill_tuple_mul : fillsNumberSlot (.type "tuple") "mul" = pure false :=
  PySem.fillsNumberSlot_seq (id := "tuple.__mul__") (r := some (.builtin "tuple.__rmul__")) F.slot_tuple_mul.lookup (by decide +kernel) F.slot_tuple_rmul.lookup (by decide +kernel)
theorem repeat_tuple : seqRepeat? (.type "tuple") = pure (some (.builtin "tuple.__mul__")) := by
  unfold seqRepeat?
  rw [PySem.seqSlot_of (T := "tuple") (name := "__mul__") (id := "tuple.__mul__") F.slot_tuple_mul.lookup (by decide +kernel), PySem.seqSlot_of (T := "tuple") (name := "__rmul__") (id := "tuple.__rmul__") F.slot_tuple_rmul.lookup (by decide +kernel)]
  rfl
open Builtin in
theorem tm_rmul (a : Int) (t : Tok) (l : Addr) (items : Array Value) (n : Nat) (d : Option Addr) (sl : Array (Option Value)) :
    Meets (Builtin.«int.__rmul__» ⟨[.int a t, .ref l], []⟩) (fun _ R s => s.heap.get? l = some { cls := .type "tuple", dict := d, data := .seq items n, slots := sl } ∧ R (.ok (.ret Value.notImplemented)) s) :=
  .of_wp fun prog w A R s h => by obtain ⟨hp, g, d, tk, os⟩ := s; obtain ⟨hl, h⟩ := h; wp_walk; exact ⟨_, rfl, h⟩
theorem mul_T {prog : Program} {w : World} {A : Around} {E : Value → Shared → Prop} {s : Shared} {l : Addr} {v : Value} {n : Nat} {x : Int} {u : Tok} {Q : Value → Shared → Prop} (ho : s.heap.get? l = some { cls := .type "tuple", data := .seq #[v] n }) (h0 : 0 ≤ x) (h1 : x ≤ 6) (h2 : x ≠ 1)
    (h : ∀ ys, Q (.ref s.heap.objs.size) { s with heap := s.heap.push { cls := .type "tuple", data := .seq ys } }) : wpAny (model prog w) A (binaryOp .Mult (.ref l) (.int x u)) Q E s :=
  wpAny_binaryOp_repeat_ref (T := "tuple") (U := "int") (by decide) ⟨_, ho, rfl⟩ (fun s' => typeIs_int s' x u) noFill_tuple_mul F.fills_int_mul F.slot_int_rmul repeat_tuple F.slot_int_index.lookup
    (call_meets F.slot_int_rmul (typeIs_int s x u) F.entry_int_rmul (F.args_int_rmul_2 _ _) (tm_rmul x u l _ n none #[])
      ⟨ho, rfl, ⟨_, ho, rfl⟩, call_meets F.slot_tuple_mul ⟨_, ho, rfl⟩ F.entry_tuple_mul (F.args_tuple_mul_2 _ _) (tm_mul l v n x u h0 h1 h2) ⟨ho, h⟩⟩)
end Mine
end
section
open PySem PySem.W PyProof.Rows PySem.Calls PyProof.V PySem.Spec
namespace Mine
theorem fresh_P20 : True := by
  w_top off
  k_with_none
  trivial

theorem flat_at {K : Type} {enc : K → PyData} {kvs : List (K × Value)} {D : List (PyData × PyData)} (h : FlatPairs enc kvs D) : ∀ (i : Nat) (k : K) (x : Value), kvs[i]? = some (k, x) → ∃ d, D[i]? = some (enc k, d) ∧ Flat x d := by
  induction h with
  | nil => intro i k x e; simp at e
  | cons hf _ ih =>
    intro i k x e
    cases i with
    | zero => simp at e; obtain ⟨rfl, rfl⟩ := e; exact ⟨_, rfl, hf⟩
    | succ i => simp at e; simpa using ih i k x e
theorem flat_keys {K : Type} {enc : K → PyData} {kvs : List (K × Value)} {D : List (PyData × PyData)} (h : FlatPairs enc kvs D) : kvs.map (fun p => enc p.1) = D.map (·.1) := by
  induction h with
  | nil => rfl
  | cons _ _ ih => simp [ih]
theorem ns_keep {h h' : Heap} {C : Addr} {m : Str → Option Value} (hn : h.Ns C m) (hk : ∀ b o, h.get? b = some o → h'.get? b = some o) : h'.Ns C m := let ⟨o, es, ep, ho, r⟩ := hn; ⟨o, es, ep, hk _ _ ho, r⟩
theorem cell_keep {h h' : Heap} {c : Addr} {v : Option Value} (hn : h.IsCell c v) (hk : ∀ b o, h.get? b = some o → h'.get? b = some o) : h'.IsCell c v := let ⟨o, ho, r⟩ := hn; ⟨o, hk _ _ ho, r⟩
section
variable {prog : Program} {w : World} {A : Around} {E : Value → Shared → Prop} {s s' : Shared} {env : Env} {x : Str} {pos : Pos} {v : Value} {Q : Value → Shared → Prop}
theorem name_l {m : Str → Option Value} (hk : env.scope.kind = .function) (hl : env.kindOf x = some .local) (hn : s.heap.Ns env.locals m) (hv : m x = some v) (hd : (x == ("__debug__" : Str)) = false)
    (kp : ∀ b o, s.heap.get? b = some o → s'.heap.get? b = some o) (h : Q v s') : wpAny (model prog w) A (eval (.Name x pos) env) Q E s' := by
  rw [eval_Name _ _ _ hd]; exact wpAny_bind (wpAny_standAt (wpAny_loadName_local hk hl (ns_keep hn kp) hv h))
theorem name_c {c : Addr} (hk : env.scope.kind = .function) (hl : env.kindOf x = some .cell) (hc : env.cells.lookup x = some c) (hv : s.heap.IsCell c (some v)) (hd : (x == ("__debug__" : Str)) = false)
    (kp : ∀ b o, s.heap.get? b = some o → s'.heap.get? b = some o) (h : Q v s') : wpAny (model prog w) A (eval (.Name x pos) env) Q E s' := by
  rw [eval_Name _ _ _ hd]; exact wpAny_bind (wpAny_standAt (wpAny_loadName_cell hk hl hc (cell_keep hv kp) h))
end
set_option maxRecDepth 100000 in
theorem kinds_val {w : World} {A : Around} {E : Value → Shared → Prop} {s : Shared} {env : Env} {m : Str → Option Value} {c d : Addr} {D : List (PyData × PyData)} {k : Str} {t : Tok} {i : Int} {p1 p2 p3 p4 p5 p6 : Pos}
    (hk : env.scope.kind = .function) (hl : env.kindOf (Str.ofString "word") = some .local) (hl2 : env.kindOf (Str.ofString "found") = some .cell) (hc : env.cells.lookup (Str.ofString "found") = some c)
    (hn : s.heap.Ns env.locals m) (hm : m (Str.ofString "word") = some (.str k t)) (hv : s.heap.IsCell c (some (.ref d))) (T : StrTab Challenge.rw_og0162_01.row.prog w s.heap d D) (hD : Spec.lookup (.str k) D = some (.int i)) (h0 : 0 ≤ i) (h1 : i ≤ 6) (h2 : i ≠ 1) :
    wpAny (model Challenge.rw_og0162_01.row.prog w) A (eval (.BinOp (.Tuple [.Constant (.str (Str.ofString "number")) 0 p1] 0 p2) .Mult (.Subscript (.Name (Str.ofString "found") p3) (.Name (Str.ofString "word") p4) p5) p6) env) (fun y s₄ => True ∧ Keeps s s₄) E s := by
  k_with_none
  k_with "newTuple" => refine wpAny_newTuple ?_ (Nat.le_trans (show 1 ≤ 6 by decide) (by rw [sizeLine_eq]; omega))
  k_with "eval Name" => first | exact name_l (by assumption) (by assumption) (by assumption) (by assumption) rfl (fun b o e => Heap.get?_push_of_some _ e) (Stop.go ?_) | exact name_c (by assumption) (by assumption) (by assumption) (by assumption) rfl (fun b o e => Heap.get?_push_of_some _ e) (Stop.go ?_) | (refine name_l (by assumption) (by assumption) (by assumption) (by assumption) rfl (fun b o e => Heap.get?_push_of_some _ e) ?_) | (refine name_c (by assumption) (by assumption) (by assumption) (by assumption) rfl (fun b o e => Heap.get?_push_of_some _ e) ?_)
  k_with "subscriptTail" => refine stop_here ?_
  k_steps
  refine Stop.go ?_
  refine item_strTab (T.keep (fun b o e => Heap.get?_push_of_some _ e)) hD (fun v hv => ?_)
  obtain ⟨t, rfl⟩ := hv.int_inv
  k_steps
  refine mul_T (v := .str (Str.ofString "number") s.toks) (n := 0) (Heap.get?_push_size _ rfl) h0 h1 h2 (fun ys => ⟨trivial, _, _, rfl, fun b o e => Heap.get?_push_of_some _ (Heap.get?_push_of_some _ e)⟩)
end Mine
end
section
open PySem PySem.W PyProof.Rows PySem.Calls PyProof.V PySem.Spec
namespace Mine
set_option maxRecDepth 100000

theorem stored_any {kvs : List (Str × Value)} {k : Str} {y : Value} (x : Str) : (stored kvs k y).any (fun p => decide (p.1 = x)) = (kvs.any (fun p => decide (p.1 = x)) || decide (k = x)) := by
  unfold stored
  by_cases h : (kvs.any fun kv => decide (kv.1 = k)) = true
  · rw [if_pos h, List.any_map]
    have e : ((fun p : Str × Value => decide (p.1 = x)) ∘ fun kv => if kv.1 = k then (kv.1, y) else kv) = fun p => decide (p.1 = x) := by
      funext p; by_cases hp : p.1 = k <;> simp [hp]
    rw [e]
    by_cases hk : k = x
    · subst hk; rw [h]; simp
    · simp [hk]
  · rw [if_neg h, List.any_append]; simp
theorem storedAll_any {FV : Value → Value → Prop} {l : List Value} {kvs : List (Str × Value)} (h : StoredAll (fun v k => ∃ t, v = .str k t) FV l kvs) (x : Str) : kvs.any (fun p => decide (p.1 = x)) = l.any (valHitsStr x) := by
  induction h with
  | nil => rfl
  | @snoc l kvs v k y _ hk _ ih =>
    obtain ⟨t, rfl⟩ := hk
    rw [stored_any, ih, List.any_append]
    show _ = (l.any (valHitsStr x) || (valHitsStr x (.str k t) || false))
    rw [Bool.or_false]
    rfl
theorem strKind_inv {prog : Program} {w : World} {k : Str} {v : Value} (h : (strKind prog w).is k v = true) : ∃ t, v = .str k t := Value.isStrOf_shape h
theorem any_places {kvs : List (Str × Value)} : ∀ {vs : List Value}, vs.length = kvs.length → (∀ (j : Nat) v, vs[j]? = some v → ∃ k x t, kvs[j]? = some (k, x) ∧ v = .str k t) → ∀ x, vs.any (valHitsStr x) = kvs.any (fun p => decide (p.1 = x)) := by
  induction kvs with
  | nil => intro vs hl _ x; cases vs with | nil => rfl | cons a b => simp at hl
  | cons p kvs ih =>
    intro vs hl hP x
    cases vs with
    | nil => simp at hl
    | cons v vs =>
      obtain ⟨k, y, t, e, rfl⟩ := hP 0 v rfl
      simp at e
      rw [List.any_cons, List.any_cons, ih (by simpa using hl) (fun j u hu => by simpa using hP (j + 1) u hu) x]
      subst e
      rfl
theorem newDict_at {M : Model} {A : Around} {E : Value → Shared → Prop} {s : Shared} {P : Value → Shared → Prop} (h : wpAny M A newDict P E s) : wpAny M A newDict (fun v s' => v = .ref s.heap.objs.size ∧ P v s') E s :=
  fun Γ p hΓ => ⟨rfl, h Γ p hΓ⟩
theorem kinds_comp {w : World} {A : Around} {E : Value → Shared → Prop} {s : Shared} {env : Env} {g : Heap} {m : Str → Option Value} {ns : List (Addr × Obj)} {c d : Addr} {co o : Obj} {kvs : List (Str × Value)} {D : List (PyData × PyData)} {scope : Scope} {p1 p2 p3 p4 p5 p6 p7 p8 p9 pos : Pos} {Q : Value → Shared → Prop}
    (hh : A.handled = none) (hclos : closureFor scope env = pure [(Str.ofString "found", c)]) (hcell : ∀ y ∈ scope.names, y.2 ≠ .cell) (hkind : scope.kind = .function) (hnames : ∀ y ∈ scope.names, y.2 = .local → scope.names.lookup y.1 = some .local) (hx : scope.names.lookup (Str.ofString "word") = some .local)
    (hek : env.scope.kind = .function) (hec : env.kindOf (Str.ofString "found") = some .cell) (hel : env.cells.lookup (Str.ofString "found") = some c)
    (hk1 : ∀ C, (compEnvC scope [(Str.ofString "found", c)] C env).kindOf (Str.ofString "word") = some .local) (hk2 : ∀ C, (compEnvC scope [(Str.ofString "found", c)] C env).kindOf (Str.ofString "found") = some .cell) (hk3 : (relabel scope env).kind = .function)
    (F : Fr g env.locals s.heap m) (N : News g env.locals s.heap ns) (hc : (c, co) ∈ ns) (hco : co.data = .cell (some (.ref d))) (hd : (d, o) ∈ ns) (ho : o.IsDictOf (strKind Challenge.rw_og0162_01.row.prog w) kvs) (hf : FlatPairs PyData.str kvs D) (lo : (d == sysModules) = false)
    (hlen : D.length ≤ 200) (hD : ∀ p ∈ D, ∃ k i, p.1 = .str k ∧ Spec.lookup (.str k) D = some (.int i) ∧ 0 ≤ i ∧ i ≤ 6 ∧ i ≠ 1)
    (ret : ∀ (D' : Addr) oD kvs' h' tk', oD.IsDictOf (strKind Challenge.rw_og0162_01.row.prog w) kvs' → (∀ x, kvs'.any (fun p => decide (p.1 = x)) = kvs.any (fun p => decide (p.1 = x))) → Fr g env.locals h' m → News g env.locals h' ((D', oD) :: ns) → (∀ p ∈ ns, p.1 ≠ D') → (@LT.lt Nat _ s.heap.objs.size D') → Q (.ref D') { s with heap := h', toks := tk' }) :
    wpAny (model Challenge.rw_og0162_01.row.prog w) A (eval (.DictComp (.Name (Str.ofString "word") p7) (.BinOp (.Tuple [.Constant (.str (Str.ofString "number")) 0 p1] 0 p2) .Mult (.Subscript (.Name (Str.ofString "found") p3) (.Name (Str.ofString "word") p4) p5) p6) [⟨.Name (Str.ofString "word") p8, .Name (Str.ofString "found") p9, [], 0⟩] scope pos) env) Q E s := by
  have hlk : kvs.length = D.length := by have := congrArg List.length (flat_keys hf); simpa using this
  rw [arm_eval_DictComp]
  refine wpAny_comprehension_free (use := none) rfl (by intro _; rfl) hclos hkind hnames ?_
  have hcl : s.heap.IsCell c (some (.ref d)) := ⟨_, N.get hc, hco⟩
  refine name_c hek hec hel hcl rfl (fun _ _ e => e) ?_
  obtain ⟨es, ep, hX, hdat, hKs, hPs, hnd⟩ := ho
  have hdo := N.get hd
  have hDA : s.heap.DictAt (strKind Challenge.rw_og0162_01.row.prog w) d kvs ep := ⟨o, es, hdo, hX, hdat, hKs, hPs, hnd⟩
  refine wpAny_pyIter_dict lo hDA ?_
  have hdI : d ≠ s.heap.objs.size := Nat.ne_of_lt (Heap.lt_size hdo)
  (try dsimp only)
  refine wpAny_mono (newDict_at (comp_block_walkCD (env := env) (cl := [(Str.ofString "found", c)]) (ifs := []) (kx := .Name (Str.ofString "word") p7) (vx := .BinOp (.Tuple [.Constant (.str (Str.ofString "number")) 0 p1] 0 p2) .Mult (.Subscript (.Name (Str.ofString "found") p3) (.Name (Str.ofString "word") p4) p5) p6) (iter := .Name (Str.ofString "found") p9) (px := p8) (pos := pos) (knd := strKind Challenge.rw_og0162_01.row.prog w) (RR := fun acc C r s' => acc = .ref (s.heap.objs.size + 1) → compPost (model Challenge.rw_og0162_01.row.prog w) A E none Q acc C r s')
    (Walks.dictKeys hh s.heap.objs.size d hdI kvs ep) (by rw [sizeLine_eq]; omega) (fun _ => true) (fun v k => ∃ t, v = .str k t) (fun _ _ => True) hcell hkind hx ⟨⟨_, Heap.get?_push_size _ rfl, rfl, rfl⟩, hDA.push _⟩ ?_ ⟨?_, ?_, ?_⟩ ?_))
    (fun acc s₃ hh3 => ?_) fun _ _ e => e
  rotate_left 5
  · obtain ⟨rfl, h3⟩ := hh3
    refine wpAny_mono h3 (fun cenv s₄ h4 => codeAny_mono h4 fun r s' h5 => h5 ?_) fun _ _ e => e
    rw [Heap.size_push]
  · intro b hb
    rw [Heap.size_push]
    rcases List.mem_cons.mp hb with rfl | hb
    · exact Nat.lt_succ_self _
    · rw [List.mem_singleton.mp hb]; exact Nat.lt_succ_of_lt (Heap.lt_size hdo)
  · intro C i v s₃ m₃ E' _ _ _ _
    exact wpAny_pure ⟨rfl, _, _, rfl, fun _ _ e => e⟩
  · rintro C i v s₃ m₃ E' ⟨k, x, hkx, hkv⟩ _ hn hm hk
    refine name_l hk3 (hk1 C) hn hm rfl (fun _ _ e => e) ⟨⟨k, hkv, strKind_inv hkv⟩, _, _, rfl, fun _ _ e => e⟩
  · rintro C i v s₃ m₃ E' ⟨k, x, hkx, hkv⟩ _ hn hm hk
    obtain ⟨t, rfl⟩ := strKind_inv hkv
    obtain ⟨dv, hdi, _⟩ := flat_at hf i k x hkx
    obtain ⟨k', i', e1, e2, e3, e4, e5⟩ := hD _ (List.mem_of_getElem? hdi)
    injection e1 with e1
    subst e1
    have up : ∀ b ob, s.heap.get? b = some ob → s₃.heap.get? b = some ob := fun b ob e => hk b ob (fun hm => Nat.lt_irrefl _ ((List.mem_singleton.mp hm) ▸ Heap.lt_size e)) (Heap.get?_push_of_some _ e)
    exact kinds_val hk3 (hk1 C) (hk2 C) rfl hn hm (cell_keep hcl up) ⟨lo, kvs, ⟨o, es, ep, up _ _ hdo, hX, hdat, hKs, hPs, hnd⟩, hf⟩ e2 e3 e4 e5
  · intro D' C' h₁' tk m' kvs' vs hnew hnewC hDC hnC hlD₁ hlen' hP hF hk₁ hacc
    injection hacc with hacc
    refine ⟨m', hnC, fun h' hs' => ?_⟩
    have hlD := hlD₁.extBut hs'.extBut hDC
    have hk : ∀ b o, b ∉ [s.heap.objs.size] → (s.heap.push { cls := Value.type "dict_keyiterator", data := .fields #[.ref d, .int 0 0, .int kvs.length 0, .int ep 0] }).get? b = some o → h'.get? b = some o := fun b o hbf e => hs'.extBut b o (by rintro rfl; rw [hnewC] at e; cases e) (hk₁ b o hbf e)
    have up : ∀ b ob, s.heap.get? b = some ob → h'.get? b = some ob := fun b ob e => hk b ob (fun hm => Nat.lt_irrefl _ ((List.mem_singleton.mp hm) ▸ Heap.lt_size e)) (Heap.get?_push_of_some _ e)
    have fresh : ∀ b ob, s.heap.get? b = some ob → b ≠ D' := by
      rintro b ob e rfl
      rw [Heap.get?_push_of_some _ e] at hnew; cases hnew
    obtain ⟨oD, es', ep', hoD, r⟩ := hlD
    obtain ⟨oL, es2, ep2, hL, rL⟩ := F.ns
    refine ret D' oD kvs' h' tk ⟨es', ep', r⟩ ?_ ⟨ns_keep F.ns up, fun b ob e => up _ _ (F.keep b ob e), F.above⟩ ?_ (fun p hp => fresh _ _ (N p hp).1) (by rw [hacc]; exact Nat.lt_succ_self _)
    · intro x
      rw [storedAll_any hF x, List.filter_eq_self.mpr (fun _ _ => rfl)]
      refine any_places hlen' (fun j v hv => ?_) x
      obtain ⟨k, y, e1, e2⟩ := hP j v hv
      obtain ⟨t, rfl⟩ := strKind_inv e2
      exact ⟨k, y, t, e1, rfl⟩
    · intro p hp
      rcases List.mem_cons.mp hp with rfl | hp
      · refine ⟨hoD, (fresh _ _ hL).symm, ?_⟩
        cases e : g.get? D' with
        | none => rfl
        | some ob => exact absurd rfl (fresh _ _ (F.keep _ _ e))
      · exact ⟨up _ _ (N p hp).1, (N p hp).2⟩
end Mine
end
section
open PySem PySem.W PyProof.Rows PySem.Calls PyProof.V PySem.Spec
namespace Mine
theorem fresh_P22 : True := by
  w_top off
  k_with_none
  trivial
local macro_rules | `(tactic| k_all) => `(tactic| assumption)

def kindKeys : List Str := [Str.ofString "m", Str.ofString "l", Str.ofString "c", Str.ofString "v", Str.ofString "y", Str.ofString "re", Str.ofString "h", Str.ofString "W", Str.ofString "W*", Str.ofString "S", Str.ofString "s", Str.ofString "f", Str.ofString "F", Str.ofString "f*", Str.ofString "B", Str.ofString "B*", Str.ofString "b", Str.ofString "b*", Str.ofString "n"]
def kindD0 : List (PyData × PyData) := [(.str (Str.ofString "m"), .int 2), (.str (Str.ofString "l"), .int 2), (.str (Str.ofString "c"), .int 6), (.str (Str.ofString "v"), .int 4), (.str (Str.ofString "y"), .int 4), (.str (Str.ofString "re"), .int 4), (.str (Str.ofString "h"), .int 0), (.str (Str.ofString "W"), .int 0), (.str (Str.ofString "W*"), .int 0)]
def okD (D : List (PyData × PyData)) : Bool := D.all fun p => match p.1 with | .str k => (match Spec.lookup (.str k) D with | some (.int i) => decide (0 ≤ i) && decide (i ≤ 6) && !decide (i = 1) | _ => false) | _ => false
theorem okD_spec {D : List (PyData × PyData)} (h : okD D = true) : ∀ p ∈ D, ∃ k i, p.1 = .str k ∧ Spec.lookup (.str k) D = some (.int i) ∧ 0 ≤ i ∧ i ≤ 6 ∧ i ≠ 1 := by
  intro p hp
  have := List.all_eq_true.mp h p hp
  revert this
  split
  · rename_i k e
    split
    · rename_i i e2
      intro h
      simp only [Bool.and_eq_true, decide_eq_true_eq, Bool.not_eq_true', decide_eq_false_iff_not] at h
      exact ⟨k, i, e, e2, h.1.1, h.1.2, h.2⟩
    · intro h; cases h
  · intro h; cases h
theorem keys_any : ∀ {ks : List Str} {kvs : List (Str × Value)}, kvs.map (fun p => PyData.str p.1) = ks.map PyData.str → ∀ x, kvs.any (fun p => decide (p.1 = x)) = inL ks x := by
  intro ks
  induction ks with
  | nil => intro kvs h x; cases kvs with | nil => rfl | cons a b => simp at h
  | cons k ks ih =>
    intro kvs h x
    cases kvs with
    | nil => simp at h
    | cons p kvs =>
      simp at h
      unfold inL at ih ⊢
      rw [List.any_cons, List.any_cons, ih h.2 x, h.1]
      rfl
set_option maxRecDepth 100000 in
set_option maxHeartbeats 2000000 in
theorem kinds_spec {w : World} {mean : ExcName → Option Value} {mg mb : Str → Option Value} {dp un : Nat} {gd : Option (List Code)} {cn : Str} {cs : Scope} {a : Addr} {ccd : Value} {cl : List (Str × Addr)} {outer : List Env} {A₀ : Around} {base h₀ : Heap} {L : Addr} {m : Str → Option Value} {s : Shared} {Q E : Value → Shared → Prop}
    (B : Below A₀ base outer h₀) (F : Fr h₀ L s.heap m) (X : (hd.heap_39 w.params).In h₀) (T : Top hd.view_39 (looseW hd.view_39 []) mean mg mb h₀) (hk : cs.kind = .function)
    (hd : dp < 880) (hu : un < 8800)
    (ret : ∀ (d : Addr) o kvs (h' : Heap) (tk' : Nat), o.IsDictOf (strKind Challenge.rw_og0162_01.row.prog w) kvs → (∀ x, kvs.any (fun p => decide (p.1 = x)) = inL kindKeys x) → Fr h₀ L h' m → News h₀ L h' [(d, o)] → s.heap.get? d = none → (d == sysModules) = false → (∀ b o, s.heap.get? b = some o → h'.get? b = some o) → Q (.ref d) { s with heap := h', toks := tk' }) :
    wpAny (model Challenge.rw_og0162_01.row.prog w) (ktrTop dp un gd cn cs L a ccd cl outer) (call (.ref 54) []) Q E s := by
  k_with_none
  k_with "eval Constant str" => (refine const_str_gen ?_; intro z_t' z_tk'; (try dsimp only))
  k_with "eval DictComp" => refine stop_here ?_
  k_with "exec For" => (k_here; (rename Fr _ _ _ _ => z_lF'); (with_unfolding_all refine' For_invVF z_lF' ?y_k1 ?y_k2 ?_; (case y_k1 => exact rfl); (case y_k2 => exact rfl); k_whole))
  k_with "exec For Name Tuple" => (k_here; (rename Fr _ _ _ _ => z_lF'); (with_unfolding_all refine' For_invVF z_lF' ?y_k1 ?y_k2 ?_; (case y_k1 => exact rfl); (case y_k2 => exact rfl); k_whole))
  k_with "exec For Name Tuple cons nil" => (k_here; (rename Fr _ _ _ _ => z_lF'); (with_unfolding_all refine' For_invVF z_lF' ?y_k1 ?y_k2 ?_; (case y_k1 => exact rfl); (case y_k2 => exact rfl); k_whole))
  k_with "pyIter ref" => ((with_reducible show wpAny _ _ (pyIter (Value.ref _)) (fun it s₂ => LoopAtV _ _ _ _ _ _ _ _ _ it s₂) _ _); refine stop_here ?_)
  have N : News h₀ L s.heap [] := News.nil
  revert X; k_fill; intro X
  refine wpAny_call ?_
  k_dflt (refine' code_defCG ?k1 ?k2 ?k3 ?k4 ?k5 ?kA ?kF ?kK ?k6 ?k7 ?k8 ?k9 ?kB ?kD ?_ ?c2 ?c3 ?c4; (case kA => exact rfl); (case kF => exact rfl); (case kK => assumption); (case k1 => k_asm); (case k2 => k_asm); (case k3 => k_asm); (case k4 => k_asm); (case k5 => k_asm); (case k6 => k_is); (case k7 => k_is); (case k8 => ktr_room); (case k9 => exact BindsTo.of_eq rfl); (case kB => exact rfl); (case kD => decide +kernel); (case c2 => exact rfl); (case c3 => exact rfl); (case c4 => exact rfl))
  k_whole
  intro g' L' h₁ tk1 cells' FG' F' N' Y' B' X' T' l1 kG'
  (try k_lt l1)
  k_cells Y'
  (try simp only [List.cons_append, List.nil_append] at N')
  (try dsimp only)
  (try k_fold)
  k_steps
  refine Stop.go ?_
  (rename Obj.IsDictOf _ _ _ => ho0); (rename FlatPairs _ _ _ => hf0); (rename (Obj.data _ = Data.cell (some _)) => hcell); (rename Fr g' L' _ _ => F0); (rename News g' L' _ _ => N0)
  (with_reducible refine' loop_putc (.int 0) (c := L' + 1) (d := h₁.objs.size) ?hcm ?hcd ?hh ?cF ?cN ?ht ?U ?hne ?hks ?ho ?hf ?hD ?turn ?done)
  case ho => exact ho0
  case hf => exact (show FlatPairs PyData.str _ kindD0 from by with_unfolding_all exact hf0)
  case hh => with_unfolding_all rfl
  case cF => with_unfolding_all exact F0
  case cN => with_unfolding_all exact N0
  case hcm => exact .tail _ (.tail _ (.head _))
  case ht => k_mem
  case hcd => k_ne
  case U => k_updF
  case hne => k_ne
  case hks => repeat constructor
  case hD => exact Nat.le_of_ble_eq_true rfl
  case turn =>
    clear ho0 hf0
    intro k u o kvs D h tk rest ho hf hD hne F1 N1 R hR
    k_steps
    refine setItem_K PyProof.V.same_str (strKind_is _ _ _ _) (PyProof.V.Flat.int _ _) F1 N1 (by k_updF) ho hf (fun h9 o9 F9 N9 a9 b9 => ?_) (by rw [sizeLine_eq]; omega)
    clear F1 N1
    (try dsimp only at N9)
    k_steps
    exact hR _ _ _ _ a9 b9 (by assumption) (by assumption)
  case done =>
    clear ho0 hf0
    intro u o' kvs' h tk ho hf F1 N1
    k_steps
    refine Stop.go ?_
    (with_reducible refine' kinds_comp ?ch ?clos ?hcell ?hkind ?hnames ?hx ?hek ?hec ?hel ?hk1 ?hk2 ?hk3 ?kF ?kN ?hc ?hco ?hd ?ho ?hf ?lo ?hlen ?hDD ?kret)
    case ch => with_unfolding_all rfl
    case clos => with_unfolding_all rfl
    case hcell => decide
    case hkind => with_unfolding_all rfl
    case hnames => decide
    case hx => with_unfolding_all rfl
    case hek => with_unfolding_all rfl
    case hec => with_unfolding_all rfl
    case hel => with_unfolding_all rfl
    case hk1 => intro C; with_unfolding_all rfl
    case hk2 => intro C; with_unfolding_all rfl
    case hk3 => with_unfolding_all rfl
    case kF => with_unfolding_all exact F1
    case kN => with_unfolding_all exact N1
    case hco => exact hcell
    case hc => exact .tail _ (.tail _ (.head _))
    case hd => exact .tail _ (.head _)
    case ho => exact ho
    case hf => exact hf
    case lo => assumption
    case hlen => exact Nat.le_trans (putE_len _ _ _) (Nat.le_of_ble_eq_true rfl)
    case hDD => exact okD_spec (by decide +kernel)
    have ek := keys_any (ks := kindKeys) ((flat_keys hf).trans (by kernel_rfl))
    case kret =>
    intro D' oD kvs2 h2 tk2 ho2 hany F2 N2 hne2 hlt2
    have lo2 : (D' == sysModules) = false := by
      have a1 : @LT.lt Nat _ sysModules g'.objs.size := modules_low T'.nolimit
      have a2 : @LE.le Nat _ g'.objs.size L' := F1.above
      have a3 : @LT.lt Nat _ L' h.objs.size := F1.ns.lt
      have a4 : @LT.lt Nat _ h.objs.size D' := hlt2
      exact beq_eq_false_iff_ne.mpr (Nat.ne_of_gt (by omega))
    clear F1 N1 F0 N0
    k_steps
    exact ret _ _ _ _ _ ho2 (fun x => (hany x).trans (ek x)) (by assumption) (news_sub (by assumption) (by k_mem)) (fresh_nil kG' N2 (.head _)) lo2 (fun b o e => Fr.keep (h₀ := g') (L := L') (by assumption) b o (kG' b o e (by simp)))
end Mine
end
section
open PySem PySem.W PyProof.Rows PySem.Calls PyProof.V PySem.Spec
namespace Mine
theorem fresh_P23 : True := by
  w_top off
  k_with_none
  trivial
set_option maxRecDepth 100000

def offQ (v : Value) : Bool := match v with | .str k _ => !hasS (Str.ofString "qtcx") k | _ => false
theorem paired_strs {F : Value → Value → Prop} (hF : ∀ v y, F v y → ∃ k t, y = .str k t) {l ys : List Value} (h : Paired F l ys) : ∃ ks, StrsL ys ks ∧ ks.length = l.length := by
  induction h with
  | nil => exact ⟨[], .nil, rfl⟩
  | cons hf _ ih =>
    obtain ⟨ks, a, b⟩ := ih
    obtain ⟨k, t, rfl⟩ := hF _ _ hf
    exact ⟨k :: ks, .cons a, by simp [b]⟩
theorem places_all {y : Str} {vs : List Value} (hl : vs.length = y.cps.size) (hP : ∀ (j : Nat) v, vs[j]? = some v → SignAt y j v) : (vs.filter offQ).isEmpty = y.cps.toList.all fun c => hasS (Str.ofString "qtcx") ⟨#[c]⟩ := by
  have key : ∀ (l : List Nat) (vs : List Value), vs.length = l.length → (∀ (j : Nat) v, vs[j]? = some v → ∃ c u, l[j]? = some c ∧ v = .str ⟨#[c]⟩ u) → (vs.filter offQ).isEmpty = l.all fun c => hasS (Str.ofString "qtcx") ⟨#[c]⟩ := by
    intro l
    induction l with
    | nil => intro vs hl _; cases vs with | nil => rfl | cons a b => simp at hl
    | cons c l ih =>
      intro vs hl hP
      cases vs with
      | nil => simp at hl
      | cons v vs =>
        obtain ⟨c', u, e, rfl⟩ := hP 0 v rfl
        simp at e
        subst e
        have := ih vs (by simpa using hl) (fun j v hv => by simpa using hP (j + 1) v hv)
        rw [List.filter_cons, List.all_cons, ← this]
        have e2 : offQ (.str ⟨#[c]⟩ u) = !hasS (Str.ofString "qtcx") ⟨#[c]⟩ := rfl
        rw [e2]
        cases hasS (Str.ofString "qtcx") ⟨#[c]⟩ <;> simp
  refine key y.cps.toList vs (by simpa using hl) (fun j v hv => ?_)
  obtain ⟨c, u, a, b⟩ := hP j v hv
  exact ⟨c, u, by simpa using a, b⟩
theorem go_comp {prog : Program} {w : World} {A : Around} {E : Value → Shared → Prop} {s : Shared} {env : Env} {g : Heap} {m : Str → Option Value} {ns : List (Addr × Obj)} {y : Str} {ty : Tok} {scope : Scope} {p1 p2 p3 p4 p5 p6 pos : Pos} {Q : Value → Shared → Prop}
    (hclos : closureFor scope env = pure []) (hcell : ∀ y ∈ scope.names, y.2 ≠ .cell) (hkind : scope.kind = .function) (hnames : ∀ y ∈ scope.names, y.2 = .local → scope.names.lookup y.1 = some .local) (hx : scope.names.lookup (Str.ofString "sign") = some .local)
    (hh : A.handled = none) (hek : env.scope.kind = .function) (hel : env.kindOf (Str.ofString "inner") = some .local) (hm : m (Str.ofString "inner") = some (.str y ty))
    (hk1 : ∀ C, (compEnvC scope [] C env).kindOf (Str.ofString "sign") = some .local) (hk3 : (relabel scope env).kind = .function)
    (F : Fr g env.locals s.heap m) (N : News g env.locals s.heap ns) (hy : y.cps.size ≤ 3000)
    (ret : ∀ (D' : Addr) vs ks n h' tk', StrsL vs ks → (ks.isEmpty = y.cps.toList.all fun c => hasS (Str.ofString "qtcx") ⟨#[c]⟩) → Fr g env.locals h' m → News g env.locals h' ((D', listOf vs.toArray n) :: ns) → (∀ p ∈ ns, p.1 ≠ D') → Q (.ref D') { s with heap := h', toks := tk' }) :
    wpAny (model prog w) A (eval (.ListComp (.Name (Str.ofString "sign") p1) [⟨.Name (Str.ofString "sign") p2, .Name (Str.ofString "inner") p3, [.Compare (.Name (Str.ofString "sign") p4) [.NotIn] [.Constant (.str (Str.ofString "qtcx")) 0 p5] p6], 0⟩] scope pos) env) Q E s := by
  k_with_none
  k_with "eval Name" => (refine name_l (by assumption) (by assumption) (by assumption) (by assumption) rfl (fun _ _ e => e) ?_)
  refine wpAny_ListComp_free offQ (fun _ y => ∃ k t, y = .str k t) hclos hcell hkind hnames hx ?_ (by intro _; rfl)
  refine name_l hek hel F.ns hm rfl (fun _ _ e => e) ?_
  refine wpAny_pyIter_str (fun o St W hst => ?_)
  refine ⟨_, _, _, _, _, _, rfl, W A hh, by rw [sizeLine_eq]; omega, hst, ?_, ⟨?_, ?_⟩, ?_⟩
  · intro b hb
    rw [Heap.size_push, List.mem_singleton.mp hb]
    exact Nat.lt_succ_self _
  · rintro C i v s₃ m₃ E' _ ⟨c, u, hc, rfl⟩ hn hm hk _
    have k1 := hk1 C
    simp only [List.forIn_cons, if_true]
    refine wpAny_bind (wpAny_bind ?_)
    k_steps
    exact wpAny_pure (wpAny_pure ⟨rfl, _, _, rfl, fun _ _ e => e⟩)
  · rintro C i v s₃ m₃ E' _ ⟨c, u, hc, rfl⟩ _ hn hm hk _
    exact name_l hk3 (hk1 C) hn hm rfl (fun _ _ e => e) ⟨⟨_, _, rfl⟩, _, _, rfl, fun _ _ e => e⟩
  · intro D' h' tk ys vs hnew _ hpl hlen hP hF hk
    have up : ∀ b ob, s.heap.get? b = some ob → h'.get? b = some ob := fun b ob e => hk b ob (fun hm => Nat.lt_irrefl _ ((List.mem_singleton.mp hm) ▸ Heap.lt_size e)) (Heap.get?_push_of_some _ e)
    have fresh : ∀ b ob, s.heap.get? b = some ob → b ≠ D' := by
      rintro b ob e rfl
      rw [Heap.get?_push_of_some _ e] at hnew; cases hnew
    obtain ⟨oL, es2, ep2, hL, rL⟩ := id F.ns
    obtain ⟨n, hpl⟩ := hpl
    obtain ⟨ks, hS, hl⟩ := paired_strs (fun _ _ h => h) hF
    refine ret D' ys.toList ks n h' tk hS ?_ ⟨ns_keep F.ns up, fun b ob e => up _ _ (F.keep b ob e), F.above⟩ ?_ (fun p hp => fresh _ _ (N p hp).1)
    · rw [show ks.isEmpty = (vs.filter offQ).isEmpty from by cases ks <;> cases h : vs.filter offQ <;> simp_all]
      exact places_all hlen hP
    · intro p hp
      rcases List.mem_cons.mp hp with rfl | hp
      · refine ⟨by simpa using hpl, (fresh _ _ hL).symm, ?_⟩
        cases e : g.get? D' with
        | none => rfl
        | some ob => exact absurd rfl (fresh _ _ (F.keep _ _ e))
      · exact ⟨up _ _ (N p hp).1, (N p hp).2⟩
end Mine
end
section
open PySem PySem.W PyProof.Rows PySem.Calls PyProof.V PySem.Spec
namespace Mine
theorem fresh_P24 : True := by
  w_top off
  k_with_none
  trivial
local macro_rules | `(tactic| k_all) => `(tactic| assumption)

def clearQ (y : Str) : Bool := y.cps.toList.all fun c => hasS (Str.ofString "qtcx") ⟨#[c]⟩
def goW (x : Str) : Bool := clearQ (if inL [Str.ofString "p", Str.ofString "k"] (Txt.slice (Txt.slice x (some 1) none) (some (-1)) none) = true then Txt.slice (Txt.slice x (some 1) none) none (some (-1)) else Txt.slice x (some 1) none)
theorem goA {x : Str} (h : inL [Str.ofString "p", Str.ofString "k"] (Txt.slice (Txt.slice x (some 1) none) (some (-1)) none) = true) : clearQ (Txt.slice (Txt.slice x (some 1) none) none (some (-1))) = goW x := by unfold goW; rw [if_pos h]
theorem goB {x : Str} (h : inL [Str.ofString "p", Str.ofString "k"] (Txt.slice (Txt.slice x (some 1) none) (some (-1)) none) = false) : clearQ (Txt.slice x (some 1) none) = goW x := by unfold goW; rw [h]; rfl
set_option maxRecDepth 100000 in
set_option maxHeartbeats 2000000 in
theorem go_spec {w : World} {mean : ExcName → Option Value} {mg mb : Str → Option Value} {dp un : Nat} {gd : Option (List Code)} {cn : Str} {cs : Scope} {a : Addr} {ccd : Value} {cl : List (Str × Addr)} {outer : List Env} {A₀ : Around} {base h₀ : Heap} {L : Addr} {m : Str → Option Value} {s : Shared} {Q E : Value → Shared → Prop}
    (B : Below A₀ base outer h₀) (F : Fr h₀ L s.heap m) (X : (hd.heap_39 w.params).In h₀) (T : Top hd.view_39 (looseW hd.view_39 []) mean mg mb h₀) (hk : cs.kind = .function)
    {x : Str} {tx : Tok} (hx : 1 ≤ x.length) (hx2 : x.length ≤ 2000)
    (hd : dp < 880) (hu : un < 8800)
    (ret : ∀ (h' : Heap) (tk' : Nat), Fr h₀ L h' m → (∀ b o, s.heap.get? b = some o → h'.get? b = some o) → Q (.bool (goW x)) { s with heap := h', toks := tk' }) :
    wpAny (model Challenge.rw_og0162_01.row.prog w) (ktrTop dp un gd cn cs L a ccd cl outer) (call (.ref 162) [.str x tx]) Q E s := by
  k_with_none
  k_with "eval Constant str" => (refine const_str_gen ?_; intro z_t' z_tk'; (try dsimp only))
  k_with "eval ListComp" => refine stop_here ?_
  k_with "newList" => (k_here; (with_reducible show wpAny _ _ (newList []) _ _ _); k_dflt (refine' newList_K ?y_k1 ?y_k2 ?_ (Nat.zero_le _); (case y_k1 => k_asm); (case y_k2 => k_asm); k_whole); intro z_l' z_h' z_F' z_N' z_l1; (try k_lt z_l1); (try k_sweep))
  k_with "compareOp In str ref" => (k_here; (with_reducible show wpAny _ _ (compareOp CmpOp.In (Value.str _ _) (Value.ref _)) _ _ _); k_dflt (refine' in_L ?y_l ?y_k ?_; (case y_k => assumption); (case y_l => is_list); k_whole))
  k_with "compareOp Eq ref ref" => (k_here; (with_reducible show wpAny _ _ (compareOp CmpOp.Eq (Value.ref _) (Value.ref _)) _ _ _); k_dflt (refine' eqnil_L ?y_l ?y_b ?y_k ?y_u ?_; (case y_k => assumption); (case y_l => is_list); (case y_b => is_list); (case y_u => ke_room); k_whole))
  k_with "subscriptTail" => (k_here; (with_reducible show wpAny _ _ (subscriptTail _ _ (Value.ref _) (Value.int _ _)) _ _ _); k_dflt (refine' neg_L ?y_l ?y_k ?y_n ?_ ?y_e; (case y_k => assumption); (case y_n => assumption); (case y_l => is_list); (case y_e => with_unfolding_all rfl); k_whole); intro z_y' z_t' z_hy')
  k_with "call builtin:list.pop" => (k_here; (with_reducible show wpAny _ _ (call (Value.builtin _) [Value.ref _]) _ _ _); k_dflt (refine' pop_L ?y_F ?y_N ?y_U ?y_k ?y_n ?y_z ?_; (case y_k => assumption); (case y_n => assumption); (case y_F => k_asm); (case y_N => k_asm); (case y_U => k_upd); (case y_z => omega); k_whole); intro z_h' z_v' z_F' z_N' z_hS'; (try k_sweep))
  have N : News h₀ L s.heap [] := News.nil
  revert X; k_fill; intro X
  refine wpAny_call ?_
  k_dflt (refine' code_defG ?k1 ?k2 ?k3 ?k4 ?k5 ?kA ?kF ?kK ?k6 ?k7 ?k8 ?k9 ?kB ?_ ?c2 ?c3 ?c4 ?c5; (case kA => exact rfl); (case kF => exact rfl); (case kK => assumption); (case k1 => k_asm); (case k2 => k_asm); (case k3 => k_asm); (case k4 => k_asm); (case k5 => k_asm); (case k6 => k_is); (case k7 => k_is); (case k8 => ktr_room); (case k9 => exact BindsTo.of_eq rfl); (case c5 => decide); (case kB => exact locs rfl); (case c2 => exact rfl); (case c3 => exact rfl); (case c4 => exact rfl))
  k_whole
  intro g' L' h₁ FG' F' N' B' X' T' kG'
  (try dsimp only)
  (try k_fold)
  k_steps
  · skip
    refine Stop.go ?_
    (rename Fr g' L' _ _ => F1); (rename News g' L' _ _ => N1)
    (with_reducible refine' go_comp ?clos ?hcell ?hkind ?hnames ?hx ?ch ?hek ?hel ?hm ?hk1 ?hk3 ?kF ?kN ?hy ?kret)
    case ch => with_unfolding_all rfl
    case clos => with_unfolding_all rfl
    case hcell => decide
    case hkind => with_unfolding_all rfl
    case hnames => decide
    case hx => with_unfolding_all rfl
    case hek => with_unfolding_all rfl
    case hel => with_unfolding_all rfl
    case hk1 => intro C; with_unfolding_all rfl
    case hk3 => with_unfolding_all rfl
    case kF => with_unfolding_all exact F1
    case kN => with_unfolding_all exact N1
    case hm => with_unfolding_all rfl
    case hy => (have hx3 : x.cps.size ≤ 2000 := hx2); (simp only [Str.length] at *); omega
    case kret =>
      intro D' vs ks n h2 tk2 hS hE F2 N2 hne2
      clear F1 N1
      k_steps
      refine cast (congrArg (fun b => Q (.bool b) _) ?_) (ret _ _ (by assumption) (fun b o e => Fr.keep (h₀ := g') (L := L') (by assumption) b o (kG' b o e (by simp))))
      exact (hE.trans (goA (by assumption))).symm
  · skip
    refine Stop.go ?_
    (rename Fr g' L' _ _ => F1); (rename News g' L' _ _ => N1)
    (with_reducible refine' go_comp ?clos ?hcell ?hkind ?hnames ?hx ?ch ?hek ?hel ?hm ?hk1 ?hk3 ?kF ?kN ?hy ?kret)
    case ch => with_unfolding_all rfl
    case clos => with_unfolding_all rfl
    case hcell => decide
    case hkind => with_unfolding_all rfl
    case hnames => decide
    case hx => with_unfolding_all rfl
    case hek => with_unfolding_all rfl
    case hel => with_unfolding_all rfl
    case hk1 => intro C; with_unfolding_all rfl
    case hk3 => with_unfolding_all rfl
    case kF => with_unfolding_all exact F1
    case kN => with_unfolding_all exact N1
    case hm => with_unfolding_all rfl
    case hy => (have hx3 : x.cps.size ≤ 2000 := hx2); (simp only [Str.length] at *); omega
    case kret =>
      intro D' vs ks n h2 tk2 hS hE F2 N2 hne2
      clear F1 N1
      k_steps
      refine cast (congrArg (fun b => Q (.bool b) _) ?_) (ret _ _ (by assumption) (fun b o e => Fr.keep (h₀ := g') (L := L') (by assumption) b o (kG' b o e (by simp))))
      exact (hE.trans (goB (by assumption))).symm
end Mine
end
section
open PySem PySem.W PyProof.Rows PySem.Calls PyProof.V PySem.Spec
namespace Mine

open PySem.StrLaws
theorem hasS_one (y : Str) (c : Nat) : hasS y ⟨#[c]⟩ = decide (c ∈ y.cps.toList) := found_one y c
theorem hasS_two (l : List Nat) (a b : Nat) : hasS ⟨l.toArray⟩ ⟨#[a, b]⟩ = true ↔ ∃ u v, l = u ++ a :: b :: v := by
  unfold hasS
  rw [found_iff]
  constructor
  · rintro ⟨i, hi, hs⟩
    have := subAt_eq ⟨l.toArray⟩ ⟨#[a, b]⟩ i
    rw [hs] at this
    have e : (l.drop i).take 2 = [a, b] := by simpa [Str.length] using (eq_of_beq this.symm)
    refine ⟨l.take i, l.drop (i + 2), ?_⟩
    have e2 : l.drop i = [a, b] ++ l.drop (i + 2) := by
      rw [← e, ← List.drop_drop]; exact (List.take_append_drop 2 (l.drop i)).symm
    have := (List.take_append_drop i l).symm
    rw [e2] at this
    simpa using this
  · rintro ⟨u, v, rfl⟩
    refine ⟨u.length, by simp [Str.length], ?_⟩
    rw [subAt_eq]
    simp [Str.length]
end Mine
end
section
open PySem PySem.W PyProof.Rows PySem.Calls PyProof.V PySem.Spec
namespace Mine

open PySem.StrLaws PySem.Builtin PySem.Builtin.Str
theorem occ_none_run (s sub : Str) (hi limit : Nat) : ∀ (l : List Nat) (st : Array Nat × Nat), (∀ i ∈ l, subAt s sub i = false ∨ hi < i + sub.length) → (forIn l st (occBody s sub hi limit)).run = st
  | [], st, h => rfl
  | a :: l, st, h => by
    rw [List.forIn_cons]
    unfold occBody
    rw [if_neg (by
      rintro ⟨⟨_, h1⟩, h2⟩
      rcases h a (.head _) with h3 | h3
      · rw [h2] at h3; cases h3
      · omega)]
    exact occ_none_run s sub hi limit l st (fun i hi' => h i (.tail _ hi'))
theorem occ_skip (s sub : Str) (hi limit : Nat) (l2 : List Nat) : ∀ (l : List Nat) (st : Array Nat × Nat), (∀ i ∈ l, subAt s sub i = false ∨ hi < i + sub.length) → (forIn (l ++ l2) st (occBody s sub hi limit)).run = (forIn l2 st (occBody s sub hi limit)).run
  | [], st, h => rfl
  | a :: l, st, h => by
    rw [List.cons_append, List.forIn_cons]
    unfold occBody
    rw [if_neg (by
      rintro ⟨⟨_, h1⟩, h2⟩
      rcases h a (.head _) with h3 | h3
      · rw [h2] at h3; cases h3
      · omega)]
    exact occ_skip s sub hi limit l2 l st (fun i hi' => h i (.tail _ hi'))
theorem occ_single (s sub : Str) (hi limit i0 : Nat) (hl : 0 < limit) (h0 : subAt s sub i0 = true) (hb : i0 + sub.length ≤ hi) (hother : ∀ i, i ≠ i0 → subAt s sub i = false ∨ hi < i + sub.length) : occurrences s sub 0 hi limit = [i0] := by
  rw [occ_eq]
  have hr : List.range' 0 (hi + 1 - 0) = List.range' 0 i0 ++ i0 :: List.range' (i0 + 1) (hi - i0) := by
    have e : hi + 1 - 0 = i0 + (1 + (hi - i0)) := by omega
    rw [e, ← List.range'_append_1 (s := 0), Nat.zero_add, Nat.add_comm 1, List.range'_succ]
  rw [hr, occ_skip s sub hi limit _ (List.range' 0 i0) (#[], 0) (fun i him => hother i (by simp [List.mem_range'_1] at him; omega)), List.forIn_cons]
  have h2 : occBody s sub hi limit i0 (#[], 0) = pure (ForInStep.yield (#[i0], i0 + sub.length)) := by
    unfold occBody
    rw [if_pos ⟨⟨⟨by simpa using hl, Nat.zero_le _⟩, hb⟩, h0⟩]
    rfl
  rw [h2]
  have h3 := occ_none_run s sub hi limit (List.range' (i0 + 1) (hi - i0)) (#[i0], i0 + sub.length) (fun i him => hother i (by simp [List.mem_range'_1] at him; omega))
  change ((forIn (List.range' (i0 + 1) (hi - i0)) (#[i0], i0 + sub.length) (occBody s sub hi limit)) : Id _).run.fst.toList = _
  rw [h3]
end Mine
end
section
open PySem PySem.W PyProof.Rows PySem.Calls PyProof.V PySem.Spec
namespace Mine

section
variable {prog : Program} {w : World} {A₀ A : Around} {s : Shared} {base h₀ : Heap} {outer : List Env} {L : Addr} {m : Str → Option Value} {env : Env} {news : List (Addr × Obj)}
theorem code_defCT {K : Frag} {p : Program} {loose : List Str} {mean : ExcName → Option Value} {mg mb : Str → Option Value} {R : Result → Shared → Prop} {name qual : Str} {params : Arguments} {body : List Stmt} {scope : Scope} {dV kV doc pm cdv ct oc : Value} {an od : Option Addr} {osl : Array (Option Value)} {f : Addr} {args : Args} {binds : List (Str × Value)}
    (B : Below A₀ base outer h₀) (F : Fr h₀ L s.heap m) (X₀ : K.In h₀) (N : News h₀ L s.heap news) (T : Top p loose mean mg mb h₀) (hA : A.frames = some (env :: outer)) (hf : env.frame = some L) (hke : env.scope.kind = .function)
    (ho : K.lookup f = some ⟨oc, od, .func (fnOf name qual params body scope dV kV doc pm an cdv ct), osl⟩) (hcd : codeIn K cdv qual = true) (hroom : A.depth < recursionLimit)
    (hbind : BindsTo s (fnOf name qual params body scope dV kV doc pm an cdv ct) args binds) (hkind : (binds.all fun y => scope.names.lookup y.1 == some .local || scope.names.lookup y.1 == some .cell) = true)
    (htok : 0 < s.toks) (hnd : ((cellsFrom 0 scope.names []).map (·.1)).Nodup)
    (h : ∀ g L' h₁ tk cells, Fr h₀ L g m → Fr g L' h₁ (bindL (envOfC qual scope L' f cdv).kindOf binds fun _ => none) → News g L' h₁ (cells ++ news) →
      CellsAre (bindC (envOfC qual scope L' f cdv).kindOf binds fun _ => none) (cellsFrom (L' + 1) scope.names []) cells → Below A base (env :: outer) g → K.In g → Top p loose mean mg mb g → (∀ q ∈ news, q.1 < L') → 0 < tk → GSub s.heap g (news.map (·.1)) →
      wpAny (model prog w) (A.deeper (envOfC qual scope L' f cdv)) (execs body (envOfC qual scope L' f cdv))
        (fun fl s' => LeaveK h₀ L m g R (match fl with | .ret v => v | _ => .none) s')
        (fun e s' => wpAny (model prog w) (A.deeper (envOfC qual scope L' f cdv)) (leaving (envOfC qual scope L' f cdv) e) (fun _ s'' => R (.error e) s'') (fun e' s'' => R (.error e') s'') s')
        { s with heap := h₁, toks := tk })
    (hco : scope.isCoroutine = false) (hgen : scope.isGenerator = false) (hk : scope.kind = .function) : codeAny (model prog w) A (.call (.ref f) args) R s := by
  obtain ⟨FG, BG, st, lv⟩ := groundX (R := R) B F N hA hf hke
  refine codeAny_call_function (fd := fnX name qual params body scope [] dV kV doc pm an cdv ct) hroom ((X₀.keeps F.keep) _ _ ho) rfl hco hgen rfl (codeRec_of (X₀.keeps F.keep) hcd) (hbind _ _ _ _ ?_)
  refine wpAny_with_toks (Nat.le_refl _) (wpAny_newFunctionEnv_cells hk (kindsX hkind _) fun env' he s' x htk => ?_)
  subst he
  refine ⟨(T.nolimit.keeps F.keep).keeps x.toInCall.keep, codeAny_func ?_⟩
  obtain ⟨h₁, tk, rfl, _⟩ := x.done
  have hk₁ := x.toInCall.keep
  obtain ⟨cells, NC, Y⟩ := Cl.news (h₀ := s.heap) (Nat.le_refl _) fun n c hm => ⟨x.cell n c (lookup_of_mem_nodup (cellsFrom_names scope.names 0 (s.heap.objs.size + 1) [] [] rfl ▸ hnd) hm), x.above n c hm⟩
  refine wpAny_mono (h _ s.heap.objs.size h₁ tk cells FG ⟨x.toInCall.ns, fun b o e => hk₁ b o (of_hideAll _ e), Nat.le_of_eq (hideAll_size _ _)⟩ (fun q hq => ?_) Y BG (X₀.keeps st) (T.keeps st) (fun q hq => Heap.lt_size (N q hq).1) (Nat.lt_of_lt_of_le htok htk) (fun b o e n => hideAll_get _ e n)) (fun fl s' hl => lv _ _ hl) fun _ _ y => y
  rcases List.mem_append.mp hq with hq | hq
  · refine ⟨(NC q hq).1, (NC q hq).2.1, ?_⟩
    cases e : (hideAll s.heap (news.map (·.1))).get? q.1 with
    | none => rfl
    | some o => have := of_hideAll _ e; rw [(NC q hq).2.2] at this; cases this
  · exact ⟨hk₁ _ _ (N q hq).1, Nat.ne_of_lt (Heap.lt_size (N q hq).1), hideAll_none _ (List.mem_map_of_mem hq)⟩
end

theorem const_str_lb {M : Model} {A : Around} {E : Value → Shared → Prop} {s : Shared} {env : Env} {x : Str} {k : Nat} {pos : Pos} {Q : Value → Shared → Prop} (h : ∀ t tk', s.toks ≤ t → t < tk' → Q (.str x t) { s with toks := tk' }) : wpAny M A (eval (.Constant (.str x) k pos) env) Q E s :=
  Calls.Constant_str (h _ _ (Nat.le_refl _) (Nat.lt_succ_self _))
end Mine
end
section
open PySem PySem.W PyProof.Rows PySem.Calls PyProof.V PySem.Spec
namespace Mine
theorem fresh_P41 : True := by
  w_top off
  k_with_none
  trivial
open PySem.Builtin PySem.Builtin.Str

theorem add_tok {prog : Program} {w : World} {A : Around} {E : Value → Shared → Prop} {s : Shared} {x y : Str} {t u : Tok} {Q : Value → Shared → Prop} (hx : x.length ≠ 0) (hy : y.length ≠ 0) (hz : x.length + y.length ≤ 1000)
    (h : Q (.str (x ++ y) s.toks) { s with toks := s.toks + 1 }) : wpAny (model prog w) A (binaryOp .Add (.str x t) (.str y u)) Q E s := by
  refine P.add_str ?_
  rw [if_neg (by simpa using hx), if_neg (by simpa using hy)]
  refine ⟨?_, h⟩
  have : (x ++ y).length = x.length + y.length := by show (x ++ y).cps.size = _; rw [Str.cps_append, Array.size_append]; rfl
  rw [this, sizeLine_eq]; omega
def pairS (c : Nat) : Str × Str := (⟨#[c]⟩ ++ Str.ofString "o", ⟨#[c]⟩)
section
theorem elt_pair {prog : Program} {w : World} {A : Around} {E : Value → Shared → Prop} {s : Shared} {env : Env} {m : Str → Option Value} {c u : Nat} {p1 p2 p3 p4 p5 : Pos} {Q : Value → Shared → Prop}
    (hk : env.scope.kind = .function) (hl : env.kindOf (Str.ofString "sign") = some .local) (hn : s.heap.Ns env.locals m) (hm : m (Str.ofString "sign") = some (.str ⟨#[c]⟩ u)) (hu : u < s.toks)
    (h : ∀ t tk', u < t → t < tk' → Q (.ref s.heap.objs.size) { s with heap := s.heap.push (tupO #[.str (pairS c).1 t, .str (pairS c).2 u] 0), toks := tk' }) :
    wpAny (model prog w) A (eval (.Tuple [.BinOp (.Name (Str.ofString "sign") p1) .Add (.Constant (.str (Str.ofString "o")) 0 p2) p3, .Name (Str.ofString "sign") p4] 0 p5) env) Q E s := by
  k_with_none
  k_with "newTuple" => refine wpAny_newTuple ?_ (Nat.le_trans (show 2 ≤ 6 by decide) (by rw [sizeLine_eq]; omega))
  k_with "eval Name" => (refine name_l (by assumption) (by assumption) (by assumption) (by assumption) rfl (fun b o e => e) ?_)
  k_with "binaryOp Add str str" => (refine add_tok (fun e => Nat.noConfusion e) (fun e => Nat.noConfusion e) (Nat.le_of_ble_eq_true rfl) ?_)
  k_with "eval Constant str" => (refine const_str_lb ?_; intro z_t' z_tk' z_tl1' z_tl2'; (try dsimp only at z_tl1'); (try dsimp only))
  k_steps
  exact h _ _ (by (try dsimp only at *); omega) (by (try dsimp only at *); omega)
end

def PairMem (nw : List (Addr × Obj)) (v : Value) (p : Str × Str) : Prop := ∃ a t u n, v = .ref a ∧ (a, tupO #[.str p.1 t, .str p.2 u] n) ∈ nw ∧ t ≠ 0 ∧ u ≠ 0 ∧ t ≠ u
inductive PairsIn (nw : List (Addr × Obj)) : List Value → List (Str × Str) → Prop
  | nil : PairsIn nw [] []
  | cons {v : Value} {p : Str × Str} {vs : List Value} {ps : List (Str × Str)} : PairMem nw v p → PairsIn nw vs ps → PairsIn nw (v :: vs) (p :: ps)
theorem PairMem.mono {nw nw' : List (Addr × Obj)} {v : Value} {p : Str × Str} (h : PairMem nw v p) (hs : ∀ q ∈ nw, q ∈ nw') : PairMem nw' v p :=
  let ⟨a, t, u, n, e, hm, r⟩ := h; ⟨a, t, u, n, e, hs _ hm, r⟩
theorem PairsIn.mono {nw nw' : List (Addr × Obj)} {vs : List Value} {ps : List (Str × Str)} (h : PairsIn nw vs ps) (hs : ∀ q ∈ nw, q ∈ nw') : PairsIn nw' vs ps := by
  induction h with
  | nil => exact .nil
  | cons h _ ih => exact .cons (h.mono hs) ih
theorem PairsIn.append {nw : List (Addr × Obj)} {vs vs' : List Value} {ps ps' : List (Str × Str)} (h : PairsIn nw vs ps) (h' : PairsIn nw vs' ps') : PairsIn nw (vs ++ vs') (ps ++ ps') := by
  induction h with
  | nil => exact h'
  | cons h _ ih => exact .cons h ih
theorem PairsIn.len {nw : List (Addr × Obj)} {vs : List Value} {ps : List (Str × Str)} (h : PairsIn nw vs ps) : vs.length = ps.length := by
  induction h with
  | nil => rfl
  | cons _ _ ih => simp [ih]
set_option maxRecDepth 100000 in
theorem comp_pairs {prog : Program} {w : World} {A : Around} {E : Value → Shared → Prop} {s : Shared} {env : Env} {g : Heap} {m : Str → Option Value} {ns : List (Addr × Obj)} {y : Str} {scope : Scope} {p1 p2 p3 p4 p5 p6 p7 pos : Pos} {Q : Value → Shared → Prop}
    (ha : y.cps.all (· < 128) = true) (hsz : y.cps.size ≤ 100)
    (hh : A.handled = none) (hclos : closureFor scope env = pure []) (hcell : ∀ y ∈ scope.names, y.2 ≠ .cell) (hkind : scope.kind = .function) (hnames : ∀ y ∈ scope.names, y.2 = .local → scope.names.lookup y.1 = some .local) (hx : scope.names.lookup (Str.ofString "sign") = some .local)
    (F : Fr g env.locals s.heap m) (N : News g env.locals s.heap ns)
    (ret : ∀ (D' : Addr) vs n nw h' tk', PairsIn nw vs (y.cps.toList.map pairS) → Fr g env.locals h' m → News g env.locals h' ((D', listOf vs.toArray n) :: (nw ++ ns)) → (∀ p ∈ ns, p.1 < D') → (∀ q ∈ nw, D' < q.1) → Q (.ref D') { s with heap := h', toks := tk' }) :
    wpAny (model prog w) A (eval (.ListComp (.Tuple [.BinOp (.Name (Str.ofString "sign") p1) .Add (.Constant (.str (Str.ofString "o")) 0 p2) p3, .Name (Str.ofString "sign") p4] 0 p5) [⟨.Name (Str.ofString "sign") p6, .Constant (.str y) 0 p7, [], 0⟩] scope pos) env) Q E s := by
  rw [eval_ListComp]
  refine wpAny_comprehension_free (use := none) rfl (by intro _; rfl) hclos hkind hnames ?_
  refine Calls.Constant_str (x := y) (k := 0) (pos := p7) ?_
  refine wpAny_pyIter_ascii ha ?_
  dsimp only
  generalize hH1 : s.heap.push { cls := .type "str_ascii_iterator", data := .fields #[.str y s.toks, .int 0 0] } = H1
  have hI : H1.objs.size = s.heap.objs.size + 1 := by rw [← hH1, Heap.size_push]
  refine wpAny_newObj_type (wpAny_newFunctionEnv hcell (by intro y hy; simp at hy) (fun h₁ hns₁ hsb₁ => ?_) hkind)
  dsimp only at hns₁ hsb₁ ⊢
  generalize hH2 : H1.push { cls := .type "list", dict := none, data := .seq ([] : List Value).toArray } = H2 at hns₁ hsb₁ ⊢
  have hC : H2.objs.size = H1.objs.size + 1 := by rw [← hH2, Heap.size_push]
  have below : ∀ b, b < s.heap.objs.size → b ≠ H2.objs.size := fun b hb => Nat.ne_of_lt (by rw [hC, hI]; omega)
  have up1 : ∀ b o, s.heap.get? b = some o → H1.get? b = some o := fun b o e => by rw [← hH1]; exact Heap.get?_push_of_some _ e
  have up2 : ∀ b o, H1.get? b = some o → H2.get? b = some o := fun b o e => by rw [← hH2]; exact Heap.get?_push_of_some _ e
  have at1 : H1.get? s.heap.objs.size = some { cls := .type "str_ascii_iterator", data := .fields #[.str y s.toks, .int 0 0] } := by rw [← hH1]; exact Heap.get?_push_size _ rfl
  have at2 : H2.get? H1.objs.size = some { cls := .type "list", dict := none, data := .seq ([] : List Value).toArray } := by rw [← hH2]; exact Heap.get?_push_size _ rfl
  have old : ∀ b o, s.heap.get? b = some o → h₁.get? b = some o := fun b o e => hsb₁.extBut b o (below b (Heap.lt_size e)) (Heap.get?_push_of_some _ (up2 _ _ (up1 _ _ e)))
  have hit₁ : h₁.IsStrIter s.heap.objs.size "str_ascii_iterator" y s.toks 0 := ⟨_, hsb₁.extBut _ _ (Nat.ne_of_lt (by rw [hC, hI]; omega)) (Heap.get?_push_of_some _ (up2 _ _ at1)), rfl, rfl⟩
  have hacc₁ : h₁.PlainList H1.objs.size #[] := ⟨_, hsb₁.extBut _ _ (Nat.ne_of_lt (by rw [hC]; omega)) (Heap.get?_push_of_some _ at2)⟩
  clear hH1 hH2 hsb₁ below up1 up2 at1 at2
  obtain ⟨I, hIe⟩ : ∃ I, I = s.heap.objs.size := ⟨_, rfl⟩
  obtain ⟨D, hDe⟩ : ∃ D, D = H1.objs.size := ⟨_, rfl⟩
  obtain ⟨C, hCe⟩ : ∃ C, C = H2.objs.size := ⟨_, rfl⟩
  rw [← hIe] at hI hit₁ ⊢
  rw [← hDe] at hI hC hacc₁ ⊢
  rw [← hCe] at hC hns₁ ⊢
  have key : ∀ s₃ : Shared, s₃ = { s with heap := h₁, toks := s.toks + 1 + ([] : List (Str × Value)).length } →
      codeAny (model prog w) A (.compLoop (.ListComp (.Tuple [.BinOp (.Name (Str.ofString "sign") p1) .Add (.Constant (.str (Str.ofString "o")) 0 p2) p3, .Name (Str.ofString "sign") p4] 0 p5) [⟨.Name (Str.ofString "sign") p6, .Constant (.str y) 0 p7, [], 0⟩] scope pos) 0 (.ref I) (.ref D) (compEnvC scope [] C env))
        (compPost (model prog w) A E none Q (.ref D) C) s₃ := by
    rintro s₃ rfl
    refine codeAny_compLoop_tests
      (fun k s' => ∃ h' tk m' ys nw, s' = { s with heap := h', toks := tk } ∧ ys.length ≤ y.cps.size ∧ k = y.cps.size + 1 - ys.length ∧ h'.IsStrIter I "str_ascii_iterator" y s.toks ys.length ∧ h'.PlainList D ys.toArray ∧ h'.Ns C m' ∧
        PairsIn nw ys ((y.cps.toList.take ys.length).map pairS) ∧ (∀ q ∈ nw, h'.get? q.1 = some q.2 ∧ C < q.1) ∧ (∀ b o, s.heap.get? b = some o → h'.get? b = some o) ∧ 0 < tk) ?_ (y.cps.size + 1)
      ⟨h₁, _, _, [], [], rfl, Nat.zero_le _, rfl, hit₁, hacc₁, hns₁, .nil, fun q hq => (nomatch hq), old, Nat.succ_pos _⟩
    rintro k s' ⟨h', tk, m', ys, nw, rfl, hi, rfl, hit', hacc', hn', hP, hnw, hk, htk⟩
    by_cases hlt : ys.length < y.cps.size
    · have hc : y.cps[ys.length]? = some y.cps[ys.length] := Array.getElem?_eq_getElem hlt
      refine wpAny_pyNext_ascii_item hit' hc fun h₂ hit₂ hs₂ => ?_
      refine wpAny_assign_Name (wpAny_storeName_local (lookup_relabel_local hx) (hn'.sameBut hs₂ (show C ≠ I by omega)) (fun h₃ hn₃ hs₃ => ?_) (by simp [compEnvC, relabel, hkind]))
      refine wpAny_tests_nil ?_
      simp only [if_true]
      refine elt_pair (by simp [compEnvC, relabel, hkind]) (lookup_relabel_local hx) hn₃ (if_pos rfl) (by show tk < tk + 1 + 1; omega) (fun t tk₄ ht1 ht2 => ?_)
      dsimp only at ht1 ⊢
      have hCC : (compEnvC scope [] C env).locals = C := rfl
      have up3 : ∀ b o, b ≠ I → b ≠ C → h'.get? b = some o → h₃.get? b = some o := fun b o h1 h2 e => hs₃.extBut b o h2 (hs₂.extBut b o h1 e)
      obtain ⟨nD, hD⟩ := id hacc'
      have hD3 := up3 _ _ (show D ≠ I by omega) (show D ≠ C by omega) hD
      obtain ⟨oC, _, _, hoC, _⟩ := id hn₃
      have hCs : C < h₃.objs.size := Heap.lt_size hoC
      refine wpAny_list_append_plain (hsz := by rw [List.size_toArray, sizeLine_eq]; omega) (items := ys.toArray) ⟨nD, Heap.get?_push_of_some _ hD3⟩ fun h₅ hl₅ hs₅ => ?_
      have up5 : ∀ b o, b ≠ D → h₃.get? b = some o → h₅.get? b = some o := fun b o h1 e => hs₅.extBut b o h1 (Heap.get?_push_of_some _ e)
      have hit3 : h₃.IsStrIter I "str_ascii_iterator" y s.toks (ys.length + 1) := hit₂.extBut hs₃.extBut (show I ≠ C by omega)
      refine ⟨y.cps.size + 1 - (ys.length + 1), by omega, h₅, tk₄, _, ys ++ [.ref h₃.objs.size], nw ++ [(h₃.objs.size, tupO #[.str (pairS y.cps[ys.length]).1 t, .str (pairS y.cps[ys.length]).2 tk] 0)], rfl, by rw [List.length_append, List.length_singleton]; omega, by rw [List.length_append, List.length_singleton], ?_, by rw [List.push_toArray] at hl₅; exact hl₅, (hn₃.at' fun o e => up5 _ o (show C ≠ D by omega) e), ?_, ?_, fun b o e => ?_, by omega⟩
      · obtain ⟨oI, e1, e2, e3⟩ := hit3
        exact ⟨oI, up5 _ _ (show I ≠ D by omega) e1, e2, by rw [List.length_append, List.length_singleton]; exact e3⟩
      · have e1 : (y.cps.toList.take (ys ++ [Value.ref h₃.objs.size]).length).map pairS = (y.cps.toList.take ys.length).map pairS ++ [pairS y.cps[ys.length]] := by
          rw [List.length_append, List.length_singleton, List.take_add_one, List.map_append]
          have : y.cps.toList[ys.length]? = some y.cps[ys.length] := by simp [hlt]
          rw [this]; rfl
        rw [e1]
        exact (hP.mono fun q hq => List.mem_append.mpr (.inl hq)).append (.cons ⟨_, t, tk, 0, rfl, List.mem_append.mpr (.inr (.head _)), Nat.ne_of_gt (by omega), Nat.ne_of_gt (by omega), Nat.ne_of_gt (by omega)⟩ .nil)
      · intro q hq
        rcases List.mem_append.mp hq with hq | hq
        · exact ⟨up5 _ _ (Nat.ne_of_gt (by have := (hnw q hq).2; omega)) (up3 _ _ (Nat.ne_of_gt (by have := (hnw q hq).2; omega)) (Nat.ne_of_gt (by have := (hnw q hq).2; omega)) (hnw q hq).1), (hnw q hq).2⟩
        · rw [List.mem_singleton.mp hq]
          exact ⟨hs₅.extBut _ _ (show h₃.objs.size ≠ D by omega) (Heap.get?_push_size _ rfl), hCs⟩
      · have hb : @LT.lt Nat _ b s.heap.objs.size := Heap.lt_size e
        exact up5 _ _ (Nat.ne_of_lt (by omega)) (up3 _ _ (Nat.ne_of_lt (by omega)) (Nat.ne_of_lt (by omega)) (hk b o e))
    · have hin : ys.length = y.cps.size := by omega
      refine wpAny_pyNext_ascii_end hh hit' (by rw [hin]; simp) fun h₂ he₂ => ?_
      obtain ⟨nD, hD⟩ := id hacc'
      refine ⟨m', hn'.at' fun o e => he₂ _ o (show C ≠ I by omega) e, fun h₃ hs₃ => ?_⟩
      have up : ∀ b o, b ≠ I → b ≠ C → h'.get? b = some o → h₃.get? b = some o := fun b o h1 h2 e => hs₃.extBut b o h2 (he₂ b o h1 e)
      have upS : ∀ b o, s.heap.get? b = some o → h₃.get? b = some o := fun b o e => by have hb : @LT.lt Nat _ b s.heap.objs.size := Heap.lt_size e; exact up b o (Nat.ne_of_lt (by omega)) (Nat.ne_of_lt (by omega)) (hk b o e)
      have hLlt : @LT.lt Nat _ env.locals I := by have hb : @LT.lt Nat _ env.locals s.heap.objs.size := F.ns.lt; omega
      have fresh : ∀ b, @LE.le Nat _ I b → g.get? b = none := fun b hb => by
        cases e : g.get? b with
        | none => rfl
        | some o => have hb2 : @LT.lt Nat _ b s.heap.objs.size := Heap.lt_size (F.keep b o e); omega
      rw [hin, show y.cps.size = y.cps.toList.length by simp, List.take_length] at hP
      refine ret D ys nD nw h₃ tk hP ⟨ns_keep F.ns upS, fun b o e => upS _ _ (F.keep b o e), F.above⟩ (fun p hp => ?_) (fun p hp => ?_) (fun q hq => ?_)
      · rcases List.mem_cons.mp hp with rfl | hp
        · exact ⟨up _ _ (show D ≠ I by omega) (show D ≠ C by omega) hD, Nat.ne_of_gt (by omega), fresh _ (by omega)⟩
        · rcases List.mem_append.mp hp with hp | hp
          · have := (hnw p hp).2
            have hq : @LT.lt Nat _ C p.1 := this
            exact ⟨up _ _ (Nat.ne_of_gt (by omega)) (Nat.ne_of_gt (by omega)) (hnw p hp).1, Nat.ne_of_gt (by omega), fresh _ (by omega)⟩
          · exact ⟨upS _ _ (N p hp).1, (N p hp).2⟩
      · have hb : @LT.lt Nat _ p.1 s.heap.objs.size := Heap.lt_size (N p hp).1
        show @LT.lt Nat _ p.1 D
        omega
      · have hb : @LT.lt Nat _ C q.1 := (hnw q hq).2
        show @LT.lt Nat _ D q.1
        omega
  refine codeAny_compStart_list (key _ rfl) (wpAny_pyIter_striter_ascii hit₁ (key _ rfl))
end Mine
end
section
open PySem PySem.W PyProof.Rows PySem.Calls PyProof.V PySem.Spec
namespace Mine
theorem fresh_P42 : True := by
  w_top off
  k_with_none
  trivial

theorem pair_one {h₀ h : Heap} {L : Addr} {nw : List (Addr × Obj)} {v : Value} {p q : Str × Str} (N : News h₀ L h nw) (hp : PairMem nw v p) (hq : PairMem nw v q) : p = q := by
  obtain ⟨a, t, u, n, rfl, hm, _⟩ := hp
  obtain ⟨a', t', u', n', e, hm', _⟩ := hq
  injection e with e
  subst e
  have h1 := N.get hm
  have h2 := N.get hm'
  rw [h1] at h2
  injection h2 with h2
  injection h2 with _ _ h2
  injection h2 with h2
  simp at h2
  exact Prod.ext h2.1.1 h2.2.1
open Classical in
noncomputable def hitP (nw : List (Addr × Obj)) (y : Str) (v : Value) : Bool := decide (∃ p, PairMem nw v p ∧ hasS y p.1 = true)
theorem hitP_eq {h₀ h : Heap} {L : Addr} {nw : List (Addr × Obj)} {y : Str} {v : Value} {p : Str × Str} (N : News h₀ L h nw) (hp : PairMem nw v p) : hitP nw y v = hasS y p.1 := by
  unfold hitP
  classical
  cases e : hasS y p.1 with
  | true => exact (decide_eq_true_iff (p := ∃ p, PairMem nw v p ∧ hasS y p.1 = true)).mpr ⟨p, hp, e⟩
  | false =>
    refine decide_eq_false (p := ∃ p, PairMem nw v p ∧ hasS y p.1 = true) ?_
    rintro ⟨q, hq, e2⟩
    rw [pair_one N hq hp, e] at e2
    cases e2
theorem PairsIn.filter {h₀ h : Heap} {L : Addr} {nw : List (Addr × Obj)} {y : Str} {vs : List Value} {ps : List (Str × Str)} (N : News h₀ L h nw) (hp : PairsIn nw vs ps) : PairsIn nw (vs.filter (hitP nw y)) (ps.filter fun p => hasS y p.1) := by
  induction hp with
  | nil => exact .nil
  | cons h _ ih =>
    rw [List.filter_cons, List.filter_cons, hitP_eq N h]
    split
    · exact .cons h ih
    · exact ih
theorem PairsIn.get {nw : List (Addr × Obj)} {vs : List Value} {ps : List (Str × Str)} (h : PairsIn nw vs ps) : ∀ (i : Nat) (v : Value), vs[i]? = some v → ∃ p, PairMem nw v p := by
  induction h with
  | nil => intro i v e; simp at e
  | cons h _ ih =>
    intro i v e
    cases i with
    | zero => simp at e; exact ⟨_, e ▸ h⟩
    | succ i => exact ih i v (by simpa using e)
theorem paired_same {l ys : List Value} (h : Paired (fun v y => y = v) l ys) : ys = l := by
  induction h with
  | nil => rfl
  | cons e _ ih => rw [e, ih]
section
theorem pair_test {prog : Program} {w : World} {A : Around} {E : Value → Shared → Prop} {s : Shared} {env : Env} {m : Str → Option Value} {c a n : Nat} {o1 o2 y : Str} {t u ty : Tok} {p1 p2 p3 p4 p5 : Pos}
    (hk : env.scope.kind = .function) (hl : env.kindOf (Str.ofString "pair") = some .local) (hl2 : env.kindOf (Str.ofString "found") = some .cell) (hc : env.cells.lookup (Str.ofString "found") = some c)
    (hn : s.heap.Ns env.locals m) (hm : m (Str.ofString "pair") = some (.ref a)) (hv : s.heap.IsCell c (some (.str y ty))) (ha : s.heap.get? a = some (tupO #[.str o1 t, .str o2 u] n)) :
    wpAny (model prog w) A (forIn [PySem.Expr.Compare (.Subscript (.Name (Str.ofString "pair") p1) (.Constant (.int 0) 0 p2) p3) [.In] [.Name (Str.ofString "found") p4] p5] true fun c r => if r = true then do let ok ← isTrue c env (eval c env); pure (ForInStep.yield ok) else pure (ForInStep.yield r)) (fun ok s₄ => ok = hasS y o1 ∧ Keeps s s₄) E s := by
  k_with_none
  k_with "eval Name" => (refine name_l (by assumption) (by assumption) (by assumption) (by assumption) rfl (fun b o e => e) ?_)
  k_with "eval Name" => (refine name_c (by assumption) (by assumption) (by assumption) (by assumption) rfl (fun b o e => e) ?_)
  k_with "subscriptTail" => (refine item_tupleL (j := 0) (by assumption) (by decide) (by decide) rfl rfl ?_)
  have ht : IsTup s.heap a [Value.str o1 t, Value.str o2 u].toArray := ⟨_, ha, rfl, n, rfl⟩
  simp only [List.forIn_cons, if_true]
  refine wpAny_bind (wpAny_bind ?_)
  k_steps
  exact wpAny_pure (wpAny_pure ⟨rfl, _, _, rfl, fun _ _ e => e⟩)
end

set_option maxRecDepth 100000 in
theorem comp_filter {prog : Program} {w : World} {A : Around} {E : Value → Shared → Prop} {s : Shared} {env : Env} {g : Heap} {m : Str → Option Value} {ns : List (Addr × Obj)} {y : Str} {ty : Tok} {c lp : Addr} {co : Obj} {vs : List Value} {n : Nat} {ps : List (Str × Str)} {scope : Scope} {p1 p2 p3 p4 p5 p6 p7 p8 pos : Pos} {Q : Value → Shared → Prop}
    (hh : A.handled = none) (hclos : closureFor scope env = pure [(Str.ofString "found", c)]) (hcell : ∀ y ∈ scope.names, y.2 ≠ .cell) (hkind : scope.kind = .function) (hnames : ∀ y ∈ scope.names, y.2 = .local → scope.names.lookup y.1 = some .local) (hx : scope.names.lookup (Str.ofString "pair") = some .local)
    (hek : env.scope.kind = .function) (hel : env.kindOf (Str.ofString "pairs") = some .local) (hm : m (Str.ofString "pairs") = some (.ref lp))
    (hk1 : ∀ C, (compEnvC scope [(Str.ofString "found", c)] C env).kindOf (Str.ofString "pair") = some .local) (hk2 : ∀ C, (compEnvC scope [(Str.ofString "found", c)] C env).kindOf (Str.ofString "found") = some .cell) (hk3 : (relabel scope env).kind = .function)
    (F : Fr g env.locals s.heap m) (N : News g env.locals s.heap ns) (hc : (c, co) ∈ ns) (hco : co.data = .cell (some (.str y ty))) (hlp : (lp, listOf vs.toArray n) ∈ ns) {nw : List (Addr × Obj)} (hsub : ∀ q ∈ nw, q ∈ ns) (hps : PairsIn nw vs ps) (hlen : vs.length ≤ 1000)
    (ret : ∀ (D' : Addr) vs' n h' tk', PairsIn nw vs' (ps.filter fun p => hasS y p.1) → Fr g env.locals h' m → News g env.locals h' ((D', listOf vs'.toArray n) :: ns) → (∀ p ∈ ns, p.1 ≠ D') → Q (.ref D') { s with heap := h', toks := tk' }) :
    wpAny (model prog w) A (eval (.ListComp (.Name (Str.ofString "pair") p1) [⟨.Name (Str.ofString "pair") p2, .Name (Str.ofString "pairs") p3, [.Compare (.Subscript (.Name (Str.ofString "pair") p4) (.Constant (.int 0) 0 p5) p6) [.In] [.Name (Str.ofString "found") p7] p8], 0⟩] scope pos) env) Q E s := by
  refine wpAny_ListComp_free (hitP nw y) (fun v z => z = v) hclos hcell hkind hnames hx ?_ (by intro _; rfl)
  have hcl : s.heap.IsCell c (some (.str y ty)) := ⟨_, N.get hc, hco⟩
  refine name_l hek hel F.ns hm rfl (fun _ _ e => e) ?_
  have hL : s.heap.IsList lp vs.toArray := ⟨_, N.get hlp, rfl, n, rfl⟩
  refine wpAny_pyIter_list hL ?_
  have hdI : lp ≠ s.heap.objs.size := Nat.ne_of_lt (Heap.lt_size (N.get hlp))
  have up1 : ∀ b o, s.heap.get? b = some o → (s.heap.push { cls := .type "list_iterator", data := .fields #[.ref lp, .int 0 0] }).get? b = some o := fun b o e => Heap.get?_push_of_some _ e
  refine ⟨_, _, _, _, _, _, rfl, Walks.list hh s.heap.objs.size lp hdI vs.toArray, by rw [List.size_toArray, sizeLine_eq]; omega, ⟨⟨_, Heap.get?_push_size _ rfl, rfl, rfl⟩, hL.at fun o e => up1 _ _ e⟩, ?_, ⟨?_, ?_⟩, ?_⟩
  · intro b hb
    rw [Heap.size_push]
    rcases List.mem_cons.mp hb with rfl | hb
    · exact Nat.lt_succ_self _
    · rw [List.mem_singleton.mp hb]; exact Nat.lt_succ_of_lt (Heap.lt_size (N.get hlp))
  · intro C i v s₃ m₃ E' _ hP hn hm hk _
    obtain ⟨p, hp⟩ := hps.get i v (by simpa using hP)
    have up : ∀ b ob, s.heap.get? b = some ob → s₃.heap.get? b = some ob := fun b ob e => hk b ob (fun hm => Nat.lt_irrefl _ ((List.mem_singleton.mp hm) ▸ Heap.lt_size e)) (up1 _ _ e)
    rw [hitP_eq (fun q hq => N q (hsub q hq)) hp]
    obtain ⟨a, t, u, k, rfl, hm', _⟩ := hp
    exact pair_test hk3 (hk1 C) (hk2 C) rfl hn hm (cell_keep hcl up) (up _ _ (N.get (hsub _ hm')))
  · intro C i v s₃ m₃ E' _ hP _ hn hm hk _
    exact name_l hk3 (hk1 C) hn hm rfl (fun _ _ e => e) ⟨rfl, _, _, rfl, fun _ _ e => e⟩
  · intro D' h' tk ys us hnew _ hpl hlen' hP hF hk
    have up : ∀ b ob, s.heap.get? b = some ob → h'.get? b = some ob := fun b ob e => hk b ob (fun hm => Nat.lt_irrefl _ ((List.mem_singleton.mp hm) ▸ Heap.lt_size e)) (up1 _ _ e)
    have fresh : ∀ b ob, s.heap.get? b = some ob → b ≠ D' := by
      rintro b ob e rfl
      rw [up1 _ _ e] at hnew; cases hnew
    obtain ⟨oL, es2, ep2, hL', rL⟩ := id F.ns
    obtain ⟨n', hpl⟩ := hpl
    have hus : us = vs := by
      refine List.ext_getElem? fun j => ?_
      by_cases hj : j < us.length
      · have e1 : us[j]? = some us[j] := List.getElem?_eq_getElem hj
        have e2 := hP j _ e1
        rw [e1]; simpa using e2.symm
      · rw [List.getElem?_eq_none (by omega), List.getElem?_eq_none (by rw [List.size_toArray] at hlen'; omega)]
    subst hus
    have hys := paired_same hF
    refine ret D' ys.toList n' h' tk ?_ ⟨ns_keep F.ns up, fun b ob e => up _ _ (F.keep b ob e), F.above⟩ ?_ (fun p hp => fresh _ _ (N p hp).1)
    · rw [hys]; exact hps.filter (fun q hq => N q (hsub q hq))
    · intro p hp
      rcases List.mem_cons.mp hp with rfl | hp
      · refine ⟨by simpa using hpl, (fresh _ _ hL').symm, ?_⟩
        cases e : g.get? D' with
        | none => rfl
        | some ob => exact absurd rfl (fresh _ _ (F.keep _ _ e))
      · exact ⟨up _ _ (N p hp).1, (N p hp).2⟩
end Mine
end
section
open PySem PySem.W PyProof.Rows PySem.Calls PyProof.V PySem.Spec
namespace Mine
theorem fresh_P43 : True := by
  w_top off
  k_with_none
  trivial

def pairs9 : List (Str × Str) := [(Str.ofString "pl", Str.ofString "p"), (Str.ofString "pp", Str.ofString "p"), (Str.ofString "pw", Str.ofString "k"), (Str.ofString "pf", Str.ofString ""), (Str.ofString "kf", Str.ofString ""), (Str.ofString "qQ", Str.ofString ""), (Str.ofString "tT", Str.ofString ""), (Str.ofString "cC", Str.ofString ""), (Str.ofString "xX", Str.ofString "")]
def pairsT : List (Str × Str) := pairs9 ++ (Str.ofString "^qtcx").cps.toList.map pairS
def stepW (y : Str) : Str := match (pairsT.filter fun p => hasS y p.1) with | [] => y | p :: _ => Txt.replace y p.1 p.2
theorem regroup {g h : Heap} {L : Addr} {d y c t1 t2 t3 t4 t5 t6 t7 t8 t9 : Addr × Obj} {nw : List (Addr × Obj)} (N : News g L h (d :: (nw ++ [y, t1, t2, t3, t4, t5, t6, t7, t8, t9, c])))
    (h1 : ∀ q ∈ nw, d.1 < q.1) (h2 : ∀ p ∈ [y, t1, t2, t3, t4, t5, t6, t7, t8, t9, c], p.1 < d.1) (h3 : ∀ p ∈ [t1, t2, t3, t4, t5, t6, t7, t8, t9], @Ne Nat p.1 c.1) :
    ∃ own, News g L h (c :: d :: y :: own) ∧ (∀ q ∈ nw, q ∈ own) ∧ (∀ q ∈ [t1, t2, t3, t4, t5, t6, t7, t8, t9], q ∈ own) ∧ (∀ q ∈ own, q.1 ≠ c.1) := by
  refine ⟨nw ++ [t1, t2, t3, t4, t5, t6, t7, t8, t9], fun p hp => N p ?_, fun q hq => List.mem_append.mpr (.inl hq), fun q hq => List.mem_append.mpr (.inr hq), fun q hq => ?_⟩
  · rcases List.mem_cons.mp hp with rfl | hp
    · exact .tail _ (List.mem_append.mpr (.inr (by simp)))
    · rcases List.mem_cons.mp hp with rfl | hp
      · exact .head _
      · rcases List.mem_cons.mp hp with rfl | hp
        · exact .tail _ (List.mem_append.mpr (.inr (by simp)))
        · rcases List.mem_append.mp hp with hp | hp
          · exact .tail _ (List.mem_append.mpr (.inl hp))
          · refine .tail _ (List.mem_append.mpr (.inr (.tail _ ?_)))
            exact List.mem_append.mpr (.inl hp : _ ∨ p ∈ [c])
  · rcases List.mem_append.mp hq with hq | hq
    · have a1 : @LT.lt Nat _ d.1 q.1 := h1 q hq
      have a2 : @LT.lt Nat _ c.1 d.1 := h2 c (by simp)
      exact Nat.ne_of_gt (by omega)
    · exact h3 q hq

def RewJ (c lp : Addr) (vs : List Value) (own : List (Addr × Obj)) (x : Str) (n : Nat) (m₁ : Str → Option Value) (news₁ : List (Addr × Obj)) : Prop :=
  ∃ (y : Str) (ty : Tok) (b : Str) (tb : Tok) (o : Obj), news₁ = (c, o) :: (lp, listOf vs.toArray 0) :: own ∧ o.data = .cell (some (.str y ty)) ∧ m₁ (Str.ofString "pairs") = some (.ref lp) ∧ m₁ (Str.ofString "before") = some (.str b tb) ∧
    ((n = 2 ∧ y = x ∧ b = Str.ofString "") ∨ (n = 1 ∧ y = stepW x ∧ b = x) ∨ (n = 0 ∧ y = stepW x ∧ b = stepW x))
theorem regroup2 {g h : Heap} {L : Addr} {a b c d e : Addr × Obj} {own : List (Addr × Obj)} (N : News g L h (a :: b :: c :: d :: e :: own)) : News g L h (c :: b :: own) := by
  intro p hp
  rcases List.mem_cons.mp hp with rfl | hp
  · exact N _ (.tail _ (.tail _ (.head _)))
  · rcases List.mem_cons.mp hp with rfl | hp
    · exact N _ (.tail _ (.head _))
    · exact N _ (.tail _ (.tail _ (.tail _ (.tail _ (.tail _ hp)))))
theorem rew_map {m : Str → Option Value} {v1 v2 : Value} (h1 : m (Str.ofString "pairs") = some v1) (h2 : m (Str.ofString "before") = some v2) : m = fun y => if y = Str.ofString "before" then some v2 else if y = Str.ofString "pairs" then some v1 else m y := by
  funext z
  by_cases e1 : z = Str.ofString "before"
  · rw [if_pos e1, e1, h2]
  · by_cases e2 : z = Str.ofString "pairs"
    · rw [if_neg e1, if_pos e2, e2, h1]
    · rw [if_neg e1, if_neg e2]

theorem rew_out {x y b : Str} {n : Nat} (hx : 1 ≤ x.length) (hst : (n = 2 ∧ y = x ∧ b = Str.ofString "") ∨ (n = 1 ∧ y = stepW x ∧ b = x) ∨ (n = 0 ∧ y = stepW x ∧ b = stepW x)) (h : (y != b) = false) : y = stepW x := by
  have h : y = b := by simpa [bne] using h
  rcases hst with ⟨_, h1, h2⟩ | ⟨_, h1, _⟩ | ⟨_, h1, _⟩
  · rw [← h1, h, h2] at hx
    exact absurd hx (by decide)
  · exact h1
  · exact h1
theorem rew_next {x y b : Str} {n : Nat} (hs : stepW (stepW x) = stepW x) (hst : (n = 2 ∧ y = x ∧ b = Str.ofString "") ∨ (n = 1 ∧ y = stepW x ∧ b = x) ∨ (n = 0 ∧ y = stepW x ∧ b = stepW x)) (h : (y != b) = true) :
    ∃ n', n' < n ∧ ((n' = 2 ∧ stepW y = x ∧ y = Str.ofString "") ∨ (n' = 1 ∧ stepW y = stepW x ∧ y = x) ∨ (n' = 0 ∧ stepW y = stepW x ∧ y = stepW x)) := by
  rcases hst with ⟨h0, h1, h2⟩ | ⟨h0, h1, h2⟩ | ⟨h0, h1, h2⟩
  · exact ⟨1, by omega, .inr (.inl ⟨rfl, by rw [h1], h1⟩)⟩
  · exact ⟨0, by omega, .inr (.inr ⟨rfl, by rw [h1, hs], h1⟩)⟩
  · rw [h1, h2] at h
    simp at h
theorem rew_len {x y b : Str} {n : Nat} (h2 : x.length ≤ 2000) (h3 : (stepW x).length ≤ 2000) (hst : (n = 2 ∧ y = x ∧ b = Str.ofString "") ∨ (n = 1 ∧ y = stepW x ∧ b = x) ∨ (n = 0 ∧ y = stepW x ∧ b = stepW x)) : y.length ≤ 2000 := by
  rcases hst with ⟨_, h1, _⟩ | ⟨_, h1, _⟩ | ⟨_, h1, _⟩ <;> rw [h1] <;> assumption
theorem news_add {h₀ h : Heap} {L a : Addr} {o : Obj} {ns : List (Addr × Obj)} (N : News h₀ L h ns) (hm : (a, o) ∈ ns) : News h₀ L h ((a, o) :: ns) := by
  intro p hp
  rcases List.mem_cons.mp hp with rfl | hp
  · exact N _ hm
  · exact N p hp
theorem pairs_ok : ∀ p ∈ pairsT, (p.1 == p.2) = false ∧ p.2.length ≤ 14 := by decide +kernel
theorem step_nil {y : Str} (h : (pairsT.filter fun p => hasS y p.1) = []) : stepW y = y := by unfold stepW; rw [h]
theorem step_cons {y : Str} {p : Str × Str} {r : List (Str × Str)} (h : (pairsT.filter fun p => hasS y p.1) = p :: r) : stepW y = Txt.replace y p.1 p.2 := by unfold stepW; rw [h]
theorem slice1_L {prog : Program} {w : World} {A : Around} {E : Value → Shared → Prop} {s : Shared} {h₀ : Heap} {L l : Addr} {m : Str → Option Value} {news : List (Addr × Obj)} {value slice : PySem.Expr} {vs : List Value} {u : Tok} {Q : Value → Shared → Prop}
    (F : Fr h₀ L s.heap m) (N : News h₀ L s.heap news) (hl : s.heap.IsList l vs.toArray) (hz : vs.length < 1000)
    (h : ∀ D h', Fr h₀ L h' m → News h₀ L h' ((D, listOf (vs.take 1).toArray 0) :: news) → (∀ p ∈ news, p.1 < D) → Q (.ref D) { s with heap := h' })
    (hs : subscripted slice false (.ref l) (.ref s.heap.objs.size) = operate [.ref s.heap.objs.size, .ref l] (getItem (.ref l) (.ref s.heap.objs.size))) (ht : ∀ r, letTemporaryGo value (.ref l) r = pure ()) :
    wpAny (model prog w) A (subscriptTail value slice (.ref l) (.ref s.heap.objs.size)) Q E { s with heap := s.heap.push { cls := .type "slice", data := .fields #[.none, .int 1 u, .none] } } := by
  refine kmk_slice F N hl (lo := none) (hi := some ((1 : Nat) : Int)) ?_ ?_ (fun D h' F' N' l1 => ?_) hs ht (by rw [List.size_toArray, sizeLine_eq]; omega)
  · kmk_part
  · kmk_part
  · rw [slicePick_upto'] at N'
    exact h D h' F' N' l1
local macro_rules | `(tactic| k_updF) => `(tactic| (refine' updF_app ?a ?b; (case a => exact off_two (by assumption) (by (try dsimp only); omega) (by (try dsimp only); omega)); (case b => k_updF)))
local macro_rules | `(tactic| k_all) => `(tactic| assumption)
theorem const_str_lp {M : Model} {A : Around} {E : Value → Shared → Prop} {s : Shared} {env : Env} {x : Str} {k : Nat} {pos : Pos} {Q : Value → Shared → Prop} (hp : 0 < s.toks) (h : ∀ t tk', s.toks ≤ t → t < tk' → 0 < t → 0 < tk' → Q (.str x t) { s with toks := tk' }) : wpAny M A (eval (.Constant (.str x) k pos) env) Q E s :=
  const_str_lb fun t tk' h1 h2 => h t tk' h1 h2 (Nat.lt_of_lt_of_le hp h1) (Nat.lt_trans (Nat.lt_of_lt_of_le hp h1) h2)
set_option maxRecDepth 100000 in
set_option maxHeartbeats 2000000 in
theorem rew_spec {w : World} {mean : ExcName → Option Value} {mg mb : Str → Option Value} {dp un : Nat} {gd : Option (List Code)} {cn : Str} {cs : Scope} {a : Addr} {ccd : Value} {cl : List (Str × Addr)} {outer : List Env} {A₀ : Around} {base h₀ : Heap} {L : Addr} {m : Str → Option Value} {s : Shared} {Q E : Value → Shared → Prop}
    (B : Below A₀ base outer h₀) (F : Fr h₀ L s.heap m) (X : (hd.heap_39 w.params).In h₀) (T : Top hd.view_39 (looseW hd.view_39 []) mean mg mb h₀) (hk : cs.kind = .function)
    {x : Str} {tx : Tok} (hx : 1 ≤ x.length) (hx2 : x.length ≤ 2000) (hx3 : (stepW x).length ≤ 2000) (hst0 : stepW (stepW x) = stepW x) (htok : 0 < s.toks)
    (hd : dp < 880) (hu : un < 8800)
    (ret : ∀ (h' : Heap) (tk' : Nat) tz, Fr h₀ L h' m → (∀ b o, s.heap.get? b = some o → h'.get? b = some o) → Q (.str (stepW x) tz) { s with heap := h', toks := tk' }) :
    wpAny (model Challenge.rw_og0162_01.row.prog w) (ktrTop dp un gd cn cs L a ccd cl outer) (call (.ref 157) [.str x tx]) Q E s := by
  k_with_none
  k_with "subscriptTail" => (k_here; (with_reducible show wpAny _ _ (subscriptTail _ (PySem.Expr.Slice none _ none _) (Value.ref _) (Value.ref _)) _ _ _); k_dflt (refine' slice1_L ?y_F ?y_N ?y_l ?y_z ?_ ?y_s ?y_t; (case y_F => k_asm); (case y_N => k_asm); (case y_l => is_list); (case y_s => with_unfolding_all rfl); (case y_t => kmk_pure); (case y_z => assumption)); intro z_D' z_h' z_F' z_N' z_l1; (have z_l9 := z_l1); (try k_lt z_l1); (try k_sweep))
  k_with "call builtin:str.replace" => (refine SC.replaceW (by assumption) (by assumption) (by assumption) (by assumption) (by omega) (by assumption) ?_; intro z_t' z_k'; (try dsimp only))
  k_with "exec For Tuple Name cons nil" => ((rename Fr _ _ _ _ => z_F'); (with_reducible refine' For_unrF ?y_cF ?_ ?y_hs ?y_hE); (case y_cF => with_unfolding_all exact z_F'); (case y_hE => passes_own); (case y_hs => (intro _; with_unfolding_all rfl)))
  k_with "pyIter ref" => ((with_reducible show wpAny _ _ (pyIter (Value.ref _)) (fun it s₂ => UnrAt _ _ _ _ _ _ _ _ _ it s₂) _ _); (fail_if_success (rename Seen9 => z_x9)); have sm9 : Seen9 := Seen9.mk; (rename News _ _ _ _ => z_lN'); (have z_l9 := news_lt z_lN'); (k_lt z_l9); walk_at "pyIter ref")
  k_with "eval Constant str" => (refine const_str_lb ?_; intro z_t' z_tk' z_tl1' z_tl2'; (try dsimp only at z_tl1'); (try dsimp only))
  k_with "eval ListComp" => refine stop_here ?_
  k_with "newList" => (k_here; (with_reducible show wpAny _ _ (newList []) _ _ _); k_dflt (refine' newList_K ?y_k1 ?y_k2 ?_ (Nat.zero_le _); (case y_k1 => k_asm); (case y_k2 => k_asm); k_whole); intro z_l' z_h' z_F' z_N' z_l1; (try k_lt z_l1); (try k_sweep))
  k_with "call builtin:list.append" => (k_here; (with_reducible show wpAny _ _ (call (Value.builtin _) [Value.ref _, _]) _ _ _); k_dflt (refine' append_L ?y_k1 ?y_k2 ?y_k3 ?y_z ?_; (case y_k1 => k_asm); (case y_k2 => k_asm); (case y_k3 => k_upd); (case y_z => (simp only [List.length_append, List.length_cons, List.length_nil]; omega)); k_whole); intro z_h' z_F' z_N'; (try k_sweep))
  k_with "call builtin:list.append" => (k_here; (with_reducible show wpAny _ _ (call (Value.builtin _) [Value.ref _, _]) _ _ _); k_dflt (refine' append_L ?y_k1 ?y_k2 ?y_k3 ?y_z ?_; (case y_k1 => k_asm); (case y_k2 => k_asm); (case y_k3 => k_upd); (case y_z => omega); k_whole); intro z_h' z_F' z_N'; (try k_sweep))
  k_with "binaryOp Add ref ref" => (k_here; k_dflt (refine' add_L ?y_F ?y_N ?y_a ?y_b ?y_z ?_; (case y_F => k_asm); (case y_N => k_asm); (case y_a => is_list); (case y_b => is_list); (case y_z => first | omega | (simp only [List.length_append, List.length_cons, List.length_nil]; omega)); k_whole); intro z_D' z_h' z_F' z_N' z_l1; (have z_l9 := z_l1); (try k_lt z_l1); (try k_sweep))
  k_with "exec While Compare cons nil" => refine stop_here ?_
  k_with "eval Constant str" => (refine const_str_lp (by first | assumption | ((try dsimp only); assumption)) ?_; intro z_t' z_tk' z_tl1' z_tl2' z_tl3' z_tl4'; (try dsimp only at z_tl1'); (try dsimp only))
  have N : News h₀ L s.heap [] := News.nil
  revert X; k_fill; intro X
  refine wpAny_call ?_
  k_dflt (refine' code_defCT ?k1 ?k2 ?k3 ?k4 ?k5 ?kA ?kF ?kK ?k6 ?k7 ?k8 ?k9 ?kB ?kT ?kD ?_ ?c2 ?c3 ?c4; (case kA => exact rfl); (case kF => exact rfl); (case kK => assumption); (case k1 => k_asm); (case k2 => k_asm); (case k3 => k_asm); (case k4 => k_asm); (case k5 => k_asm); (case k6 => k_is); (case k7 => k_is); (case k8 => ktr_room); (case k9 => exact BindsTo.of_eq rfl); (case kB => exact rfl); (case kT => assumption); (case kD => decide +kernel); (case c2 => exact rfl); (case c3 => exact rfl); (case c4 => exact rfl))
  k_whole
  intro g' L' h₁ tk1 cells' FG' F' N' Y' B' X' T' l1 tp1 kG'
  (try k_lt l1)
  k_cells Y'
  (try simp only [List.cons_append, List.nil_append] at N')
  (try dsimp only)
  (try k_fold)
  k_steps
  refine Stop.go ?_
  (rename Fr g' L' _ _ => F1); (rename News g' L' _ _ => N1)
  (with_reducible refine' comp_pairs ?ha ?hsz ?ch ?clos ?hcell ?hkind ?hnames ?hx ?kF ?kN ?kret)
  case ch => with_unfolding_all rfl
  case clos => with_unfolding_all rfl
  case hcell => decide
  case hkind => with_unfolding_all rfl
  case hnames => decide
  case hx => with_unfolding_all rfl
  case ha => decide +kernel
  case hsz => exact Nat.le_of_ble_eq_true rfl
  case kF => with_unfolding_all exact F1
  case kN => with_unfolding_all exact N1
  case kret =>
  intro D' vs5 n5 nw h2 tk2 hP F2 N2 hlt hgt
  obtain ⟨own, N3, hs1, hs2, hne⟩ := regroup N2 hgt hlt (by simp only [List.forall_mem_cons, List.not_mem_nil, false_imp_iff, implies_true, and_true]; refine ⟨?_, ?_, ?_, ?_, ?_, ?_, ?_, ?_, ?_⟩ <;> omega)
  have hS : PairsIn own (_ ++ vs5) pairsT := (PairsIn.append (nw := own) (ps := pairs9) (PairsIn.cons ⟨_, _, _, _, rfl, hs2 _ (by k_mem), Nat.ne_of_gt (by assumption), Nat.ne_of_gt (by assumption), Nat.ne_of_lt (Nat.lt_of_lt_of_le (by assumption) (by assumption))⟩ (PairsIn.cons ⟨_, _, _, _, rfl, hs2 _ (by k_mem), Nat.ne_of_gt (by assumption), Nat.ne_of_gt (by assumption), Nat.ne_of_lt (Nat.lt_of_lt_of_le (by assumption) (by assumption))⟩ (PairsIn.cons ⟨_, _, _, _, rfl, hs2 _ (by k_mem), Nat.ne_of_gt (by assumption), Nat.ne_of_gt (by assumption), Nat.ne_of_lt (Nat.lt_of_lt_of_le (by assumption) (by assumption))⟩ (PairsIn.cons ⟨_, _, _, _, rfl, hs2 _ (by k_mem), Nat.ne_of_gt (by assumption), Nat.ne_of_gt (by assumption), Nat.ne_of_lt (Nat.lt_of_lt_of_le (by assumption) (by assumption))⟩ (PairsIn.cons ⟨_, _, _, _, rfl, hs2 _ (by k_mem), Nat.ne_of_gt (by assumption), Nat.ne_of_gt (by assumption), Nat.ne_of_lt (Nat.lt_of_lt_of_le (by assumption) (by assumption))⟩ (PairsIn.cons ⟨_, _, _, _, rfl, hs2 _ (by k_mem), Nat.ne_of_gt (by assumption), Nat.ne_of_gt (by assumption), Nat.ne_of_lt (Nat.lt_of_lt_of_le (by assumption) (by assumption))⟩ (PairsIn.cons ⟨_, _, _, _, rfl, hs2 _ (by k_mem), Nat.ne_of_gt (by assumption), Nat.ne_of_gt (by assumption), Nat.ne_of_lt (Nat.lt_of_lt_of_le (by assumption) (by assumption))⟩ (PairsIn.cons ⟨_, _, _, _, rfl, hs2 _ (by k_mem), Nat.ne_of_gt (by assumption), Nat.ne_of_gt (by assumption), Nat.ne_of_lt (Nat.lt_of_lt_of_le (by assumption) (by assumption))⟩ (PairsIn.cons ⟨_, _, _, _, rfl, hs2 _ (by k_mem), Nat.ne_of_gt (by assumption), Nat.ne_of_gt (by assumption), Nat.ne_of_lt (Nat.lt_of_lt_of_le (by assumption) (by assumption))⟩ (.nil)))))))))) (hP.mono hs1))
  have hv5 : vs5.length = 5 := hP.len.trans (by decide +kernel)
  have F3 : Fr g' L' h2 _ := F2
  have N4 : News g' L' h2 _ := N3
  have hne4 : ∀ q ∈ own, q.1 ≠ L' + 1 := hne
  have l7 : @LT.lt Nat _ (L' + 1) D' := hlt (L' + 1, _) (by k_mem)
  clear N1 F1 N2 hP hs1 hs2 F2 N3 hne hlt hgt
  (try dsimp only)
  k_steps
  refine Stop.go ?_
  (rename Fr g' L' _ _ => F1); (rename News g' L' _ _ => N1); (rename (Obj.data _ = Data.cell (some _)) => hcell)
  (rename Heap => h9)
  obtain ⟨lp, vsT, m0, oc, tb, F2, N2, hm1, hm2, hlp, hS2, hcell2⟩ : ∃ (lp : Addr) (vsT : List Value) (m0 : Str → Option Value) (oc : Obj) (tb : Tok), Fr g' L' h9 m0 ∧ News g' L' h9 ((L' + 1, oc) :: (lp, listOf vsT.toArray 0) :: own) ∧ m0 (Str.ofString "pairs") = some (.ref lp) ∧ m0 (Str.ofString "before") = some (.str (Str.ofString "") tb) ∧ (@Ne Nat lp (L' + 1)) ∧ PairsIn own vsT pairsT ∧ oc.data = .cell (some (.str x tx)) :=
    ⟨_, _, _, _, _, F1, regroup2 N1, rfl, rfl, Nat.ne_of_gt (by omega), hS, hcell⟩
  clear F1 N1 hS hcell
  have hvT : vsT.length ≤ 1000 := by rw [hS2.len]; decide +kernel
  (with_reducible refine' While_inv (RewJ (L' + 1) lp vsT own x) (n₀ := 2) ?F ?N ?J ?turn ?hE)
  case hE => passes_own
  case F => exact F2
  case N => exact N2
  case J => exact ⟨x, tx, Str.ofString "", _, _, rfl, hcell2, hm1, hm2, .inl ⟨rfl, rfl, rfl⟩⟩
  case turn =>
  clear F2 N2 hcell2 hm1 hm2
  rintro n m₁ news₁ h₃ tk₃ F₁ N₁ ⟨y, ty, b, tb', o, rfl, hd1, hm1, hm2, hst⟩
  rw [rew_map hm1 hm2] at F₁
  k_steps
  · refine Stop.go ?_
    (rename Fr g' L' _ _ => F1); (rename News g' L' _ _ => N1); (rename ((_ != _) = _) => hnb)
    (with_reducible refine' comp_filter (ty := ty) (c := L' + 1) (lp := lp) (vs := vsT) (ps := pairsT) (nw := own) ?ch ?clos ?hcell ?hkind ?hnames ?hx ?hek ?hel ?hm ?hk1 ?hk2 ?hk3 ?kF ?kN ?hc ?hco ?hlp ?hsub ?hps ?hlen ?kret)
    case ch => with_unfolding_all rfl
    case clos => with_unfolding_all rfl
    case hcell => decide
    case hkind => with_unfolding_all rfl
    case hnames => decide
    case hx => with_unfolding_all rfl
    case hek => with_unfolding_all rfl
    case hel => with_unfolding_all rfl
    case hk1 => intro C; with_unfolding_all rfl
    case hk2 => intro C; with_unfolding_all rfl
    case hk3 => with_unfolding_all rfl
    case kF => with_unfolding_all exact F1
    case kN => with_unfolding_all exact N1
    case hm => with_unfolding_all rfl
    case hc => exact .head _
    case hco => exact hd1
    case hlp => exact .tail _ (.head _)
    case hsub => exact fun q hq => .tail _ (.tail _ hq)
    case hps => exact hS2
    case hlen => exact hvT
    case kret =>
    intro D2 vs2 n2 h4 tk4 hP2 F4 N4 hne2
    have F5 : Fr g' L' h4 _ := F4
    have N5 : News g' L' h4 _ := N4
    have hne6 : (@Ne Nat (L' + 1) D2) := hne2 (L' + 1, _) (.head _)
    have hne7 : (@Ne Nat lp D2) := hne2 (lp, _) (.tail _ (.head _))
    have hyl : y.length ≤ 2000 := rew_len hx2 hx3 hst
    clear F1 N1 F4 N4
    (try dsimp only)
    cases e : (pairsT.filter fun p => hasS y p.1) with
    | nil =>
      rw [e] at hP2
      cases hP2
      k_steps
      (rename Fr g' _ _ _ => F9); (rename News g' _ _ _ => N9)
      obtain ⟨n', hn', hj⟩ := rew_next hst0 hst hnb
      rw [step_nil e] at hj
      exact WhileStep.intro F9 (fun q hq => N9 q (.tail _ (.tail _ hq))) hn' ⟨y, ty, y, ty, o, rfl, hd1, rfl, rfl, hj⟩
    | cons p r =>
      rw [e] at hP2
      rcases hP2 with _ | ⟨⟨a', t, u, nn, rfl, hm', ht0, hu0, htu⟩, hr⟩
      have N6 := news_add (a := a') (o := tupO #[.str p.1 t, .str p.2 u] nn) N5 (.tail _ (.tail _ (.tail _ hm')))
      have hne8 : (@Ne Nat a' (L' + 1)) := hne4 _ hm'
      have hne9 : (@Ne Nat a' D2) := hne2 (a', _) (.tail _ (.tail _ hm'))
      (rename List Value => vr)
      have hvl : @LT.lt Nat _ (List.length (Value.ref a' :: vr)) 1000 := by
        have h9 := (PairsIn.cons (nw := own) ⟨a', t, u, nn, rfl, hm', ht0, hu0, htu⟩ hr).len
        rw [h9, ← e]
        exact Nat.lt_of_le_of_lt (List.length_filter_le _ _) (by decide +kernel)
      have hpT : p ∈ pairsT := (List.mem_filter.mp (e ▸ List.mem_cons_self : p ∈ pairsT.filter fun p => hasS y p.1)).1
      obtain ⟨hpp, hpl⟩ := pairs_ok p hpT
      clear N5
      k_steps
      (rename Fr g' _ _ _ => F9); (rename News g' _ _ _ => N9); (rename (Obj.data _ = Data.cell (some _)) => hd9)
      obtain ⟨n', hn', hj⟩ := rew_next hst0 hst hnb
      rw [step_cons e] at hj
      exact WhileStep.intro F9 (fun q hq => N9 q (.tail _ (.tail _ (.tail _ hq)))) hn' ⟨_, _, y, ty, _, rfl, hd9, rfl, rfl, hj⟩
  · have ey := rew_out hx hst (by assumption)
    rw [ey]
    exact ret _ _ _ (by assumption) (fun b o e => Fr.keep (h₀ := g') (L := L') (by assumption) b o (kG' b o e (by simp)))
end Mine
end
section
open PySem PySem.W PyProof.Rows PySem.Calls PyProof.V PySem.Spec
namespace Mine

abbrev StC := List Str × Str
def s5 : List Str := [Str.ofString "q", Str.ofString "BT", Str.ofString "BMC", Str.ofString "BDC", Str.ofString "BX"]
def stepC (st : StC) (x : Str) : Option StC :=
  if inL kindKeys x = true then (if inL st.1 (Str.ofString "BT") = true then none else (pathW st.2 x).map fun q => (st.1, q))
  else if (st.2 != Str.ofString "none") = true then none
  else if (inL s5 x || openW x != Str.ofString "") = true then (pileW st.1 x).map fun k => (k, st.2)
  else some st
def goC (a : StC × List Int × Int) (x : Str) : StC × List Int × Int :=
  match stepC a.1 x with
  | some st => (st, a.2.1, a.2.2 + 1)
  | none => (a.1, a.2.1 ++ [a.2.2], a.2.2 + 1)
def runC (ws : List Str) : StC × List Int × Int := ws.foldl goC (([], Str.ofString "none"), [], 0)
theorem runC_snoc (ws : List Str) (x : Str) : runC (ws ++ [x]) = goC (runC ws) x := by unfold runC; rw [List.foldl_append]; rfl
theorem goC_idx (a : StC × List Int × Int) (x : Str) : (goC a x).2.2 = a.2.2 + 1 := by unfold goC; split <;> rfl
theorem runC_idx : ∀ ws : List Str, (runC ws).2.2 = ws.length := by
  have key : ∀ (ws : List Str) (a : StC × List Int × Int), (ws.foldl goC a).2.2 = a.2.2 + ws.length := by
    intro ws
    induction ws with
    | nil => intro a; simp
    | cons x r ih => intro a; rw [List.foldl_cons, ih, goC_idx, List.length_cons]; omega
  intro ws
  unfold runC
  rw [key]; simp
theorem runC_take {ws : List Str} {i : Nat} {x : Str} (h : ws[i]? = some x) : runC (ws.take (i + 1)) = goC (runC (ws.take i)) x := by
  rw [List.take_add_one, h]
  exact runC_snoc _ _
def openN (st : StC) : Nat := st.1.length + (if (st.2 != Str.ofString "none") = true then 1 else 0)
def faultsC (ws : List Str) : List Int := (runC ws).2.1 ++ List.replicate (openN (runC ws).1) (ws.length : Int)

abbrev opD (w : World) (t1 t2 tw : Tok) (x : Str) (lo : Value) : Obj := dictOf [⟨PyData.keyHash w.params (Str.ofString "word"), .str (Str.ofString "word") t1, .str x tw⟩, ⟨PyData.keyHash w.params (Str.ofString "operands"), .str (Str.ofString "operands") t2, lo⟩] 2
def OpMem (w : World) (nw : List (Addr × Obj)) (v : Value) (x : Str) : Prop := ∃ a d t1 t2 tw lo, v = .ref a ∧ (a, instObj 45 d) ∈ nw ∧ (d, opD w t1 t2 tw x lo) ∈ nw
inductive OpsIn (w : World) (nw : List (Addr × Obj)) : List Value → List Str → Prop
  | nil : OpsIn w nw [] []
  | cons {v : Value} {x : Str} {vs : List Value} {ws : List Str} : OpMem w nw v x → OpsIn w nw vs ws → OpsIn w nw (v :: vs) (x :: ws)
section
variable {w : World} {nw nw' : List (Addr × Obj)} {v : Value} {x : Str} {vs vs' : List Value} {ws ws' : List Str}
theorem OpMem.mono (h : OpMem w nw v x) (hs : ∀ q ∈ nw, q ∈ nw') : OpMem w nw' v x := let ⟨a, d, t1, t2, tw, lo, e, h1, h2⟩ := h; ⟨a, d, t1, t2, tw, lo, e, hs _ h1, hs _ h2⟩
theorem OpsIn.mono (h : OpsIn w nw vs ws) (hs : ∀ q ∈ nw, q ∈ nw') : OpsIn w nw' vs ws := by
  induction h with
  | nil => exact .nil
  | cons h _ ih => exact .cons (h.mono hs) ih
theorem OpsIn.append (h : OpsIn w nw vs ws) (h' : OpsIn w nw vs' ws') : OpsIn w nw (vs ++ vs') (ws ++ ws') := by
  induction h with
  | nil => exact h'
  | cons h _ ih => exact .cons h ih
theorem OpsIn.len (h : OpsIn w nw vs ws) : vs.length = ws.length := by
  induction h with
  | nil => rfl
  | cons _ _ ih => simp [ih]
theorem OpsIn.get (h : OpsIn w nw vs ws) : ∀ (i : Nat) (v : Value), vs[i]? = some v → ∃ x, ws[i]? = some x ∧ OpMem w nw v x := by
  induction h with
  | nil => intro i v e; simp at e
  | cons h _ ih =>
    intro i v e
    cases i with
    | zero => simp at e; exact ⟨_, rfl, e ▸ h⟩
    | succ i => simpa using ih i v (by simpa using e)
end
def FaultMem (nw : List (Addr × Obj)) (v : Value) (i : Int) : Prop := ∃ a t tv n, v = .ref a ∧ (a, tupO #[.int i t, tv] n) ∈ nw
inductive FaultsIn (nw : List (Addr × Obj)) : List Value → List Int → Prop
  | nil : FaultsIn nw [] []
  | cons {v : Value} {i : Int} {vs : List Value} {is : List Int} : FaultMem nw v i → FaultsIn nw vs is → FaultsIn nw (v :: vs) (i :: is)
section
variable {nw nw' : List (Addr × Obj)} {v : Value} {i : Int} {vs vs' : List Value} {is is' : List Int}
theorem FaultMem.mono (h : FaultMem nw v i) (hs : ∀ q ∈ nw, q ∈ nw') : FaultMem nw' v i := let ⟨a, t, tv, n, e, h1⟩ := h; ⟨a, t, tv, n, e, hs _ h1⟩
theorem FaultsIn.mono (h : FaultsIn nw vs is) (hs : ∀ q ∈ nw, q ∈ nw') : FaultsIn nw' vs is := by
  induction h with
  | nil => exact .nil
  | cons h _ ih => exact .cons (h.mono hs) ih
theorem FaultsIn.append (h : FaultsIn nw vs is) (h' : FaultsIn nw vs' is') : FaultsIn nw (vs ++ vs') (is ++ is') := by
  induction h with
  | nil => exact h'
  | cons h _ ih => exact .cons h ih
theorem FaultsIn.len (h : FaultsIn nw vs is) : vs.length = is.length := by
  induction h with
  | nil => rfl
  | cons _ _ ih => simp [ih]
end
end Mine
end
section
open PySem PySem.W PyProof.Rows PySem.Calls PyProof.V PySem.Spec
namespace Mine
set_option maxRecDepth 100000 in
set_option maxHeartbeats 2000000 in
theorem kinds_use {w : World} {mean : ExcName → Option Value} {mg mb : Str → Option Value} {dp un : Nat} {gd : Option (List Code)} {cn : Str} {cs : Scope} {a : Addr} {ccd : Value} {cl : List (Str × Addr)} {outer : List Env} {A₀ : Around} {base h₀ : Heap} {L : Addr} {m : Str → Option Value} {s : Shared} {Q E : Value → Shared → Prop}
    (B : Below A₀ base outer h₀) (F : Fr h₀ L s.heap m) (X : (hd.heap_39 w.params).In h₀) (T : Top hd.view_39 (looseW hd.view_39 []) mean mg mb h₀) (hk : cs.kind = .function)
    {ns : List (Addr × Obj)} (N : News h₀ L s.heap ns) (hd : dp < 880) (hu : un < 8800)
    (ret : ∀ (d : Addr) o kvs (h' : Heap) (tk' : Nat), o.IsDictOf (strKind Challenge.rw_og0162_01.row.prog w) kvs → (∀ x, kvs.any (fun p => decide (p.1 = x)) = inL kindKeys x) → Fr h₀ L h' m → News h₀ L h' ((d, o) :: ns) → (∀ p ∈ ns, p.1 ≠ d) → (d == sysModules) = false → Q (.ref d) { s with heap := h', toks := tk' }) :
    wpAny (model Challenge.rw_og0162_01.row.prog w) (ktrTop dp un gd cn cs L a ccd cl outer) (call (.ref 54) []) Q E s :=
  kinds_spec B F X T hk hd hu fun d o kvs h' tk' a1 a2 a3 a4 a5 a7 a6 => ret d o kvs h' tk' a1 a2 a3 (news_cons a4 (news_keep N a6)) (ne_of_none N a5) a7
set_option maxRecDepth 100000 in
set_option maxHeartbeats 2000000 in
theorem pathf_use {w : World} {mean : ExcName → Option Value} {mg mb : Str → Option Value} {dp un : Nat} {gd : Option (List Code)} {cn : Str} {cs : Scope} {a : Addr} {ccd : Value} {cl : List (Str × Addr)} {outer : List Env} {A₀ : Around} {base h₀ : Heap} {L : Addr} {m : Str → Option Value} {s : Shared} {Q E : Value → Shared → Prop}
    (B : Below A₀ base outer h₀) (F : Fr h₀ L s.heap m) (X : (hd.heap_39 w.params).In h₀) (T : Top hd.view_39 (looseW hd.view_39 []) mean mg mb h₀) (hk : cs.kind = .function)
    {x pv : Str} {tx t1 t2 tp : Tok} {nest dx pl : Addr} {ns : List (Addr × Obj)} {g : Obj → List (Addr × Obj)}
    (N : News h₀ L s.heap ns) (hmn : (nest, instObj 71 dx) ∈ ns) (U : UpdF dx (nestD w t1 t2 tp pl pv) ns g) (hne : @Ne Nat nest dx)
    (hx : x.length ≤ 10) (hd : dp < 890) (hu : un < 8900)
    (ret : ∀ (z q : Str) (h' : Heap) (tk' : Nat) tz t1' t2' tp', TextOf (pathW pv x) pv z q → Fr h₀ L h' m → News h₀ L h' (g (nestD w t1' t2' tp' pl q)) → Q (.str z tz) { s with heap := h', toks := tk' }) :
    wpAny (model Challenge.rw_og0162_01.row.prog w) (ktrTop dp un gd cn cs L a ccd cl outer) (call (.ref 96) [.ref nest, .str x tx]) Q E s :=
  have N1 : News h₀ L s.heap [(dx, nestD w t1 t2 tp pl pv)] := news_of_upd N U
  pathf_spec B F X T hk (news_two (fun p hp => (List.mem_append.mp hp).elim (N p) (N1 p) : News h₀ L s.heap (ns ++ [(dx, nestD w t1 t2 tp pl pv)])) (List.mem_append.mpr (.inl hmn)) (List.mem_append.mpr (.inr (.head _)))) hne hx hd hu
    fun z q h' tk' tz t1' t2' tp' a1 a2 a3 a4 => ret z q h' tk' tz t1' t2' tp' a1 a2 (news_use N U (news_sub a3 (.tail _ (.head _))) a4)
set_option maxRecDepth 100000 in
set_option maxHeartbeats 2000000 in
theorem pilef_use {w : World} {mean : ExcName → Option Value} {mg mb : Str → Option Value} {dp un : Nat} {gd : Option (List Code)} {cn : Str} {cs : Scope} {a : Addr} {ccd : Value} {cl : List (Str × Addr)} {outer : List Env} {A₀ : Around} {base h₀ : Heap} {L : Addr} {m : Str → Option Value} {s : Shared} {Q E : Value → Shared → Prop}
    (B : Below A₀ base outer h₀) (F : Fr h₀ L s.heap m) (X : (hd.heap_39 w.params).In h₀) (T : Top hd.view_39 (looseW hd.view_39 []) mean mg mb h₀) (hk : cs.kind = .function)
    {x pv : Str} {tx t1 t2 tp : Tok} {nest dx pl : Addr} {vs : List Value} {ks : List Str} {n : Nat} {ns : List (Addr × Obj)} {g : Obj → List (Addr × Obj)}
    (N : News h₀ L s.heap ns) (hmn : (nest, instObj 71 dx) ∈ ns) (hmd : (dx, nestD w t1 t2 tp pl pv) ∈ ns) (U : UpdF pl (listOf vs.toArray n) ns g) (hne : @Ne Nat nest dx) (hne2 : @Ne Nat nest pl) (hne3 : @Ne Nat dx pl)
    (hS : StrsL vs ks) (hv : vs.length < 1000) (hx : x.length ≤ 10) (hd : dp < 880) (hu : un < 8800)
    (ret : ∀ (z : Str) (ks' : List Str) (vs' : List Value) (n' : Nat) (h' : Heap) (tk' : Nat) tz, TextL (pileW ks x) ks z ks' → StrsL vs' ks' → Fr h₀ L h' m → News h₀ L h' (g (listOf vs'.toArray n')) → Q (.str z tz) { s with heap := h', toks := tk' }) :
    wpAny (model Challenge.rw_og0162_01.row.prog w) (ktrTop dp un gd cn cs L a ccd cl outer) (call (.ref 89) [.ref nest, .str x tx]) Q E s :=
  have N1 : News h₀ L s.heap [(pl, listOf vs.toArray n)] := news_of_upd N U
  pilef_spec B F X T hk (news_three (fun p hp => (List.mem_append.mp hp).elim (N p) (N1 p) : News h₀ L s.heap (ns ++ [(pl, listOf vs.toArray n)])) (List.mem_append.mpr (.inl hmn)) (List.mem_append.mpr (.inl hmd)) (List.mem_append.mpr (.inr (.head _)))) hne hne2 hne3 hS hv hx hd hu
    fun z ks' vs' n' h' tk' tz a1 a2 a3 a4 a5 => ret z ks' vs' n' h' tk' tz a1 a2 a3 (news_use N U (news_sub a4 (.tail _ (.tail _ (.head _)))) a5)
theorem keep_all {h₀ h g h' : Heap} {L L' : Addr} {m' : Str → Option Value} {ns ns' : List (Addr × Obj)} (kG : GSub h g (List.map (fun x => x.1) ns)) (N : News h₀ L h ns) (F : Fr g L' h' m') (N' : News g L' h' ns') (hs : ∀ p ∈ ns, p ∈ ns') : ∀ b o, h.get? b = some o → h'.get? b = some o := by
  intro b o e
  by_cases hb : b ∈ List.map (fun x => x.1) ns
  · obtain ⟨p, hp, rfl⟩ := List.mem_map.mp hb
    rw [(N p hp).1] at e; cases e
    exact (N' p (hs p hp)).1
  · exact F.keep b o (kG b o e hb)
end Mine
end
section
open PySem PySem.W PyProof.Rows PySem.Calls PyProof.V PySem.Spec
namespace Mine

theorem find_any {α : Type} (p : α → Bool) : ∀ l : List α, (l.find? p).isSome = l.any p
  | [] => rfl
  | a :: l => by
    rw [List.find?_cons, List.any_cons]
    cases e : p a with
    | true => rfl
    | false => exact find_any p l
theorem in_kinds {w : World} {A : Around} {E : Value → Shared → Prop} {s : Shared} {h₀ : Heap} {L d : Addr} {news : List (Addr × Obj)} {o : Obj} {kvs : List (Str × Value)} {x : Str} {t : Tok} {Q : Value → Shared → Prop} (N : News h₀ L s.heap news) (hm : (d, o) ∈ news) (ho : o.IsDictOf (strKind Challenge.rw_og0162_01.row.prog w) kvs) (lo : (d == sysModules) = false)
    (hk : ∀ x, kvs.any (fun p => decide (p.1 = x)) = inL kindKeys x) (h : Q (.bool (inL kindKeys x)) { s with toks := s.toks + 1 }) : wpAny (model Challenge.rw_og0162_01.row.prog w) A (compareOp .In (.str x t) (.ref d)) Q E s := by
  have hD : s.heap.DictOf (strKind Challenge.rw_og0162_01.row.prog w) d kvs := Heap.dictOf_iff.mpr ⟨o, N.get hm, ho⟩
  refine wpAny_in_of (strKind_is _ _ x t) lo hD.mapOf ?_
  have e : (valueAt kvs x).isSome = kvs.any fun p => decide (p.1 = x) := by
    unfold valueAt
    rw [Option.isSome_map, find_any]
  rw [e, hk]; exact h
theorem item_at {prog : Program} {w : World} {A : Around} {E : Value → Shared → Prop} {s : Shared} {value slice : PySem.Expr} {l : Addr} {vs : List Value} {k : Int} {u : Tok} {v : Value} {Q : Value → Shared → Prop}
    (hl : s.heap.IsList l vs.toArray) (h0 : 0 ≤ k) (hlt : k < 100000) (hx : vs[k.toNat]? = some v) (h : Q v s)
    (hs : subscripted slice false (.ref l) (.int k u) = operate [.ref l, .int k u] (getItem (.ref l) (.int k u)) := by with_unfolding_all rfl) :
    wpAny (model prog w) A (subscriptTail value slice (.ref l) (.int k u)) Q E s :=
  tail_any hl.typeIs slot_list_getitem.lookup (wpAny_getItem_list hl h0 (by omega) (by simpa using hx) h) hs
def NestT (w : World) (f nst dn pl lop d : Addr) (od : Obj) (vs : List Value) (no : Nat) (ws : List Str) (own0 : List (Addr × Obj)) (i : Nat) (m : Str → Option Value) (nx : List (Addr × Obj)) : Prop :=
  ∃ (fvs : List Value) (nf : Nat) (pvs : List Value) (np : Nat) (own : List (Addr × Obj)) (t1 t2 tp : Tok), nx = (f, listOf fvs.toArray nf) :: (nst, instObj 71 dn) :: (dn, nestD w t1 t2 tp pl (runC (ws.take i)).1.2) :: (pl, listOf pvs.toArray np) :: (lop, listOf vs.toArray no) :: (d, od) :: own ∧
    StrsL pvs (runC (ws.take i)).1.1 ∧ FaultsIn own fvs (runC (ws.take i)).2.1 ∧ (∀ q ∈ own0, q ∈ own) ∧ (∀ q ∈ own, q.1 ≠ f) ∧ (∀ q ∈ own, q.1 ≠ dn) ∧ (∀ q ∈ own, q.1 ≠ pl) ∧
    m (Str.ofString "found") = some (.ref f) ∧ m (Str.ofString "nest") = some (.ref nst) ∧ m (Str.ofString "path_words") = some (.ref d) ∧ m (Str.ofString "operations") = some (.ref lop)
theorem nest_map {m : Str → Option Value} {v1 v2 v3 v4 : Value} (h1 : m (Str.ofString "found") = some v1) (h2 : m (Str.ofString "nest") = some v2) (h3 : m (Str.ofString "path_words") = some v3) (h4 : m (Str.ofString "operations") = some v4) :
    m = fun y => if y = Str.ofString "found" then some v1 else if y = Str.ofString "nest" then some v2 else if y = Str.ofString "path_words" then some v3 else if y = Str.ofString "operations" then some v4 else m y := by
  funext z
  by_cases e1 : z = Str.ofString "found"
  · rw [if_pos e1, e1, h1]
  · rw [if_neg e1]
    by_cases e2 : z = Str.ofString "nest"
    · rw [if_pos e2, e2, h2]
    · rw [if_neg e2]
      by_cases e3 : z = Str.ofString "path_words"
      · rw [if_pos e3, e3, h3]
      · rw [if_neg e3]
        by_cases e4 : z = Str.ofString "operations"
        · rw [if_pos e4, e4, h4]
        · rw [if_neg e4]
def Outc (r : Option StC) (old : StC) (z : Str) (new : StC) : Prop := (r = none ∧ (z != Str.ofString "") = true ∧ new = old) ∨ (r = some new ∧ z = Str.ofString "")
theorem outc_t {r : Option StC} {old new : StC} {z : Str} (h : Outc r old z new) (hz : (z != Str.ofString "") = true) : r = none ∧ new = old := by
  rcases h with ⟨h1, _, h2⟩ | ⟨_, h2⟩
  · exact ⟨h1, h2⟩
  · rw [h2] at hz; simp at hz
theorem outc_f {r : Option StC} {old new : StC} {z : Str} (h : Outc r old z new) (hz : (z != Str.ofString "") = false) : r = some new := by
  rcases h with ⟨_, h1, _⟩ | ⟨h1, _⟩
  · rw [hz] at h1; cases h1
  · exact h1
theorem ne_of_size {z : Str} (h : z.cps.size ≠ 0) : (z != Str.ofString "") = true := by
  simp only [bne_iff_ne, ne_eq]
  rintro rfl
  exact h rfl
section
variable {ks ks' : List Str} {pv q x z y : Str}
theorem out1 (h1 : inL kindKeys x = true) (h2 : inL ks (Str.ofString "BT") = true) (hy : y.cps.size ≠ 0) : Outc (stepC (ks, pv) x) (ks, pv) (x ++ y) (ks, pv) := by
  refine .inl ⟨?_, ne_of_size (by rw [Str.cps_append, Array.size_append]; omega), rfl⟩
  unfold stepC; rw [if_pos h1, if_pos h2]
theorem out2 (h1 : inL kindKeys x = true) (h2 : inL ks (Str.ofString "BT") = false) (hT : TextOf (pathW pv x) pv z q) : Outc (stepC (ks, pv) x) (ks, pv) z (ks, q) := by
  have e : stepC (ks, pv) x = (pathW pv x).map fun q => (ks, q) := by unfold stepC; rw [if_pos h1]; simp only [h2]; rfl
  rw [e]
  rcases hT with ⟨h3, h4, _, rfl⟩ | ⟨h3, h4⟩
  · rw [h3]; exact .inl ⟨rfl, ne_of_size h4, rfl⟩
  · rw [h3]; exact .inr ⟨rfl, h4⟩
theorem out3 (h1 : inL kindKeys x = false) (h2 : (pv != Str.ofString "none") = true) (hy : y.cps.size ≠ 0) : Outc (stepC (ks, pv) x) (ks, pv) (x ++ y) (ks, pv) := by
  refine .inl ⟨?_, ne_of_size (by rw [Str.cps_append, Array.size_append]; omega), rfl⟩
  unfold stepC; rw [h1]; simp only [h2]; rfl
theorem out4 (h1 : inL kindKeys x = false) (h2 : (pv != Str.ofString "none") = false) (h3 : (inL s5 x || openW x != Str.ofString "") = true) (hT : TextL (pileW ks x) ks z ks') : Outc (stepC (ks, pv) x) (ks, pv) z (ks', pv) := by
  have e : stepC (ks, pv) x = (pileW ks x).map fun k => (k, pv) := by unfold stepC; rw [h1]; simp only [h2, h3]; rfl
  rw [e]
  rcases hT with ⟨h3, h4, _, rfl⟩ | ⟨h3, h4⟩
  · rw [h3]; exact .inl ⟨rfl, ne_of_size h4, rfl⟩
  · rw [h3]; exact .inr ⟨rfl, h4⟩
theorem out4a (h1 : inL kindKeys x = false) (h2 : (pv != Str.ofString "none") = false) (h3 : inL s5 x = true) (hT : TextL (pileW ks x) ks z ks') : Outc (stepC (ks, pv) x) (ks, pv) z (ks', pv) :=
  out4 h1 h2 (by rw [h3]; rfl) hT
theorem out4b (h1 : inL kindKeys x = false) (h2 : (pv != Str.ofString "none") = false) (h3 : inL s5 x = false) (h4 : (openW x != Str.ofString "") = true) (hT : TextL (pileW ks x) ks z ks') : Outc (stepC (ks, pv) x) (ks, pv) z (ks', pv) :=
  out4 h1 h2 (by rw [h3, h4]; rfl) hT
theorem out5 (h1 : inL kindKeys x = false) (h2 : (pv != Str.ofString "none") = false) (h3 : inL s5 x = false) (h4 : (openW x != Str.ofString "") = false) : Outc (stepC (ks, pv) x) (ks, pv) (Str.ofString "") (ks, pv) := by
  refine .inr ⟨?_, rfl⟩
  unfold stepC; rw [h1]; simp only [h2, h3, h4]; rfl
end

section
variable {w : World} {f nst dn pl lop d : Addr} {od : Obj} {vs : List Value} {no : Nat} {ws : List Str} {own0 own ownI ns : List (Addr × Obj)} {i : Nat} {m' : Str → Option Value} {g h' : Heap} {L : Addr} {s₁ : Shared} {tk : Nat} {Q : Flow → Shared → Prop} {ks ks' : List Str} {pv pv' x z : Str} {fs : List Int} {ix : Int} {fvs : List Value} {nf : Nat} {pvs : List Value} {np : Nat} {t1 t2 tp : Tok} {o1 o2 o3 o4 o5 o6 : Obj}
theorem nest_ok (hR : runC (ws.take i) = ((ks, pv), fs, ix)) (hx : ws[i]? = some x) (hO : Outc (stepC (ks, pv) x) (ks, pv) z (ks', pv')) (hz : (z != Str.ofString "") = false)
    (F : Fr g L h' m') (N : News g L h' ns) (h1 : (f, listOf fvs.toArray nf) ∈ ns) (h2 : (nst, instObj 71 dn) ∈ ns) (h3 : (dn, nestD w t1 t2 tp pl pv') ∈ ns) (h4 : (pl, listOf pvs.toArray np) ∈ ns) (h5 : (lop, listOf vs.toArray no) ∈ ns) (h6 : (d, od) ∈ ns) (h7 : ∀ q ∈ own, q ∈ ns) (h8 : ∀ q ∈ ownI, q ∈ ns)
    (hS : StrsL pvs ks') (hF : FaultsIn own fvs fs) (h0 : ∀ q ∈ own0, q ∈ own) (n1 : ∀ q ∈ own, q.1 ≠ f) (n2 : ∀ q ∈ own, q.1 ≠ dn) (n3 : ∀ q ∈ own, q.1 ≠ pl)
    (hoff : ∀ p ∈ (f, o1) :: (nst, o2) :: (dn, o3) :: (pl, o4) :: (lop, o5) :: (d, o6) :: own, ∀ q ∈ ownI, q.1 ≠ p.1)
    (hm : m' (Str.ofString "found") = some (.ref f) ∧ m' (Str.ofString "nest") = some (.ref nst) ∧ m' (Str.ofString "path_words") = some (.ref d) ∧ m' (Str.ofString "operations") = some (.ref lop)) :
    MvPost g L (NestT w f nst dn pl lop d od vs no ws own0 (i + 1)) ownI s₁ Q .next { s₁ with heap := h', toks := tk } := by
  have hs := outc_f hO hz
  have hG : runC (ws.take (i + 1)) = ((ks', pv'), fs, ix + 1) := by rw [runC_take hx, hR]; unfold goC; simp only [hs]
  refine MvEnd.intro F N (nx := (f, listOf fvs.toArray nf) :: (nst, instObj 71 dn) :: (dn, nestD w t1 t2 tp pl pv') :: (pl, listOf pvs.toArray np) :: (lop, listOf vs.toArray no) :: (d, od) :: own) ⟨fvs, nf, pvs, np, own, t1, t2, tp, ?_, ?_, ?_, h0, n1, n2, n3, hm⟩ ?_ h8 ?_
  · rw [hG]
  · rw [hG]; exact hS
  · rw [hG]; exact hF
  · simp only [List.forall_mem_cons]; exact ⟨h1, h2, h3, h4, h5, h6, h7⟩
  · simp only [List.forall_mem_cons] at hoff ⊢
    exact ⟨fun q hq => (hoff.1 q hq).symm, fun q hq => (hoff.2.1 q hq).symm, fun q hq => (hoff.2.2.1 q hq).symm, fun q hq => (hoff.2.2.2.1 q hq).symm, fun q hq => (hoff.2.2.2.2.1 q hq).symm, fun q hq => (hoff.2.2.2.2.2.1 q hq).symm, fun p hp q hq => (hoff.2.2.2.2.2.2 p hp q hq).symm⟩
theorem nest_bad {D : Addr} {t : Tok} {tv : Value} {n' : Nat} (hR : runC (ws.take i) = ((ks, pv), fs, ix)) (hix : ix = 0 + (i : Int)) (hx : ws[i]? = some x) (hO : Outc (stepC (ks, pv) x) (ks, pv) z (ks', pv')) (hz : (z != Str.ofString "") = true)
    (F : Fr g L h' m') (N : News g L h' ns) (h1 : (f, listOf (fvs ++ [Value.ref D]).toArray nf) ∈ ns) (h2 : (nst, instObj 71 dn) ∈ ns) (h3 : (dn, nestD w t1 t2 tp pl pv') ∈ ns) (h4 : (pl, listOf pvs.toArray np) ∈ ns) (h5 : (lop, listOf vs.toArray no) ∈ ns) (h6 : (d, od) ∈ ns) (h7 : ∀ q ∈ own, q ∈ ns) (h8 : ∀ q ∈ ownI, q ∈ ns)
    (hD : (D, tupO #[.int (0 + (i : Int)) t, tv] n') ∈ ns) (d1 : D ≠ f) (d2 : D ≠ dn) (d3 : D ≠ pl) (d4 : ∀ q ∈ own ++ ownI, q.1 ≠ D)
    (hS : StrsL pvs ks') (hF : FaultsIn own fvs fs) (h0 : ∀ q ∈ own0, q ∈ own) (n1 : ∀ q ∈ own, q.1 ≠ f) (n2 : ∀ q ∈ own, q.1 ≠ dn) (n3 : ∀ q ∈ own, q.1 ≠ pl)
    (hoff : ∀ p ∈ (f, o1) :: (nst, o2) :: (dn, o3) :: (pl, o4) :: (lop, o5) :: (d, o6) :: own, ∀ q ∈ ownI, q.1 ≠ p.1)
    (hm : m' (Str.ofString "found") = some (.ref f) ∧ m' (Str.ofString "nest") = some (.ref nst) ∧ m' (Str.ofString "path_words") = some (.ref d) ∧ m' (Str.ofString "operations") = some (.ref lop)) :
    MvPost g L (NestT w f nst dn pl lop d od vs no ws own0 (i + 1)) ownI s₁ Q .next { s₁ with heap := h', toks := tk } := by
  obtain ⟨hs, he⟩ := outc_t hO hz
  injection he with e1 e2
  subst e1 e2
  have hG : runC (ws.take (i + 1)) = ((ks', pv'), fs ++ [ix], ix + 1) := by rw [runC_take hx, hR]; unfold goC; simp only [hs]
  refine MvEnd.intro F N (nx := (f, listOf (fvs ++ [Value.ref D]).toArray nf) :: (nst, instObj 71 dn) :: (dn, nestD w t1 t2 tp pl pv') :: (pl, listOf pvs.toArray np) :: (lop, listOf vs.toArray no) :: (d, od) :: ((D, tupO #[.int (0 + (i : Int)) t, tv] n')  :: own)) ⟨fvs ++ [Value.ref D], nf, pvs, np, (D, tupO #[.int (0 + (i : Int)) t, tv] n') :: own, t1, t2, tp, ?_, ?_, ?_, fun q hq => .tail _ (h0 q hq), ?_, ?_, ?_, hm⟩ ?_ h8 ?_
  · rw [hG]
  · rw [hG]; exact hS
  · rw [hG]
    exact (hF.mono fun q hq => .tail _ hq).append (.cons ⟨D, t, tv, n', rfl, by rw [hix]; exact .head _⟩ .nil)
  · exact List.forall_mem_cons.mpr ⟨d1, n1⟩
  · exact List.forall_mem_cons.mpr ⟨d2, n2⟩
  · exact List.forall_mem_cons.mpr ⟨d3, n3⟩
  · simp only [List.forall_mem_cons]; exact ⟨h1, h2, h3, h4, h5, h6, hD, h7⟩
  · simp only [List.forall_mem_cons] at hoff ⊢
    exact ⟨fun q hq => (hoff.1 q hq).symm, fun q hq => (hoff.2.1 q hq).symm, fun q hq => (hoff.2.2.1 q hq).symm, fun q hq => (hoff.2.2.2.1 q hq).symm, fun q hq => (hoff.2.2.2.2.1 q hq).symm, fun q hq => (hoff.2.2.2.2.2.1 q hq).symm, fun q hq => (d4 q (List.mem_append.mpr (.inr hq))).symm, fun p hp q hq => (hoff.2.2.2.2.2.2 p hp q hq).symm⟩
end
theorem goC_len (a : StC × List Int × Int) (x : Str) : (goC a x).1.1.length ≤ a.1.1.length + 1 ∧ (goC a x).2.1.length ≤ a.2.1.length + 1 := by
  obtain ⟨⟨ks, pv⟩, fs, ix⟩ := a
  unfold goC
  have key : ∀ st, stepC (ks, pv) x = some st → st.1.length ≤ ks.length + 1 := by
    intro st h
    unfold stepC at h
    split at h
    · split at h
      · cases h
      · cases e : pathW pv x with
        | none => rw [e] at h; cases h
        | some q => rw [e] at h; cases h; exact Nat.le_succ _
    · split at h
      · cases h
      · split at h
        · cases e : pileW ks x with
          | none => rw [e] at h; cases h
          | some k =>
            rw [e] at h; cases h
            unfold pileW at e
            split at e
            · split at e
              · cases e
              · cases e; simp
            · split at e
              · cases e
              · split at e
                · cases e; simp; omega
                · cases e
        · cases h; exact Nat.le_succ _
  cases e : stepC (ks, pv) x with
  | none => simp only [e]; simp
  | some st => simp only [e]; exact ⟨key st e, Nat.le_succ _⟩
theorem runC_len : ∀ ws : List Str, (runC ws).1.1.length ≤ ws.length ∧ (runC ws).2.1.length ≤ ws.length := by
  have key : ∀ (ws : List Str) (a : StC × List Int × Int), (ws.foldl goC a).1.1.length ≤ a.1.1.length + ws.length ∧ (ws.foldl goC a).2.1.length ≤ a.2.1.length + ws.length := by
    intro ws
    induction ws with
    | nil => intro a; simp
    | cons x r ih =>
      intro a
      rw [List.foldl_cons, List.length_cons]
      have h1 := ih (goC a x)
      have h2 := goC_len a x
      omega
  intro ws
  have := key ws (([], Str.ofString "none"), [], 0)
  unfold runC
  simpa using this
end Mine
end
section
open PySem PySem.W PyProof.Rows PySem.Calls PyProof.V PySem.Spec
namespace Mine
section
variable {prog : Program} {w : World} {A : Around} {E : Value → Shared → Prop} {s : Shared} {env : Env} {h₀ : Heap} {x : Str} {body : List Stmt} {Q : Flow → Shared → Prop}
theorem loop_mvw2 {I : Addr} {fp wr : List Addr} {n : Nat} {P : Nat → Value → Prop} {St : Nat → Heap → Prop} {m₀ : Str → Option Value} {news : List (Addr × Obj)} (J : Nat → (Str → Option Value) → List (Addr × Obj) → Prop)
    (W : Walks prog w A I fp wr n P St) (hlive : ∀ i h, St i h → ∀ b ∈ wr, ∃ o, h.get? b = some o) (hLf : env.locals ∉ fp) (hwr : ∀ b ∈ wr, h₀.get? b = none) (hnw : ∀ p ∈ news, p.1 ∉ wr)
    (hst : St 0 s.heap) (F : Fr h₀ env.locals s.heap m₀) (N : News h₀ env.locals s.heap news) (hj : J 0 m₀ news)
    (turn : ∀ i v m₁ nx h tk own, i < n → P i v → J i m₁ nx → (∀ p ∈ nx, p.1 ∉ wr) → (∀ p ∈ own, p.1 ∈ fp) → (∀ b ∈ wr, ∃ o, (b, o) ∈ own) → Fr h₀ env.locals h (fun y => if y = x then some v else m₁ y) → News h₀ env.locals h (nx ++ own) →
      wpAny (model prog w) A (execs body env) (MvPostW h₀ env.locals wr (J (i + 1)) own { s with heap := h, toks := tk } Q) E { s with heap := h, toks := tk })
    (done : ∀ m₁ nx h tk, J n m₁ nx → Fr h₀ env.locals h m₁ → News h₀ env.locals h nx → Q .next { s with heap := h, toks := tk }) :
    LoopAtV prog w A h₀ env x body Q E (.ref I) s := by
  refine ⟨I, fp, wr, n, P, St, m₀, news, J, rfl, W, hLf, hwr, hnw, hst, F, N, hj, ?_, ?_⟩
  · rintro i v m₁ nx s₁ own ⟨hh', tk', rfl⟩ hin hP hJ hoff hown hget hall hst₁ F₁ N₁
    have hwo : ∀ b ∈ wr, ∃ o, (b, o) ∈ own := fun b hb => by
      obtain ⟨o, ho⟩ := hlive _ _ hst₁ b hb
      exact ⟨o, hall b (W.sub b hb) (hwr b hb) o ho⟩
    have N₂ : News h₀ env.locals hh' (nx ++ own) := fun p hp => N₁ p ((List.mem_append.mp hp).elim (fun h => List.mem_append.mpr (.inr h)) fun h => List.mem_append.mpr (.inl h))
    refine wpAny_mono (turn i v m₁ nx hh' tk' own hin hP hJ hoff hown hwo F₁ N₂) (fun f s₂ p => ?_) fun _ _ e => e
    have fin : (∃ h' tk m' news' ny, s₂ = { s with heap := h', toks := tk } ∧ Fr h₀ env.locals h' m' ∧ News h₀ env.locals h' news' ∧ (∀ p ∈ ny, p ∈ news') ∧ (∀ p ∈ own, p ∈ news') ∧ (∀ p ∈ ny, p.1 ∉ wr) ∧ J (i + 1) m' ny) → LoopStepU h₀ env.locals wr own (J (i + 1)) { s with heap := hh', toks := tk' } .next s₂ := by
      rintro ⟨h', tk, m', news', ny, e, F', N', hn, ho, ha, hm⟩
      exact ⟨rfl, h', tk, m', ny, e, F', fun p hp => N' p ((List.mem_append.mp hp).elim (ho p) (hn p)), ha, hm⟩
    cases f with
    | ret v => exact .ret p
    | brk => exact .brk p
    | next => exact .next (fin p)
    | cont => exact .cont (fin p)
  · rintro h' tk m' news' F' N' _ hJ
    exact done m' news' h' tk hJ F' N'
end

theorem loop_list {prog : Program} {w : World} {A : Around} {E : Value → Shared → Prop} {s : Shared} {env : Env} {h₀ : Heap} {x : Str} {body : List Stmt} {Q : Flow → Shared → Prop} {l : Addr} {vs : List Value} {n : Nat} {m₀ : Str → Option Value} {news : List (Addr × Obj)} (J : Nat → (Str → Option Value) → List (Addr × Obj) → Prop)
    (hh : A.handled = none) (hl : (l, listOf vs.toArray n) ∈ news) (F : Fr h₀ env.locals s.heap m₀) (N : News h₀ env.locals s.heap news) (hj : J 0 m₀ news)
    (turn : ∀ i v m₁ nx h tk (I : Addr) own, vs[i]? = some v → J i m₁ nx → (∀ p ∈ nx, p.1 ≠ I) → (∃ o, (I, o) ∈ own) → (∀ p ∈ own, p.1 = I ∨ p.1 = l) → Fr h₀ env.locals h (fun y => if y = x then some v else m₁ y) → News h₀ env.locals h (nx ++ own) →
      wpAny (model prog w) A (execs body env) (MvPostW h₀ env.locals [I] (J (i + 1)) own { s with heap := h, toks := tk } Q) E { s with heap := h, toks := tk })
    (done : ∀ m₁ nx h tk, J vs.length m₁ nx → Fr h₀ env.locals h m₁ → News h₀ env.locals h nx → Q .next { s with heap := h, toks := tk }) :
    wpAny (model prog w) A (pyIter (.ref l)) (fun it s₂ => LoopAtV prog w A h₀ env x body Q E it s₂) E s := by
  have hL : s.heap.IsList l vs.toArray := ⟨_, N.get hl, rfl, n, rfl⟩
  refine wpAny_pyIter_list hL ?_
  have hlI : l ≠ s.heap.objs.size := Nat.ne_of_lt (Heap.lt_size (N.get hl))
  have up1 : ∀ b o, s.heap.get? b = some o → (s.heap.push { cls := .type "list_iterator", data := .fields #[.ref l, .int 0 0] }).get? b = some o := fun b o e => Heap.get?_push_of_some _ e
  refine loop_mvw2 J (Walks.list hh s.heap.objs.size l hlI vs.toArray) (fun i h st b hb => ?_) ?_ ?_ ?_ ⟨⟨_, Heap.get?_push_size _ rfl, rfl, rfl⟩, hL.at fun o e => up1 _ _ e⟩ (F.push _) (fun p hp => ⟨up1 _ _ (N p hp).1, (N p hp).2⟩) hj ?_ ?_
  · rw [List.mem_singleton.mp hb]
    obtain ⟨o, ho, _⟩ := st.1
    exact ⟨o, ho⟩
  · intro hm
    rcases List.mem_cons.mp hm with e | hm
    · exact absurd F.ns.lt (e ▸ Nat.lt_irrefl _)
    · have := (N _ hl).2.1
      exact this (List.mem_singleton.mp hm).symm
  · intro b hb
    rw [List.mem_singleton.mp hb]
    exact next_is_new F
  · intro p hp hI
    exact absurd (Heap.lt_size (N p hp).1) ((List.mem_singleton.mp hI) ▸ Nat.lt_irrefl _)
  · rintro i v m₁ nx h tk own hi hP hJ hoff hown hwo F' N'
    refine turn i v m₁ nx h tk s.heap.objs.size own (by simpa using hP) hJ (fun p hp e => hoff p hp (by rw [e]; exact List.mem_singleton.mpr rfl)) (hwo _ (List.mem_singleton.mpr rfl)) (fun p hp => ?_) F' N'
    rcases List.mem_cons.mp (hown p hp) with e | e
    · exact .inl e
    · exact .inr (List.mem_singleton.mp e)
  · intro m₁ nx h tk hJ F₁ N₁
    exact done m₁ nx h tk (by simpa using hJ) F₁ N₁

def Nest2T (f nst dn pl lop d : Addr) (DI DN PL LO od : Obj) (own0 : List (Addr × Obj)) (fs : List Int) (nn : Int) (i : Nat) (m : Str → Option Value) (nx : List (Addr × Obj)) : Prop :=
  ∃ (fvs : List Value) (nf : Nat) (own : List (Addr × Obj)), nx = (f, listOf fvs.toArray nf) :: (nst, DI) :: (dn, DN) :: (pl, PL) :: (lop, LO) :: (d, od) :: own ∧ FaultsIn own fvs (fs ++ List.replicate i nn) ∧ (∀ q ∈ own0, q ∈ own) ∧ (∀ q ∈ own, q.1 ≠ f) ∧
    m (Str.ofString "found") = some (.ref f) ∧ m (Str.ofString "nest") = some (.ref nst) ∧ m (Str.ofString "path_words") = some (.ref d) ∧ m (Str.ofString "operations") = some (.ref lop)
section
variable {f nst dn pl lop d D I : Addr} {DI DN PL LO od oI o1 o2 o3 o4 o5 o6 : Obj} {own0 own2 ownI own9 : List (Addr × Obj)} {fs : List Int} {nn : Int} {i : Nat} {m' : Str → Option Value} {g h' : Heap} {L : Addr} {s₁ : Shared} {tk : Nat} {Q : Flow → Shared → Prop} {fvs : List Value} {nf n' : Nat} {t : Tok} {tv : Value}
theorem nest2_end (F : Fr g L h' m') (N : News g L h' ((D, tupO #[.int nn t, tv] n') :: (f, listOf (fvs ++ [Value.ref D]).toArray nf) :: (nst, DI) :: (dn, DN) :: (pl, PL) :: (lop, LO) :: (d, od) :: own9)) (h9e : own9 = own2 ++ ownI) (hFl : FaultsIn own2 fvs (fs ++ List.replicate i nn))
    (h0 : ∀ q ∈ own0, q ∈ own2) (n1 : ∀ q ∈ own2, q.1 ≠ f) (hD : f < D ∧ nst < D ∧ dn < D ∧ pl < D ∧ lop < D ∧ d < D ∧ AllLt D own9) (hoff : ∀ p ∈ (f, o1) :: (nst, o2) :: (dn, o3) :: (pl, o4) :: (lop, o5) :: (d, o6) :: own2, p.1 ≠ I) (hI : (I, oI) ∈ own9)
    (hm : m' (Str.ofString "found") = some (.ref f) ∧ m' (Str.ofString "nest") = some (.ref nst) ∧ m' (Str.ofString "path_words") = some (.ref d) ∧ m' (Str.ofString "operations") = some (.ref lop)) :
    MvPostW g L [I] (Nest2T f nst dn pl lop d DI DN PL LO od own0 fs nn (i + 1)) ownI s₁ Q .next { s₁ with heap := h', toks := tk } := by
  have hID : D ≠ I := (AllLt.ne hD.2.2.2.2.2.2 _ hI).symm
  refine ⟨h', tk, m', _, (f, listOf (fvs ++ [Value.ref D]).toArray nf) :: (nst, DI) :: (dn, DN) :: (pl, PL) :: (lop, LO) :: (d, od) :: ((D, tupO #[.int nn t, tv] n') :: own2), rfl, F, N, ?_, ?_, ?_, fvs ++ [Value.ref D], nf, (D, tupO #[.int nn t, tv] n') :: own2, rfl, ?_, fun q hq => .tail _ (h0 q hq), List.forall_mem_cons.mpr ⟨Nat.ne_of_gt hD.1, n1⟩, hm⟩
  · subst h9e
    intro p hp
    simp only [List.mem_cons, List.mem_append] at hp ⊢
    rcases hp with h | h | h | h | h | h | h | h <;> simp [h]
  · subst h9e
    intro p hp
    simp only [List.mem_cons, List.mem_append]
    simp [hp]
  · simp only [List.forall_mem_cons, List.mem_singleton] at hoff ⊢
    exact ⟨hoff.1, hoff.2.1, hoff.2.2.1, hoff.2.2.2.1, hoff.2.2.2.2.1, hoff.2.2.2.2.2.1, hID, hoff.2.2.2.2.2.2⟩
  · rw [List.replicate_succ', ← List.append_assoc]
    exact (hFl.mono fun q hq => .tail _ hq).append (.cons ⟨D, t, tv, n', rfl, .head _⟩ .nil)
end

def okS (k : Str) : Bool := inL s4 k
theorem goC_ok (a : StC × List Int × Int) (x : Str) (h : ∀ k ∈ a.1.1, inL s4 k = true) : ∀ k ∈ (goC a x).1.1, inL s4 k = true := by
  obtain ⟨⟨ks, pv⟩, fs, ix⟩ := a
  unfold goC
  have key : ∀ st, stepC (ks, pv) x = some st → ∀ k ∈ st.1, inL s4 k = true := by
    intro st e
    unfold stepC at e
    split at e
    · split at e
      · cases e
      · cases e2 : pathW pv x with
        | none => rw [e2] at e; cases e
        | some q => rw [e2] at e; cases e; exact h
    · split at e
      · cases e
      · split at e
        · cases e2 : pileW ks x with
          | none => rw [e2] at e; cases e
          | some k =>
            rw [e2] at e; cases e
            unfold pileW at e2
            split at e2
            · rename_i hn
              split at e2
              · cases e2
              · cases e2
                intro k hk
                rcases List.mem_append.mp hk with hk | hk
                · exact h k hk
                · rw [List.mem_singleton.mp hk]; exact hn
            · split at e2
              · cases e2
              · split at e2
                · cases e2
                  exact fun k hk => h k (List.dropLast_subset _ hk)
                · cases e2
        · cases e; exact h
  cases e : stepC (ks, pv) x with
  | none => exact h
  | some st => exact key st e
theorem runC_ok : ∀ ws : List Str, ∀ k ∈ (runC ws).1.1, inL s4 k = true := by
  have key : ∀ (ws : List Str) (a : StC × List Int × Int), (∀ k ∈ a.1.1, inL s4 k = true) → ∀ k ∈ (ws.foldl goC a).1.1, inL s4 k = true := by
    intro ws
    induction ws with
    | nil => intro a h; exact h
    | cons x r ih => intro a h; exact ih _ (goC_ok a x h)
  exact fun ws => key ws _ (fun k hk => nomatch hk)
theorem s4_len {k : Str} (h : inL s4 k = true) : k.length ≤ 10 := by
  unfold inL at h
  simp only [List.any_cons, List.any_nil, Bool.or_false, Bool.or_eq_true, beq_iff_eq] at h
  rcases h with h | h | h | h <;> subst h <;> decide
end Mine
end
section
open PySem PySem.W PyProof.Rows PySem.Calls PyProof.V PySem.Spec
namespace Mine
theorem fresh_P47 : True := by
  w_top off
  k_with_none
  trivial
local macro_rules | `(tactic| k_all) => `(tactic| assumption)
local macro_rules | `(tactic| k_room) => `(tactic| ktr_room)
local macro_rules | `(tactic| k_all) => `(tactic| assumption)

theorem news_swap {h₀ h : Heap} {L : Addr} {a b : Addr × Obj} {ns : List (Addr × Obj)} (N : News h₀ L h (a :: b :: ns)) : News h₀ L h (b :: a :: ns) := by
  intro p hp
  rcases List.mem_cons.mp hp with rfl | hp
  · exact N _ (.tail _ (.head _))
  · rcases List.mem_cons.mp hp with rfl | hp
    · exact N _ (.head _)
    · exact N _ (.tail _ (.tail _ hp))
theorem regroup3 {g h : Heap} {L : Addr} {a b c d e l : Addr × Obj} {own : List (Addr × Obj)} (N : News g L h (a :: b :: c :: d :: e :: l :: own)) : News g L h (e :: c :: d :: b :: l :: a :: own) := by
  have h0 : ∀ p ∈ e :: c :: d :: b :: l :: a :: own, p ∈ a :: b :: c :: d :: e :: l :: own := by
    intro p hp
    simp only [List.mem_cons] at hp ⊢
    rcases hp with h | h | h | h | h | h | h <;> simp [h]
  exact fun p hp => N p (h0 p hp)
set_option maxRecDepth 100000 in
set_option maxHeartbeats 2000000 in
theorem nest_spec {w : World} {mean : ExcName → Option Value} {mg mb : Str → Option Value} {dp un : Nat} {gd : Option (List Code)} {cn : Str} {cs : Scope} {a : Addr} {ccd : Value} {cl : List (Str × Addr)} {outer : List Env} {A₀ : Around} {base h₀ : Heap} {L : Addr} {m : Str → Option Value} {s : Shared} {Q E : Value → Shared → Prop}
    (B : Below A₀ base outer h₀) (F : Fr h₀ L s.heap m) (X : (hd.heap_39 w.params).In h₀) (T : Top hd.view_39 (looseW hd.view_39 []) mean mg mb h₀) (hk : cs.kind = .function)
    {lop : Addr} {vs : List Value} {no : Nat} {ws : List Str} {own : List (Addr × Obj)}
    (N : News h₀ L s.heap ((lop, listOf vs.toArray no) :: own)) (hO : OpsIn w own vs ws) (hw : ∀ x ∈ ws, x.length ≤ 10) (hl : ws.length ≤ 800)
    (hd : dp < 870) (hu : un < 8700)
    (ret : ∀ (f : Addr) fvs nf nw (h' : Heap) (tk' : Nat), FaultsIn nw fvs (faultsC ws) → Fr h₀ L h' m → News h₀ L h' ((f, listOf fvs.toArray nf) :: nw) → (∀ b o, s.heap.get? b = some o → h'.get? b = some o) → Q (.ref f) { s with heap := h', toks := tk' }) :
    wpAny (model Challenge.rw_og0162_01.row.prog w) (ktrTop dp un gd cn cs L a ccd cl outer) (call (.ref 103) [.ref lop]) Q E s := by
  k_with_none
  k_with "eval Constant str" => (refine const_str_gen ?_; intro z_t' z_tk'; (try dsimp only))
  k_with "call ref" => (k_here; (with_reducible show wpAny _ _ (call (Value.ref 82) _ _) _ _ _); k_dflt (refine' opened_use ?y_k1 ?y_k2 ?y_k3 ?y_k4 ?y_k5 ?y_kN ?y_d ?y_u ?_; (case y_k1 => k_asm); (case y_k2 => k_asm); (case y_k3 => k_asm); (case y_k4 => k_asm); (case y_k5 => first | rfl | assumption); (case y_kN => k_asm); (case y_d => (dsimp only [Around.deeper, Around.in1, ktrTop]; first | exact Mine.room (by assumption) (Nat.le_of_ble_eq_true rfl) | omega)); (case y_u => (dsimp only [Around.deeper, Around.in1, ktrTop]; first | exact Mine.room (by assumption) (Nat.le_of_ble_eq_true rfl) | omega))); k_whole; intro z_h' z_tk' z_tz' z_F' z_N'; (try dsimp only); (try k_fold); (try k_sweep))
  k_with "call builtin:list.append" => (k_here; (with_reducible show wpAny _ _ (call (Value.builtin _) [Value.ref _, _]) _ _ _); k_dflt (refine' append_L ?y_k1 ?y_k2 ?y_k3 ?y_z ?_; (case y_k1 => k_asm); (case y_k2 => k_asm); (case y_k3 => k_upd); (case y_z => (simp only [List.length_append, List.length_cons, List.length_nil]; omega)); k_whole); intro z_h' z_F' z_N'; (try k_sweep))
  k_with "call builtin:list.append" => (k_here; (with_reducible show wpAny _ _ (call (Value.builtin _) [Value.ref _, _]) _ _ _); k_dflt (refine' append_L ?y_k1 ?y_k2 ?y_k3 ?y_z ?_; (case y_k1 => k_asm); (case y_k2 => k_asm); (case y_k3 => k_upd); (case y_z => omega); k_whole); intro z_h' z_F' z_N'; (try k_sweep))
  k_with "binaryOp Add ref ref" => (k_here; k_dflt (refine' add_L ?y_F ?y_N ?y_a ?y_b ?y_z ?_; (case y_F => k_asm); (case y_N => k_asm); (case y_a => is_list); (case y_b => is_list); (case y_z => first | omega | (simp only [List.length_append, List.length_cons, List.length_nil]; omega)); k_whole); intro z_D' z_h' z_F' z_N' z_l1; (have z_l9 := z_l1); (try k_lt z_l1); (try k_sweep))
  k_with "call ref" => (k_here; (with_reducible show wpAny _ _ (call (Value.ref 54) _ _) _ _ _); k_dflt (refine' kinds_use ?y_k1 ?y_k2 ?y_k3 ?y_k4 ?y_k5 ?y_kN ?y_d ?y_u ?_; (case y_k1 => k_asm); (case y_k2 => k_asm); (case y_k3 => k_asm); (case y_k4 => k_asm); (case y_k5 => first | rfl | assumption); (case y_kN => k_asm); (case y_d => (dsimp only [Around.deeper, Around.in1, ktrTop]; first | exact Mine.room (by assumption) (Nat.le_of_ble_eq_true rfl) | omega)); (case y_u => (dsimp only [Around.deeper, Around.in1, ktrTop]; first | exact Mine.room (by assumption) (Nat.le_of_ble_eq_true rfl) | omega))); k_whole; intro z_d' z_o' z_kvs' z_h' z_tk' z_ho' z_hk' z_F' z_N' z_hne' z_lo'; (try dsimp only); (try k_fold); (try k_sweep))
  k_with "call ref" => (k_here; (with_reducible show wpAny _ _ (call (Value.ref 96) _ _) _ _ _); k_dflt (refine' pathf_use ?y_k1 ?y_k2 ?y_k3 ?y_k4 ?y_k5 ?y_kN ?y_km ?y_kU ?y_kne ?y_kx ?y_d ?y_u ?_; (case y_k1 => k_asm); (case y_k2 => k_asm); (case y_k3 => k_asm); (case y_k4 => k_asm); (case y_k5 => first | rfl | assumption); (case y_kN => k_asm); (case y_km => k_mem); (case y_kU => k_updF); (case y_kne => k_ne); (case y_kx => assumption); (case y_d => (dsimp only [Around.deeper, Around.in1, ktrTop]; first | exact Mine.room (by assumption) (Nat.le_of_ble_eq_true rfl) | omega)); (case y_u => (dsimp only [Around.deeper, Around.in1, ktrTop]; first | exact Mine.room (by assumption) (Nat.le_of_ble_eq_true rfl) | omega))); k_whole; intro z_z' z_q' z_h' z_tk' z_tz' z_t1' z_t2' z_tp' z_hT' z_F' z_N'; (try dsimp only at z_N'); (try dsimp only); (try k_fold); (try k_sweep))
  k_with "call ref" => (k_here; (with_reducible show wpAny _ _ (call (Value.ref 89) _ _) _ _ _); k_dflt (refine' pilef_use ?y_k1 ?y_k2 ?y_k3 ?y_k4 ?y_k5 ?y_kN ?y_km ?y_km2 ?y_kU ?y_kne ?y_kne2 ?y_kne3 ?y_kS ?y_kv ?y_kx ?y_d ?y_u ?_; (case y_k1 => k_asm); (case y_k2 => k_asm); (case y_k3 => k_asm); (case y_k4 => k_asm); (case y_k5 => first | rfl | assumption); (case y_kN => k_asm); (case y_km => k_mem); (case y_km2 => k_mem); (case y_kU => k_updF); (case y_kne => k_ne); (case y_kne2 => k_ne); (case y_kne3 => k_ne); (case y_kS => assumption); (case y_kv => assumption); (case y_kx => assumption); (case y_d => (dsimp only [Around.deeper, Around.in1, ktrTop]; first | exact Mine.room (by assumption) (Nat.le_of_ble_eq_true rfl) | omega)); (case y_u => (dsimp only [Around.deeper, Around.in1, ktrTop]; first | exact Mine.room (by assumption) (Nat.le_of_ble_eq_true rfl) | omega))); k_whole; intro z_z' z_ks' z_vs' z_n' z_h' z_tk' z_tz' z_hT' z_hS' z_F' z_N'; (try dsimp only at z_N'); (try dsimp only); (try k_fold); (try k_sweep))
  k_with "call builtin:len" => (k_here; (with_reducible show wpAny _ _ (call (Value.builtin "len") [Value.ref _]) _ _ _); k_dflt (refine' len_L ?y_l ?y_z ?_; (case y_l => is_list); (case y_z => (simp only [List.length_append, List.length_cons, List.length_nil]; omega)); k_whole))
  k_with "call builtin:len" => (k_here; (with_reducible show wpAny _ _ (call (Value.builtin "len") [Value.ref _]) _ _ _); k_dflt (refine' len_L ?y_l ?y_z ?_; (case y_l => is_list); (case y_z => omega); k_whole))
  k_with "subscriptTail" => (k_here; (with_reducible show wpAny _ _ (subscriptTail _ _ (Value.ref _) (Value.int _ _)) _ _ _); k_dflt (refine' item_open ?y_l ?y_a ?y_b ?y_z ?_ ?y_e; (case y_l => is_list); (case y_a => omega); (case y_b => omega); (case y_z => omega); (case y_e => with_unfolding_all rfl); k_whole); intro z_v' z_hv' z_hx')
  k_with "call type:range" => (k_here; (rename Fr _ _ _ _ => z_F'); (rename News _ _ _ _ => z_N'); (with_unfolding_all refine range1_rows z_F' z_N' ?_); intro z_h' z_tk' z_t1' z_u1' z_v1' z_hR' z_F' z_N' z_hk'; (try k_sweep))
  k_with "exec For Name Call cons nil" => (k_here; (rename Fr _ _ _ _ => z_lF'); (with_unfolding_all refine' For_invVF z_lF' ?y_k1 ?y_k2 ?_; (case y_k1 => exact rfl); (case y_k2 => exact rfl); k_whole))
  k_with "pyIter ref" => ((with_reducible show wpAny _ _ (pyIter (Value.ref _)) (fun it s₂ => LoopAtV _ _ _ _ _ _ _ _ _ it s₂) _ _); refine stop_here ?_)
  k_with "exec For Name Attribute cons nil" => (k_here; (rename Fr _ _ _ _ => z_lF'); (with_unfolding_all refine' For_invVF z_lF' ?y_k1 ?y_k2 ?_; (case y_k1 => exact rfl); (case y_k2 => exact rfl); k_whole))
  k_with "compareOp In str ref" => (k_here; (with_reducible show wpAny _ _ (compareOp CmpOp.In (Value.str _ _) (Value.ref _)) _ _ _); k_dflt (refine' in_L ?y_l ?y_k ?_; (case y_k => assumption); (case y_l => is_list); k_whole))
  k_with "compareOp In str ref" => (k_here; (with_reducible show wpAny _ _ (compareOp CmpOp.In (Value.str _ _) (Value.ref _)) _ _ _); k_dflt (refine' in_kinds ?y_N ?y_m ?y_o ?y_lo ?y_k ?_; (case y_o => assumption); (case y_lo => assumption); (case y_k => assumption); (case y_N => k_asm); (case y_m => k_mem); k_whole))
  k_with "subscriptTail" => (k_here; (with_reducible show wpAny _ _ (subscriptTail _ _ (Value.ref _) (Value.int _ _)) _ _ _); k_dflt (refine' item_at ?y_l ?y_a ?y_b ?y_x ?_ ?y_e; (case y_x => assumption); (case y_l => is_list); (case y_a => omega); (case y_b => omega); (case y_e => with_unfolding_all rfl); k_whole))
  revert X; k_fill; intro X
  refine wpAny_call ?_
  k_dflt (refine' code_defG ?k1 ?k2 ?k3 ?k4 ?k5 ?kA ?kF ?kK ?k6 ?k7 ?k8 ?k9 ?kB ?_ ?c2 ?c3 ?c4 ?c5; (case kA => exact rfl); (case kF => exact rfl); (case kK => assumption); (case k1 => k_asm); (case k2 => k_asm); (case k3 => k_asm); (case k4 => k_asm); (case k5 => k_asm); (case k6 => k_is); (case k7 => k_is); (case k8 => ktr_room); (case k9 => exact BindsTo.of_eq rfl); (case c5 => decide); (case kB => exact locs rfl); (case c2 => exact rfl); (case c3 => exact rfl); (case c4 => exact rfl))
  k_whole
  intro g' L' h₁ FG' F' N' B' X' T' kG'
  (try dsimp only)
  (try k_fold)
  have hvl : vs.length = ws.length := hO.len
  k_steps
  refine Stop.go ?_
  (rename Fr g' L' _ _ => F1); (rename News g' L' _ _ => N1); (rename IsRange _ _ _ _ _ _ _ _ => R1); (rename Obj.IsDictOf _ _ _ => hod); (rename ((_ == sysModules) = false) => hlo); (rename (∀ _ : Str, _ = inL kindKeys _) => hkk)
  (rename Heap => h9)
  (rename (∀ p : Addr × Obj, p ∈ _ → p.1 ≠ _) => hdn)
  have hdn' := allNe_of hdn
  simp only [AllNe, and_true] at hdn'
  obtain ⟨f, nst, dn, pl, d, od, kvs, m0, t1, t2, tp, F2, N2, e1, e2, e3, e4, q1, q2, q3, q4, q5, q6, q7, q8, q9, n1, n2, n3, hod2, hlo2, hkk2⟩ : ∃ (f nst dn pl d : Addr) (od : Obj) (kvs : List (Str × Value)) (m0 : Str → Option Value) (t1 t2 tp : Tok), Fr g' L' h9 m0 ∧ News g' L' h9 ((f, listOf ([] : List Value).toArray 0) :: (nst, instObj 71 dn) :: (dn, nestD w t1 t2 tp pl (Str.ofString "none")) :: (pl, listOf ([] : List Value).toArray 0) :: (lop, listOf vs.toArray no) :: (d, od) :: own) ∧
      m0 (Str.ofString "found") = some (.ref f) ∧ m0 (Str.ofString "nest") = some (.ref nst) ∧ m0 (Str.ofString "path_words") = some (.ref d) ∧ m0 (Str.ofString "operations") = some (.ref lop) ∧
      (@LT.lt Nat _ lop f) ∧ (@LT.lt Nat _ f dn) ∧ (@LT.lt Nat _ dn nst) ∧ (@LT.lt Nat _ nst pl) ∧ (@Ne Nat pl d) ∧ (@Ne Nat nst d) ∧ (@Ne Nat dn d) ∧ (@Ne Nat f d) ∧ (@Ne Nat lop d) ∧ (∀ q ∈ own, q.1 ≠ f) ∧ (∀ q ∈ own, q.1 ≠ dn) ∧ (∀ q ∈ own, q.1 ≠ pl) ∧ od.IsDictOf (strKind Challenge.rw_og0162_01.row.prog w) kvs ∧ (d == sysModules) = false ∧ (∀ x, kvs.any (fun p => decide (p.1 = x)) = inL kindKeys x) := by
    refine ⟨_, _, _, _, _, _, _, _, _, _, _, F1, regroup3 N1, rfl, rfl, rfl, rfl, ?_, ?_, ?_, ?_, ?_, ?_, ?_, ?_, ?_, ?_, ?_, ?_, hod, hlo, hkk⟩
    all_goals first | omega | exact AllLt.ne (by (try (have hh := ‹_ ∧ AllLt _ own›; exact hh.2)); (try (have hh := ‹_ ∧ _ ∧ AllLt _ own›; exact hh.2.2)); (try (have hh := ‹_ ∧ _ ∧ _ ∧ _ ∧ AllLt _ own›; exact hh.2.2.2.2)))
  clear F1 N1 hdn hdn' hod hlo hkk
  (with_unfolding_all refine' loop_range (fun i => NestT w f nst dn pl lop d od vs no ws own i) (n := ws.length) rfl R1 ?small ?size F2 N2 ?j0 ?turn ?done)
  case small => exact small_one (by omega) (by omega) (by omega) (by omega)
  case size => rw [PyProof.Rows.rangeSize_nat]; omega
  case j0 => exact ⟨[], 0, [], 0, own, t1, t2, tp, rfl, .nil, .nil, fun q hq => hq, n1, n2, n3, e1, e2, e3, e4⟩
  case turn =>
    clear R1 F2 N2 e1 e2 e3 e4 n1 n2 n3
    intro i t m₁ nx h tk ownI hi hJ hoff F₂ N₂
    obtain ⟨fvs, nf, pvs, np, own1, t1', t2', tp', rfl, hS, hFl, h0, n1, n2, n3, e1, e2, e3, e4⟩ := hJ
    rw [nest_map e1 e2 e3 e4] at F₂
    have hvi0 : vs[i]? = some vs[i] := List.getElem?_eq_getElem (by omega)
    obtain ⟨x, hxi, a', da, s1, s2, sw, slo, hva, hma, hmd⟩ := hO.get i _ hvi0
    rw [hva] at hvi0
    have hvi : vs[(0 + (i : Int)).toNat]? = some (.ref a') := by rw [← hvi0]; congr 1; omega
    have hxl : x.length ≤ 10 := hw x (List.mem_of_getElem? hxi)
    have hxc : x.cps.size ≤ 10 := hxl
    have hlen := runC_len (ws.take i)
    have hix := runC_idx (ws.take i)
    rw [List.length_take] at hlen hix
    generalize hR : runC (ws.take i) = R at hlen hix hS hFl N₂
    obtain ⟨⟨ks, pv⟩, fs, ix⟩ := R
    (try dsimp only at hlen hix hS hFl N₂)
    have hix2 : ix = 0 + (i : Int) := by omega
    have hpv : pvs.length < 1000 := by rw [hS.len]; omega
    have hfv : fvs.length < 3000 := by rw [hFl.len]; omega
    obtain ⟨own9, h9e⟩ : ∃ o, o = own1 ++ ownI := ⟨_, rfl⟩
    have hs1 : ∀ q ∈ own1, q ∈ own9 := fun q hq => h9e ▸ List.mem_append.mpr (.inl hq)
    have hs2 : ∀ q ∈ ownI, q ∈ own9 := fun q hq => h9e ▸ List.mem_append.mpr (.inr hq)
    have N₃ : News g' L' h ((f, listOf fvs.toArray nf) :: (nst, instObj 71 dn) :: (dn, nestD w t1' t2' tp' pl pv) :: (pl, listOf pvs.toArray np) :: (lop, listOf vs.toArray no) :: (d, od) :: own9) := by rw [h9e]; exact N₂
    have k1 : ∀ q ∈ own9, q.1 ≠ f := fun q hq => by
      rw [h9e] at hq
      exact (List.mem_append.mp hq).elim (n1 q) fun h => hoff (f, _) (.head _) q h
    have k2 : ∀ q ∈ own9, q.1 ≠ dn := fun q hq => by
      rw [h9e] at hq
      exact (List.mem_append.mp hq).elim (n2 q) fun h => hoff (dn, _) (.tail _ (.tail _ (.head _))) q h
    have k3 : ∀ q ∈ own9, q.1 ≠ pl := fun q hq => by
      rw [h9e] at hq
      exact (List.mem_append.mp hq).elim (n3 q) fun h => hoff (pl, _) (.tail _ (.tail _ (.tail _ (.head _)))) q h
    have N₄ := news_add (news_add N₃ (.tail _ (.tail _ (.tail _ (.tail _ (.tail _ (.tail _ (hs1 _ (h0 _ hmd))))))))) (.tail _ (.tail _ (.tail _ (.tail _ (.tail _ (.tail _ (.tail _ (hs1 _ (h0 _ hma)))))))))
    have u1 : (@Ne Nat a' f) := n1 _ (h0 _ hma)
    have u2 : (@Ne Nat a' dn) := n2 _ (h0 _ hma)
    have u3 : (@Ne Nat a' pl) := n3 _ (h0 _ hma)
    have u4 : (@Ne Nat da f) := n1 _ (h0 _ hmd)
    have u5 : (@Ne Nat da dn) := n2 _ (h0 _ hmd)
    have u6 : (@Ne Nat da pl) := n3 _ (h0 _ hmd)
    clear N₂ N₃ e1 e2 e3 e4
    k_steps
    all_goals first
      | (refine' nest_ok (own := own1) hR hxi ?out ?hz ?F ?N ?h1 ?h2 ?h3 ?h4 ?h5 ?h6 ?h7 ?h8 ?hS hFl h0 n1 n2 n3 hoff ⟨?m1, ?m2, ?m3, ?m4⟩; (case out => first | exact out1 (y := Str.ofString " within BT") (by assumption) (by assumption) (by decide) | exact out2 (by assumption) (by assumption) (by assumption) | exact out3 (y := Str.ofString " within a path") (by assumption) (by assumption) (by decide) | exact out4a (by assumption) (by assumption) (by assumption) (by assumption) | exact out4b (by assumption) (by assumption) (by assumption) (by assumption) (by assumption) | exact out5 (by assumption) (by assumption) (by assumption) (by assumption)); (case hz => first | assumption | rfl); (case F => assumption); (case N => assumption); (case h1 => k_mem); (case h2 => k_mem); (case h3 => k_mem); (case h4 => k_mem); (case h5 => k_mem); (case h6 => k_mem); (case h7 => (intro q hq; have hq9 := hs1 q hq; repeat (first | exact hq9 | refine List.Mem.tail _ ?_))); (case h8 => (intro q hq; have hq9 := hs2 q hq; repeat (first | exact hq9 | refine List.Mem.tail _ ?_))); (case hS => assumption); (case m1 => exact rfl); (case m2 => exact rfl); (case m3 => exact rfl); (case m4 => exact rfl))
      | (refine' nest_bad (own := own1) hR hix2 hxi ?out ?hz ?F ?N ?h1 ?h2 ?h3 ?h4 ?h5 ?h6 ?h7 ?h8 ?hD ?d1 ?d2 ?d3 ?d4 ?hS hFl h0 n1 n2 n3 hoff ⟨?m1, ?m2, ?m3, ?m4⟩; (case out => first | exact out1 (y := Str.ofString " within BT") (by assumption) (by assumption) (by decide) | exact out2 (by assumption) (by assumption) (by assumption) | exact out3 (y := Str.ofString " within a path") (by assumption) (by assumption) (by decide) | exact out4a (by assumption) (by assumption) (by assumption) (by assumption) | exact out4b (by assumption) (by assumption) (by assumption) (by assumption) (by assumption) | exact out5 (by assumption) (by assumption) (by assumption) (by assumption)); (case hz => first | assumption | rfl); (case F => assumption); (case N => assumption); (case h1 => k_mem); (case h2 => k_mem); (case h3 => k_mem); (case h4 => k_mem); (case h5 => k_mem); (case h6 => k_mem); (case h7 => (intro q hq; have hq9 := hs1 q hq; repeat (first | exact hq9 | refine List.Mem.tail _ ?_))); (case h8 => (intro q hq; have hq9 := hs2 q hq; repeat (first | exact hq9 | refine List.Mem.tail _ ?_))); (case hS => assumption); (case m1 => exact rfl); (case m2 => exact rfl); (case m3 => exact rfl); (case m4 => exact rfl); (case hD => k_mem); (case d1 => k_ne); (case d2 => k_ne); (case d3 => k_ne); (case d4 => (rw [← h9e]; first | ((rename (_ ∧ _ ∧ _ ∧ _ ∧ _ ∧ _ ∧ _ ∧ _ ∧ _ ∧ AllLt _ own9) => lD); exact AllLt.ne lD.2.2.2.2.2.2.2.2.2) | ((rename (_ ∧ _ ∧ _ ∧ _ ∧ _ ∧ _ ∧ _ ∧ _ ∧ AllLt _ own9) => lD); exact AllLt.ne lD.2.2.2.2.2.2.2.2))))
  case done =>
    clear R1 F2 N2 e1 e2 e3 e4 n1 n2 n3
    intro m₁ nx h tk hJ F₂ N₂
    obtain ⟨fvs, nf, pvs, np, own1, t1', t2', tp', rfl, hS, hFl, h0, n1, n2, n3, e1, e2, e3, e4⟩ := hJ
    rw [nest_map e1 e2 e3 e4] at F₂
    clear e1 e2 e3 e4
    rw [List.take_of_length_le (Nat.le_refl _)] at hS hFl N₂
    have hlen := runC_len ws
    have hok := runC_ok ws
    have hfa : faultsC ws = (runC ws).2.1 ++ List.replicate (openN (runC ws).1) (ws.length : Int) := rfl
    generalize hR : runC ws = R at hlen hok hS hFl N₂ hfa
    obtain ⟨⟨ks, pv⟩, fs, ix⟩ := R
    (try dsimp only at hlen hok hS hFl N₂ hfa)
    k_steps
    refine Stop.go ?_
    (rename Fr g' L' _ _ => F3); (rename News g' L' _ _ => N3)
    (with_unfolding_all refine' loop_list (fun i => Nest2T f nst dn pl lop d (instObj 71 dn) (nestD w t1' t2' tp' pl pv) (listOf pvs.toArray np) (listOf vs.toArray no) od own fs (vs.length : Int) i) (l := pl) (vs := pvs) (n := np) rfl ?hl F3 N3 ?j0 ?turn2 ?done2)
    case hl => k_mem
    case j0 => exact ⟨fvs, nf, own1, rfl, by simpa using hFl, h0, n1, rfl, rfl, rfl, rfl⟩
    case turn2 =>
      clear F3 N3 hFl h0 n1 n2 n3
      intro i v m₂ nx h2 tk2 I ownI hv hJ hoff hI hown F₄ N₄
      obtain ⟨fvs2, nf2, own2, rfl, hFl, h0, n1, e1, e2, e3, e4⟩ := hJ
      rw [nest_map e1 e2 e3 e4] at F₄
      obtain ⟨k, u, hk1, rfl⟩ := hS.get i v hv
      have hkl : k.length ≤ 10 := s4_len (hok k (List.mem_of_getElem? hk1))
      have hkc : k.cps.size ≤ 10 := hkl
      have hpl : pvs.length ≤ 800 := by rw [hS.len]; omega
      have hi' : i < pvs.length := (List.getElem?_eq_some_iff.mp hv).1
      have hfv : fvs2.length < 3000 := by rw [hFl.len, List.length_append, List.length_replicate]; omega
      obtain ⟨own9, h9e⟩ : ∃ o, o = own2 ++ ownI := ⟨_, rfl⟩
      have hs1 : ∀ q ∈ own2, q ∈ own9 := fun q hq => h9e ▸ List.mem_append.mpr (.inl hq)
      have hs2 : ∀ q ∈ ownI, q ∈ own9 := fun q hq => h9e ▸ List.mem_append.mpr (.inr hq)
      have N₅ : News g' L' h2 ((f, listOf fvs2.toArray nf2) :: (nst, instObj 71 dn) :: (dn, nestD w t1' t2' tp' pl pv) :: (pl, listOf pvs.toArray np) :: (lop, listOf vs.toArray no) :: (d, od) :: own9) := by rw [h9e]; exact N₄
      have hfI : f ≠ I := hoff (f, _) (.head _)
      have k1 : ∀ q ∈ own9, q.1 ≠ f := fun q hq => by
        rw [h9e] at hq
        rcases List.mem_append.mp hq with hq | hq
        · exact n1 q hq
        · rcases hown q hq with e | e
          · rw [e]; exact hfI.symm
          · rw [e]; exact Nat.ne_of_gt (by omega)
      obtain ⟨oI, hoI⟩ := hI
      have hoI9 := hs2 _ hoI
      clear N₄ e1 e2 e3 e4
      k_steps
      (rename (_ ∧ _ ∧ _ ∧ _ ∧ _ ∧ _ ∧ AllLt _ own9) => lD)
      (rename Fr g' _ _ _ => F9); (rename News g' _ _ _ => N9)
      exact nest2_end F9 N9 h9e hFl h0 n1 lD hoff hoI9 ⟨rfl, rfl, rfl, rfl⟩
    case done2 =>
      clear F3 N3 hFl h0 n1 n2 n3
      intro m₂ nx h2 tk2 hJ F₄ N₄
      obtain ⟨fvs2, nf2, own2, rfl, hFl, h0, n1, e1, e2, e3, e4⟩ := hJ
      rw [nest_map e1 e2 e3 e4] at F₄
      have hpl : pvs.length ≤ 800 := by rw [hS.len]; omega
      have hfv : fvs2.length < 3000 := by rw [hFl.len, List.length_append, List.length_replicate]; omega
      rw [hvl, hS.len] at hFl
      clear e1 e2 e3 e4
      k_steps
      · (rename Fr g' L' _ _ => F9); (rename News g' L' _ _ => N9); (rename ((pv != Str.ofString "none") = true) => hpn)
        (rename Fr h₀ L _ _ => F10); (rename News h₀ L _ _ => N10)
        have hfin : faultsC ws = (fs ++ List.replicate ks.length (ws.length : Int)) ++ [(ws.length : Int)] := by
          rw [hfa]; unfold openN; simp only [hpn, if_true]
          rw [List.replicate_succ', List.append_assoc]
        exact ret f (fvs2 ++ [Value.ref _]) _ _ _ _ (by rw [hfin]; exact (hFl.mono (fun q hq => .tail _ (.tail _ (.tail _ (.tail _ (.tail _ (.tail _ hq))))))).append (.cons ⟨_, _, _, _, rfl, by rw [← hvl]; exact .head _⟩ .nil)) F10 (news_swap N10) (keep_all kG' N F9 N9 (fun p hp => by
          rcases List.mem_cons.mp hp with rfl | hp
          · k_mem
          · have hq9 := h0 p hp
            repeat (first | exact hq9 | refine List.Mem.tail _ ?_)))
      · (rename Fr g' L' _ _ => F9); (rename News g' L' _ _ => N9); (rename ((pv != Str.ofString "none") = false) => hpn)
        (rename Fr h₀ L _ _ => F10); (rename News h₀ L _ _ => N10)
        have hfin : faultsC ws = (fs ++ List.replicate ks.length (ws.length : Int)) := by
          rw [hfa]; unfold openN; simp only [hpn]; rfl
        exact ret f fvs2 _ _ _ _ (by rw [hfin]; exact (hFl.mono (fun q hq => .tail _ (.tail _ (.tail _ (.tail _ (.tail _ hq))))))) F10 N10 (keep_all kG' N F9 N9 (fun p hp => by
          rcases List.mem_cons.mp hp with rfl | hp
          · k_mem
          · have hq9 := h0 p hp
            repeat (first | exact hq9 | refine List.Mem.tail _ ?_)))
end Mine
end
section
open PySem PySem.W PyProof.Rows PySem.Calls PyProof.V PySem.Spec
namespace Mine

theorem unrPostW_mono {h₀ : Heap} {L : Addr} {s₁ s₂ : Shared} {its : List (Addr × Obj)} {rest rest' : (Str → Option Value) → List (Addr × Obj) → Prop} {Q : Flow → Shared → Prop} {f : Flow} (h : UnrPostW h₀ L s₁ its rest Q f s₂) (hr : ∀ m n, rest m n → rest' m n) : UnrPostW h₀ L s₁ its rest' Q f s₂ := by
  cases f with
  | ret v => exact h
  | brk => exact h
  | next => obtain ⟨a1, a2, a3, a4, a5, a6, a7, a8, a9⟩ := h; exact ⟨a1, a2, a3, a4, a5, a6, a7, a8, hr _ _ a9⟩
  | cont => obtain ⟨a1, a2, a3, a4, a5, a6, a7, a8, a9⟩ := h; exact ⟨a1, a2, a3, a4, a5, a6, a7, a8, hr _ _ a9⟩
theorem enum_rest {prog : Program} {w : World} {A : Around} {E : Value → Shared → Prop} {s : Shared} {env : Env} {h₀ : Heap} {body : List Stmt} {Q : Flow → Shared → Prop} {elts : List PySem.Expr} {kx : Nat} {pos : Pos} {ws : List (Addr × String)} {keep : List (Addr × Obj)} (vs : List Value) (J : Nat → (Str → Option Value) → List (Addr × Obj) → Prop)
    (turn : ∀ i v m nx T t h tk, vs[i]? = some v → J i m nx → IsTup h T #[.int (i : Int) t, v] → Fr h₀ env.locals h m → AllObj ws (fun its => News h₀ env.locals h (its ++ nx) →
      wpAny (model prog w) A (assign (.Tuple elts kx pos) env (.ref T)) (fun _ s₂ => wpAny (model prog w) A (execs body env) (UnrPostW h₀ env.locals { s with heap := h, toks := tk } its (fun m' n' => SubL keep n' ∧ J (i + 1) m' n') Q) E s₂) E { s with heap := h, toks := tk }))
    (done : ∀ m₁ nx h tk, J vs.length m₁ nx → Fr h₀ env.locals h m₁ → News h₀ env.locals h nx → Q .next { s with heap := h, toks := tk }) :
    ∀ (r pre : List Value) m nx, vs = pre ++ r → J pre.length m nx → ItemsRest prog w A E h₀ env (.Tuple elts kx pos) body Q s ws keep (enumItems pre.length r) m nx := by
  intro r
  induction r with
  | nil =>
    intro pre m nx hv hj
    rw [List.append_nil] at hv
    subst hv
    exact ItemsRest.zero fun h tk F N => done m nx h tk hj F N
  | cons v r ih =>
    intro pre m nx hv hj
    refine ItemsRest.pair fun T t h tk hT F => ?_
    have hvi : vs[pre.length]? = some v := by rw [hv]; simp
    have key := turn pre.length v m nx T t h tk hvi hj hT F
    have mono : ∀ (ws : List (Addr × String)) (k k' : List (Addr × Obj) → Prop), (∀ its, k its → k' its) → AllObj ws k → AllObj ws k' := by
      intro ws
      induction ws with
      | nil => intro k k' hk h; exact hk _ h
      | cons w ws ih => intro k k' hk h o ho; exact ih _ _ (fun its => hk _) (h o ho)
    refine mono ws _ _ (fun its hk N => ?_) key
    refine wpAny_mono (hk N) (fun _ s₂ h2 => wpAny_mono h2 (fun f s₃ h3 => unrPostW_mono h3 fun m' n' hr => ⟨hr.1, ?_⟩) fun _ _ e => e) fun _ _ e => e
    have := ih (pre ++ [v]) m' n' (by rw [hv]; simp) (by rw [List.length_append]; exact hr.2)
    rw [List.length_append] at this
    exact this
theorem enum_loop {prog : Program} {w : World} {A : Around} {E : Value → Shared → Prop} {s : Shared} {env : Env} {h₀ : Heap} {body : List Stmt} {Q : Flow → Shared → Prop} {elts : List PySem.Expr} {kx : Nat} {pos : Pos} {l : Addr} {vs : List Value} {n : Nat} {m₀ : Str → Option Value} {news : List (Addr × Obj)} (J : Nat → (Str → Option Value) → List (Addr × Obj) → Prop)
    (hh : A.handled = none) (F : Fr h₀ env.locals s.heap m₀) (N : News h₀ env.locals s.heap news) (hm : (l, listOf vs.toArray n) ∈ news) (hj : J 0 m₀ news)
    (turn : ∀ (I : Addr) i v m nx T t h tk oe oi, (∀ p ∈ news, p.1 < I) → vs[i]? = some v → J i m nx → IsTup h T #[.int (i : Int) t, v] → oe.cls = .type "enumerate" → oi.cls = .type "list_iterator" → Fr h₀ env.locals h m → News h₀ env.locals h ((I + 1, oe) :: (I, oi) :: nx) →
      wpAny (model prog w) A (assign (.Tuple elts kx pos) env (.ref T)) (fun _ s₂ => wpAny (model prog w) A (execs body env) (UnrPostW h₀ env.locals { s with heap := h, toks := tk } [(I + 1, oe), (I, oi)] (fun m' n' => SubL [(l, listOf vs.toArray n)] n' ∧ J (i + 1) m' n') Q) E s₂) E { s with heap := h, toks := tk })
    (done : ∀ m₁ nx h tk, J vs.length m₁ nx → Fr h₀ env.locals h m₁ → News h₀ env.locals h nx → Q .next { s with heap := h, toks := tk }) :
    wpAny (model prog w) A (call (.type "enumerate") [.ref l]) (fun xv s₁ => wpAny (model prog w) A (pyIter xv) (fun it s₂ => TurnsAt prog w A h₀ env (.Tuple elts kx pos) body Q E it s₂) E s₁) E s :=
  ktu_enum hh F N hm rfl rfl rfl fun I hI => enum_rest (ws := [(I + 1, "enumerate"), (I, "list_iterator")]) vs J (fun i v m nx T t h tk hv hJ hT F' => fun oe ho oi hoi N' => turn I i v m nx T t h tk oe oi hI hv hJ hT ho hoi F' N') done vs [] m₀ news rfl hj
end Mine
end
section
open PySem PySem.W PyProof.Rows PySem.Calls PyProof.V PySem.Spec
namespace Mine
set_option maxRecDepth 100000 in
set_option maxHeartbeats 2000000 in
theorem pen_use {w : World} {mean : ExcName → Option Value} {mg mb : Str → Option Value} {dp un : Nat} {gd : Option (List Code)} {cn : Str} {cs : Scope} {a : Addr} {ccd : Value} {cl : List (Str × Addr)} {outer : List Env} {A₀ : Around} {base h₀ : Heap} {L : Addr} {m : Str → Option Value} {s : Shared} {Q E : Value → Shared → Prop}
    (B : Below A₀ base outer h₀) (F : Fr h₀ L s.heap m) (X : (hd.heap_39 w.params).In h₀) (T : Top hd.view_39 (looseW hd.view_39 []) mean mg mb h₀) (hk : cs.kind = .function)
    {l : Addr} {vs : List Value} {zs : List Int} {ns : List (Addr × Obj)} (N : News h₀ L s.heap ns)
    (hl : h₀.IsList l vs.toArray) (hi : IntsAre vs zs) (hz : zs.length ≤ 1048576) (hd : dp < 870) (hu : un < 8700)
    (ret : ∀ (p : Addr) (po : Obj) (h' : Heap) (tk' : Nat), IsPen 0 po → Fr h₀ L h' m → News h₀ L h' ((p, po) :: ns) → Q (.ref p) { s with heap := h', toks := tk' }) :
    wpAny (model Challenge.rw_og0162_01.row.prog w) (ktrTop dp un gd cn cs L a ccd cl outer) (call (.ref 110) [.ref l]) Q E s :=
  pen_spec B F X T hk hl hi hz hd hu fun p po h' tk' a1 a2 a3 a4 _ => ret p po h' tk' a1 a2 (news_cons a3 (news_keep N a4))
set_option maxRecDepth 100000 in
set_option maxHeartbeats 2000000 in
theorem bent_use {w : World} {mean : ExcName → Option Value} {mg mb : Str → Option Value} {dp un : Nat} {gd : Option (List Code)} {cn : Str} {cs : Scope} {a : Addr} {ccd : Value} {cl : List (Str × Addr)} {outer : List Env} {A₀ : Around} {base h₀ : Heap} {L : Addr} {m : Str → Option Value} {s : Shared} {Q E : Value → Shared → Prop}
    (B : Below A₀ base outer h₀) (F : Fr h₀ L s.heap m) (X : (hd.heap_39 w.params).In h₀) (T : Top hd.view_39 (looseW hd.view_39 []) mean mg mb h₀) (hk : cs.kind = .function)
    {pen r : Addr} {po : Obj} {k : Int} {vs : List Value} {n : Nat} {ns : List (Addr × Obj)} {g : Obj → List (Addr × Obj)}
    (N : News h₀ L s.heap ns) (U : UpdF pen po ns g) (hr : (r, listOf vs.toArray n) ∈ ns) (hpo : IsPen k po) (hrp : @Ne Nat r pen) (hw : vs.all wordB = true) (hv2 : vs.length < 400)
    (hq2 : k < 90000) (hd : dp < 870) (hu : un < 8700)
    (ret : ∀ (l : Addr) (vs' : List Value) (n' : Nat) (po' : Obj) (h' : Heap) (tk' : Nat), vs'.all wordB = true → vs'.length ≤ 2 * vs.length + 1 → IsPen (k + 3) po' → Fr h₀ L h' m → News h₀ L h' ((l, listOf vs'.toArray n') :: g po') → @Ne Nat l pen → Q (.ref l) { s with heap := h', toks := tk' }) :
    wpAny (model Challenge.rw_og0162_01.row.prog w) (ktrTop dp un gd cn cs L a ccd cl outer) (call (.ref 145) [.ref pen, .ref r]) Q E s :=
  have N1 : News h₀ L s.heap [(pen, po)] := news_of_upd N U
  bent_spec B F X T hk (news_two (fun p hp => (List.mem_append.mp hp).elim (N p) (N1 p) : News h₀ L s.heap (ns ++ [(pen, po)])) (List.mem_append.mpr (.inl hr)) (List.mem_append.mpr (.inr (.head _)))) hpo hrp hw hv2 hq2 hd hu
    fun l vs' n' po' h' tk' a1 a2 a3 a4 a5 a6 a7 => ret l vs' n' po' h' tk' a1 a2 a3 a4 (news_cons a5 (news_use N U (news_sub a5 (.tail _ (.head _))) a7)) a6
set_option maxRecDepth 100000 in
set_option maxHeartbeats 2000000 in
theorem sign_use {w : World} {mean : ExcName → Option Value} {mg mb : Str → Option Value} {dp un : Nat} {gd : Option (List Code)} {cn : Str} {cs : Scope} {a : Addr} {ccd : Value} {cl : List (Str × Addr)} {outer : List Env} {A₀ : Around} {base h₀ : Heap} {L : Addr} {m : Str → Option Value} {s : Shared} {Q E : Value → Shared → Prop}
    (B : Below A₀ base outer h₀) (F : Fr h₀ L s.heap m) (X : (hd.heap_39 w.params).In h₀) (T : Top hd.view_39 (looseW hd.view_39 []) mean mg mb h₀) (hk : cs.kind = .function)
    {x y : Str} {tx ty : Tok} {ns : List (Addr × Obj)} (N : News h₀ L s.heap ns) (hx : x.length ≤ 10) (hy : y.length ≤ 2000) (hd : dp < 870) (hu : un < 8700)
    (ret : ∀ (h' : Heap) (tk' : Nat) tz, Fr h₀ L h' m → News h₀ L h' ns → Q (.str (signW x y) tz) { s with heap := h', toks := tk' }) :
    wpAny (model Challenge.rw_og0162_01.row.prog w) (ktrTop dp un gd cn cs L a ccd cl outer) (call (.ref 152) [.str x tx, .str y ty]) Q E s :=
  sign_spec B F X T hk hx hy hd hu fun h' tk' tz a b => ret h' tk' tz a (news_keep N b)
set_option maxRecDepth 100000 in
set_option maxHeartbeats 2000000 in
theorem rew_use {w : World} {mean : ExcName → Option Value} {mg mb : Str → Option Value} {dp un : Nat} {gd : Option (List Code)} {cn : Str} {cs : Scope} {a : Addr} {ccd : Value} {cl : List (Str × Addr)} {outer : List Env} {A₀ : Around} {base h₀ : Heap} {L : Addr} {m : Str → Option Value} {s : Shared} {Q E : Value → Shared → Prop}
    (B : Below A₀ base outer h₀) (F : Fr h₀ L s.heap m) (X : (hd.heap_39 w.params).In h₀) (T : Top hd.view_39 (looseW hd.view_39 []) mean mg mb h₀) (hk : cs.kind = .function)
    {x : Str} {tx : Tok} {ns : List (Addr × Obj)} (N : News h₀ L s.heap ns) (hx : 1 ≤ x.length) (hx2 : x.length ≤ 2000) (hx3 : (stepW x).length ≤ 2000) (hst0 : stepW (stepW x) = stepW x) (htok : 0 < s.toks)
    (hd : dp < 880) (hu : un < 8800)
    (ret : ∀ (h' : Heap) (tk' : Nat) tz, Fr h₀ L h' m → News h₀ L h' ns → Q (.str (stepW x) tz) { s with heap := h', toks := tk' }) :
    wpAny (model Challenge.rw_og0162_01.row.prog w) (ktrTop dp un gd cn cs L a ccd cl outer) (call (.ref 157) [.str x tx]) Q E s :=
  rew_spec B F X T hk hx hx2 hx3 hst0 htok hd hu fun h' tk' tz a b => ret h' tk' tz a (news_keep N b)
set_option maxRecDepth 100000 in
set_option maxHeartbeats 2000000 in
theorem go_use {w : World} {mean : ExcName → Option Value} {mg mb : Str → Option Value} {dp un : Nat} {gd : Option (List Code)} {cn : Str} {cs : Scope} {a : Addr} {ccd : Value} {cl : List (Str × Addr)} {outer : List Env} {A₀ : Around} {base h₀ : Heap} {L : Addr} {m : Str → Option Value} {s : Shared} {Q E : Value → Shared → Prop}
    (B : Below A₀ base outer h₀) (F : Fr h₀ L s.heap m) (X : (hd.heap_39 w.params).In h₀) (T : Top hd.view_39 (looseW hd.view_39 []) mean mg mb h₀) (hk : cs.kind = .function)
    {x : Str} {tx : Tok} {ns : List (Addr × Obj)} (N : News h₀ L s.heap ns) (hx : 1 ≤ x.length) (hx2 : x.length ≤ 2000)
    (hd : dp < 880) (hu : un < 8800)
    (ret : ∀ (h' : Heap) (tk' : Nat), Fr h₀ L h' m → News h₀ L h' ns → Q (.bool (goW x)) { s with heap := h', toks := tk' }) :
    wpAny (model Challenge.rw_og0162_01.row.prog w) (ktrTop dp un gd cn cs L a ccd cl outer) (call (.ref 162) [.str x tx]) Q E s :=
  go_spec B F X T hk hx hx2 hd hu fun h' tk' a b => ret h' tk' a (news_keep N b)
set_option maxRecDepth 100000 in
set_option maxHeartbeats 2000000 in
theorem nest_use {w : World} {mean : ExcName → Option Value} {mg mb : Str → Option Value} {dp un : Nat} {gd : Option (List Code)} {cn : Str} {cs : Scope} {a : Addr} {ccd : Value} {cl : List (Str × Addr)} {outer : List Env} {A₀ : Around} {base h₀ : Heap} {L : Addr} {m : Str → Option Value} {s : Shared} {Q E : Value → Shared → Prop}
    (B : Below A₀ base outer h₀) (F : Fr h₀ L s.heap m) (X : (hd.heap_39 w.params).In h₀) (T : Top hd.view_39 (looseW hd.view_39 []) mean mg mb h₀) (hk : cs.kind = .function)
    {lop : Addr} {vs : List Value} {no : Nat} {ws : List Str} {own ns : List (Addr × Obj)}
    (N : News h₀ L s.heap ns) (h1 : (lop, listOf vs.toArray no) ∈ ns) (h2 : ∀ q ∈ own, q ∈ ns) (hO : OpsIn w own vs ws) (hw : ∀ x ∈ ws, x.length ≤ 10) (hl : ws.length ≤ 800)
    (hd : dp < 870) (hu : un < 8700)
    (ret : ∀ (f : Addr) fvs nf nw (h' : Heap) (tk' : Nat), FaultsIn nw fvs (faultsC ws) → Fr h₀ L h' m → News h₀ L h' ((f, listOf fvs.toArray nf) :: (nw ++ ns)) → Q (.ref f) { s with heap := h', toks := tk' }) :
    wpAny (model Challenge.rw_og0162_01.row.prog w) (ktrTop dp un gd cn cs L a ccd cl outer) (call (.ref 103) [.ref lop]) Q E s :=
  nest_spec B F X T hk (fun p hp => (List.mem_cons.mp hp).elim (fun e => e ▸ N _ h1) fun h => N p (h2 p h)) hO hw hl hd hu fun f fvs nf nw h' tk' a1 a2 a3 a4 => ret f fvs nf nw h' tk' a1 a2 (fun p hp => by
    rcases List.mem_cons.mp hp with rfl | hp
    · exact a3 _ (.head _)
    · rcases List.mem_append.mp hp with hp | hp
      · exact a3 _ (.tail _ hp)
      · exact news_keep N a4 p hp)

theorem foldl_single (v : Value) : ∀ (n : Nat) (acc : Array Value), List.foldl (fun x1 x2 => x1 ++ x2) acc (List.replicate n #[v]) = acc ++ (List.replicate n v).toArray
  | 0, acc => by simp
  | n + 1, acc => by
    rw [List.replicate_succ, List.foldl_cons, foldl_single v n, List.replicate_succ]
    refine Array.ext' ?_
    rw [Array.toList_append, Array.toList_append, Array.toList_append]
    show (acc.toList ++ [v]) ++ List.replicate n v = acc.toList ++ v :: List.replicate n v
    simp only [List.append_assoc, List.cons_append, List.nil_append]
theorem mul_L {prog : Program} {w : World} {A : Around} {E : Value → Shared → Prop} {s : Shared} {h₀ : Heap} {L l : Addr} {m : Str → Option Value} {news : List (Addr × Obj)} {v : Value} {n : Nat} {x : Int} {u : Tok} {Q : Value → Shared → Prop}
    (F : Fr h₀ L s.heap m) (N : News h₀ L s.heap news) (hl : (l, listOf #[v] n) ∈ news) (h0 : 0 ≤ x) (h1 : x < 3000)
    (h : ∀ D h', Fr h₀ L h' m → News h₀ L h' ((D, listOf (List.replicate x.toNat v).toArray 0) :: news) → (∀ p ∈ news, p.1 < D) → Q (.ref D) { s with heap := h' }) : wpAny (model prog w) A (binaryOp .Mult (.ref l) (.int x u)) Q E s := by
  refine mul_list F N (N.get hl) (by omega) (by omega) (by simp; omega) fun h' F' N' => h _ h' F' ?_ fun p hp => Heap.lt_size (N p hp).1
  have e : List.foldl (fun x1 x2 => x1 ++ x2) #[] (List.replicate (if (#[v] : Array Value).isEmpty = true then 0 else x.toNat) #[v]) = (List.replicate x.toNat v).toArray := by
    rw [if_neg (by simp), foldl_single]; simp
  rw [e] at N'
  exact N'

theorem comp_ind {prog : Program} {w : World} {A : Around} {h₀ : Heap} {L : Addr} {m : Str → Option Value} {env : Env} {elt : PySem.Expr} {x : Str} {scope : Scope} {cl : List (Str × Addr)} {s : Shared} {S : List (Addr × Obj) → Prop} {P : Nat → Value → Prop} {Fin : List Value → List (Addr × Obj) → Prop} (n : Nat) (J : Nat → List Value → List (Addr × Obj) → Prop)
    (turn : ∀ i ys news v I oI C oC D m₂ h tk (E' : Value → Shared → Prop), i < n → J i ys news → P i v → LCg.NsObj oC m₂ → m₂ x = some v → Fr h₀ L h m → News h₀ L h ((I, oI) :: (C, oC) :: (D, LCg.lst ys) :: news) → LCg.Off3 I C D news → ((@Ne Nat I C) ∧ (@Ne Nat I D) ∧ (@Ne Nat C D)) →
      wpAny (model prog w) A (eval elt (compEnvC scope cl C env)) (LCg.CompEnd h₀ L m { s with heap := h, toks := tk } I oI C oC D (LCg.lst ys) S (fun y news' => J (i + 1) (ys ++ [y]) news')) E' { s with heap := h, toks := tk })
    (fin : ∀ ys news, J n ys news → Fin ys news) : ∀ k i ys news, i + k = n → J i ys news → LCg.CompRest prog w A h₀ L m env elt x scope cl s S P Fin k i ys news := by
  intro k
  induction k with
  | zero =>
    intro i ys news hi hj
    rw [Nat.add_zero] at hi
    subst hi
    exact LCg.CompRest.zero (fin ys news hj)
  | succ k ih =>
    intro i ys news hi hj
    refine LCg.CompRest.succ fun v I oI C oC D m₂ h tk E' hP hC hm F N off ne => ?_
    refine wpAny_mono (turn i ys news v I oI C oC D m₂ h tk E' (by omega) hj hP hC hm F N off ne) (fun y s₂ h2 => ?_) fun _ _ e => e
    obtain ⟨h', tk', news', e, F', N', o', hS, hJ⟩ := h2
    exact ⟨h', tk', news', e, F', N', o', hS, ih (i + 1) (ys ++ [y]) news' (by omega) hJ⟩
end Mine
end
section
open PySem PySem.W PyProof.Rows PySem.Calls PyProof.V PySem.Spec
namespace Mine
theorem fresh_P55 : True := by
  w_top off
  k_with_none
  trivial
local macro_rules | `(tactic| k_all) => `(tactic| assumption)
local macro_rules | `(tactic| k_room) => `(tactic| ktr_room)

theorem ops_end {w : World} {h₀ h' : Heap} {L x d l I C D ro : Addr} {m : Str → Option Value} {oI oC lo : Obj} {ys : List Value} {own ns nw : List (Addr × Obj)} {vs : List Value} {no i tk : Nat} {ws : List Str} {k : Str} {t1 t2 tw : Tok} {s₁ : Shared}
    (F : Fr h₀ L h' m) (N : News h₀ L h' ((x, instObj 45 d) :: (d, opD w t1 t2 tw k (.ref l)) :: (l, lo) :: (I, oI) :: (C, oC) :: (D, LCg.lst ys) :: nw)) (hnw : own ++ ns = nw) (off : LCg.Off3 I C D nw) (h1 : @LT.lt Nat _ I l) (h2 : @LT.lt Nat _ C l) (h3 : @LT.lt Nat _ D l) (h4 : @LT.lt Nat _ l d) (h5 : @LT.lt Nat _ d x)
    (hro : (ro, listOf vs.toArray no) ∈ ns) (hO : OpsIn w own ys (ws.take i)) (hk : ws[i]? = some k) :
    LCg.CompEnd h₀ L m s₁ I oI C oC D (LCg.lst ys) (LCg.SrcAt h₀ ro vs.toArray) (fun y news' => ∃ own, news' = own ++ ns ∧ OpsIn w own (ys ++ [y]) (ws.take (i + 1))) (.ref x) { s₁ with heap := h', toks := tk } := by
  subst hnw
  refine LCg.CompEnd.intro F N (((x, instObj 45 d) :: (d, opD w t1 t2 tw k (.ref l)) :: (l, lo) :: own) ++ ns) ?_ ?_ ?_ ⟨_, rfl, ?_⟩
  · intro p hp
    simp only [List.mem_cons, List.mem_append, List.cons_append] at hp ⊢
    rcases hp with h | h | h | h | h | h | h | h <;> simp [h]
  · exact ⟨⟨Nat.ne_of_gt (by omega), Nat.ne_of_gt (by omega), Nat.ne_of_gt (by omega)⟩, ⟨Nat.ne_of_gt (by omega), Nat.ne_of_gt (by omega), Nat.ne_of_gt (by omega)⟩, ⟨Nat.ne_of_gt (by omega), Nat.ne_of_gt (by omega), Nat.ne_of_gt (by omega)⟩, off⟩
  · exact .inr ⟨_, List.mem_append.mpr (.inr hro), rfl, no, rfl⟩
  · rw [List.take_add_one, hk]
    exact (hO.mono fun q hq => .tail _ (.tail _ (.tail _ hq))).append (.cons ⟨x, d, t1, t2, tw, _, rfl, .head _, .tail _ (.head _)⟩ .nil)
set_option maxRecDepth 100000 in
set_option maxHeartbeats 2000000 in
theorem ops_comp {w : World} {mean : ExcName → Option Value} {mg mb : Str → Option Value} {dp un : Nat} {gd : Option (List Code)} {cn : Str} {cs : Scope} {a : Addr} {ccd : Value} {cl : List (Str × Addr)} {outer : List Env} {A₀ : Around} {base h₀ : Heap} {L : Addr} {m : Str → Option Value} {s : Shared} {Q E : Value → Shared → Prop}
    (B : Below A₀ base outer h₀) (F : Fr h₀ L s.heap m) (X : (hd.heap_39 w.params).In h₀) (T : Top hd.view_39 (looseW hd.view_39 []) mean mg mb h₀) (hk : cs.kind = .function)
    {ns : List (Addr × Obj)} {ro : Addr} {vs : List Value} {no : Nat} {ws : List Str} {p1 p2 p3 p4 p5 p6 pos : Pos}
    (N : News h₀ L s.heap ns) (hm : m (Str.ofString "row") = some (.ref ro)) (hro : (ro, listOf vs.toArray no) ∈ ns) (hrow : (envX cn cs L a ccd cl).kindOf (Str.ofString "row") = some .local) (hclos : closureFor { kind := ScopeKind.function, names := [(Str.ofString ".0", NameKind.local), (Str.ofString "word", NameKind.local), (Str.ofString "Operation", NameKind.globalImplicit)], isGenerator := false, isCoroutine := false } (envX cn cs L a ccd cl) = pure [])
    (hS : StrsL vs ws) (hl : ws.length ≤ 800) (hd : dp < 880) (hu : un < 8800)
    (ret : ∀ (D : Addr) ys n own (h' : Heap) (tk' : Nat), OpsIn w own ys ws → Fr h₀ L h' m → News h₀ L h' ((D, listOf ys.toArray n) :: (own ++ ns)) → Q (.ref D) { s with heap := h', toks := tk' }) :
    wpAny (model Challenge.rw_og0162_01.row.prog w) (ktrTop dp un gd cn cs L a ccd cl outer) (eval (.ListComp (.Call (.Name (Str.ofString "Operation") p1) [.Name (Str.ofString "word") p2, .List [] p3] [] p4) [⟨.Name (Str.ofString "word") p5, .Name (Str.ofString "row") p6, [], 0⟩] { kind := ScopeKind.function, names := [(Str.ofString ".0", NameKind.local), (Str.ofString "word", NameKind.local), (Str.ofString "Operation", NameKind.globalImplicit)], isGenerator := false, isCoroutine := false } pos) (envX cn cs L a ccd cl)) Q E s := by
  k_with_none
  k_with "eval Constant str" => (refine const_str_gen ?_; intro z_t' z_tk'; (try dsimp only))
  k_with "call ref" => (k_here; (with_reducible show wpAny _ _ (call (Value.ref 45) _) _ _ _); k_dflt (refine' call_cls ?y_k1 ?y_k2 ?y_k3 ?y_k4 ?y_k5 ?y_k6 ?_; (case y_k1 => k_asm); (case y_k2 => k_asm); (case y_k3 => k_asm); (case y_k4 => k_is); (case y_k5 => k_is); (case y_k6 => k_is); k_whole; intro z_x' z_d' z_h' z_F' z_N' z_l1 z_l2; (try k_lt z_l1); (try k_lt2 z_l2); (try k_sweep); (refine' code_def ?y_k1 ?y_k2 ?y_k3 ?y_k4 ?y_k5 ?y_kA ?y_kF ?y_kK ?y_k6 ?y_k7 ?y_k8 ?y_k9 ?y_kB ?_ ?y_c2 ?y_c3 ?y_c4 ?y_c5; (case y_kA => exact rfl); (case y_kF => exact rfl); (case y_kK => assumption); (case y_k1 => k_asm); (case y_k2 => k_asm); (case y_k3 => k_asm); (case y_k4 => k_asm); (case y_k5 => k_asm); (case y_k6 => k_is); (case y_k7 => k_is); (case y_k8 => ktr_room); (case y_k9 => exact BindsTo.of_eq rfl); (case y_c5 => decide); (case y_kB => exact locs rfl); (case y_c2 => exact rfl); (case y_c3 => exact rfl); (case y_c4 => exact rfl); k_whole; intro z_g' z_L' z_h' z_FG' z_F' z_N' z_B' z_X' z_T'; (try dsimp only); (try k_lift z_B'); (try k_fold))))
  refine LCg.ListComp_U (F₀ := F) hclos (by decide) rfl (by decide) rfl ?_
  refine name_l (env := envX cn cs L a ccd cl) hk hrow F.ns hm rfl (fun _ _ e => e) ?_
  refine LCg.CompSrc.ledger rfl F N hro (by rw [List.size_toArray, hS.len, sizeLine_eq]; omega) fun g => ?_
  refine comp_ind vs.toArray.size (fun i ys news => ∃ own, news = own ++ ns ∧ OpsIn w own ys (ws.take i)) ?_ ?_ _ 0 [] ns (by simp) ⟨[], rfl, .nil⟩
  · rintro i ys news v I oI C oC D m₂ h tk E' hi ⟨own, rfl, hO⟩ hP hC hm₂ F' N' off ne
    obtain ⟨k, t, hk1, rfl⟩ := hS.get i v (by simpa using hP)
    obtain ⟨ne1, ne2, ne3⟩ := ne
    generalize hnw : own ++ ns = nw at N' off
    revert X; k_fill; intro X
    k_steps
    (rename Fr h₀ L _ _ => F9); (rename News h₀ L _ _ => N9)
    exact ops_end F9 N9 hnw off (by omega) (by omega) (by omega) (by omega) (by omega) hro hO hk1
  · rintro ys news ⟨own, rfl, hO⟩
    intro D h tk F' N' _
    have hn : vs.toArray.size = ws.length := by simp [hS.len]
    rw [hn, List.take_length] at hO
    exact ret D ys _ own h tk hO F' N'
end Mine
end
section
open PySem PySem.W PyProof.Rows PySem.Calls PyProof.V PySem.Spec
namespace Mine

theorem ne_L {prog : Program} {w : World} {A : Around} {E : Value → Shared → Prop} {s : Shared} {a b : Addr} {vs us : List Value} {is : List Int} {Q : Value → Shared → Prop} (ha : s.heap.IsList a vs.toArray) (hi : IntsAre vs is) (hb : s.heap.IsList b us.toArray) (hj : IntsAre us is) (hu : A.units + 64 < cLine)
    (h : Q (.bool false) s) : wpAny (model prog w) A (compareOp .NotEq (.ref a) (.ref b)) Q E s := by
  refine ne_intsK ha hi hb hj hu ?_
  simpa using h
open LCg in
theorem places_rest {prog : Program} {w : World} {A : Around} {h₀ : Heap} {L : Addr} {m : Str → Option Value} {env : Env} {scope : Scope} {s : Shared} {fvs : List Value} {is : List Int} {nw news : List (Addr × Obj)} {ro : Addr} {px : Pos} {Fin : List Value → List (Addr × Obj) → Prop}
    (hk : (relabel scope env).kind = .function) (hl : ∀ C, (compEnvC scope [] C env).kindOf (Str.ofString "place") = some .local)
    (hF : FaultsIn nw fvs is) (hs : ∀ q ∈ nw, q ∈ news) (hsrc : SrcAt h₀ ro fvs.toArray news) (fin : ∀ ys, IntsAre ys is → Fin ys news) :
    LCp.CompRestP prog w A h₀ L m env (.Name (Str.ofString "place") px) (Str.ofString "place") (Str.ofString "text") scope [] s (SrcAt h₀ ro fvs.toArray) (fun i v => fvs.toArray[i]? = some v) Fin fvs.toArray.size 0 [] news := by
  have key : ∀ k (pre : List Value) (ips : List Int) (r : List Value) (ir : List Int) ys, fvs = pre ++ r → is = ips ++ ir → FaultsIn nw r ir → IntsAre ys ips → r.length = k →
      LCp.CompRestP prog w A h₀ L m env (.Name (Str.ofString "place") px) (Str.ofString "place") (Str.ofString "text") scope [] s (SrcAt h₀ ro fvs.toArray) (fun i v => fvs.toArray[i]? = some v) Fin k pre.length ys news := by
    intro k
    induction k with
    | zero =>
      intro pre ips r ir ys e1 e2 hr hy hk0
      cases hr with
      | nil =>
        rw [List.append_nil] at e2
        subst e2
        exact LCp.CompRestP.zero (fin ys hy)
      | cons _ _ => cases hk0
    | succ k ih =>
      intro pre ips r ir ys e1 e2 hr hy hk0
      cases hr with
      | nil => cases hk0
      | @cons v j vs' is' hm hr' =>
        refine LCp.CompRestP.succ fun v' hv' => ?_
        have hv0 : fvs[pre.length]? = some v := by rw [e1]; simp
        have : v' = v := by
          have h2 : fvs[pre.length]? = some v' := by simpa using hv'
          rw [hv0] at h2; injection h2 with h2; exact h2.symm
        subst this
        obtain ⟨a, t, tv, n, rfl, hmem⟩ := hm
        refine ⟨a, _, .int j t, tv, n, rfl, hs _ hmem, rfl, rfl, ?_⟩
        intro I oI C oC D m₂ h tk E' hC h1 h2 F N off ne
        refine LCgL.ld_own N (.tail _ (.head _)) hC h1 ?_ hk (hl C)
        refine CompEnd.intro F N news (fun p hp => hp) off hsrc ?_
        have := ih (pre ++ [.ref a]) (ips ++ [j]) vs' is' (ys ++ [.int j t]) (by rw [e1]; simp) (by rw [e2]; simp) hr' (IntsAre.append hy (.cons j t .nil)) (by simpa using hk0)
        rw [List.length_append] at this
        exact this
  exact key _ [] [] fvs is [] rfl rfl hF .nil (by simp)
end Mine
end
section
open PySem PySem.W PyProof.Rows PySem.Calls PyProof.V PySem.Spec
namespace Mine

open PySem.StrLaws PySem.Builtin PySem.Builtin.Str
theorem slice_core {x : Str} {l u : Option Int} {a b : Nat} (h : strSliceIndices l u 1 x.length = strSliceIndices (some (a : Int)) (some (b : Int)) 1 x.length) (hab : a ≤ b) (hb : b ≤ x.length) : Txt.slice x l u = ⟨((x.cps.toList.drop a).take (b - a)).toArray⟩ := by
  have e := sliceText_plain (x := x) (i := (a : Int)) (j := (b : Int)) ⟨by omega, by omega, by unfold Str.length at hb; simp; omega⟩
  unfold Txt.slice
  rw [h]
  unfold sliceText at e
  rw [e, show ((b : Int) - (a : Int)).toNat = b - a by omega, Int.toNat_natCast]
theorem slice_tail (c : Nat) (l : List Nat) : Txt.slice ⟨(c :: l).toArray⟩ (some 1) none = ⟨l.toArray⟩ := by
  have hl : (⟨(c :: l).toArray⟩ : Str).length = l.length + 1 := by simp [Str.length]
  rw [slice_core (a := 1) (b := l.length + 1) (by rw [sliceIdx_none_hi, hl]; rfl) (by omega) (by omega)]
  simp
theorem slice_last_nil : Txt.slice ⟨#[]⟩ (some (-1)) none = ⟨#[]⟩ := by decide +kernel
theorem slice_last (l : List Nat) (c : Nat) : Txt.slice ⟨(l ++ [c]).toArray⟩ (some (-1)) none = ⟨#[c]⟩ := by
  have hl : (⟨(l ++ [c]).toArray⟩ : Str).length = l.length + 1 := by simp [Str.length]
  rw [slice_core (a := l.length) (b := l.length + 1) (by rw [sliceIdx_none_hi, sliceIdx_neg_lo _ _ (by omega) (by rw [hl]; omega), hl]; congr 1; congr 1; omega) (by omega) (by omega)]
  simp
theorem slice_init (l : List Nat) (c : Nat) : Txt.slice ⟨(l ++ [c]).toArray⟩ none (some (-1)) = ⟨l.toArray⟩ := by
  have hl : (⟨(l ++ [c]).toArray⟩ : Str).length = l.length + 1 := by simp [Str.length]
  rw [slice_core (a := 0) (b := l.length) (by rw [sliceIdx_none_lo, sliceIdx_neg_hi _ _ (by omega) (by rw [hl]; omega), hl]; congr 1; congr 1; omega) (by omega) (by omega)]
  simp
theorem clear_iff (l : List Nat) : clearQ ⟨l.toArray⟩ = l.all fun c => decide (c ∈ [113, 116, 99, 120]) := by
  unfold clearQ
  refine List.all_congr rfl fun c => ?_
  exact hasS_one (Str.ofString "qtcx") c
theorem goW_nil : goW ⟨#[94]⟩ = true := by decide +kernel
theorem inPK (c : Nat) : inL [Str.ofString "p", Str.ofString "k"] ⟨#[c]⟩ = decide (c = 112 ∨ c = 107) := by
  unfold inL
  simp only [List.any_cons, List.any_nil, Bool.or_false]
  by_cases h1 : c = 112
  · subst h1; rfl
  · by_cases h2 : c = 107
    · subst h2; rfl
    · have e1 : (Str.ofString "p" == (⟨#[c]⟩ : Str)) = false := by
        rw [beq_eq_false_iff_ne]; intro e; injection e with e; injection e with e; injection e with e; exact h1 e.symm
      have e2 : (Str.ofString "k" == (⟨#[c]⟩ : Str)) = false := by
        rw [beq_eq_false_iff_ne]; intro e; injection e with e; injection e with e; injection e with e; exact h2 e.symm
      rw [e1, e2]; simp [h1, h2]
theorem goW_snoc (S : List Nat) (c : Nat) : goW ⟨(94 :: (S ++ [c])).toArray⟩ = if c = 112 ∨ c = 107 then S.all (fun c => decide (c ∈ [113, 116, 99, 120])) else (S ++ [c]).all fun c => decide (c ∈ [113, 116, 99, 120]) := by
  unfold goW
  rw [slice_tail, slice_last, inPK, slice_init]
  by_cases h : c = 112 ∨ c = 107
  · simp only [h, decide_true, if_true]; exact clear_iff S
  · simp only [h, decide_false, Bool.false_eq_true, if_false]; exact clear_iff _

theorem subAt_two (l : List Nat) (a b i : Nat) : subAt ⟨l.toArray⟩ ⟨#[a, b]⟩ i = ((l.drop i).take 2 == [a, b]) := by
  rw [subAt_eq]; rfl
theorem drop_take_two {l : List Nat} {a b i : Nat} (h : (l.drop i).take 2 = [a, b]) : l = l.take i ++ a :: b :: l.drop (i + 2) := by
  have e : l.drop i = [a, b] ++ l.drop (i + 2) := by
    rw [← h, ← List.drop_drop]; exact (List.take_append_drop 2 (l.drop i)).symm
  have := (List.take_append_drop i l).symm
  rw [e] at this
  simpa using this
theorem replace_end (u : List Nat) (a b : Nat) (z : List Nat) (hno : ∀ p v, u ++ [a, b] = p ++ a :: b :: v → p.length = u.length) : Txt.replace ⟨(u ++ [a, b]).toArray⟩ ⟨#[a, b]⟩ ⟨z.toArray⟩ = ⟨(u ++ z).toArray⟩ := by
  have hl : (⟨(u ++ [a, b]).toArray⟩ : Str).length = u.length + 2 := by simp [Str.length]
  have hocc : occurrences ⟨(u ++ [a, b]).toArray⟩ ⟨#[a, b]⟩ 0 (⟨(u ++ [a, b]).toArray⟩ : Str).length ((⟨(u ++ [a, b]).toArray⟩ : Str).length + 1) = [u.length] := by
    refine occ_single _ _ _ _ _ (by rw [hl]; omega) (by rw [subAt_two]; simp) (by rw [hl]; exact Nat.le_refl _) (fun i hi => ?_)
    refine .inl ?_
    rw [subAt_two]
    cases e : (((u ++ [a, b]).drop i).take 2 == [a, b]) with
    | false => rfl
    | true =>
      exfalso
      have h2 := drop_take_two (eq_of_beq e)
      have h3 := hno _ _ h2
      have h4 := congrArg List.length h2
      simp only [List.length_append, List.length_take, List.length_cons, List.length_nil, List.length_drop] at h3 h4
      omega
  unfold Txt.replace
  rw [hocc]
  have e1 : (([u.length] : List Nat).isEmpty || ((⟨#[a, b]⟩ : Str).length == 0 && (⟨z.toArray⟩ : Str).length == 0)) = false := rfl
  rw [e1]
  simp only [Bool.false_eq_true, if_false]
  have e2 : partsBetween ⟨(u ++ [a, b]).toArray⟩ [u.length] (⟨#[a, b]⟩ : Str).length = [⟨u.toArray⟩, ⟨#[]⟩] := by
    unfold partsBetween
    simp only [List.map_cons, List.map_nil, List.cons_append, List.nil_append, List.zip_cons_cons, List.zip_nil_left, List.zip_nil_right]
    rw [hl]
    congr 1
    · unfold strSub; simp
    · congr 1
      unfold strSub; simp [Str.length]
  rw [e2]
  unfold glued
  simp

def sgn (k : Str) : Nat := if k = Str.ofString "q" then 113 else if k = Str.ofString "BT" then 116 else if k = Str.ofString "BMC" then 99 else 120
def psgn (pv : Str) : List Nat := if pv = Str.ofString "none" then [] else if pv = Str.ofString "begun" then [112] else [107]
def textL (st : StC) : List Nat := 94 :: (st.1.map sgn ++ psgn st.2)
def textC (st : StC) : Str := ⟨(textL st).toArray⟩
def Good (st : StC) : Prop := (∀ k ∈ st.1, inL s4 k = true) ∧ (st.2 = Str.ofString "none" ∨ st.2 = Str.ofString "begun" ∨ st.2 = Str.ofString "clipped")
def SA : List Nat := [94, 113, 116, 99, 120]
def SB : List Nat := [113, 116, 99, 120, 112, 107]
theorem sgn_mem (k : Str) : sgn k ∈ [113, 116, 99, 120] := by
  unfold sgn; split; simp; split; simp; split; simp; simp
theorem psgn_cases (pv : Str) : psgn pv = [] ∨ psgn pv = [112] ∨ psgn pv = [107] := by
  unfold psgn; split; simp; split; simp; simp
theorem map_sgn_mem (ks : List Str) : ∀ c ∈ ks.map sgn, c ∈ [113, 116, 99, 120] := by
  intro c hc
  obtain ⟨k, _, rfl⟩ := List.mem_map.mp hc
  exact sgn_mem k
theorem adj_text (st : StC) (u v : List Nat) (a b : Nat) (h : textL st = u ++ a :: b :: v) : a ∈ SA ∧ b ∈ SB := by
  unfold textL at h
  have hS := map_sgn_mem st.1
  have hP := psgn_cases st.2
  generalize st.1.map sgn = S at h hS
  generalize psgn st.2 = P at h hP
  have hb : b ∈ S ++ P := by
    cases u with
    | nil => simp at h; rw [h.2]; simp
    | cons u0 u => simp at h; rw [h.2]; simp
  have hPb : ∀ c ∈ P, c = 112 ∨ c = 107 := by rcases hP with e | e | e <;> subst e <;> simp
  have ha : a = 94 ∨ a ∈ S := by
    cases u with
    | nil => simp at h; exact .inl h.1.symm
    | cons u0 u =>
      simp at h
      have h2 := h.2
      right
      rcases hP with e | e | e
      · subst e; rw [List.append_nil] at h2; rw [h2]; simp
      · subst e
        have h3 := congrArg List.dropLast h2
        rw [List.dropLast_append_cons] at h3
        simp at h3
        rw [h3]; simp [List.dropLast_append_cons]
      · subst e
        have h3 := congrArg List.dropLast h2
        rw [List.dropLast_append_cons] at h3
        simp at h3
        rw [h3]; simp [List.dropLast_append_cons]
  refine ⟨?_, ?_⟩
  · rcases ha with rfl | ha
    · decide
    · have := hS a ha
      simp only [SA, List.mem_cons] at this ⊢
      simp only [List.not_mem_nil, or_false] at this ⊢
      omega
  · rcases List.mem_append.mp hb with hb | hb
    · have := hS b hb
      simp only [SB, List.mem_cons, List.not_mem_nil, or_false] at this ⊢
      omega
    · have := hPb b hb
      simp only [SB, List.mem_cons, List.not_mem_nil, or_false] at this ⊢
      omega
def keyN (p : Str × Str) : Nat × Nat := (p.1.cps.toList.getD 0 0, p.1.cps.toList.getD 1 0)
theorem pairs_key : ∀ p ∈ pairsT, p.1 = ⟨#[(keyN p).1, (keyN p).2]⟩ ∧ ¬ ((keyN p).1 ∈ SA ∧ (keyN p).2 ∈ SB) := by decide +kernel
theorem filter_text (st : StC) : (pairsT.filter fun p => hasS (textC st) p.1) = [] := by
  rw [List.filter_eq_nil_iff]
  intro p hp h
  obtain ⟨e, hk⟩ := pairs_key p hp
  rw [e] at h
  obtain ⟨u, v, h2⟩ := (hasS_two _ _ _).mp h
  exact hk (adj_text st u v _ _ h2)
theorem adj_snoc (st : StC) (Y0 : List Nat) (e c : Nat) (hY : textL st = Y0 ++ [e]) {u v : List Nat} {a b : Nat} (h : textL st ++ [c] = u ++ a :: b :: v) (hk : ¬ (a ∈ SA ∧ b ∈ SB)) : u = Y0 ∧ a = e ∧ b = c ∧ v = [] := by
  rcases List.eq_nil_or_concat v with rfl | ⟨v', x, rfl⟩
  · have h2 : (Y0 ++ [e]) ++ [c] = (u ++ [a]) ++ [b] := by rw [← hY]; simpa using h
    obtain ⟨h3, h4⟩ := List.append_inj' h2 rfl
    obtain ⟨h5, h6⟩ := List.append_inj' h3 rfl
    injection h4 with h4
    injection h6 with h6
    exact ⟨h5.symm, h6.symm, h4.symm, rfl⟩
  · exfalso
    have h2 : textL st ++ [c] = (u ++ a :: b :: v') ++ [x] := by simpa using h
    obtain ⟨h3, _⟩ := List.append_inj' h2 rfl
    exact hk (adj_text st u v' a b h3)
theorem filter_snoc (st : StC) (Y0 : List Nat) (e c : Nat) (hY : textL st = Y0 ++ [e]) : (pairsT.filter fun p => hasS ⟨(textL st ++ [c]).toArray⟩ p.1) = pairsT.filter fun p => decide (keyN p = (e, c)) := by
  refine List.filter_congr fun p hp => ?_
  obtain ⟨e1, hk⟩ := pairs_key p hp
  rw [Bool.eq_iff_iff, decide_eq_true_iff]
  constructor
  · intro h
    rw [e1] at h
    obtain ⟨u, v, h2⟩ := (hasS_two _ _ _).mp h
    obtain ⟨_, h3, h4, _⟩ := adj_snoc st Y0 e c hY h2 hk
    exact Prod.ext h3 h4
  · intro h
    rw [e1, h]
    exact (hasS_two _ _ _).mpr ⟨Y0, [], by rw [hY]; simp⟩
theorem step_text (st : StC) : stepW (textC st) = textC st := step_nil (filter_text st)
theorem step_none (st : StC) (Y0 : List Nat) (e c : Nat) (hY : textL st = Y0 ++ [e]) (h : (pairsT.filter fun p => decide (keyN p = (e, c))) = []) : stepW ⟨(textL st ++ [c]).toArray⟩ = ⟨(textL st ++ [c]).toArray⟩ :=
  step_nil (by rw [filter_snoc st Y0 e c hY, h])
theorem step_hit (st : StC) (Y0 : List Nat) (e c : Nat) (hY : textL st = Y0 ++ [e]) (z : List Nat) {r : List (Str × Str)} (h : (pairsT.filter fun p => decide (keyN p = (e, c))) = (⟨#[e, c]⟩, ⟨z.toArray⟩) :: r) : stepW ⟨(textL st ++ [c]).toArray⟩ = ⟨(Y0 ++ z).toArray⟩ := by
  have hf := filter_snoc st Y0 e c hY
  rw [h] at hf
  rw [step_cons hf]
  have hm : (⟨#[e, c]⟩, ⟨z.toArray⟩) ∈ pairsT := (List.mem_filter.mp (h ▸ List.mem_cons_self : ((⟨#[e, c]⟩, ⟨z.toArray⟩) : Str × Str) ∈ pairsT.filter fun p => decide (keyN p = (e, c)))).1
  have hk := (pairs_key _ hm).2
  have hk2 : ¬ (e ∈ SA ∧ c ∈ SB) := hk
  have hX : textL st ++ [c] = Y0 ++ [e, c] := by rw [hY]; simp
  rw [hX]
  refine replace_end Y0 e c z fun p v hp => ?_
  have := adj_snoc st Y0 e c hY (u := p) (v := v) (a := e) (b := c) (by rw [hX]; exact hp) hk2
  rw [this.1]
end Mine
end
section
open PySem PySem.W PyProof.Rows PySem.Calls PyProof.V PySem.Spec
namespace Mine

open PySem.StrLaws PySem.Builtin PySem.Builtin.Str
def hitN (e c : Nat) : Option (List Nat) := ((pairsT.filter fun p => decide (keyN p = (e, c))).head?).map fun p => p.2.cps.toList
theorem step_ext (st : StC) (Y0 : List Nat) (e c : Nat) (hY : textL st = Y0 ++ [e]) : stepW ⟨(textL st ++ [c]).toArray⟩ = match hitN e c with | some z => ⟨(Y0 ++ z).toArray⟩ | none => ⟨(textL st ++ [c]).toArray⟩ := by
  unfold hitN
  cases h : pairsT.filter fun p => decide (keyN p = (e, c)) with
  | nil => exact step_none st Y0 e c hY h
  | cons p r =>
    have hm := List.mem_filter.mp (h ▸ List.mem_cons_self : p ∈ pairsT.filter fun p => decide (keyN p = (e, c)))
    have h1 := (pairs_key p hm.1).1
    have h2 : keyN p = (e, c) := by simpa using hm.2
    rw [h2] at h1
    obtain ⟨p1, p2⟩ := p
    subst h1
    exact step_hit st Y0 e c hY p2.cps.toList (r := r) (by rw [h])
theorem goW_ext (st : StC) (c : Nat) : goW ⟨(textL st ++ [c]).toArray⟩ = ((psgn st.2).isEmpty && decide (c ∈ SB)) := by
  have e : textL st ++ [c] = 94 :: ((st.1.map sgn ++ psgn st.2) ++ [c]) := by unfold textL; simp
  rw [e, goW_snoc]
  have hS : (st.1.map sgn).all (fun c => decide (c ∈ [113, 116, 99, 120])) = true := List.all_eq_true.mpr fun c hc => decide_eq_true (map_sgn_mem st.1 c hc)
  simp only [List.all_append, hS, Bool.true_and]
  rcases psgn_cases st.2 with h | h | h <;> rw [h]
  · simp only [List.all_nil, Bool.and_true, List.all_cons, Bool.true_and, List.isEmpty_nil, SB, List.mem_cons, List.not_mem_nil, or_false]
    by_cases h1 : c = 112
    · simp [h1]
    · by_cases h2 : c = 107
      · simp [h2]
      · simp [h1, h2]
  · simp
  · simp
theorem goW_text (st : StC) : goW (textC st) = true := by
  unfold textC textL
  rcases List.eq_nil_or_concat (st.1.map sgn ++ psgn st.2) with h | ⟨l, c, h⟩
  · rw [h]; exact goW_nil
  · rw [List.concat_eq_append] at h
    rw [h, goW_snoc]
    have hS := map_sgn_mem st.1
    rcases psgn_cases st.2 with h1 | h1 | h1 <;> rw [h1] at h
    · rw [List.append_nil] at h
      have hc := hS c (by rw [h]; simp)
      have hl : (l ++ [c]).all (fun c => decide (c ∈ [113, 116, 99, 120])) = true := List.all_eq_true.mpr fun x hx => decide_eq_true (hS x (by rw [h]; exact hx))
      rw [if_neg (by simp at hc; omega), hl]
    · obtain ⟨h2, h3⟩ := List.append_inj' h rfl
      injection h3 with h3
      rw [if_pos (by omega), ← h2]
      exact List.all_eq_true.mpr fun x hx => decide_eq_true (hS x hx)
    · obtain ⟨h2, h3⟩ := List.append_inj' h rfl
      injection h3 with h3
      rw [if_pos (by omega), ← h2]
      exact List.all_eq_true.mpr fun x hx => decide_eq_true (hS x hx)
theorem s4_cases {k : Str} (h : inL s4 k = true) : k = Str.ofString "q" ∨ k = Str.ofString "BT" ∨ k = Str.ofString "BMC" ∨ k = Str.ofString "BX" := by
  unfold inL at h
  simp only [List.any_cons, List.any_nil, Bool.or_false, Bool.or_eq_true, beq_iff_eq] at h
  rcases h with h | h | h | h <;> simp [h]
theorem has_t (st : StC) (hg : Good st) : hasS (textC st) (Str.ofString "t") = inL st.1 (Str.ofString "BT") := by
  have e : hasS (textC st) (Str.ofString "t") = decide (116 ∈ textL st) := hasS_one (textC st) 116
  rw [e, Bool.eq_iff_iff, decide_eq_true_iff]
  unfold textL inL
  rw [List.any_eq_true]
  constructor
  · intro h
    rcases List.mem_cons.mp h with h | h
    · cases h
    · rcases List.mem_append.mp h with h | h
      · obtain ⟨k, hk, h2⟩ := List.mem_map.mp h
        refine ⟨k, hk, ?_⟩
        rcases s4_cases (hg.1 k hk) with rfl | rfl | rfl | rfl
        · exact absurd h2 (by decide)
        · rfl
        · exact absurd h2 (by decide)
        · exact absurd h2 (by decide)
      · rcases psgn_cases st.2 with h1 | h1 | h1 <;> rw [h1] at h <;> simp at h
  · rintro ⟨k, hk, h2⟩
    have h2 : k = Str.ofString "BT" := eq_of_beq h2
    subst h2
    exact .tail _ (List.mem_append.mpr (.inl (List.mem_map.mpr ⟨_, hk, by decide⟩)))
abbrev pN : Str := Str.ofString "none"
abbrev pB : Str := Str.ofString "begun"
abbrev pK : Str := Str.ofString "clipped"
def closeN (k : Str) : Nat := if k = Str.ofString "q" then 81 else if k = Str.ofString "BT" then 84 else if k = Str.ofString "BMC" then 67 else 88
inductive Cls (w : Str) : Nat → Prop
  | f : inL kindKeys w = true → pathW pN w = none → pathW pB w = some pN → pathW pK w = some pN → Cls w 102
  | w : inL kindKeys w = true → pathW pN w = none → pathW pB w = some pK → pathW pK w = none → Cls w 119
  | l : inL kindKeys w = true → pathW pN w = none → pathW pB w = some pB → pathW pK w = none → Cls w 108
  | p : inL kindKeys w = true → pathW pN w = some pB → pathW pB w = some pB → pathW pK w = none → Cls w 112
  | op (k : Str) : inL kindKeys w = false → inL s5 w = true → nameW w = k → inL s4 k = true → Cls w (sgn k)
  | cl (k : Str) : inL kindKeys w = false → inL s5 w = false → inL s4 (nameW w) = false → openW w = k → inL s4 k = true → Cls w (closeN k)
  | o : inL kindKeys w = false → inL s5 w = false → openW w = Str.ofString "" → Cls w 111
theorem cls (w : Str) : ∃ c, ownW w = ⟨#[c]⟩ ∧ Cls w c := by
  unfold ownW
  by_cases h1 : w ∈ psF
  · rw [if_pos h1]
    refine ⟨102, rfl, ?_⟩
    have key : ∀ w ∈ psF, inL kindKeys w = true ∧ pathW pN w = none ∧ pathW pB w = some pN ∧ pathW pK w = some pN := by decide +kernel
    obtain ⟨a, b, c, d⟩ := key w h1
    exact .f a b c d
  · rw [if_neg h1]
    by_cases h2 : w ∈ psW
    · rw [if_pos h2]
      refine ⟨119, rfl, ?_⟩
      have key : ∀ w ∈ psW, inL kindKeys w = true ∧ pathW pN w = none ∧ pathW pB w = some pK ∧ pathW pK w = none := by decide +kernel
      obtain ⟨a, b, c, d⟩ := key w h2
      exact .w a b c d
    · rw [if_neg h2]
      by_cases h3 : w ∈ psL
      · rw [if_pos h3]
        refine ⟨108, rfl, ?_⟩
        have key : ∀ w ∈ psL, inL kindKeys w = true ∧ pathW pN w = none ∧ pathW pB w = some pB ∧ pathW pK w = none := by decide +kernel
        obtain ⟨a, b, c, d⟩ := key w h3
        exact .l a b c d
      · rw [if_neg h3]
        by_cases h4 : w ∈ psP
        · rw [if_pos h4]
          refine ⟨112, rfl, ?_⟩
          have key : ∀ w ∈ psP, inL kindKeys w = true ∧ pathW pN w = some pB ∧ pathW pB w = some pB ∧ pathW pK w = none := by decide +kernel
          obtain ⟨a, b, c, d⟩ := key w h4
          exact .p a b c d
        · rw [if_neg h4]
          have hk : inL kindKeys w = false := by
            cases e : inL kindKeys w with
            | false => rfl
            | true =>
              exfalso
              have key : ∀ w ∈ kindKeys, w ∈ psF ∨ w ∈ psW ∨ w ∈ psL ∨ w ∈ psP := by decide +kernel
              unfold inL at e
              rw [List.any_eq_true] at e
              obtain ⟨y, hy, e⟩ := e
              have e : y = w := eq_of_beq e
              subst e
              rcases key y hy with h | h | h | h <;> contradiction
          unfold own0
          by_cases g1 : w = Str.ofString "q"
          · subst g1; exact ⟨113, rfl, .op (Str.ofString "q") hk (by decide) (by decide) (by decide)⟩
          rw [if_neg g1]
          by_cases g2 : w = Str.ofString "Q"
          · subst g2; exact ⟨81, rfl, .cl (Str.ofString "q") hk (by decide) (by decide) (by decide) (by decide)⟩
          rw [if_neg g2]
          by_cases g3 : w = Str.ofString "BT"
          · subst g3; exact ⟨116, rfl, .op (Str.ofString "BT") hk (by decide) (by decide) (by decide)⟩
          rw [if_neg g3]
          by_cases g4 : w = Str.ofString "ET"
          · subst g4; exact ⟨84, rfl, .cl (Str.ofString "BT") hk (by decide) (by decide) (by decide) (by decide)⟩
          rw [if_neg g4]
          by_cases g5 : w = Str.ofString "BMC"
          · subst g5; exact ⟨99, rfl, .op (Str.ofString "BMC") hk (by decide) (by decide) (by decide)⟩
          rw [if_neg g5]
          by_cases g6 : w = Str.ofString "BDC"
          · subst g6; exact ⟨99, rfl, .op (Str.ofString "BMC") hk (by decide) (by decide) (by decide)⟩
          rw [if_neg g6]
          by_cases g7 : w = Str.ofString "EMC"
          · subst g7; exact ⟨67, rfl, .cl (Str.ofString "BMC") hk (by decide) (by decide) (by decide) (by decide)⟩
          rw [if_neg g7]
          by_cases g8 : w = Str.ofString "BX"
          · subst g8; exact ⟨120, rfl, .op (Str.ofString "BX") hk (by decide) (by decide) (by decide)⟩
          rw [if_neg g8]
          by_cases g9 : w = Str.ofString "EX"
          · subst g9; exact ⟨88, rfl, .cl (Str.ofString "BX") hk (by decide) (by decide) (by decide) (by decide)⟩
          rw [if_neg g9]
          refine ⟨111, rfl, .o hk ?_ ?_⟩
          · unfold inL s5
            simp only [List.any_cons, List.any_nil, Bool.or_false, Bool.or_eq_false_iff, beq_eq_false_iff_ne, ne_eq]
            exact ⟨fun e => g1 e.symm, fun e => g3 e.symm, fun e => g5 e.symm, fun e => g6 e.symm, fun e => g8 e.symm⟩
          · unfold openW
            rw [if_neg g2, if_neg g4, if_neg g7, if_neg g9]
end Mine
end
section
open PySem PySem.W PyProof.Rows PySem.Calls PyProof.V PySem.Spec
namespace Mine

open PySem.StrLaws PySem.Builtin PySem.Builtin.Str
def Concl (st : StC) (w : Str) (c : Nat) : Prop := stepW (stepW ⟨(textL st ++ [c]).toArray⟩) = stepW ⟨(textL st ++ [c]).toArray⟩ ∧ goW (stepW ⟨(textL st ++ [c]).toArray⟩) = (stepC st w).isSome ∧ (∀ st', stepC st w = some st' → stepW ⟨(textL st ++ [c]).toArray⟩ = textC st') ∧ (stepC st w = none → stepW ⟨(textL st ++ [c]).toArray⟩ = ⟨(textL st ++ [c]).toArray⟩)
section
variable {st st' : StC} {w : Str} {Y0 : List Nat} {e c : Nat}
theorem fin_dead (hY : textL st = Y0 ++ [e]) (h : hitN e c = none) (hgo : ((psgn st.2).isEmpty && decide (c ∈ SB)) = false) (hs : stepC st w = none) : Concl st w c := by
  have h1 := step_ext st Y0 e c hY
  rw [h] at h1
  refine ⟨by rw [h1, h1], by rw [h1, goW_ext, hgo, hs]; rfl, fun st' h2 => ?_, fun _ => h1⟩
  rw [hs] at h2; cases h2
theorem fin_go (hY : textL st = Y0 ++ [e]) {z : List Nat} (h : hitN e c = some z) (hz : Y0 ++ z = textL st') (hs : stepC st w = some st') : Concl st w c := by
  have h1 := step_ext st Y0 e c hY
  rw [h] at h1
  have h1 : stepW ⟨(textL st ++ [c]).toArray⟩ = textC st' := h1.trans (by simp only [hz]; rfl)
  refine ⟨by rw [h1, step_text], by rw [h1, goW_text, hs]; rfl, fun st'' h2 => ?_, fun h2 => ?_⟩
  · rw [hs] at h2; cases h2; exact h1
  · rw [hs] at h2; cases h2
theorem fin_app (hY : textL st = Y0 ++ [e]) (h : hitN e c = none) (hz : textL st ++ [c] = textL st') (hs : stepC st w = some st') : Concl st w c := by
  have h1 := step_ext st Y0 e c hY
  rw [h] at h1
  have h1 : stepW ⟨(textL st ++ [c]).toArray⟩ = textC st' := h1.trans (by simp only [hz]; rfl)
  refine ⟨by rw [h1, step_text], by rw [h1, goW_text, hs]; rfl, fun st'' h2 => ?_, fun h2 => ?_⟩
  · rw [hs] at h2; cases h2; exact h1
  · rw [hs] at h2; cases h2
end
theorem sign_eq (st : StC) (hg : Good st) {w : Str} {c : Nat} (hc : ownW w = ⟨#[c]⟩) : signW w (textC st) = if (inL st.1 (Str.ofString "BT") && decide (c ∈ [113, 116, 112, 108, 119, 102])) = true then ⟨#[122]⟩ else ⟨#[c]⟩ := by
  have h2 : hasS (Str.ofString "qtplwf") (ownW w) = decide (c ∈ [113, 116, 112, 108, 119, 102]) := by rw [hc]; exact hasS_one (Str.ofString "qtplwf") c
  unfold signW
  rw [has_t st hg, h2, hc]
  rfl
section
variable {ks : List Str} {pv w k : Str}
theorem sc_kind (h : inL kindKeys w = true) : stepC (ks, pv) w = if inL ks (Str.ofString "BT") = true then none else (pathW pv w).map fun q => (ks, q) := by unfold stepC; rw [if_pos h]
theorem sc_path (h : inL kindKeys w = false) (hp : (pv != pN) = true) : stepC (ks, pv) w = none := by unfold stepC; rw [h]; simp only [hp]; rfl
theorem sc_op (h : inL kindKeys w = false) (h5 : inL s5 w = true) : stepC (ks, pN) w = (pileW ks w).map fun k => (k, pN) := by unfold stepC; rw [h]; simp only [h5]; rfl
theorem sc_cl (h : inL kindKeys w = false) (h5 : inL s5 w = false) (ho : openW w ≠ Str.ofString "") : stepC (ks, pN) w = (pileW ks w).map fun k => (k, pN) := by
  unfold stepC; rw [h]
  have : (openW w != Str.ofString "") = true := by simpa using ho
  simp only [h5, this]; rfl
theorem sc_o (h : inL kindKeys w = false) (h5 : inL s5 w = false) (ho : openW w = Str.ofString "") : stepC (ks, pN) w = some (ks, pN) := by
  unfold stepC; rw [h]; simp only [h5, ho]; rfl
theorem pile_op (hn : nameW w = k) (hk : inL s4 k = true) : pileW ks w = if (inL s2 k && inL ks (Str.ofString "BT")) = true then none else some (ks ++ [k]) := by
  unfold pileW; rw [hn, if_pos hk]
theorem pile_cl_nil (hn : inL s4 (nameW w) = false) : pileW [] w = none := by unfold pileW; rw [hn]; rfl
theorem pile_cl_snoc (hn : inL s4 (nameW w) = false) (k' : Str) : pileW (ks ++ [k']) w = if (some k' == some (openW w)) = true then some ks else none := by
  unfold pileW; rw [hn]
  have e1 : (ks ++ [k']).isEmpty = false := by cases ks <;> rfl
  rw [e1]
  simp only [Bool.false_eq_true, if_false, List.getLast?_append, List.getLast?_singleton, Option.some_or, List.dropLast_concat]
end
theorem last_none (ks : List Str) : ∃ Y0 e, textL (ks, pN) = Y0 ++ [e] ∧ e ∈ SA := by
  unfold textL
  rcases List.eq_nil_or_concat ks with rfl | ⟨l, k, rfl⟩
  · exact ⟨[], 94, by decide, by decide⟩
  · refine ⟨94 :: l.map sgn, sgn k, ?_, ?_⟩
    · rw [List.concat_eq_append]
      show 94 :: ((l ++ [k]).map sgn ++ psgn pN) = _
      rw [show psgn pN = [] by decide]; simp
    · have := sgn_mem k
      simp only [SA, List.mem_cons, List.not_mem_nil, or_false] at this ⊢
      omega
theorem text_pv (ks : List Str) (pv : Str) : textL (ks, pv) = (94 :: ks.map sgn) ++ psgn pv := by unfold textL; simp
def deadPath : List Nat := [122, 113, 116, 99, 120, 81, 84, 67, 88, 111]
theorem dead_b : ∀ c ∈ deadPath, hitN 112 c = none := by decide +kernel
theorem dead_k : ∀ c ∈ 108 :: 112 :: 119 :: deadPath, hitN 107 c = none := by decide +kernel
theorem dead_n : ∀ e ∈ SA, ∀ c ∈ [122, 102, 119, 108], hitN e c = none ∧ (decide (c ∈ SB)) = false := by decide +kernel
theorem app_n : ∀ e ∈ SA, ∀ c ∈ [112, 113, 116, 99, 120], hitN e c = none := by decide +kernel
theorem o_n : ∀ e ∈ SA, hitN e 111 = some [e] := by decide +kernel
theorem cl_n : ∀ k ∈ s4, hitN 94 (closeN k) = none ∧ (decide (closeN k ∈ SB)) = false ∧ (closeN k ∈ deadPath) ∧ ¬ closeN k ∈ [113, 116, 112, 108, 119, 102] ∧ k ≠ Str.ofString "" ∧ ∀ k' ∈ s4, hitN (sgn k') (closeN k) = if k' = k then some [] else none := by decide +kernel
theorem op_n : ∀ k ∈ s4, sgn k ∈ deadPath ∧ (decide (sgn k ∈ [113, 116, 112, 108, 119, 102]) = inL s2 k) ∧ sgn k ∈ [112, 113, 116, 99, 120] := by decide +kernel
theorem mem_s4 {k : Str} (h : inL s4 k = true) : k ∈ s4 := by rcases s4_cases h with h | h | h | h <;> subst h <;> decide
theorem law_step (st : StC) (hg : Good st) (w : Str) : ∃ c, signW w (textC st) = ⟨#[c]⟩ ∧ Concl st w c := by
  obtain ⟨c0, hc, hcl⟩ := cls w
  have hsg := sign_eq st hg hc
  obtain ⟨ks, pv⟩ := st
  have hpv := hg.2
  have hks := hg.1
  dsimp only at hsg hpv hks
  -- a sign that is not turned into z
  have plain : ¬ c0 ∈ [113, 116, 112, 108, 119, 102] → signW w (textC (ks, pv)) = ⟨#[c0]⟩ := fun h => by rw [hsg, decide_eq_false h, Bool.and_false]; rfl
  have isz : inL ks (Str.ofString "BT") = true → c0 ∈ [113, 116, 112, 108, 119, 102] → signW w (textC (ks, pv)) = ⟨#[122]⟩ := fun h1 h2 => by rw [hsg, h1, decide_eq_true h2]; rfl
  have nobt : inL ks (Str.ofString "BT") = false → signW w (textC (ks, pv)) = ⟨#[c0]⟩ := fun h => by rw [hsg, h]; rfl
  rcases hpv with e | e | e <;> subst e
  · -- no path
    obtain ⟨Y0, e, hY, he⟩ := last_none ks
    have pE : (psgn pN).isEmpty = true := by decide
    have kind : ∀ q, inL kindKeys w = true → pathW pN w = q → c0 ∈ [113, 116, 112, 108, 119, 102] → c0 ∈ [122, 102, 119, 108] ∧ q = none ∨ c0 = 112 ∧ q = some pB → ∃ c, signW w (textC (ks, pN)) = ⟨#[c]⟩ ∧ Concl (ks, pN) w c := by
      intro q h1 h2 h3 h4
      cases hb : inL ks (Str.ofString "BT") with
      | true =>
        refine ⟨122, isz hb h3, fin_dead hY (dead_n e he 122 (by decide)).1 (by rw [pE]; decide) (by rw [sc_kind h1, if_pos hb])⟩
      | false =>
        refine ⟨c0, nobt hb, ?_⟩
        rcases h4 with ⟨h4, h5⟩ | ⟨h4, h5⟩
        · have := dead_n e he c0 h4
          refine fin_dead hY this.1 (by rw [this.2, Bool.and_false]) ?_
          rw [sc_kind h1, hb, h2, h5]; rfl
        · subst h4
          refine fin_app (st' := (ks, pB)) hY (app_n e he 112 (by decide)) ?_ ?_
          · rw [text_pv, text_pv, show psgn pN = [] by decide, show psgn pB = [112] by decide]; simp
          · rw [sc_kind h1, hb, h2, h5]; rfl
    cases hcl with
    | f h1 h2 _ _ => exact kind _ h1 h2 (by decide) (.inl ⟨by decide, rfl⟩)
    | w h1 h2 _ _ => exact kind _ h1 h2 (by decide) (.inl ⟨by decide, rfl⟩)
    | l h1 h2 _ _ => exact kind _ h1 h2 (by decide) (.inl ⟨by decide, rfl⟩)
    | p h1 h2 _ _ => exact kind _ h1 h2 (by decide) (.inr ⟨rfl, rfl⟩)
    | op k h1 h2 h3 h4 =>
      have hk := op_n k (mem_s4 h4)
      cases hb : (inL s2 k && inL ks (Str.ofString "BT")) with
      | true =>
        rw [Bool.and_eq_true] at hb
        have hm : sgn k ∈ [113, 116, 112, 108, 119, 102] := by have := hk.2.1; rw [hb.1] at this; exact of_decide_eq_true this
        refine ⟨122, isz hb.2 hm, fin_dead hY (dead_n e he 122 (by decide)).1 (by rw [pE]; decide) ?_⟩
        rw [sc_op h1 h2, pile_op h3 h4, hb.1, hb.2]; rfl
      | false =>
        have hs : signW w (textC (ks, pN)) = ⟨#[sgn k]⟩ := by
          rw [hsg, hk.2.1, Bool.and_comm, hb]; rfl
        refine ⟨sgn k, hs, fin_app (st' := (ks ++ [k], pN)) hY (app_n e he _ hk.2.2) ?_ ?_⟩
        · rw [text_pv, text_pv, show psgn pN = [] by decide]; simp
        · rw [sc_op h1 h2, pile_op h3 h4, hb]; rfl
    | cl k h1 h2 h3 h4 h5 =>
      have hk := cl_n k (mem_s4 h5)
      refine ⟨closeN k, plain hk.2.2.2.1, ?_⟩
      have hsc := sc_cl (ks := ks) h1 h2 (by rw [h4]; exact hk.2.2.2.2.1)
      rcases List.eq_nil_or_concat ks with rfl | ⟨l, k', rfl⟩
      · refine fin_dead (Y0 := []) (e := 94) (by decide) hk.1 (by rw [hk.2.1, Bool.and_false]) ?_
        rw [hsc, pile_cl_nil h3]; rfl
      · rw [List.concat_eq_append] at *
        have hk' : k' ∈ s4 := mem_s4 (hks k' (by simp))
        have hit := hk.2.2.2.2.2 k' hk'
        have hY' : textL (l ++ [k'], pN) = (94 :: l.map sgn) ++ [sgn k'] := by rw [text_pv, show psgn pN = [] by decide]; simp
        rw [pile_cl_snoc h3, h4] at hsc
        by_cases hkk : k' = k
        · subst hkk
          rw [if_pos rfl] at hit
          refine fin_go (st' := (l, pN)) hY' hit ?_ ?_
          · rw [text_pv, show psgn pN = [] by decide]
          · rw [hsc]; simp
        · rw [if_neg hkk] at hit
          refine fin_dead hY' hit (by rw [hk.2.1, Bool.and_false]) ?_
          rw [hsc]; simp [hkk]
    | o h1 h2 h3 =>
      refine ⟨111, plain (by decide), fin_go hY (o_n e he) (by rw [hY]) (sc_o h1 h2 h3)⟩
  · -- a path that is begun
    have hY : textL (ks, pB) = (94 :: ks.map sgn) ++ [112] := by rw [text_pv, show psgn pB = [112] by decide]
    have pE : (psgn pB).isEmpty = false := by decide
    have dead : ∀ c, signW w (textC (ks, pB)) = ⟨#[c]⟩ → c ∈ deadPath → stepC (ks, pB) w = none → ∃ c, signW w (textC (ks, pB)) = ⟨#[c]⟩ ∧ Concl (ks, pB) w c :=
      fun c h1 h2 h3 => ⟨c, h1, fin_dead hY (dead_b c h2) (by rw [pE]; rfl) h3⟩
    have kind : ∀ q z, inL kindKeys w = true → pathW pB w = some q → c0 ∈ [113, 116, 112, 108, 119, 102] → hitN 112 c0 = some z → psgn q = z → ∃ c, signW w (textC (ks, pB)) = ⟨#[c]⟩ ∧ Concl (ks, pB) w c := by
      intro q z h1 h2 h3 h4 h5
      cases hb : inL ks (Str.ofString "BT") with
      | true => exact dead 122 (isz hb h3) (by decide) (by rw [sc_kind h1, if_pos hb])
      | false =>
        refine ⟨c0, nobt hb, fin_go (st' := (ks, q)) hY h4 ?_ ?_⟩
        · rw [text_pv, h5]
        · rw [sc_kind h1, hb, h2]; rfl
    have stuck : inL kindKeys w = false → stepC (ks, pB) w = none := fun h => sc_path h (by decide)
    have two : inL kindKeys w = false → c0 ∈ deadPath → ∃ c, signW w (textC (ks, pB)) = ⟨#[c]⟩ ∧ Concl (ks, pB) w c := by
      intro h1 h2
      rw [hsg]
      split
      · exact ⟨122, rfl, fin_dead hY (dead_b 122 (by decide)) (by rw [pE]; rfl) (stuck h1)⟩
      · exact ⟨c0, rfl, fin_dead hY (dead_b c0 h2) (by rw [pE]; rfl) (stuck h1)⟩
    cases hcl with
    | f h1 _ h2 _ => exact kind _ [] h1 h2 (by decide) (by decide +kernel) (by decide)
    | w h1 _ h2 _ => exact kind _ [107] h1 h2 (by decide) (by decide +kernel) (by decide)
    | l h1 _ h2 _ => exact kind _ [112] h1 h2 (by decide) (by decide +kernel) (by decide)
    | p h1 _ h2 _ => exact kind _ [112] h1 h2 (by decide) (by decide +kernel) (by decide)
    | op k h1 _ _ h4 => exact two h1 (op_n k (mem_s4 h4)).1
    | cl k h1 _ _ _ h5 => exact two h1 (cl_n k (mem_s4 h5)).2.2.1
    | o h1 _ _ => exact two h1 (by decide)
  · -- a path that is clipped
    have hY : textL (ks, pK) = (94 :: ks.map sgn) ++ [107] := by rw [text_pv, show psgn pK = [107] by decide]
    have pE : (psgn pK).isEmpty = false := by decide
    have dead : ∀ c, c ∈ 108 :: 112 :: 119 :: deadPath → stepC (ks, pK) w = none → Concl (ks, pK) w c :=
      fun c h2 h3 => fin_dead hY (dead_k c h2) (by rw [pE]; rfl) h3
    have stuck : inL kindKeys w = false → stepC (ks, pK) w = none := fun h => sc_path h (by decide)
    have two : stepC (ks, pK) w = none → c0 ∈ 108 :: 112 :: 119 :: deadPath → ∃ c, signW w (textC (ks, pK)) = ⟨#[c]⟩ ∧ Concl (ks, pK) w c := by
      intro h1 h2
      rw [hsg]
      split
      · exact ⟨122, rfl, dead 122 (by decide) h1⟩
      · exact ⟨c0, rfl, dead c0 h2 h1⟩
    have sk : inL kindKeys w = true → pathW pK w = none → stepC (ks, pK) w = none := by
      intro h1 h2
      rw [sc_kind h1, h2]
      split <;> rfl
    cases hcl with
    | f h1 _ _ h2 =>
      cases hb : inL ks (Str.ofString "BT") with
      | true => exact ⟨122, isz hb (by decide), dead 122 (by decide) (by rw [sc_kind h1, if_pos hb])⟩
      | false =>
        refine ⟨102, nobt hb, fin_go (st' := (ks, pN)) (z := []) hY (by decide +kernel) ?_ ?_⟩
        · rw [text_pv, show psgn pN = [] by decide]
        · rw [sc_kind h1, hb, h2]; rfl
    | w h1 _ _ h2 => exact two (sk h1 h2) (by decide)
    | l h1 _ _ h2 => exact two (sk h1 h2) (by decide)
    | p h1 _ _ h2 => exact two (sk h1 h2) (by decide)
    | op k h1 _ _ h4 => exact two (stuck h1) (.tail _ (.tail _ (.tail _ (op_n k (mem_s4 h4)).1)))
    | cl k h1 _ _ _ h5 => exact two (stuck h1) (.tail _ (.tail _ (.tail _ (cl_n k (mem_s4 h5)).2.2.1)))
    | o h1 _ _ => exact two (stuck h1) (by decide)

theorem str_ext {a b : Str} (h : a.cps = b.cps) : a = b := by obtain ⟨x⟩ := a; obtain ⟨y⟩ := b; exact congrArg Str.mk h
theorem path_good {pv q w : Str} (hp : pv = pN ∨ pv = pB ∨ pv = pK) (h : pathW pv w = some q) : q = pN ∨ q = pB ∨ q = pK := by
  unfold pathW at h
  split at h
  · cases h
  · split at h
    · cases h
    · injection h with h
      subst h
      split
      · exact .inr (.inl rfl)
      · split
        · exact .inr (.inr rfl)
        · split
          · exact hp
          · exact .inl rfl
theorem step_good {st st' : StC} {w : Str} (hg : st.2 = pN ∨ st.2 = pB ∨ st.2 = pK) (h : stepC st w = some st') : st'.2 = pN ∨ st'.2 = pB ∨ st'.2 = pK := by
  unfold stepC at h
  split at h
  · split at h
    · cases h
    · cases e : pathW st.2 w with
      | none => rw [e] at h; cases h
      | some q => rw [e] at h; cases h; exact path_good hg e
  · split at h
    · cases h
    · split at h
      · cases e : pileW st.1 w with
        | none => rw [e] at h; cases h
        | some k => rw [e] at h; cases h; exact hg
      · cases h; exact hg
theorem goC_good (a : StC × List Int × Int) (x : Str) (hg : a.1.2 = pN ∨ a.1.2 = pB ∨ a.1.2 = pK) : (goC a x).1.2 = pN ∨ (goC a x).1.2 = pB ∨ (goC a x).1.2 = pK := by
  unfold goC
  cases e : stepC a.1 x with
  | none => exact hg
  | some st => exact step_good hg e
theorem runC_good (ws : List Str) : Good (runC ws).1 := by
  refine ⟨runC_ok ws, ?_⟩
  have key : ∀ (ws : List Str) (a : StC × List Int × Int), (a.1.2 = pN ∨ a.1.2 = pB ∨ a.1.2 = pK) → (ws.foldl goC a).1.2 = pN ∨ (ws.foldl goC a).1.2 = pB ∨ (ws.foldl goC a).1.2 = pK := by
    intro ws
    induction ws with
    | nil => intro a h; exact h
    | cons x r ih => intro a h; exact ih _ (goC_good a x h)
  exact key ws _ (.inl rfl)
theorem psgn_len (pv : Str) : (psgn pv).length = if (pv != pN) = true then 1 else 0 := by
  unfold psgn
  by_cases h : pv = pN
  · subst h; decide
  · rw [if_neg h]
    have : (pv != pN) = true := by simpa using h
    rw [this]
    split <;> rfl
theorem textC_len (st : StC) : (textC st).length = 1 + openN st := by
  show (textL st).toArray.size = _
  unfold textL openN
  rw [List.size_toArray, List.length_cons, List.length_append, List.length_map, psgn_len]
  show _ = 1 + (st.1.length + (if (st.2 != pN) = true then 1 else 0))
  omega
theorem stepC_len {st st' : StC} {w : Str} (h : stepC st w = some st') : st'.1.length ≤ st.1.length + 1 := by
  have := (goC_len (st, [], 0) w).1
  unfold goC at this
  simp only [h] at this
  exact this
theorem openN_le (st : StC) : openN st ≤ st.1.length + 1 := by unfold openN; split <;> omega
theorem law_use (st : StC) (hg : Good st) (w : Str) (hl : st.1.length ≤ 900) : let x := textC st ++ signW w (textC st);
    1 ≤ x.length ∧ x.length ≤ 2000 ∧ (signW w (textC st)).length = 1 ∧ (stepW x).length ≤ 2000 ∧ 1 ≤ (stepW x).length ∧ stepW (stepW x) = stepW x ∧ goW (stepW x) = (stepC st w).isSome ∧ ∀ st', stepC st w = some st' → stepW x = textC st' := by
  obtain ⟨c, hs, h1, h2, h3, h4⟩ := law_step st hg w
  have hx : textC st ++ signW w (textC st) = ⟨(textL st ++ [c]).toArray⟩ := by rw [hs]; exact str_ext (by unfold textC; rw [Str.cps_append]; simp)
  have hlen : (textC st ++ signW w (textC st)).length = (textC st).length + 1 := by rw [hx]; unfold textC; simp [Str.length]
  have hop := openN_le st
  have htl := textC_len st
  intro x
  refine ⟨by show 1 ≤ (textC st ++ _).length; omega, by show (textC st ++ _).length ≤ _; omega, by rw [hs]; rfl, ?_, ?_, by show stepW (stepW (textC st ++ _)) = stepW (textC st ++ _); rw [hx, h1], by show goW (stepW (textC st ++ _)) = _; rw [hx, h2], fun st' h => by show stepW (textC st ++ _) = _; rw [hx, h3 st' h]⟩
  all_goals
    show _ ≤ _
    cases e : stepC st w with
    | none =>
      have : stepW x = textC st ++ signW w (textC st) := by show stepW (textC st ++ _) = _; rw [hx, h4 e]
      rw [this, hlen]; omega
    | some st' =>
      have : stepW x = textC st' := by show stepW (textC st ++ _) = _; rw [hx, h3 st' e]
      rw [this, textC_len]
      have := openN_le st'
      have := stepC_len e
      omega
end Mine
end
section
open PySem PySem.W PyProof.Rows PySem.Calls PyProof.V PySem.Spec
namespace Mine
theorem fresh_P57 : True := by
  w_top off
  k_with_none
  trivial

theorem regroup4 {g h : Heap} {L : Addr} {a b c d e f : Addr × Obj} {own : List (Addr × Obj)} (N : News g L h (a :: b :: c :: d :: e :: f :: own)) : News g L h (b :: c :: f :: own) := by
  intro p hp
  refine N p ?_
  simp only [List.mem_cons] at hp ⊢
  rcases hp with h | h | h | h <;> simp [h]
theorem regroup5 {g h : Heap} {L : Addr} {a b c d : Addr × Obj} {own : List (Addr × Obj)} (N : News g L h (a :: b :: c :: d :: own)) : News g L h (a :: own) := by
  intro p hp
  refine N p ?_
  simp only [List.mem_cons] at hp ⊢
  rcases hp with h | h <;> simp [h]
theorem regroup6 {g h : Heap} {L : Addr} {a b c d e r : Addr × Obj} {nw own ownI : List (Addr × Obj)} (N : News g L h (a :: b :: (nw ++ (c :: (own ++ (d :: r :: e :: ownI)))))) : News g L h (a :: d :: e :: ownI) := by
  intro p hp
  refine N p ?_
  simp only [List.mem_cons, List.mem_append] at hp ⊢
  rcases hp with h | h | h | h <;> simp [h]
theorem ints_rep (n : Nat) (i : Int) (t : Tok) : IntsAre (List.replicate n (.int i t)) (List.replicate n i) := by
  induction n with
  | zero => exact .nil
  | succ n ih => exact .cons i t ih
theorem law_map1 {m : Str → Option Value} {v1 : Value} (h1 : m (Str.ofString "pen") = some v1) : m = fun y => if y = Str.ofString "pen" then some v1 else m y := by
  funext z
  by_cases e1 : z = Str.ofString "pen"
  · rw [if_pos e1, e1, h1]
  · rw [if_neg e1]
theorem law_map4 {m : Str → Option Value} {v1 v2 v3 v4 : Value} (h1 : m (Str.ofString "left_over") = some v1) (h2 : m (Str.ofString "due") = some v2) (h3 : m (Str.ofString "row") = some v3) (h4 : m (Str.ofString "pen") = some v4) :
    m = fun y => if y = Str.ofString "left_over" then some v1 else if y = Str.ofString "due" then some v2 else if y = Str.ofString "row" then some v3 else if y = Str.ofString "pen" then some v4 else m y := by
  funext z
  by_cases e1 : z = Str.ofString "left_over"
  · rw [if_pos e1, e1, h1]
  · rw [if_neg e1]
    by_cases e2 : z = Str.ofString "due"
    · rw [if_pos e2, e2, h2]
    · rw [if_neg e2]
      by_cases e3 : z = Str.ofString "row"
      · rw [if_pos e3, e3, h3]
      · rw [if_neg e3]
        by_cases e4 : z = Str.ofString "pen"
        · rw [if_pos e4, e4, h4]
        · rw [if_neg e4]
theorem words_strs : ∀ {vs : List Value}, vs.all wordB = true → ∃ ws, StrsL vs ws ∧ ∀ x ∈ ws, x.length ≤ 10
  | [], _ => ⟨[], .nil, fun _ h => nomatch h⟩
  | v :: vs, h => by
    rw [List.all_cons, Bool.and_eq_true] at h
    obtain ⟨ws, h1, h2⟩ := words_strs h.2
    cases v with
    | str x t => exact ⟨x :: ws, .cons h1, List.forall_mem_cons.mpr ⟨of_decide_eq_true h.1, h2⟩⟩
    | _ => cases h.1
theorem text0 : textC (runC []).1 = Str.ofString "^" := by decide
def LawJ (pen : Addr) (i : Nat) (m : Str → Option Value) (nx : List (Addr × Obj)) : Prop := ∃ po, nx = [(pen, po)] ∧ IsPen ((i : Int) * 300) po ∧ m (Str.ofString "pen") = some (.ref pen)
def TurnJ (du ro pen : Addr) (vs : List Value) (no : Nat) (po : Obj) (ws : List Str) (ownI : List (Addr × Obj)) (i : Nat) (m : Str → Option Value) (nx : List (Addr × Obj)) : Prop :=
  ∃ (dvs : List Value) (nd : Nat) (tl : Tok), nx = (du, listOf dvs.toArray nd) :: (ro, listOf vs.toArray no) :: (pen, po) :: ownI ∧ IntsAre dvs (runC (ws.take i)).2.1 ∧ m (Str.ofString "left_over") = some (.str (textC (runC (ws.take i)).1) tl) ∧ m (Str.ofString "due") = some (.ref du) ∧ m (Str.ofString "row") = some (.ref ro) ∧ m (Str.ofString "pen") = some (.ref pen)
theorem turn_end {du ro pen I : Addr} {vs dvs : List Value} {no nd j : Nat} {po oe oi o1 o2 o3 : Obj} {ws : List Str} {ownI : List (Addr × Obj)} {st' : StC} {fs' : List Int} {ix' : Int} {g h' : Heap} {L : Addr} {m' : Str → Option Value} {tl : Tok} {s₁ : Shared} {tk : Nat}
    (hR : runC (ws.take (j + 1)) = (st', fs', ix')) (F : Fr g L h' m') (N : News g L h' ((I + 1, oe) :: (I, oi) :: (du, listOf dvs.toArray nd) :: (ro, listOf vs.toArray no) :: (pen, po) :: ownI)) (hdv : IntsAre dvs fs')
    (hI : ∀ p ∈ (du, o1) :: (ro, o2) :: (pen, o3) :: ownI, p.1 < I) (hm : m' (Str.ofString "left_over") = some (.str (textC st') tl) ∧ m' (Str.ofString "due") = some (.ref du) ∧ m' (Str.ofString "row") = some (.ref ro) ∧ m' (Str.ofString "pen") = some (.ref pen)) :
    UnrEndW g L s₁ [(I + 1, oe), (I, oi)] (fun m' n' => SubL [(ro, listOf vs.toArray no)] n' ∧ TurnJ du ro pen vs no po ws ownI (j + 1) m' n') { s₁ with heap := h', toks := tk } := by
  refine ⟨h', tk, m', (du, listOf dvs.toArray nd) :: (ro, listOf vs.toArray no) :: (pen, po) :: ownI, rfl, F, N, ?_, ⟨.tail _ (.head _), trivial⟩, dvs, nd, tl, rfl, by rw [hR]; exact hdv, by rw [hR]; exact hm.1, hm.2.1, hm.2.2.1, hm.2.2.2⟩
  have key : ∀ p ∈ (du, listOf dvs.toArray nd) :: (ro, listOf vs.toArray no) :: (pen, po) :: ownI, @LT.lt Nat _ p.1 I := by
    simp only [List.forall_mem_cons] at hI ⊢
    exact hI
  intro p hp q hq
  have h1 := key p hp
  rcases List.mem_cons.mp hq with rfl | hq
  · exact Nat.ne_of_lt (Nat.lt_succ_of_lt h1)
  · rw [List.mem_singleton.mp hq]; exact Nat.ne_of_lt h1
local macro_rules | `(tactic| k_all) => `(tactic| assumption)
local macro_rules | `(tactic| k_room) => `(tactic| ktr_room)
local macro_rules | `(tactic| k_all) => `(tactic| assumption)
set_option maxRecDepth 100000 in
set_option maxHeartbeats 2000000 in
theorem law_holds : PySem.Challenge.rw_og0162_01.Holds := hd (by
  k_with_none
  k_with "eval Constant str" => (refine const_str_gen ?_; intro z_t' z_tk'; (try dsimp only))
  k_with "call builtin:list.append" => (k_here; (with_reducible show wpAny _ _ (call (Value.builtin _) [Value.ref _, _]) _ _ _); k_dflt (refine' append_L ?y_k1 ?y_k2 ?y_k3 ?y_z ?_; (case y_k1 => k_asm); (case y_k2 => k_asm); (case y_k3 => k_upd); (case y_z => (simp only [List.length_append, List.length_cons, List.length_nil]; omega)); k_whole); intro z_h' z_F' z_N'; (try k_sweep))
  k_with "call builtin:list.append" => (k_here; (with_reducible show wpAny _ _ (call (Value.builtin _) [Value.ref _, _]) _ _ _); k_dflt (refine' append_L ?y_k1 ?y_k2 ?y_k3 ?y_z ?_; (case y_k1 => k_asm); (case y_k2 => k_asm); (case y_k3 => k_upd); (case y_z => omega); k_whole); intro z_h' z_F' z_N'; (try k_sweep))
  k_with "binaryOp Add ref ref" => (k_here; k_dflt (refine' add_L ?y_F ?y_N ?y_a ?y_b ?y_z ?_; (case y_F => k_asm); (case y_N => k_asm); (case y_a => is_list); (case y_b => is_list); (case y_z => first | omega | (simp only [List.length_append, List.length_cons, List.length_nil]; omega)); k_whole); intro z_D' z_h' z_F' z_N' z_l1; (have z_l9 := z_l1); (try k_lt z_l1); (try k_sweep))
  k_with "call builtin:len" => (k_here; (with_reducible show wpAny _ _ (call (Value.builtin "len") [Value.ref _]) _ _ _); k_dflt (refine' len_L ?y_l ?y_z ?_; (case y_l => is_list); (case y_z => (simp only [List.length_append, List.length_cons, List.length_nil]; omega)); k_whole))
  k_with "call builtin:len" => (k_here; (with_reducible show wpAny _ _ (call (Value.builtin "len") [Value.ref _]) _ _ _); k_dflt (refine' len_L ?y_l ?y_z ?_; (case y_l => is_list); (case y_z => omega); k_whole))
  k_with "subscriptTail" => (k_here; (with_reducible show wpAny _ _ (subscriptTail _ _ (Value.ref _) (Value.int _ _)) _ _ _); k_dflt (refine' item_open ?y_l ?y_a ?y_b ?y_z ?_ ?y_e; (case y_l => is_list); (case y_a => omega); (case y_b => omega); (case y_z => omega); (case y_e => with_unfolding_all rfl); k_whole); intro z_v' z_hv' z_hx')
  k_with "call ref" => (k_here; (with_reducible show wpAny _ _ (call (Value.ref 110) _ _) _ _ _); k_dflt (refine' pen_use ?y_k1 ?y_k2 ?y_k3 ?y_k4 ?y_k5 ?y_kN ?y_hl ?y_hi ?y_hz ?y_d ?y_u ?_; (case y_k1 => k_asm); (case y_k2 => k_asm); (case y_k3 => k_asm); (case y_k4 => k_asm); (case y_k5 => exact rfl); (case y_kN => k_asm); (case y_hl => assumption); (case y_hi => assumption); (case y_hz => omega); (case y_d => (simp only [depth_deeper, depth_caller, units_deeper, units_caller]; omega)); (case y_u => (simp only [depth_deeper, depth_caller, units_deeper, units_caller]; omega))); k_whole; intro z_p' z_po' z_h' z_tk' z_hpo' z_F' z_N'; (try dsimp only at z_N'); (try dsimp only); (try k_fold); (try k_sweep))
  k_with "call ref" => (k_here; (with_reducible show wpAny _ _ (call (Value.ref 138) _ _) _ _ _); k_dflt (refine' row_use ?y_k1 ?y_k2 ?y_k3 ?y_k4 ?y_k5 ?y_H ?y_kN ?y_kU ?y_kp ?y_q ?y_d ?y_u ?_; (case y_H => first | assumption | (refine (by assumption : _ → RowC _ _ _ _) ?_; omega)); (case y_k1 => k_asm); (case y_k2 => k_asm); (case y_k3 => k_asm); (case y_k4 => k_asm); (case y_k5 => exact rfl); (case y_kN => k_asm); (case y_kU => k_updF); (case y_kp => assumption); (case y_q => omega); (case y_d => (simp only [depth_deeper, depth_caller, units_deeper, units_caller]; omega)); (case y_u => (simp only [depth_deeper, depth_caller, units_deeper, units_caller]; omega))); k_whole; intro z_l' z_vs' z_n' z_po' z_h' z_tk' z_hw' z_hl' z_hpo' z_F' z_N' z_hne'; (try (replace z_hne' := allNe_of z_hne'; simp only [AllNe, and_true] at z_hne')); (try dsimp only at z_N'); (try dsimp only); (try k_fold); (try k_sweep))
  k_with "call ref" => (k_here; (with_reducible show wpAny _ _ (call (Value.ref 145) _ _) _ _ _); k_dflt (refine' bent_use ?y_k1 ?y_k2 ?y_k3 ?y_k4 ?y_k5 ?y_kN ?y_kU ?y_hr ?y_hpo ?y_hrp ?y_hw ?y_hv ?y_hq ?y_d ?y_u ?_; (case y_k1 => k_asm); (case y_k2 => k_asm); (case y_k3 => k_asm); (case y_k4 => k_asm); (case y_k5 => exact rfl); (case y_kN => k_asm); (case y_kU => k_updF); (case y_hr => k_mem); (case y_hpo => assumption); (case y_hrp => k_ne); (case y_hw => assumption); (case y_hv => omega); (case y_hq => omega); (case y_d => (simp only [depth_deeper, depth_caller, units_deeper, units_caller]; omega)); (case y_u => (simp only [depth_deeper, depth_caller, units_deeper, units_caller]; omega))); k_whole; intro z_l' z_vs' z_n' z_po' z_h' z_tk' z_hw' z_hl' z_hpo' z_F' z_N' z_hne'; (try dsimp only at z_N'); (try dsimp only); (try k_fold); (try k_sweep))
  k_with "call ref" => (k_here; (with_reducible show wpAny _ _ (call (Value.ref 152) _ _) _ _ _); k_dflt (refine' sign_use ?y_k1 ?y_k2 ?y_k3 ?y_k4 ?y_k5 ?y_kN ?y_hx ?y_hy ?y_d ?y_u ?_; (case y_k1 => k_asm); (case y_k2 => k_asm); (case y_k3 => k_asm); (case y_k4 => k_asm); (case y_k5 => exact rfl); (case y_kN => k_asm); (case y_hx => assumption); (case y_hy => assumption); (case y_d => (simp only [depth_deeper, depth_caller, units_deeper, units_caller]; omega)); (case y_u => (simp only [depth_deeper, depth_caller, units_deeper, units_caller]; omega))); k_whole; intro z_h' z_tk' z_tz' z_F' z_N'; (try dsimp only at z_N'); (try dsimp only); (try k_fold); (try k_sweep))
  k_with "call ref" => (k_here; (with_reducible show wpAny _ _ (call (Value.ref 157) _ _) _ _ _); k_dflt (refine' rew_use ?y_k1 ?y_k2 ?y_k3 ?y_k4 ?y_k5 ?y_kN ?y_h1 ?y_h2 ?y_h3 ?y_h4 ?y_h5 ?y_d ?y_u ?_; (case y_k1 => k_asm); (case y_k2 => k_asm); (case y_k3 => k_asm); (case y_k4 => k_asm); (case y_k5 => exact rfl); (case y_kN => k_asm); (case y_h1 => assumption); (case y_h2 => assumption); (case y_h3 => assumption); (case y_h4 => assumption); (case y_h5 => exact Nat.succ_pos _); (case y_d => (simp only [depth_deeper, depth_caller, units_deeper, units_caller]; omega)); (case y_u => (simp only [depth_deeper, depth_caller, units_deeper, units_caller]; omega))); k_whole; intro z_h' z_tk' z_tz' z_F' z_N'; (try dsimp only at z_N'); (try dsimp only); (try k_fold); (try k_sweep))
  k_with "call ref" => (k_here; (with_reducible show wpAny _ _ (call (Value.ref 162) _ _) _ _ _); k_dflt (refine' go_use ?y_k1 ?y_k2 ?y_k3 ?y_k4 ?y_k5 ?y_kN ?y_h1 ?y_h2 ?y_d ?y_u ?_; (case y_k1 => k_asm); (case y_k2 => k_asm); (case y_k3 => k_asm); (case y_k4 => k_asm); (case y_k5 => exact rfl); (case y_kN => k_asm); (case y_h1 => assumption); (case y_h2 => assumption); (case y_d => (simp only [depth_deeper, depth_caller, units_deeper, units_caller]; omega)); (case y_u => (simp only [depth_deeper, depth_caller, units_deeper, units_caller]; omega))); k_whole; intro z_h' z_tk' z_F' z_N'; (try dsimp only at z_N'); (try dsimp only); (try k_fold); (try k_sweep))
  k_with "call ref" => (k_here; (with_reducible show wpAny _ _ (call (Value.ref 103) _ _) _ _ _); k_dflt (refine' nest_use ?y_k1 ?y_k2 ?y_k3 ?y_k4 ?y_k5 ?y_kN ?y_h1 ?y_h2 ?y_hO ?y_hw ?y_hl ?y_d ?y_u ?_; (case y_k1 => k_asm); (case y_k2 => k_asm); (case y_k3 => k_asm); (case y_k4 => k_asm); (case y_k5 => exact rfl); (case y_kN => k_asm); (case y_h1 => k_mem); (case y_hO => assumption); (case y_h2 => (intro z_q z_hq; exact .tail _ (List.mem_append.mpr (.inl z_hq)))); (case y_hw => assumption); (case y_hl => omega); (case y_d => (simp only [depth_deeper, depth_caller, units_deeper, units_caller]; omega)); (case y_u => (simp only [depth_deeper, depth_caller, units_deeper, units_caller]; omega))); k_whole; intro z_f' z_fvs' z_nf' z_nw' z_h' z_tk' z_hFl' z_F' z_N'; (try dsimp only at z_N'); (try dsimp only); (try k_fold); (try k_sweep))
  k_with "exec For Tuple Call cons nil" => refine stop_here ?_
  k_with "call type:enumerate" => ((with_reducible show wpAny _ _ (call (Value.type _) [Value.ref _]) (fun xv s₁ => wpAny _ _ (pyIter xv) (fun it s₂ => TurnsAt _ _ _ _ _ _ _ _ _ it s₂) _ s₁) _ _); refine stop_here ?_)
  k_with "eval ListComp" => refine stop_here ?_
  k_with "compareOp NotEq ref ref" => ((with_reducible show wpAny _ _ (compareOp CmpOp.NotEq (Value.ref _) (Value.ref _)) _ _ _); refine stop_here ?_)
  k_with "binaryOp Add str str" => (refine add_tok (by omega) (by omega) (by omega) ?_; (try dsimp only))
  k_with "binaryOp Mult ref int" => (k_here; (with_reducible show wpAny _ _ (binaryOp Operator.Mult (Value.ref _) (Value.int _ _)) _ _ _); k_dflt (refine' mul_L ?y_F ?y_N ?y_l ?y_a ?y_b ?_; (case y_F => k_asm); (case y_N => k_asm); (case y_l => k_mem); (case y_a => omega); (case y_b => omega)); k_whole; intro z_D' z_h' z_F' z_N' z_l1; (have z_l9 := z_l1); (try k_lt z_l1); (try k_sweep))
  k_with "binaryOp Add ref ref" => (k_here; k_dflt (refine' add_L ?y_F ?y_N ?y_a ?y_b ?y_z ?_; (case y_F => k_asm); (case y_N => k_asm); (case y_a => is_list); (case y_b => is_list); (case y_z => (simp only [List.length_replicate]; omega)); k_whole); intro z_D' z_h' z_F' z_N' z_l1; (have z_l9 := z_l1); (try k_lt z_l1); (try k_sweep))
  k_with "call type:range" => (k_here; (rename Fr _ _ _ _ => z_F'); (rename News _ _ _ _ => z_N'); (with_unfolding_all refine range1_rows z_F' z_N' ?_); intro z_h' z_tk' z_t1' z_u1' z_v1' z_hR' z_F' z_N' z_hk'; (try k_sweep))
  k_with "exec For Name Call cons nil" => (k_here; (rename Fr _ _ _ _ => z_lF'); (with_unfolding_all refine' For_invVF z_lF' ?y_k1 ?y_k2 ?_; (case y_k1 => exact rfl); (case y_k2 => exact rfl); k_whole))
  k_with "pyIter ref" => ((with_reducible show wpAny _ _ (pyIter (Value.ref _)) (fun it s₂ => LoopAtV _ _ _ _ _ _ _ _ _ it s₂) _ _); refine stop_here ?_)
  k_go0
  all_goals try k_fold
  k_steps
  refine Stop.go ?_
  (rename Fr _ _ _ _ => F1); (rename News _ _ _ _ => N1); (rename IsRange _ _ _ _ _ _ _ _ => R1); (rename IsPen _ _ => hpo); (rename Heap => h9); (rename World => w)
  have H0 : RowC w 0 235 150 := row0
  obtain ⟨pen, po0, m0, F2, N2, hpo, hm0⟩ : ∃ (pen : Addr) (po0 : Obj) (m0 : Str → Option Value), Fr _ _ h9 m0 ∧ News _ _ h9 [(pen, po0)] ∧ IsPen 0 po0 ∧ m0 (Str.ofString "pen") = some (.ref pen) := ⟨_, _, _, F1, N1, hpo, rfl⟩
  (with_unfolding_all refine' loop_range (LawJ pen) (n := 6) rfl R1 (by decide) (by decide) F2 N2 ⟨po0, rfl, hpo, hm0⟩ ?turn ?done)
  case turn =>
    clear R1 F1 N1 F2 N2 hpo hm0
    intro i t m₁ nx h tk ownI hi hJ hoff F₂ N₂
    obtain ⟨po, rfl, hpo, hm⟩ := hJ
    rw [law_map1 hm] at F₂
    have hne : ∀ q ∈ ownI, q.1 ≠ pen := hoff (pen, po) (.head _)
    have N₃ : News _ _ h ((pen, po) :: ownI) := N₂
    clear N₂
    k_steps
    refine Stop.go ?_
    (rename Fr _ _ _ _ => F1); (rename News _ _ _ _ => N1); (rename Heap => h9)
    obtain ⟨du, ro, vs, no, po2, m2, t0, F2, N2, hpo2, hw2, hl2, hm1, hm2, hm3, hm4, q1, q2, q3, q4⟩ : ∃ (du ro : Addr) (vs : List Value) (no : Nat) (po2 : Obj) (m2 : Str → Option Value) (t0 : Tok), Fr _ _ h9 m2 ∧ News _ _ h9 ((du, listOf ([] : List Value).toArray 0) :: (ro, listOf vs.toArray no) :: (pen, po2) :: ownI) ∧ IsPen ((i : Int) * 300 + 241) po2 ∧ vs.all wordB = true ∧ vs.length ≤ 700 ∧
        m2 (Str.ofString "left_over") = some (.str (Str.ofString "^") t0) ∧ m2 (Str.ofString "due") = some (.ref du) ∧ m2 (Str.ofString "row") = some (.ref ro) ∧ m2 (Str.ofString "pen") = some (.ref pen) ∧ (@LT.lt Nat _ pen du) ∧ (@LT.lt Nat _ ro du) ∧ (@Ne Nat ro pen) ∧ (∀ q ∈ ownI, q.1 ≠ du) := by
      refine ⟨_, _, _, _, _, _, _, F1, regroup4 N1, IsPen.mono (by assumption) (by omega), by assumption, by omega, rfl, rfl, rfl, rfl, by omega, by omega, by assumption, ?_⟩
      exact AllLt.ne (‹_ ∧ _ ∧ _ ∧ _ ∧ AllLt _ ownI›).2.2.2.2
    clear F1 N1
    obtain ⟨ws, hS, hwl⟩ := words_strs hw2
    have hwn : ws.length ≤ 700 := by rw [← hS.len]; exact hl2
    rw [law_map4 hm1 hm2 hm3 hm4] at F2
    (with_unfolding_all refine' For_turns F2 ?_)
    k_steps
    refine Stop.go ?_
    (with_unfolding_all refine' enum_loop (TurnJ du ro pen vs no po2 ws ownI) rfl F2 N2 ?hm ?hj ?turn2 ?done2)
    case hm => exact .tail _ (.head _)
    case hj => exact ⟨[], 0, t0, rfl, .nil, congrArg (fun z => some (Value.str z t0)) text0.symm, rfl, rfl, rfl⟩
    case turn2 =>
      clear F2 hm1 hm2 hm3 hm4
      intro I j v m3 nx T t3 h3 tk3 oe oi hI hv hJ hT hoe hoi F3 N3
      obtain ⟨dvs, nd, tl, rfl, hdv, e1, e2, e3, e4⟩ := hJ
      obtain ⟨x, u, hx1, rfl⟩ := hS.get j v hv
      have hxl : x.length ≤ 10 := hwl x (List.mem_of_getElem? hx1)
      have hlen := runC_len (ws.take j)
      have hix := runC_idx (ws.take j)
      rw [List.length_take] at hlen hix
      have hjl : j < ws.length := (List.getElem?_eq_some_iff.mp hx1).1
      have hg := runC_good (ws.take j)
      have hR := runC_take hx1
      generalize runC (ws.take j) = R at hlen hix hg hR hdv e1
      obtain ⟨st, fs, ix⟩ := R
      (try dsimp only at hlen hix hg hR hdv e1)
      have hst : st.1.length ≤ 900 := by omega
      have hix2 : ix = (j : Int) := by omega
      have hu := law_use st hg x hst
      dsimp only at hu
      obtain ⟨p1, p2, p3, p4, p5, p6, p7, p8⟩ := hu
      have htl := textC_len st
      have hop := openN_le st
      have hty : (textC st).length ≤ 2000 := by omega
      have hi1 : @LT.lt Nat _ du I := hI (du, _) (.head _)
      have hdl : dvs.length < 3000 := by rw [hdv.length]; omega
      rw [law_map4 e1 e2 e3 e4] at F3
      clear e1 e2 e3 e4 N2
      k_steps
      · (rename Fr _ _ _ _ => F9); (rename News _ _ _ _ => N9); (rename (goW _ = true) => hgo)
        rw [p7] at hgo
        obtain ⟨st', hst'⟩ := Option.isSome_iff_exists.mp hgo
        have hR2 : runC (ws.take (j + 1)) = (st', fs, ix + 1) := by rw [hR]; unfold goC; simp only [hst']
        exact turn_end hR2 F9 N9 hdv hI ⟨congrArg (fun z => some (Value.str z _)) (p8 st' hst'), rfl, rfl, rfl⟩
      · (rename Fr _ _ _ _ => F9); (rename News _ _ _ _ => N9); (rename (goW _ = false) => hgo)
        rw [p7] at hgo
        have hst' : stepC st x = none := by
          cases e : stepC st x with
          | none => rfl
          | some st' => rw [e] at hgo; cases hgo
        have hR2 : runC (ws.take (j + 1)) = (st, fs ++ [ix], ix + 1) := by rw [hR]; unfold goC; simp only [hst']
        exact turn_end hR2 F9 N9 (IntsAre.append hdv (hix2 ▸ .cons _ _ .nil)) hI ⟨rfl, rfl, rfl, rfl⟩
    case done2 =>
      clear F2 hm1 hm2 hm3 hm4 N2
      intro m3 nx h3 tk3 hJ F3 N3
      obtain ⟨dvs, nd, tl, rfl, hdv, e1, e2, e3, e4⟩ := hJ
      have hvl := hS.len
      rw [hvl, List.take_length] at hdv e1
      have hlen := runC_len ws
      have htl := textC_len (runC ws).1
      have hop := openN_le (runC ws).1
      have hfa : faultsC ws = (runC ws).2.1 ++ List.replicate (openN (runC ws).1) (ws.length : Int) := rfl
      generalize runC ws = R at hlen htl hop hfa hdv e1
      obtain ⟨st, fs, ix⟩ := R
      (try dsimp only at hlen htl hop hfa hdv e1)
      have hdl : dvs.length ≤ 700 := by rw [hdv.length]; omega
      have hty : (textC st).length ≤ 2000 := by omega
      rw [law_map4 e1 e2 e3 e4] at F3
      clear e1 e2 e3 e4
      k_steps
      refine Stop.go ?_
      (rename Fr _ _ _ _ => F1); (rename News _ _ _ _ => N1); (rename Heap => h9)
      obtain ⟨du2, dvs2, nd2, m4, v4, F4, N4, hdv2, g1, g2, g3, g4⟩ : ∃ (du2 : Addr) (dvs2 : List Value) (nd2 : Nat) (m4 : Str → Option Value) (v4 : Value), Fr _ _ h9 m4 ∧ News _ _ h9 ((du2, listOf dvs2.toArray nd2) :: (ro, listOf vs.toArray no) :: (pen, po2) :: ownI) ∧ IntsAre dvs2 (faultsC ws) ∧
          m4 (Str.ofString "left_over") = some v4 ∧ m4 (Str.ofString "due") = some (.ref du2) ∧ m4 (Str.ofString "row") = some (.ref ro) ∧ m4 (Str.ofString "pen") = some (.ref pen) := by
        refine ⟨_, _, _, _, _, F1, regroup5 N1, ?_, rfl, rfl, rfl, rfl⟩
        rw [hfa, hvl]
        have hn : (((textC st).length : Int) - 1).toNat = openN st := by omega
        rw [hn]
        exact IntsAre.append hdv (ints_rep _ _ _)
      have hfl : (faultsC ws).length ≤ 1500 := by rw [hfa, List.length_append, List.length_replicate]; omega
      clear F1 N1
      rw [law_map4 g1 g2 g3 g4] at F4
      clear g1 g2 g3 g4
      (k_dflt (refine' LCp.ListComp_P ?kF ?clos ?cell ?kind ?names ?hx ?hx2 ?hxx ?_ ?hs); (case kF => exact F4))
      case clos => with_unfolding_all rfl
      case cell => decide
      case kind => with_unfolding_all rfl
      case names => decide
      case hx => with_unfolding_all rfl
      case hx2 => with_unfolding_all rfl
      case hxx => decide
      case hs => intro _; with_unfolding_all rfl
      k_steps
      refine Stop.go ?_
      (rename Fr _ _ _ _ => F5)
      (k_dflt (refine' ops_comp (ws := ws) (vs := vs) (no := no) (ro := ro) ?kB ?kF ?kX ?kT ?kK ?kN ?km ?kro ?krow ?kclos ?kS ?kl ?kd ?ku ?kret; (case kB => k_asm); (case kF => exact F5); (case kX => k_asm); (case kT => k_asm); (case kK => exact rfl); (case kN => exact N4)))
      case km => with_unfolding_all rfl
      case kro => exact .tail _ (.head _)
      case krow => with_unfolding_all rfl
      case kclos => with_unfolding_all rfl
      case kS => exact hS
      case kl => omega
      case kd => (simp only [depth_deeper, depth_caller, units_deeper, units_caller]; omega)
      case ku => (simp only [depth_deeper, depth_caller, units_deeper, units_caller]; omega)
      case kret =>
      intro Do ys no2 own h5 tk5 hO F6 N6
      (try dsimp only)
      k_steps
      (rename Fr _ _ _ _ => F7); (rename News _ _ _ _ => N7); (rename FaultsIn _ _ _ => hFl); (rename List Value => fvs); (rename Addr => fo)
      (k_dflt (refine' LCp.SrcLP.ledger ?kA ?kF ?kN ?km ?kz fun g => places_rest (nw := _) (is := faultsC ws) ?kk ?kl hFl ?ks ?ksrc ?kfin; (case kF => exact F7); (case kN => exact N7)))
      case kA => with_unfolding_all rfl
      case km => exact .head _
      case kz => rw [List.size_toArray, hFl.len, sizeLine_eq]; omega
      case kk => with_unfolding_all rfl
      case kl => intro C; with_unfolding_all rfl
      case ks => exact fun q hq => .tail _ (List.mem_append.mpr (.inl hq))
      case ksrc => exact .inr ⟨_, .head _, rfl, _, rfl⟩
      case kfin =>
      intro zs hzs
      intro D2 h8 tk8 F8 N8 _
      have N9 : News _ _ h8 ((D2, listOf zs.toArray zs.length) :: (du2, listOf dvs2.toArray nd2) :: (pen, po2) :: ownI) := regroup6 N8
      clear F7 N7 N8
      (try clear F6)
      (try clear N6)
      (try clear F4)
      (try clear N4)
      (try dsimp only)
      k_steps
      refine Stop.go ?_
      refine ne_L (is := faultsC ws) (vs := zs) (us := dvs2) ⟨_, N9.get (.head _), rfl, _, rfl⟩ hzs ⟨_, N9.get (.tail _ (.head _)), rfl, _, rfl⟩ hdv2 ?ku ?_
      case ku => units_room
      k_steps
      (rename Fr _ _ _ _ => F11); (rename News _ _ _ _ => N11)
      refine MvEnd.intro F11 N11 (nx := [(pen, po2)]) ⟨po2, rfl, hpo2.mono (by omega), rfl⟩ ?_ ?_ ?_
      · intro p hp
        rw [List.mem_singleton.mp hp]; exact .tail _ (.tail _ (.head _))
      · intro p hp
        exact .tail _ (.tail _ (.tail _ hp))
      · intro p hp q hq
        rw [List.mem_singleton.mp hp]; exact (hne q hq).symm
  case done =>
    clear R1 F1 N1 F2 N2 hpo hm0
    intro m₁ nx h tk hJ F₂ N₂
    obtain ⟨po, rfl, hpo, hm⟩ := hJ
    rw [law_map1 hm] at F₂
    k_steps
)
end Mine
end
set_option maxRecDepth 100000 in
theorem PySem.Challenge.cw_og0162_01_holds : PySem.Challenge.rw_og0162_01.Holds := by
  exact Mine.law_holds
