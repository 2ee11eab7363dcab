import PyProof.Rows.All
import Wide.All
import OpenK.AllK
import Wide.FinOn
import Lean
import PySem.Challenge.RW_nn0135_01
set_option Elab.async false
set_option maxRecDepth 100000
set_option linter.all false
section
open PySem PySem.W PyProof.Rows
namespace Mine
set_option maxRecDepth 100000
set_option maxHeartbeats 8000000
def row2 : OpenRow := { OpenLaw.row PySem.Challenge.rw_nn0135_01 with writes := true, pinned := false }
theorem drop (p : Prop) (_ : OpenRow.Holds row2) : (p ∧ True) = p := by simp
theorem pre (p : Prop) : (p ∧ True) ∨ True := by simp (disch := k_head) only [drop, or_true]
end Mine
end
namespace Mine
open PySem PySem.W PyProof.Rows
section
set_option maxRecDepth 100000
open PySem PySem.W PySem.Calls PyProof.Rows

def ExtBy (as : List Addr) (h h' : Heap) : Prop := ∀ b o, b ∉ as → h.get? b = some o → h'.get? b = some o

theorem ExtBy.less {as bs : List Addr} {h h' : Heap} (x : ExtBy as h h') (hk : ∀ a ∈ as, a ∈ bs ∨ ∃ o, h.get? a = some o ∧ h'.get? a = some o) : ExtBy bs h h' := fun b o n e => by
  by_cases q : b ∈ as
  · rcases hk b q with r | ⟨o', r1, r2⟩
    · exact absurd r n
    · rw [r1] at e; cases e; exact r2
  · exact x b o q e
theorem ext_1 {a c : Addr} {h h' : Heap} {o : Obj} (x : ExtBy [a, c] h h') (e : h.get? c = some o) (e' : h'.get? c = some o) : ExtBy [a] h h' :=
  x.less fun b hb => by
    rcases List.mem_cons.mp hb with rfl | hb
    · exact .inl (.head _)
    · rcases List.mem_cons.mp hb with rfl | hb
      · exact .inr ⟨_, e, e'⟩
      · cases hb

theorem ext_2 {a c : Addr} {h h' : Heap} {o : Obj} (x : ExtBy [c, a] h h') (e : h.get? c = some o) (e' : h'.get? c = some o) : ExtBy [a] h h' :=
  x.less fun b hb => by
    rcases List.mem_cons.mp hb with rfl | hb
    · exact .inr ⟨_, e, e'⟩
    · rcases List.mem_cons.mp hb with rfl | hb
      · exact .inl (.head _)
      · cases hb

def OwnAt (base : Heap) (outer : List Env) (a : Addr) : Prop := base.get? a = none ∧ ∀ env ∈ outer, env.frame ≠ some a

structure Site (A : Around) (base : Heap) (outer : List Env) (p : Program) (loose : List Str) (mean : ExcName → Option Value) (mg mb : Str → Option Value) (K : Frag) (h : Heap) : Prop where
  B : Below A base outer h
  X : K.In base
  T : Top p loose mean mg mb base

def LeaveC (g : Heap) (as : List Addr) (hs : Heap) (R : Result → Shared → Prop) (v : Value) (s' : Shared) : Prop :=
  ∃ L' m' news', Fr g L' s'.heap m' ∧ News g L' s'.heap news' ∧ (ExtBy as hs s'.heap → R (.ok (.ret v)) s')
theorem leaveC_ {g hs : Heap} {as : List Addr} {L' : Addr} {m' : Str → Option Value} {news' : List (Addr × Obj)} {R : Result → Shared → Prop} {v : Value} {s' : Shared}
    (F' : Fr g L' s'.heap m') (N' : News g L' s'.heap news') (k : ExtBy as hs s'.heap → R (.ok (.ret v)) s') : LeaveC g as hs R v s' := ⟨L', m', news', F', N', k⟩

theorem enter {prog : Program} {w : World} {A : Around} {s : Shared} {base : Heap} {outer : List Env} {K : Frag} {p : Program} {loose : List Str} {mean : ExcName → Option Value} {mg mb : Str → Option Value}
    {R : Result → Shared → Prop} {name qual : Str} {params : Arguments} {body : List Stmt} {scope : Scope} {dV kV doc pm cdv ct oc : Value} {an od : Option Addr} {osl : Array (Option Value)} {f : Addr} {args : Args} {binds : List (Str × Value)}
    (news : List (Addr × Obj))
    (S : Site A base outer p loose mean mg mb K s.heap)
    (hn : ∀ q ∈ news, s.heap.get? q.1 = some q.2 ∧ OwnAt base outer q.1)
    (ho : K.lookup f = some ⟨oc, od, .func (fnOf name qual params body scope dV kV doc pm an cdv ct), osl⟩) (hcd : codeIn K cdv qual = true) (hroom : A.depth < recursionLimit)
    (hbind : BindsTo s (fnOf name qual params body scope dV kV doc pm an cdv ct) args binds) (hloc : ∀ y ∈ binds, scope.names.lookup y.1 = some .local)
    (h : ∀ g L' h₁, Fr g L' h₁ (fun y => binds.reverse.lookup y) → News g L' h₁ news → Below A base outer g → K.In g → Top p loose mean mg mb g → AllLt L' news →
      wpAny (model prog w) (A.deeper (envOf qual scope L' f cdv)) (execs body (envOf qual scope L' f cdv))
        (fun fl s' => LeaveC g (news.map (·.1)) s.heap R (match fl with | .ret v => v | _ => .none) s')
        (fun e s' => wpAny (model prog w) (A.deeper (envOf qual scope L' f cdv)) (leaving (envOf qual scope L' f cdv) e) (fun _ s'' => R (.error e) s'') (fun e' s'' => R (.error e') s'') s')
        { s with heap := h₁, toks := s.toks + binds.length })
    (hco : scope.isCoroutine = false) (hgen : scope.isGenerator = false) (hk : scope.kind = .function)
    (hcell : ∀ x ∈ scope.names, x.2 ≠ .cell) : codeAny (model prog w) A (.call (.ref f) args) R s := by
  obtain ⟨B, X₀, T₀⟩ := S
  have st := B.stays
  have nm : ∀ b o, base.get? b = some o → b ∉ news.map (·.1) := fun b o e q => by
    obtain ⟨p, hp, rfl⟩ := List.mem_map.mp q
    rw [(hn p hp).2.1] at e; cases e
  have stg : base.StaysIn (hideAll s.heap (news.map (·.1))) := fun b o e => hideAll_get _ (st b o e) (nm b o e)
  have B₂ : Below A base outer (hideAll s.heap (news.map (·.1))) := ⟨B.stack, stg, funFrames_hideAll B.frames fun env he b hb hf => by
    obtain ⟨p, hp, rfl⟩ := List.mem_map.mp hb
    exact (hn p hp).2.2 env he hf⟩
  refine codeAny_call_def (fd := fnOf name qual params body scope dV kV doc pm an cdv ct) (body := body) (binds := binds) hroom ((X₀.keeps st) _ _ ho) rfl (T₀.nolimit.keeps st) (codeRec_of (X₀.keeps st) hcd) rfl hbind hcell hloc (fun h₁ hns hk₁ => ?_) hco hgen hk
  refine wpAny_mono (h _ s.heap.objs.size h₁ ⟨hns, fun b o e => hk₁ b o (of_hideAll _ e), Nat.le_of_eq (hideAll_size _ _)⟩
    (fun p hp => ⟨hk₁ _ _ (hn p hp).1, Nat.ne_of_lt (Heap.lt_size (hn p hp).1), hideAll_none _ (List.mem_map_of_mem hp)⟩) B₂ (X₀.keeps stg) (T₀.keeps stg) (allLt_of fun p hp => Heap.lt_size (hn p hp).1)) (fun fl s' hl => ?_) fun _ _ y => y
  obtain ⟨L', m', news', F', N', k⟩ := hl
  exact k fun b o n e => F'.keep b o (hideAll_get _ e n)

section
variable {h₀ h h' base : Heap} {L a : Addr} {m : Str → Option Value} {news : List (Addr × Obj)} {as : List Addr} {A : Around} {outer : List Env} {name : Str} {scope : Scope} {cd : Value} {af : Addr}
theorem fr_after (F : Fr h₀ L h m) (x : ExtBy as h h') (hL : L ∉ as) (ha : ∀ a ∈ as, h₀.get? a = none) : Fr h₀ L h' m := by
  obtain ⟨oL, es, ep, hL', r⟩ := F.ns
  exact ⟨⟨oL, es, ep, x _ _ hL hL', r⟩, fun b o e => x b o (fun q => by rw [ha b q] at e; cases e) (F.keep b o e), F.above⟩
theorem own_news (B : Below A base outer h₀) (N : News h₀ L h news) {p : Addr × Obj} (hp : p ∈ news) : OwnAt base (envOf name scope L af cd :: outer) p.1 := by
  refine ⟨?_, fun env he q => ?_⟩
  · cases e : base.get? p.1 with
    | none => rfl
    | some o => have := B.stays _ _ e; rw [(N p hp).2.2] at this; cases this
  · cases he with
    | head => exact (N p hp).2.1 (Option.some.inj q).symm
    | tail _ he =>
      obtain ⟨L₁, o₁, hf₁, ho₁⟩ := funFrames_in B.frames env he
      rw [hf₁] at q
      have := (N p hp).2.2
      rw [← Option.some.inj q, ho₁] at this; cases this
theorem news_after (N : News h₀ L h news) (x : ExtBy as h h') (hd : ∀ p ∈ news, p.1 ∉ as) : News h₀ L h' news := fun p hp => ⟨x _ _ (hd p hp) (N p hp).1, (N p hp).2⟩
theorem after_upd {d : Addr} {o o' : Obj} {u : Obj → List (Addr × Obj)} (F : Fr h₀ L h m) (N : News h₀ L h news) (U : UpdF d o news u) (x : ExtBy [d] h h') (e : h'.get? d = some o') : Fr h₀ L h' m ∧ News h₀ L h' (u o') := by
  obtain ⟨pre, post, rfl, hu', ha, hb⟩ := U.split
  have hP := N (d, o) (List.mem_append.mpr (.inr (.head _)))
  refine ⟨fr_after F x (fun q => hP.2.1 (List.mem_singleton.mp q).symm) (fun a q => by rw [List.mem_singleton.mp q]; exact hP.2.2), ?_⟩
  rw [hu']
  intro q hq
  rcases List.mem_append.mp hq with hq | hq
  · exact ⟨x _ _ (fun z => ha q hq (List.mem_singleton.mp z)) (N q (List.mem_append.mpr (.inl hq))).1, (N q (List.mem_append.mpr (.inl hq))).2⟩
  · rcases List.mem_cons.mp hq with rfl | hq
    · exact ⟨e, hP.2⟩
    · have hq' := N q (List.mem_append.mpr (.inr (.tail _ hq)))
      exact ⟨x _ _ (fun z => hb q hq (List.mem_singleton.mp z)) hq'.1, hq'.2⟩
theorem mem_upd {d : Addr} {o : Obj} {u : Obj → List (Addr × Obj)} (U : UpdF d o news u) : (d, o) ∈ news := by
  obtain ⟨pre, post, rfl, _, _, _⟩ := U.split
  exact List.mem_append.mpr (.inr (.head _))
end
theorem allLt_up {d x : Addr} {l : List (Addr × Obj)} (h : AllLt d l) (hx : @LT.lt Nat _ d x) : AllLt x ((d, instObj 0 0) :: l) :=
  allLt_of fun p hp => by
    rcases List.mem_cons.mp hp with rfl | hp
    · exact hx
    · exact Nat.lt_trans (kst_ltOf h p hp) hx
theorem pen_own {A₀ : Around} {base h₀ h : Heap} {outer : List Env} {env : Env} {L : Addr} {news : List (Addr × Obj)} (B : Below A₀ base outer h₀) (N : News h₀ L h news) (hf : env.frame = some L) : ∀ p ∈ news, OwnAt base (env :: outer) p.1 := fun p hp => by
  refine ⟨?_, fun env' he q => ?_⟩
  · cases e : base.get? p.1 with
    | none => rfl
    | some o => have := B.stays _ _ e; rw [(N p hp).2.2] at this; cases this
  · cases he with
    | head => rw [hf] at q; exact (N p hp).2.1 (Option.some.inj q).symm
    | tail _ he =>
      obtain ⟨L₁, o₁, hf₁, ho₁⟩ := funFrames_in B.frames env' he
      rw [hf₁] at q
      have := (N p hp).2.2
      rw [← Option.some.inj q, ho₁] at this; cases this
theorem pen_below {A₀ A : Around} {base h₀ h : Heap} {outer : List Env} {env : Env} {L : Addr} {m : Str → Option Value} (B : Below A₀ base outer h₀) (F : Fr h₀ L h m) (hA : A.frames = some (env :: outer)) (hf : env.frame = some L) (hke : env.scope.kind = .function) : Below A base (env :: outer) h := by
  have hnew : base.get? L = none := by
    cases hq : base.get? L with
    | none => rfl
    | some o => exact absurd (Nat.lt_of_lt_of_le (Heap.lt_size (B.stays L o hq)) F.above) (Nat.lt_irrefl _)
  exact ⟨hA, fun b o e => F.keep b o (B.stays b o e), .cons (by rw [hke]; decide) hf F.ns hnew (B.frames.of_keeps fun b o e _ => ⟨o, F.keep b o e, rfl⟩)⟩
def TruePost (b : Bool) (s : Shared) (b' : Bool) (s' : Shared) : Prop := b' = b ∧ ∃ tk, s' = { s with toks := tk }
theorem if_no {M : Model} {A : Around} {E : Value → Shared → Prop} {Q : Flow → Shared → Prop} {s : Shared} {env : Env} {test : Expr} {body : List Stmt} {pos : Pos}
    (hT : wpAny M A (PySem.isTrue test env (eval test env)) (TruePost false s) E s) (h : ∀ tk, Q .next { s with toks := tk }) : wpAny M A (exec (.If test body [] pos) env) Q E s :=
  wpAny_If (wpAny_mono hT (fun b' s' z => by
    obtain ⟨e, tk, e2⟩ := z
    subst e; subst e2
    rw [if_neg (by decide)]
    exact wpAny_execs_nil (h tk)) fun _ _ x => x)

end
local macro_rules | `(tactic| walk_at $s:str) => `(tactic| k_extra $s)
local macro_rules | `(tactic| k_room) => `(tactic| k_extra "k_room")
local macro_rules | `(tactic| k_in) => `(tactic| k_extra "k_in")
local macro_rules | `(tactic| k_all) => `(tactic| k_extra "k_all")
local macro_rules | `(tactic| k_mem) => `(tactic| k_extra "k_mem")
local macro_rules | `(tactic| k_ne) => `(tactic| k_extra "k_ne")
local macro_rules | `(tactic| lcg_src) => `(tactic| k_extra "lcg_src")
local macro_rules | `(tactic| k_lt $h:ident) => `(tactic| (k_extra "k_lt"; replace $h := allLt_of $h))
local macro_rules | `(tactic| k_lt2 $h:ident) => `(tactic| (k_extra "k_lt"; (replace $h := ltN $h); (rename AllLt _ _ => l9); have l8 := allLt_up l9 $h))
section
set_option maxRecDepth 100000
set_option maxHeartbeats 4000000
theorem words_Draw_0 : True := by
  k_with_none
  trivial
open PySem PySem.W PySem.Calls PyProof.Rows

theorem words_Draw_1 : True := by
  k_with "k_room" => ((try simp only [depth_under_make, depth_under_kw, depth_in1, depth_deeper, depth_mark]); (try dsimp only); (show (_ : Nat) < 1000); first | (refine Nat.lt_of_le_of_lt (by with_reducible assumption) ?_; decide) | (refine Nat.lt_of_le_of_lt (Nat.add_le_add_right (by with_reducible assumption) 1) ?_; decide) | (refine Nat.lt_of_le_of_lt (Nat.add_le_add_right (Nat.add_le_add_right (by with_reducible assumption) 1) 1) ?_; decide) | omega)
  k_with "LeaveC" => ((refine' leaveC_ ?k1 ?k2 ?_; (case k1 => k_asm); (case k2 => k_asm); intro _))
  trivial

theorem spA {a : Int} (h : 0 ≤ a ∧ a ≤ 900) : 0 ≤ a ∧ a ≤ 1000 := ⟨h.1, Int.le_trans h.2 (by decide)⟩
theorem sp_up {a : Int} {n : Nat} (h : 0 ≤ a ∧ a ≤ (n : Int)) : 0 ≤ a + 1 ∧ a + 1 ≤ ((n + 1 : Nat) : Int) := ⟨Int.add_nonneg h.1 (by decide), Int.add_le_add_right h.2 1⟩
theorem spB {a : Int} (h : 0 ≤ a ∧ a ≤ 900) : 0 ≤ a + 1 ∧ a + 1 ≤ 1000 := ⟨(sp_up (n := 900) h).1, Int.le_trans (sp_up (n := 900) h).2 (by decide)⟩
theorem spC {a : Int} (h : 0 ≤ a ∧ a ≤ 900) : 0 ≤ a + 1 + 1 ∧ a + 1 + 1 ≤ 1000 := ⟨(sp_up (sp_up (n := 900) h)).1, Int.le_trans (sp_up (sp_up (n := 900) h)).2 (by decide)⟩
theorem spD {a : Int} (h : 0 ≤ a ∧ a ≤ 900) : 0 ≤ a + 1 + 1 + 1 ∧ a + 1 + 1 + 1 ≤ 1000 := ⟨(sp_up (sp_up (sp_up (n := 900) h))).1, Int.le_trans (sp_up (sp_up (sp_up (n := 900) h))).2 (by decide)⟩
theorem toFin {k : Int} {n : Nat} (h0 : 0 ≤ k) (h1 : k < (n : Int)) : ∃ j : Fin n, k = (j.val : Int) := by
  obtain ⟨j, rfl⟩ := Int.eq_ofNat_of_zero_le h0
  exact ⟨⟨j, Int.ofNat_lt.mp h1⟩, rfl⟩
theorem cases4' {k : Int} (h0 : 0 ≤ k) (h1 : k < 4) : k = 0 ∨ k = 1 ∨ k = 2 ∨ k = 3 := by
  obtain ⟨j, rfl⟩ := toFin (n := 4) h0 h1
  exact (by decide : ∀ j : Fin 4, (j.val : Int) = 0 ∨ (j.val : Int) = 1 ∨ (j.val : Int) = 2 ∨ (j.val : Int) = 3) j
theorem cases2' {k : Int} (h0 : 0 ≤ k) (h1 : k < 2) : k = 0 ∨ k = 1 := by
  obtain ⟨j, rfl⟩ := toFin (n := 2) h0 h1
  exact (by decide : ∀ j : Fin 2, (j.val : Int) = 0 ∨ (j.val : Int) = 1) j
theorem cases8' {k : Int} (h0 : 0 ≤ k) (h1 : k < 8) : k = 0 ∨ k = 1 ∨ k = 2 ∨ k = 3 ∨ k = 4 ∨ k = 5 ∨ k = 6 ∨ k = 7 := by
  obtain ⟨j, rfl⟩ := toFin (n := 8) h0 h1
  exact (by decide : ∀ j : Fin 8, (j.val : Int) = 0 ∨ (j.val : Int) = 1 ∨ (j.val : Int) = 2 ∨ (j.val : Int) = 3 ∨ (j.val : Int) = 4 ∨ (j.val : Int) = 5 ∨ (j.val : Int) = 6 ∨ (j.val : Int) = 7) j
theorem fm {x m : Int} (h : 0 < m) : 0 ≤ x.fmod m ∧ x.fmod m < m := by
  rw [Int.fmod_eq_emod_of_nonneg _ (by omega)]; exact ⟨Int.emod_nonneg _ (by omega), Int.emod_lt_of_pos _ h⟩

theorem draw_ok {w : World} {A : Around} {s : Shared} {base : Heap} {outer : List Env} {p : Program} {loose : List Str} {mean : ExcName → Option Value} {mg mb : Str → Option Value}
    {R : Result → Shared → Prop} {pen cells : Addr} {sp sd many : Int} {t1 t2 tm : Tok} {ys : List Value} {zs : List Int}
    (S : Site A base outer p loose mean mg mb (pre.heap_1 w.params) s.heap) (hA : A.depth ≤ 900) (hu : A.units ≤ 500)
    (hpen : s.heap.get? pen = some (listOf #[.ref cells, .int sp t1, .int sd t2] 0)) (hcells : s.heap.get? cells = some (LCg.lst ys)) (hI : IntsAre ys zs) (hl : ys.length = zs.length) (hne : cells < pen)
    (op : OwnAt base outer pen) (oc : OwnAt base outer cells)
    (hsp : 0 ≤ sp ∧ sp ≤ 1000) (hsd : 0 ≤ sd ∧ sd < 997) (hzs : ∀ z ∈ zs, 0 ≤ z ∧ z < 1000003) (hzl : zs.length ≤ 60) (hm : 0 < many ∧ many ≤ 1000)
    (hR : ∀ v tv t1' h' tk', 0 ≤ v → v < many → ExtBy [pen] s.heap h' → h'.get? pen = some (listOf #[.ref cells, .int (sp+1) t1', .int sd t2] 0) → R (.ok (.ret (.int v tv))) {s with heap := h', toks := tk'}) :
    codeAny (model PySem.Challenge.rw_nn0135_01.row.prog w) A (.call (.ref 551) ⟨[.ref pen, .int many tm], []⟩) R s := by
  replace hne := ltN hne
  revert S
  k_fill
  intro S
  refine' enter (binds := [(Str.ofString "pen", .ref pen), (Str.ofString "many", .int many tm)]) [(pen, listOf #[.ref cells, .int sp t1, .int sd t2] 0), (cells, LCg.lst ys)] S ?hn ?k6 ?k7 ?k8 ?k9 ?kB ?_ ?c2 ?c3 ?c4 ?c5
  case hn => intro q hq; rcases List.mem_cons.mp hq with rfl | hq; exact ⟨hpen, op⟩; rcases List.mem_cons.mp hq with rfl | hq; exact ⟨hcells, oc⟩; cases hq
  case k6 => k_is
  case k7 => k_is
  case k8 => k_room
  case k9 => exact BindsTo.of_eq rfl
  case c5 => decide
  case kB => exact locs rfl
  case c2 => exact rfl
  case c3 => exact rfl
  case c4 => exact rfl
  intro g' L' h' F' N' B' X' T' l1
  simp only [AllLt, and_true] at l1
  (try dsimp only)
  (show wpAny _ _ _ _ _ _)
  k_fold
  k_steps
  all_goals exact hR _ _ _ _ _ (fm hm.1).1 (fm hm.1).2 (ext_1 (by assumption) hcells (News.get (by assumption) (List.Mem.tail _ (List.Mem.head _)))) (News.get (by assumption) (List.Mem.head _))

theorem draw_K {w : World} {A₀ : Around} {s : Shared} {base h₀ : Heap} {outer : List Env} {p : Program} {loose : List Str} {mean : ExcName → Option Value} {mg mb : Str → Option Value}
    {L af : Addr} {m : Str → Option Value} {name : Str} {scope : Scope} {cd : Value} {news : List (Addr × Obj)} {u : Obj → List (Addr × Obj)} {Q : Value → Shared → Prop} {E : Value → Shared → Prop}
    {pen cells : Addr} {sp sd many : Int} {t1 t2 tm : Tok} {ys : List Value} {zs : List Int}
    (B : Below A₀ base outer h₀) (X : (pre.heap_1 w.params).In base) (T : Top p loose mean mg mb base) (F : Fr h₀ L s.heap m) (N : News h₀ L s.heap news)
    (U : UpdF pen (listOf #[.ref cells, .int sp t1, .int sd t2] 0) news u) (hc : (cells, LCg.lst ys) ∈ news) (hne : @LT.lt Nat _ cells pen)
    (hI : IntsAre ys zs) (hl : ys.length = zs.length) (hzl : zs.length ≤ 60) (hA : A₀.depth ≤ 800) (hu : A₀.units ≤ 400) (hk : scope.kind = .function)
    (hsp : 0 ≤ sp ∧ sp ≤ 1000) (hsd : 0 ≤ sd ∧ sd < 997) (hzs : ∀ z ∈ zs, 0 ≤ z ∧ z < 1000003) (hm : 0 < many ∧ many ≤ 1000)
    (h : ∀ v tv t1' h' tk', 0 ≤ v → v < many → Fr h₀ L h' m → News h₀ L h' (u (listOf #[.ref cells, .int (sp+1) t1', .int sd t2] 0)) → Q (.int v tv) {s with heap := h', toks := tk'}) :
    wpAny (model PySem.Challenge.rw_nn0135_01.row.prog w) (A₀.deeper (envOf name scope L af cd)) (call (.ref 551) [.ref pen, .int many tm]) Q E s := by
  obtain ⟨pre, post, rfl, hu', ha, hb⟩ := U.split
  have hpm : (pen, listOf #[.ref cells, .int sp t1, .int sd t2] 0) ∈ pre ++ (pen, listOf #[.ref cells, .int sp t1, .int sd t2] 0) :: post := List.mem_append.mpr (.inr (.head _))
  have hP := N _ hpm
  refine wpAny_call (draw_ok (S := ⟨B.push F hk, X, T⟩) (hA := ?_) (hu := ?_) (hpen := hP.1) (hcells := (N _ hc).1) hI hl hne (own_news B N hpm) (own_news B N hc) hsp hsd hzs hzl hm ?_)
  · rw [depth_deeper]; omega
  · rw [Around.deeper_units]; omega
  · intro v tv t1' h' tk' h1 h2 x e
    refine h v tv t1' h' tk' h1 h2 (fr_after F x (fun q => ?_) fun a q => ?_) ?_
    · rcases List.mem_cons.mp q with q | q
      · exact hP.2.1 q.symm
      · cases q
    · rcases List.mem_cons.mp q with rfl | q
      · exact hP.2.2
      · cases q
    · rw [hu']
      intro q hq
      rcases List.mem_append.mp hq with hq | hq
      · exact ⟨x _ _ (fun z => ha q hq (List.mem_singleton.mp z)) (N q (List.mem_append.mpr (.inl hq))).1, (N q (List.mem_append.mpr (.inl hq))).2⟩
      · rcases List.mem_cons.mp hq with rfl | hq
        · exact ⟨e, hP.2⟩
        · have hq' : q ∈ pre ++ (pen, listOf #[.ref cells, .int sp t1, .int sd t2] 0) :: post := List.mem_append.mpr (.inr (.tail _ hq))
          exact ⟨x _ _ (fun z => hb q hq (List.mem_singleton.mp z)) (N q hq').1, (N q hq').2⟩

end
section
set_option maxRecDepth 100000
set_option maxHeartbeats 4000000
set_option linter.unusedVariables false
theorem words_New_0 : True := by
  k_with_none
  trivial
open PySem PySem.W PySem.Calls PyProof.Rows
abbrev entD (w : World) (wv : Value) (o tw : Int) (j1 j2 j3 to tt : Tok) : Obj :=
  dictOf [⟨PyData.keyHash w.params (Str.ofString "way"), .str (Str.ofString "way") j1, wv⟩, ⟨PyData.keyHash w.params (Str.ofString "one"), .str (Str.ofString "one") j2, .int o to⟩, ⟨PyData.keyHash w.params (Str.ofString "two"), .str (Str.ofString "two") j3, .int tw tt⟩] 3
abbrev strD (w : World) (x : Str) (j t : Tok) : Obj := dictOf [⟨PyData.keyHash w.params (Str.ofString "text"), .str (Str.ofString "text") j, .str x t⟩] 1
abbrev refD (w : World) (n g : Int) (j1 j2 t1 t2 : Tok) : Obj := dictOf [⟨PyData.keyHash w.params (Str.ofString "number"), .str (Str.ofString "number") j1, .int n t1⟩, ⟨PyData.keyHash w.params (Str.ofString "generation"), .str (Str.ofString "generation") j2, .int g t2⟩] 2
abbrev stmD (w : World) (h : Addr) (oct : List UInt8) (j1 j2 t : Tok) : Obj := dictOf [⟨PyData.keyHash w.params (Str.ofString "head"), .str (Str.ofString "head") j1, .ref h⟩, ⟨PyData.keyHash w.params (Str.ofString "octets"), .str (Str.ofString "octets") j2, .bytes oct.toArray t⟩] 2
abbrev shD (w : World) (tab tr : Addr) (j1 j2 : Tok) : Obj := dictOf [⟨PyData.keyHash w.params (Str.ofString "table"), .str (Str.ofString "table") j1, .ref tab⟩, ⟨PyData.keyHash w.params (Str.ofString "trailer"), .str (Str.ofString "trailer") j2, .ref tr⟩] 2

def InitOK (w : World) (C fI : Addr) (pos : List Value) (P : Obj → Prop) : Prop := ∀ ⦃A : Around⦄ ⦃s : Shared⦄ ⦃base : Heap⦄ ⦃outer : List Env⦄ ⦃p : Program⦄ ⦃loose : List Str⦄ ⦃mean : ExcName → Option Value⦄ ⦃mg mb : Str → Option Value⦄
    ⦃R : Result → Shared → Prop⦄ ⦃x dx : Addr⦄, Site A base outer p loose mean mg mb (pre.heap_1 w.params) s.heap → A.depth ≤ 800 → A.units ≤ 400 → A.handled = none →
    s.heap.get? x = some (instObj C dx) → s.heap.get? dx = some (dictOf [] 0) → OwnAt base outer x → OwnAt base outer dx → (@LT.lt Nat _ dx x) →
    (∀ o h' tk', P o → ExtBy [dx] s.heap h' → h'.get? dx = some o → R (.ok (.ret .none)) { s with heap := h', toks := tk' }) →
    codeAny (model PySem.Challenge.rw_nn0135_01.row.prog w) A (.call (.ref fI) ⟨.ref x :: pos, []⟩) R s
theorem new_K {w : World} {C fI : Addr} {pos : List Value} {P : Obj → Prop} (I : InitOK w C fI pos P) {A₀ A : Around} {s : Shared} {base h₀ : Heap} {outer : List Env} {p : Program} {loose : List Str} {mean : ExcName → Option Value} {mg mb : Str → Option Value}
    {L : Addr} {m : Str → Option Value} {env : Env} {news : List (Addr × Obj)} {Q : Value → Shared → Prop} {E : Value → Shared → Prop}
    (B : Below A₀ base outer h₀) (X : (pre.heap_1 w.params).In base) (T : Top p loose mean mg mb base) (F : Fr h₀ L s.heap m) (N : News h₀ L s.heap news) (hF : A.frames = some (env :: outer)) (hf : env.frame = some L) (hke : env.scope.kind = .function)
    (hm : makesIn (pre.heap_1 w.params) C = true) (hi : findIn (pre.heap_1 w.params) (.ref C) "__init__" = some (some (.ref fI))) (hfn : isFn (pre.heap_1 w.params) (.ref fI) = true) (hA : A.depth ≤ 700) (hu : A.units ≤ 300) (hH : A.handled = none)
    (h : ∀ x dx o h' tk', P o → Fr h₀ L h' m → News h₀ L h' ((x, instObj C dx) :: (dx, o) :: news) → AllLt dx news → AllLt x ((dx, instObj 0 0) :: news) → (@LT.lt Nat _ dx x) → Q (.ref x) { s with heap := h', toks := tk' }) :
    wpAny (model PySem.Challenge.rw_nn0135_01.row.prog w) A (call (.ref C) pos) Q E s := by
  refine call_cls F (X.keeps B.stays) N hm hi hfn fun x dx h' F' N' l1 l2 => ?_
  have l1' := allLt_of l1
  refine I ⟨pen_below B F' (A := A.under (.builtin "type.__call__" ⟨.ref C :: pos, []⟩)) hF hf hke, X, T⟩ ?_ ?_ hH (N' _ (.head _)).1 (N' _ (.tail _ (.head _))).1 (pen_own B N' hf _ (.head _)) (pen_own B N' hf _ (.tail _ (.head _))) l2 fun o h'' tk' hP e hd => ⟨rfl, ?_⟩
  · rw [depth_under_kw]; omega
  · exact Nat.le_trans (Nat.add_le_add_right hu _) (Nat.le_of_ble_eq_true rfl)
  · refine h x dx o h'' tk' hP (fr_after F' e (fun q => ?_) fun a q => ?_) (fun q hq => ?_) l1' (allLt_up l1' l2) l2
    · rcases List.mem_cons.mp q with q | q
      · exact (N' _ (.tail _ (.head _))).2.1 q.symm
      · cases q
    · rcases List.mem_cons.mp q with rfl | q
      · exact (N' _ (.tail _ (.head _))).2.2
      · cases q
    · rcases List.mem_cons.mp hq with rfl | hq
      · exact ⟨e _ _ (fun z => absurd (List.mem_singleton.mp z) (Nat.ne_of_gt l2)) (N' _ (.head _)).1, (N' _ (.head _)).2⟩
      · rcases List.mem_cons.mp hq with rfl | hq
        · exact ⟨hd, (N' _ (.tail _ (.head _))).2⟩
        · have z := N' _ (.tail _ (.tail _ hq))
          exact ⟨e _ _ (fun y => Nat.ne_of_lt (l1 q hq) (List.mem_singleton.mp y)) z.1, z.2⟩
theorem words_New_1 : True := by
  k_with "k_room" => ((try simp only [depth_under_make, depth_under_kw, depth_in1, depth_deeper, depth_mark]); (try dsimp only); (show (_ : Nat) < 1000); first | (refine Nat.lt_of_le_of_lt (by with_reducible assumption) ?_; decide) | (refine Nat.lt_of_le_of_lt (Nat.add_le_add_right (by with_reducible assumption) 1) ?_; decide) | (refine Nat.lt_of_le_of_lt (Nat.add_le_add_right (Nat.add_le_add_right (by with_reducible assumption) 1) 1) ?_; decide) | omega)
  k_with "LeaveC" => ((refine' leaveC_ ?k1 ?k2 ?_; (case k1 => k_asm); (case k2 => k_asm); intro _))
  trivial
theorem init_ref (w : World) (n g : Int) (tn tg : Tok) : InitOK w 242 232 [.int n tn, .int g tg] (fun o => ∃ j1 j2, o = refD w n g j1 j2 tn tg) := by
  intro A s base outer p loose mean mg mb R x dx S hA hu hH hx hd ox od hlt hR
  obtain ⟨hp0, gn0, dr0, tk00, os0⟩ := s
  dsimp only at S hx hd hR
  replace hlt := ltN hlt
  revert S
  k_fill
  intro S
  refine' enter (binds := [(Str.ofString "self", .ref x), (Str.ofString "number", .int n tn), (Str.ofString "generation", .int g tg)]) [(x, instObj 242 dx), (dx, dictOf [] 0)] S ?hn ?k6 ?k7 ?k8 ?k9 ?kB ?_ ?c2 ?c3 ?c4 ?c5
  case hn => intro q hq; rcases List.mem_cons.mp hq with rfl | hq; exact ⟨hx, ox⟩; rcases List.mem_cons.mp hq with rfl | hq; exact ⟨hd, od⟩; cases hq
  case k6 => k_is
  case k7 => k_is
  case k8 => k_room
  case k9 => exact BindsTo.of_eq rfl
  case c5 => decide
  case kB => exact locs rfl
  case c2 => exact rfl
  case c3 => exact rfl
  case c4 => exact rfl
  clear S
  intro g' L' h' F' N' B' X' T' l1
  simp only [AllLt, and_true] at l1
  (try dsimp only)
  (show wpAny _ _ _ _ _ _)
  k_fold
  k_steps
  all_goals (rename ExtBy _ _ _ => hx9; rename News _ _ _ _ => N9; refine hR _ _ _ ⟨_, _, rfl⟩ (hx9.less fun b hb => ?_) (N9.get (by k_mem)); rcases List.mem_cons.mp hb with rfl | hb; exact .inr ⟨_, hx, N9.get (by k_mem)⟩; exact .inl hb)
theorem init_name (w : World) (y : Str) (t : Tok) : InitOK w 171 168 [.str y t] (fun o => ∃ j, o = strD w y j t) := by
  intro A s base outer p loose mean mg mb R x dx S hA hu hH hx hd ox od hlt hR
  obtain ⟨hp0, gn0, dr0, tk00, os0⟩ := s
  dsimp only at S hx hd hR
  replace hlt := ltN hlt
  revert S
  k_fill
  intro S
  refine' enter (binds := [(Str.ofString "self", .ref x), (Str.ofString "text", .str y t)]) [(x, instObj 171 dx), (dx, dictOf [] 0)] S ?hn ?k6 ?k7 ?k8 ?k9 ?kB ?_ ?c2 ?c3 ?c4 ?c5
  case hn => intro q hq; rcases List.mem_cons.mp hq with rfl | hq; exact ⟨hx, ox⟩; rcases List.mem_cons.mp hq with rfl | hq; exact ⟨hd, od⟩; cases hq
  case k6 => k_is
  case k7 => k_is
  case k8 => k_room
  case k9 => exact BindsTo.of_eq rfl
  case c5 => decide
  case kB => exact locs rfl
  case c2 => exact rfl
  case c3 => exact rfl
  case c4 => exact rfl
  clear S
  intro g' L' h' F' N' B' X' T' l1
  simp only [AllLt, and_true] at l1
  (try dsimp only)
  (show wpAny _ _ _ _ _ _)
  k_fold
  k_steps
  all_goals (rename ExtBy _ _ _ => hx9; rename News _ _ _ _ => N9; refine hR _ _ _ ⟨_, rfl⟩ (hx9.less fun b hb => ?_) (N9.get (by k_mem)); rcases List.mem_cons.mp hb with rfl | hb; exact .inr ⟨_, hx, N9.get (by k_mem)⟩; exact .inl hb)
theorem init_stm (w : World) (h : Addr) (oct : List UInt8) (t : Tok) : InitOK w 214 211 [.ref h, .bytes oct.toArray t] (fun o => ∃ j1 j2, o = stmD w h oct j1 j2 t) := by
  intro A s base outer p loose mean mg mb R x dx S hA hu hH hx hd ox od hlt hR
  obtain ⟨hp0, gn0, dr0, tk00, os0⟩ := s
  dsimp only at S hx hd hR
  replace hlt := ltN hlt
  revert S
  k_fill
  intro S
  refine' enter (binds := [(Str.ofString "self", .ref x), (Str.ofString "head", .ref h), (Str.ofString "octets", .bytes oct.toArray t)]) [(x, instObj 214 dx), (dx, dictOf [] 0)] S ?hn ?k6 ?k7 ?k8 ?k9 ?kB ?_ ?c2 ?c3 ?c4 ?c5
  case hn => intro q hq; rcases List.mem_cons.mp hq with rfl | hq; exact ⟨hx, ox⟩; rcases List.mem_cons.mp hq with rfl | hq; exact ⟨hd, od⟩; cases hq
  case k6 => k_is
  case k7 => k_is
  case k8 => k_room
  case k9 => exact BindsTo.of_eq rfl
  case c5 => decide
  case kB => exact locs rfl
  case c2 => exact rfl
  case c3 => exact rfl
  case c4 => exact rfl
  clear S
  intro g' L' h' F' N' B' X' T' l1
  simp only [AllLt, and_true] at l1
  (try dsimp only)
  (show wpAny _ _ _ _ _ _)
  k_fold
  k_steps
  all_goals (rename ExtBy _ _ _ => hx9; rename News _ _ _ _ => N9; refine hR _ _ _ ⟨_, _, rfl⟩ (hx9.less fun b hb => ?_) (N9.get (by k_mem)); rcases List.mem_cons.mp hb with rfl | hb; exact .inr ⟨_, hx, N9.get (by k_mem)⟩; exact .inl hb)
theorem init_ent (w : World) (y : Str) (a c : Int) (ty ta tc : Tok) : InitOK w 535 525 [.str y ty, .int a ta, .int c tc] (fun o => ∃ j1 j2 j3, o = entD w (.str y ty) a c j1 j2 j3 ta tc) := by
  intro A s base outer p loose mean mg mb R x dx S hA hu hH hx hd ox od hlt hR
  obtain ⟨hp0, gn0, dr0, tk00, os0⟩ := s
  dsimp only at S hx hd hR
  replace hlt := ltN hlt
  revert S
  k_fill
  intro S
  refine' enter (binds := [(Str.ofString "self", .ref x), (Str.ofString "way", .str y ty), (Str.ofString "one", .int a ta), (Str.ofString "two", .int c tc)]) [(x, instObj 535 dx), (dx, dictOf [] 0)] S ?hn ?k6 ?k7 ?k8 ?k9 ?kB ?_ ?c2 ?c3 ?c4 ?c5
  case hn => intro q hq; rcases List.mem_cons.mp hq with rfl | hq; exact ⟨hx, ox⟩; rcases List.mem_cons.mp hq with rfl | hq; exact ⟨hd, od⟩; cases hq
  case k6 => k_is
  case k7 => k_is
  case k8 => k_room
  case k9 => exact BindsTo.of_eq rfl
  case c5 => decide
  case kB => exact locs rfl
  case c2 => exact rfl
  case c3 => exact rfl
  case c4 => exact rfl
  clear S
  intro g' L' h' F' N' B' X' T' l1
  simp only [AllLt, and_true] at l1
  (try dsimp only)
  (show wpAny _ _ _ _ _ _)
  k_fold
  k_steps
  all_goals (rename ExtBy _ _ _ => hx9; rename News _ _ _ _ => N9; refine hR _ _ _ ⟨_, _, _, rfl⟩ (hx9.less fun b hb => ?_) (N9.get (by k_mem)); rcases List.mem_cons.mp hb with rfl | hb; exact .inr ⟨_, hx, N9.get (by k_mem)⟩; exact .inl hb)
theorem init_sh (w : World) (tab tr : Addr) : InitOK w 351 280 [.ref tab, .ref tr] (fun o => ∃ j1 j2, o = shD w tab tr j1 j2) := by
  intro A s base outer p loose mean mg mb R x dx S hA hu hH hx hd ox od hlt hR
  obtain ⟨hp0, gn0, dr0, tk00, os0⟩ := s
  dsimp only at S hx hd hR
  replace hlt := ltN hlt
  revert S
  k_fill
  intro S
  refine' enter (binds := [(Str.ofString "self", .ref x), (Str.ofString "table", .ref tab), (Str.ofString "trailer", .ref tr)]) [(x, instObj 351 dx), (dx, dictOf [] 0)] S ?hn ?k6 ?k7 ?k8 ?k9 ?kB ?_ ?c2 ?c3 ?c4 ?c5
  case hn => intro q hq; rcases List.mem_cons.mp hq with rfl | hq; exact ⟨hx, ox⟩; rcases List.mem_cons.mp hq with rfl | hq; exact ⟨hd, od⟩; cases hq
  case k6 => k_is
  case k7 => k_is
  case k8 => k_room
  case k9 => exact binds_K (S.X.keeps S.B.stays) rfl (by k_is) rfl rfl rfl
  case c5 => decide
  case kB => exact locs rfl
  case c2 => exact rfl
  case c3 => exact rfl
  case c4 => exact rfl
  clear S
  intro g' L' h' F' N' B' X' T' l1
  simp only [AllLt, and_true] at l1
  (try dsimp only)
  (show wpAny _ _ _ _ _ _)
  k_fold
  k_steps
  all_goals (rename ExtBy _ _ _ => hx9; rename News _ _ _ _ => N9; refine hR _ _ _ ⟨_, _, rfl⟩ (hx9.less fun b hb => ?_) (N9.get (by k_mem)); rcases List.mem_cons.mp hb with rfl | hb; exact .inr ⟨_, hx, N9.get (by k_mem)⟩; exact .inl hb)

end
section
set_option maxRecDepth 100000
set_option linter.unusedVariables false
open PySem PySem.W PySem.Calls PyProof.Rows
def Stopped (p : Prop) : Prop := p
theorem Stopped.out {p : Prop} (h : Stopped p) : p := h
theorem Stopped.intro {p : Prop} (h : p) : Stopped p := h
abbrev curD (w : World) (D : List UInt8) (a e : Int) (k1 k2 k3 tD ta te : Tok) : Obj :=
  dictOf [⟨PyData.keyHash w.params (Str.ofString "data"), .str (Str.ofString "data") k1, .bytes D.toArray tD⟩, ⟨PyData.keyHash w.params (Str.ofString "at"), .str (Str.ofString "at") k2, .int a ta⟩, ⟨PyData.keyHash w.params (Str.ofString "end"), .str (Str.ofString "end") k3, .int e te⟩] 3

def kn : List (Str × Value) → (Str → Option Value) → Str → Option Value
  | [], u => u
  | (x, v) :: r, u => fun z => if z = x then some v else kn r u z
def KnAll (m : Str → Option Value) : List (Str × Value) → Prop
  | [] => True
  | (x, v) :: r => m x = some v ∧ KnAll m r
theorem kn_self {m : Str → Option Value} : ∀ {ps : List (Str × Value)}, KnAll m ps → kn ps m = m
  | [], _ => rfl
  | (x, v) :: r, h => by
    funext z
    show (if z = x then some v else kn r m z) = m z
    by_cases e : z = x
    · subst e; rw [if_pos rfl]; exact h.1.symm
    · rw [if_neg e, kn_self h.2]

section
variable {σ : Type} {prog : Program} {w : World} {A : Around} {E : Value → Shared → Prop} {Q : Flow → Shared → Prop} {s : Shared} {env : Env} {h₀ : Heap} {L : Addr}
def WEnd (h₀ : Heap) (L : Addr) (s : Shared) (Led : σ → List (Addr × Obj)) (ps : σ → List (Str × Value)) (P : σ → Prop) (μ : σ → Nat) (c : σ) (s₂ : Shared) : Prop :=
  ∃ (c' : σ) (h' : Heap) (tk : Nat) (m' : Str → Option Value) (news' : List (Addr × Obj)), s₂ = { s with heap := h', toks := tk } ∧ Fr h₀ L h' m' ∧ News h₀ L h' news' ∧ (∀ p ∈ Led c', p ∈ news') ∧ KnAll m' (ps c') ∧ P c' ∧ μ c' < μ c
def WPost (h₀ : Heap) (L : Addr) (s : Shared) (Led : σ → List (Addr × Obj)) (ps : σ → List (Str × Value)) (P : σ → Prop) (μ : σ → Nat) (Q : Flow → Shared → Prop) (c : σ) (f : Flow) (s₂ : Shared) : Prop :=
  match f with
  | .ret v => Q (.ret v) s₂
  | .brk => Q .next s₂
  | _ => WEnd h₀ L s Led ps P μ c s₂
theorem wEnd_ {Led : σ → List (Addr × Obj)} {ps : σ → List (Str × Value)} {P : σ → Prop} {μ : σ → Nat} {c : σ} {h' : Heap} {tk : Nat} {m' : Str → Option Value} {news' : List (Addr × Obj)} (c' : σ)
    (F : Fr h₀ L h' m') (N : News h₀ L h' news') (hn : ∀ p ∈ Led c', p ∈ news') (hk : KnAll m' (ps c')) (hp : P c') (hm : μ c' < μ c) :
    WEnd h₀ L s Led ps P μ c { s with heap := h', toks := tk } := ⟨c', h', tk, m', news', rfl, F, N, hn, hk, hp, hm⟩
theorem my_while {test : Expr} {body : List Stmt} {pos : Pos} {m₀ : Str → Option Value} (Led : σ → List (Addr × Obj)) (ps : σ → List (Str × Value)) (P : σ → Prop) (μ : σ → Nat) (c₀ : σ)
    (F : Fr h₀ L s.heap m₀) (N : News h₀ L s.heap (Led c₀)) (hk : KnAll m₀ (ps c₀)) (hp : P c₀)
    (turn : ∀ (c : σ) (u : Str → Option Value) h tk, P c → Fr h₀ L h (kn (ps c) u) → News h₀ L h (Led c) →
      wpAny (model prog w) A (isTrue test env (eval test env)) (fun b s₂ =>
        if b = true then wpAny (model prog w) A (execs body env) (WPost h₀ L s Led ps P μ Q c) E s₂ else Q .next s₂) E { s with heap := h, toks := tk })
    (hE : PassesOwn (model prog w) A env E := by passes_own) :
    wpAny (model prog w) A (exec (.While test body [] pos) env) Q E s := by
  refine While_inv2 (fun n m nx => ∃ c : σ, nx = Led c ∧ μ c = n ∧ KnAll m (ps c) ∧ P c) F N ⟨c₀, rfl, rfl, hk, hp⟩ ?_ hE
  rintro n m₁ nx h tk F₁ N₁ ⟨c, hnx, hsz, h1, hp'⟩
  rw [hnx] at N₁
  rw [← hsz]
  refine wpAny_mono (turn c m₁ h tk hp' (by rw [kn_self h1]; exact F₁) N₁) (fun b s₂ p => ?_) fun _ _ x => x
  cases b with
  | false => simpa using p
  | true =>
    simp only [if_true] at p ⊢
    refine wpAny_mono p (fun f s₃ q => ?_) fun _ _ x => x
    cases f with
    | ret v => exact q
    | brk => exact q
    | next =>
      obtain ⟨c', h', tk', m', news', rfl, F', N', hn, hk9, hp9, hm9⟩ := q
      exact ⟨h', tk', m', Led c', μ c', rfl, F', fun p hp => N' p (hn p hp), hm9, c', rfl, rfl, hk9, hp9⟩
    | cont =>
      obtain ⟨c', h', tk', m', news', rfl, F', N', hn, hk9, hp9, hm9⟩ := q
      exact ⟨h', tk', m', Led c', μ c', rfl, F', fun p hp => N' p (hn p hp), hm9, c', rfl, rfl, hk9, hp9⟩
end

end
section

def isWhite (b : UInt8) : Bool := b == 0 || b == 9 || b == 10 || b == 12 || b == 13 || b == 32
def wEnd : Bool → List UInt8 → Nat
  | _, [] => 0
  | true, b :: r => if b == 10 || b == 13 then wEnd false r + 1 else wEnd true r + 1
  | false, b :: r => if b == 37 then wEnd true r + 1 else if isWhite b then wEnd false r + 1 else 0
theorem u8_eq (b : UInt8) (k : Nat) (hk : k < 256) : ((k : Int) == ((b.toNat : Nat) : Int)) = (b == UInt8.ofNat k) := by
  have h1 : (UInt8.ofNat k).toNat = k := by simp [UInt8.toNat_ofNat']; omega
  by_cases h : b = UInt8.ofNat k
  · subst h; rw [h1]; simp
  · have h2 : b.toNat ≠ k := fun e => h (by rw [← e]; simp)
    have h3 : ¬ ((k : Int) = ((b.toNat : Nat) : Int)) := by omega
    rw [beq_eq_false_iff_ne.mpr h, beq_eq_false_iff_ne.mpr h3]
theorem white_any (b : UInt8) : ([0, 9, 10, 12, 13, 32] : List Int).any (· == ((b.toNat : Nat) : Int)) = isWhite b := by
  simp only [List.any_cons, List.any_nil, Bool.or_false, isWhite]
  have e0 := u8_eq b 0 (by omega); have e1 := u8_eq b 9 (by omega); have e2 := u8_eq b 10 (by omega); have e3 := u8_eq b 12 (by omega); have e4 := u8_eq b 13 (by omega); have e5 := u8_eq b 32 (by omega)
  rw [show ((0:Int) == ((b.toNat : Nat) : Int)) = _ from e0, show ((9:Int) == ((b.toNat : Nat) : Int)) = _ from e1, show ((10:Int) == ((b.toNat : Nat) : Int)) = _ from e2, show ((12:Int) == ((b.toNat : Nat) : Int)) = _ from e3, show ((13:Int) == ((b.toNat : Nat) : Int)) = _ from e4, show ((32:Int) == ((b.toNat : Nat) : Int)) = _ from e5]
  simp only [Bool.or_assoc]; rfl
theorem lfcr_any (b : UInt8) : ([10, 13] : List Int).any (· == ((b.toNat : Nat) : Int)) = (b == 10 || b == 13) := by
  simp only [List.any_cons, List.any_nil, Bool.or_false]
  have e2 := u8_eq b 10 (by omega); have e4 := u8_eq b 13 (by omega)
  rw [show ((10:Int) == ((b.toNat : Nat) : Int)) = _ from e2, show ((13:Int) == ((b.toNat : Nat) : Int)) = _ from e4]; rfl
theorem drop_cons (l : List UInt8) (k : Nat) (h : k < l.length) : l.drop k = l.getD k 0 :: l.drop (k + 1) := by
  rw [List.drop_eq_getElem_cons h]; simp [h]
theorem pct_iff (b : UInt8) : ((b.toNat : Nat) : Int) = 37 ↔ b = 37 := by
  constructor
  · intro h
    have : b.toNat = (37 : UInt8).toNat := by show b.toNat = 37; omega
    exact UInt8.toNat_inj.mp this
  · rintro rfl; rfl
theorem wEnd_done (l : List UInt8) (k : Nat) (c : Bool) (h : l.length ≤ k) : wEnd c (l.drop k) = 0 := by
  rw [List.drop_eq_nil_of_le h]; cases c <;> rfl
theorem wEnd_le : ∀ (c : Bool) (l : List UInt8), wEnd c l ≤ l.length
  | c, [] => by cases c <;> simp [wEnd]
  | true, b :: r => by
    simp only [wEnd, List.length_cons]
    have h1 := wEnd_le false r; have h2 := wEnd_le true r
    split <;> omega
  | false, b :: r => by
    simp only [wEnd, List.length_cons]
    have h1 := wEnd_le false r; have h2 := wEnd_le true r
    split
    · omega
    · split <;> omega
section
variable {D : List UInt8} {b : Nat}
theorem to_b (b : Nat) : ((b : Int)).toNat = b := by omega
theorem turn_white (hlt : (b : Int) < (D.length : Int)) (h1 : ¬ ((D.getD ((b : Int)).toNat 0).toNat : Int) = 37)
    (h2 : ([0, 9, 10, 12, 13, 32] : List Int).any (· == ((D.getD ((b : Int)).toNat 0).toNat : Int)) = true) : b + 1 ≤ D.length ∧ wEnd false (D.drop b) = wEnd false (D.drop (b + 1)) + 1 := by
  have hb : b < D.length := by omega
  rw [to_b] at h1 h2
  rw [white_any] at h2
  have h3 : (D.getD b 0 == 37) = false := beq_eq_false_iff_ne.mpr fun e => h1 ((pct_iff _).mpr e)
  refine ⟨by omega, ?_⟩
  rw [drop_cons D b hb]
  simp only [wEnd, h3, h2]; simp
theorem turn_stop (h1 : ¬ ((D.getD ((b : Int)).toNat 0).toNat : Int) = 37)
    (h2 : ([0, 9, 10, 12, 13, 32] : List Int).any (· == ((D.getD ((b : Int)).toNat 0).toNat : Int)) = false) : wEnd false (D.drop b) = 0 := by
  by_cases hb : b < D.length
  · rw [to_b] at h1 h2
    rw [white_any] at h2
    have h3 : (D.getD b 0 == 37) = false := beq_eq_false_iff_ne.mpr fun e => h1 ((pct_iff _).mpr e)
    rw [drop_cons D b hb]
    simp only [wEnd, h3, h2]; simp
  · exact wEnd_done _ _ _ (by omega)
theorem turn_com (hlt : (b : Int) < (D.length : Int)) (h1 : ((D.getD ((b : Int)).toNat 0).toNat : Int) = 37) : wEnd false (D.drop b) = wEnd true (D.drop b) := by
  have hb : b < D.length := by omega
  rw [to_b] at h1
  have e := (pct_iff _).mp h1
  rw [drop_cons D b hb, e]
  simp [wEnd]
theorem turn_in (hlt : (b : Int) < (D.length : Int)) (h2 : ¬ (([10, 13] : List Int).any (· == ((D.getD ((b : Int)).toNat 0).toNat : Int))) = true) : b + 1 ≤ D.length ∧ wEnd true (D.drop b) = wEnd true (D.drop (b + 1)) + 1 := by
  have hb : b < D.length := by omega
  rw [to_b, lfcr_any] at h2
  refine ⟨by omega, ?_⟩
  have h3 : (D.getD b 0 == 10 || D.getD b 0 == 13) = false := by simpa using h2
  rw [drop_cons D b hb]
  simp only [wEnd, h3]; simp
theorem turn_out (hlt : (b : Int) < (D.length : Int)) (h2 : (([10, 13] : List Int).any (· == ((D.getD ((b : Int)).toNat 0).toNat : Int))) = true) : wEnd true (D.drop b) = wEnd false (D.drop b) ∧ ¬ ((D.getD ((b : Int)).toNat 0).toNat : Int) = 37 := by
  have hb : b < D.length := by omega
  rw [to_b, lfcr_any] at h2
  rw [to_b]
  rw [pct_iff, drop_cons D b hb]
  rcases Bool.or_eq_true_iff.mp h2 with h | h
  · rw [eq_of_beq h]; exact ⟨by simp [wEnd, isWhite], by decide⟩
  · rw [eq_of_beq h]; exact ⟨by simp [wEnd, isWhite], by decide⟩
end
def isFig (b : UInt8) : Bool := 48 ≤ b.toNat && b.toNat ≤ 57
def figs : List UInt8 → Nat
  | [] => 0
  | b :: r => if isFig b then figs r + 1 else 0
def valF : Int → List UInt8 → Int
  | v, [] => v
  | v, b :: r => if isFig b then valF (v * 10 + b.toNat - 48) r else v
def numF (l : List UInt8) : Option Int := if figs l = 0 then none else some (valF 0 l)
theorem figs_le : ∀ l : List UInt8, figs l ≤ l.length
  | [] => Nat.le_refl _
  | b :: r => by have := figs_le r; simp only [figs, List.length_cons]; split <;> omega
theorem fig_turn {D : List UInt8} {b : Nat} {v : Int} (hb : b < D.length) (h : isFig (D.getD b 0) = true) : figs (D.drop b) = figs (D.drop (b + 1)) + 1 ∧ valF v (D.drop b) = valF (v * 10 + ((D.getD b 0).toNat : Int) - 48) (D.drop (b + 1)) := by
  rw [drop_cons D b hb]; simp only [figs, valF, h]; simp
theorem fig_stop {D : List UInt8} {b : Nat} {v : Int} (h : b < D.length → isFig (D.getD b 0) = false) : figs (D.drop b) = 0 ∧ valF v (D.drop b) = v := by
  by_cases hb : b < D.length
  · rw [drop_cons D b hb]; simp only [figs, valF, h hb]; simp
  · rw [List.drop_eq_nil_of_le (by omega)]; exact ⟨rfl, rfl⟩
theorem b0 (b : Nat) : ((b : Int) + 0).toNat = b := by omega
theorem fig_false {D : List UInt8} {b : Nat} (h : ¬ (48 : Int) ≤ ((D.getD ((b : Int) + 0).toNat 0).toNat : Int)) : isFig (D.getD b 0) = false := by
  rw [b0] at h
  unfold isFig
  rw [Bool.and_eq_false_iff]
  exact .inl (decide_eq_false (by omega))
theorem fig_false2 {D : List UInt8} {b : Nat} (h : ¬ ((D.getD ((b : Int) + 0).toNat 0).toNat : Int) ≤ 57) : isFig (D.getD b 0) = false := by
  rw [b0] at h
  unfold isFig
  rw [Bool.and_eq_false_iff]
  exact .inr (decide_eq_false (by omega))
theorem fig_true {D : List UInt8} {b : Nat} (h : (48 : Int) ≤ ((D.getD ((b : Int) + 0).toNat 0).toNat : Int)) (h' : ((D.getD ((b : Int) + 0).toNat 0).toNat : Int) ≤ 57) : isFig (D.getD b 0) = true := by
  rw [b0] at h h'
  unfold isFig
  rw [Bool.and_eq_true]
  exact ⟨decide_eq_true (by omega), decide_eq_true (by omega)⟩
theorem num_none {l : List UInt8} (h : figs l = 0) : numF l = none := by unfold numF; rw [if_pos h]
theorem num_some {l : List UInt8} {v : Int} (h : figs l ≠ 0) (e : valF 0 l = v) : numF l = some v := by unfold numF; rw [if_neg h, e]
def isDel (b : UInt8) : Bool := b == 40 || b == 41 || b == 60 || b == 62 || b == 91 || b == 93 || b == 123 || b == 125 || b == 47 || b == 37
def isReg (b : UInt8) : Bool := !isWhite b && !isDel b
def regs : List UInt8 → Nat
  | [] => 0
  | b :: r => if isReg b then regs r + 1 else 0
theorem regs_le : ∀ l : List UInt8, regs l ≤ l.length
  | [] => Nat.le_refl _
  | b :: r => by have := regs_le r; simp only [regs, List.length_cons]; split <;> omega
theorem del_any (b : UInt8) : ([40, 41, 60, 62, 91, 93, 123, 125, 47, 37] : List Int).any (· == ((b.toNat : Nat) : Int)) = isDel b := by
  simp only [List.any_cons, List.any_nil, Bool.or_false, isDel]
  have e0 := u8_eq b 40 (by omega); have e1 := u8_eq b 41 (by omega); have e2 := u8_eq b 60 (by omega); have e3 := u8_eq b 62 (by omega); have e4 := u8_eq b 91 (by omega)
  have e5 := u8_eq b 93 (by omega); have e6 := u8_eq b 123 (by omega); have e7 := u8_eq b 125 (by omega); have e8 := u8_eq b 47 (by omega); have e9 := u8_eq b 37 (by omega)
  rw [show ((40:Int) == ((b.toNat : Nat) : Int)) = _ from e0, show ((41:Int) == ((b.toNat : Nat) : Int)) = _ from e1, show ((60:Int) == ((b.toNat : Nat) : Int)) = _ from e2, show ((62:Int) == ((b.toNat : Nat) : Int)) = _ from e3, show ((91:Int) == ((b.toNat : Nat) : Int)) = _ from e4,
    show ((93:Int) == ((b.toNat : Nat) : Int)) = _ from e5, show ((123:Int) == ((b.toNat : Nat) : Int)) = _ from e6, show ((125:Int) == ((b.toNat : Nat) : Int)) = _ from e7, show ((47:Int) == ((b.toNat : Nat) : Int)) = _ from e8, show ((37:Int) == ((b.toNat : Nat) : Int)) = _ from e9]
  simp only [Bool.or_assoc]; rfl
theorem reg_turn {D : List UInt8} {b : Nat} (hb : b < D.length) (h : isReg (D.getD b 0) = true) : regs (D.drop b) = regs (D.drop (b + 1)) + 1 := by
  rw [drop_cons D b hb]; simp only [regs, h]; simp
theorem reg_stop {D : List UInt8} {b : Nat} (h : b < D.length → isReg (D.getD b 0) = false) : regs (D.drop b) = 0 := by
  by_cases hb : b < D.length
  · rw [drop_cons D b hb]; simp only [regs, h hb]; simp
  · rw [List.drop_eq_nil_of_le (by omega)]; rfl
theorem reg_f1 {b : UInt8} (h : ([0, 9, 10, 12, 13, 32] : List Int).any (· == ((b.toNat : Nat) : Int)) = true) : isReg b = false := by rw [white_any] at h; simp [isReg, h]
theorem reg_f2 {b : UInt8} (h : ([40, 41, 60, 62, 91, 93, 123, 125, 47, 37] : List Int).any (· == ((b.toNat : Nat) : Int)) = true) : isReg b = false := by rw [del_any] at h; simp [isReg, h]
theorem reg_t {b : UInt8} (h : ([0, 9, 10, 12, 13, 32] : List Int).any (· == ((b.toNat : Nat) : Int)) = false) (h2 : ([40, 41, 60, 62, 91, 93, 123, 125, 47, 37] : List Int).any (· == ((b.toNat : Nat) : Int)) = false) : isReg b = true := by rw [white_any] at h; rw [del_any] at h2; simp [isReg, h, h2]
abbrev P1 (D : List UInt8) (o : Nat) : Nat := o + wEnd false (D.drop o)
abbrev P2 (D : List UInt8) (o : Nat) : Nat := P1 D o + figs (D.drop (P1 D o))
abbrev P3 (D : List UInt8) (o : Nat) : Nat := P2 D o + wEnd false (D.drop (P2 D o))
abbrev P4 (D : List UInt8) (o : Nat) : Nat := P3 D o + figs (D.drop (P3 D o))
abbrev P5 (D : List UInt8) (o : Nat) : Nat := P4 D o + wEnd false (D.drop (P4 D o))
def meetsF (D : List UInt8) (num one two : Int) : Bool :=
  if 0 ≤ one ∧ one < D.length then
    numF (D.drop (P1 D one.toNat)) == some num && (numF (D.drop (P3 D one.toNat)) == some two && (D.drop (P5 D one.toNat)).take (regs (D.drop (P5 D one.toNat))) == [111, 98, 106])
  else false
section
variable {D : List UInt8} {num one two v : Int} {o : Nat}
theorem mf_out (h : ¬ (0 ≤ one ∧ one < D.length)) : meetsF D num one two = false := by unfold meetsF; rw [if_neg h]
theorem mf_1 (h : numF (D.drop (P1 D o)) = none) : meetsF D num o two = false := by
  unfold meetsF; split
  · rw [to_b, h]; rfl
  · rfl
theorem mf_2 (h : numF (D.drop (P1 D o)) = some v) (hn : v ≠ num) : meetsF D num o two = false := by
  unfold meetsF; split
  · rw [to_b, h]; simp [hn]
  · rfl
theorem mf_3 (h : numF (D.drop (P3 D o)) = none) : meetsF D num o two = false := by
  unfold meetsF; split
  · rw [to_b, h]; simp
  · rfl
theorem mf_4 (h : numF (D.drop (P3 D o)) = some v) (hn : v ≠ two) : meetsF D num o two = false := by
  unfold meetsF; split
  · rw [to_b, h]; simp [hn]
  · rfl
theorem mf_5 (h0 : (o : Int) < D.length) (h : numF (D.drop (P1 D o)) = some num) (h' : numF (D.drop (P3 D o)) = some two) : meetsF D num o two = ((D.drop (P5 D o)).take (regs (D.drop (P5 D o))) == [111, 98, 106]) := by
  unfold meetsF; rw [if_pos ⟨by omega, h0⟩, to_b, h, h']; simp
end
theorem pn_step {x b w0 w1 : Nat} (h : x = b + w0) (z : w0 = w1 + 1) : x = b + 1 + w1 := by rw [h, z, Nat.add_assoc, Nat.add_comm 1]
theorem pn_same {x b w0 w1 : Nat} (h : x = b + w0) (z : w0 = w1) : x = b + w1 := by rw [h, z]
theorem pn_end {x b w : Nat} (h : x = b + w) (z : w = 0) : x = b := by rw [h, z, Nat.add_zero]
theorem pn_lt {n b : Nat} (h : b + 1 ≤ n) : n - (b + 1) < n - b := Nat.sub_lt_sub_left h (Nat.lt_succ_self b)
theorem pn_lt2 {n b b2 : Nat} (h1 : b ≤ b2) (h2 : b2 ≠ b) (h3 : (b2 : Int) < (n : Int)) : n - b2 < n - b := Nat.sub_lt_sub_left (Nat.lt_of_le_of_lt h1 (Int.ofNat_lt.mp h3)) (Nat.lt_of_le_of_ne h1 (Ne.symm h2))
theorem pn_lt3 {n b b2 : Nat} (h : n ≤ b2) (hb : (b : Int) < (n : Int)) : n - b2 < n - b := by rw [Nat.sub_eq_zero_of_le h]; exact Nat.sub_pos_of_lt (Int.ofNat_lt.mp hb)
theorem pn_lt4 {n b b2 : Nat} (h1 : b ≤ b2) (h : b2 + 1 ≤ n) : n - (b2 + 1) < n - b := Nat.sub_lt_sub_left (Nat.lt_of_le_of_lt h1 h) (Nat.lt_succ_of_le h1)
theorem pn_nle {n b : Nat} (h : ¬ ((b : Int) < (n : Int))) : n ≤ b := Nat.le_of_not_lt fun q => h (Int.ofNat_lt.mpr q)
theorem pn_sub {a b r : Nat} (h : a + r = b) : ((b : Int)).toNat - ((a : Int)).toNat = r := by rw [to_b b, to_b a, ← h, Nat.add_sub_cancel_left]

end
section
set_option maxRecDepth 100000
set_option linter.unusedVariables false
open PySem PySem.W PySem.Calls PyProof.Rows
theorem clip_to (n : Nat) (i : Int) (h : 0 ≤ i) : clipAt n i = min i.toNat n := by
  obtain ⟨j, rfl⟩ := Int.eq_ofNat_of_zero_le h
  unfold clipAt
  rw [if_neg (Int.not_lt.mpr h), Int.max_eq_right (Int.le_min.mpr ⟨h, Int.natCast_nonneg n⟩), Int.toNat_natCast]
  rcases Nat.le_total j n with q | q
  · rw [Int.min_eq_left (Int.ofNat_le.mpr q), Nat.min_eq_left q, Int.toNat_natCast]
  · rw [Int.min_eq_right (Int.ofNat_le.mpr q), Nat.min_eq_right q, Int.toNat_natCast]
theorem take_drop_min (x : List UInt8) (a b : Nat) : (x.drop (min a x.length)).take (min b x.length - min a x.length) = (x.drop a).take (b - a) := by
  apply List.ext_getElem?
  intro k
  rw [List.getElem?_take, List.getElem?_take]
  simp only [List.getElem?_drop]
  by_cases ha : a ≤ x.length
  · rw [Nat.min_eq_left ha]
    by_cases h1 : k < min b x.length - a
    · rw [if_pos h1, if_pos (by omega)]
    · rw [if_neg h1]
      by_cases h2 : k < b - a
      · rw [if_pos h2, List.getElem?_eq_none (by omega)]
      · rw [if_neg h2]
  · rw [if_neg (by omega)]
    by_cases h2 : k < b - a
    · rw [if_pos h2, List.getElem?_eq_none (by omega)]
    · rw [if_neg h2]
theorem picked2 (x : List UInt8) {i j : Int} (hi : 0 ≤ i) (hj : 0 ≤ j) : KBy.picked x.toArray (some i) (some j) = ((x.drop i.toNat).take (j.toNat - i.toNat)).toArray := by
  rw [KBc.picked_eq]
  show ((x.toArray.toList.drop (clipAt x.toArray.size i)).take (clipAt x.toArray.size j - clipAt x.toArray.size i)).toArray = _
  rw [clip_to _ _ hi, clip_to _ _ hj]
  simp only [List.size_toArray]
  rw [take_drop_min]
theorem picked1 (x : List UInt8) {j : Int} (hj : 0 ≤ j) : KBy.picked x.toArray none (some j) = (x.take j.toNat).toArray := by
  rw [KBc.picked_eq]
  show ((x.toArray.toList.drop 0).take (clipAt x.toArray.size j - 0)).toArray = _
  rw [clip_to _ _ hj]
  simp only [List.size_toArray, List.drop_zero, Nat.sub_zero]
  by_cases hb : j.toNat ≤ x.length
  · rw [Nat.min_eq_left hb]
  · rw [Nat.min_eq_right (by omega), List.take_of_length_le (Nat.le_refl _), List.take_of_length_le (by omega)]
section
variable {prog : Program} {w : World} {A : Around} {E : Value → Shared → Prop} {s : Shared} {Q : Value → Shared → Prop} {h₀ : Heap} {L : Addr} {m : Str → Option Value} {news : List (Addr × Obj)} {value slice : Expr} {t : Tok}
theorem slice_2 {x : List UInt8} {i j : Int} {ti tj : Tok} (hF : Fr h₀ L s.heap m) (hN : News h₀ L s.heap news) (hi : 0 ≤ i) (hj : 0 ≤ j) (hx : x.length ≤ 100000)
    (h : ∀ h' t' k, Fr h₀ L h' m → News h₀ L h' news → Q (.bytes ((x.drop i.toNat).take (j.toNat - i.toNat)).toArray t') { s with heap := h', toks := k })
    (hs : subscripted slice false (.bytes x.toArray t) (.ref s.heap.objs.size) = operate [.ref s.heap.objs.size, .bytes x.toArray t] (getItem (.bytes x.toArray t) (.ref s.heap.objs.size)) := by with_unfolding_all rfl)
    (ht : ∀ r, letTemporaryGo value (.bytes x.toArray t) r = pure () := by intro _; with_unfolding_all rfl) :
    wpAny (model prog w) A (subscriptTail value slice (.bytes x.toArray t) (.ref s.heap.objs.size)) Q E { s with heap := s.heap.push { cls := .type "slice", data := .fields #[.int i ti, .int j tj, .none] } } :=
  KBc.slice_K (lo := some i) (hi := some j) hF hN rfl (by constructor) (by constructor) (by rw [KBw.ints_length, List.size_toArray]; omega) (fun h' t' k F N _ => by rw [picked2 x hi hj]; exact h h' t' k F N) hs ht
theorem slice_1 {x : List UInt8} {j : Int} {tj : Tok} (hF : Fr h₀ L s.heap m) (hN : News h₀ L s.heap news) (hj : 0 ≤ j) (hx : x.length ≤ 100000)
    (h : ∀ h' t' k, Fr h₀ L h' m → News h₀ L h' news → Q (.bytes (x.take j.toNat).toArray t') { s with heap := h', toks := k })
    (hs : subscripted slice false (.bytes x.toArray t) (.ref s.heap.objs.size) = operate [.ref s.heap.objs.size, .bytes x.toArray t] (getItem (.bytes x.toArray t) (.ref s.heap.objs.size)) := by with_unfolding_all rfl)
    (ht : ∀ r, letTemporaryGo value (.bytes x.toArray t) r = pure () := by intro _; with_unfolding_all rfl) :
    wpAny (model prog w) A (subscriptTail value slice (.bytes x.toArray t) (.ref s.heap.objs.size)) Q E { s with heap := s.heap.push { cls := .type "slice", data := .fields #[.none, .int j tj, .none] } } :=
  KBc.slice_K (lo := none) (hi := some j) hF hN rfl (by constructor) (by constructor) (by rw [KBw.ints_length, List.size_toArray]; omega) (fun h' t' k F N _ => by rw [picked1 x hj]; exact h h' t' k F N) hs ht
end

end
section
set_option maxRecDepth 100000
set_option maxHeartbeats 400000
set_option linter.unusedVariables false
theorem words_Skip_0 : True := by
  k_with_none
  trivial
open PySem PySem.W PySem.Calls PyProof.Rows
theorem words_Skip_1 : True := by
  k_with "k_room" => ((try simp only [depth_under_make, depth_under_kw, depth_in1, depth_deeper, depth_mark]); (try dsimp only); (show (_ : Nat) < 1000); first | (refine Nat.lt_of_le_of_lt (by with_reducible assumption) ?_; decide) | (refine Nat.lt_of_le_of_lt (Nat.add_le_add_right (by with_reducible assumption) 1) ?_; decide) | (refine Nat.lt_of_le_of_lt (Nat.add_le_add_right (Nat.add_le_add_right (by with_reducible assumption) 1) 1) ?_; decide) | omega)
  k_with "LeaveC" => ((refine' leaveC_ ?k1 ?k2 ?_; (case k1 => k_asm); (case k2 => k_asm); intro _))
  k_with "my num" => ((try simp only [Around.deeper_units, depth_deeper, depth_under_make, depth_under_kw, depth_in1, depth_mark]); (try dsimp only); first | (refine Nat.le_trans (by with_reducible assumption) ?_; decide) | (refine Nat.le_trans (Nat.add_le_add_right (by with_reducible assumption) 1) ?_; decide) | (refine Nat.le_trans (Nat.add_le_add_right (Nat.add_le_add_right (by with_reducible assumption) 1) 1) ?_; decide) | omega)
  k_with "my sp" => (first | exact spA (by with_reducible assumption) | exact spB (by with_reducible assumption) | exact spC (by with_reducible assumption) | exact spD (by with_reducible assumption) | (constructor <;> omega))
  k_with "call ref" => (((with_reducible show wpAny _ _ (call (Value.ref 551) [Value.ref _, Value.int _ _]) _ _ _); k_dflt (refine' draw_K ?kB ?kX ?kT ?kF ?kN ?kU ?kc ?kne ?kI ?kl ?kzl ?kA ?ku ?kk ?ksp ?ksd ?kzs ?km ?_; (case kB => k_asm); (case kX => k_asm); (case kT => k_asm); (case kF => k_asm); (case kN => k_asm); (case kU => k_updF); (case kc => k_mem); (case kne => (first | assumption | omega)); (case kI => assumption); (case kl => assumption); (case kzl => assumption); (case kA => walk_at "my num"); (case ku => walk_at "my num"); (case kk => exact rfl); (case ksp => walk_at "my sp"); (case ksd => assumption); (case kzs => assumption); (case km => first | exact ⟨by decide, by decide⟩ | (constructor <;> omega)); k_whole); intro _ _ _ _ _ _ _ _ _; (try k_sweep)))
  trivial
theorem in_tupKn {prog : Program} {w : World} {A : Around} {E : Value → Shared → Prop} {s : Shared} {K : Frag} {L a : Addr} {h₀ : Heap} {m : Str → Option Value} {Q : Value → Shared → Prop} {l : List Value} {dd : Option Addr} {sl : Array (Option Value)} {n : Nat} {x : Int} {u : Tok} {ns : List Int}
    (F : Fr h₀ L s.heap m) (X₀ : K.In h₀) (hl : K.lookup a = some ⟨.type "tuple", dd, .seq l.toArray n, sl⟩) (hi : IntsAre l ns) (h : Q (.bool (ns.any (· == x))) s) :
    wpAny (model prog w) A (compareOp .In (.int x u) (.ref a)) Q E s := in_tuple_ints (tupK (X₀.keeps F.keep) hl) (by simpa using hi) h
theorem notin_tupKn {prog : Program} {w : World} {A : Around} {E : Value → Shared → Prop} {s : Shared} {K : Frag} {L a : Addr} {h₀ : Heap} {m : Str → Option Value} {Q : Value → Shared → Prop} {l : List Value} {dd : Option Addr} {sl : Array (Option Value)} {n : Nat} {x : Int} {u : Tok} {ns : List Int}
    (F : Fr h₀ L s.heap m) (X₀ : K.In h₀) (hl : K.lookup a = some ⟨.type "tuple", dd, .seq l.toArray n, sl⟩) (hi : IntsAre l ns) (h : Q (.bool (!(ns.any (· == x)))) s) :
    wpAny (model prog w) A (compareOp .NotIn (.int x u) (.ref a)) Q E s := notin_tuple_ints (tupK (X₀.keeps F.keep) hl) (by simpa using hi) h
theorem words_Skip_2 : True := by
  k_with "compareOp In int ref" => ((k_dflt (refine' in_tupKn ?F ?X ?l ?i ?_; (case F => k_asm); (case X => k_asm); (case l => k_is); (case i => repeat constructor))))
  k_with "compareOp NotIn int ref" => ((k_dflt (refine' notin_tupKn ?F ?X ?l ?i ?_; (case F => k_asm); (case X => k_asm); (case l => k_is); (case i => repeat constructor))))
  k_with "exec While" => (refine Stopped.out ?_)
  k_with "exec While Compare cons nil" => (refine Stopped.out ?_)
  k_with "exec While BoolOp cons nil" => (refine Stopped.out ?_)
  k_with "WPost" => ((dsimp only [WPost]; refine Stopped.out ?_))
  trivial

theorem skip_ok {w : World} {A : Around} {s : Shared} {base : Heap} {outer : List Env} {p : Program} {loose : List Str} {mean : ExcName → Option Value} {mg mb : Str → Option Value}
    {R : Result → Shared → Prop} {c d : Addr} {D : List UInt8} {a : Nat} {k1 k2 k3 tD ta te : Tok}
    (S : Site A base outer p loose mean mg mb (pre.heap_1 w.params) s.heap) (hA : A.depth ≤ 800) (hu : A.units ≤ 400)
    (hc : s.heap.get? c = some (instObj 472 d)) (hd : s.heap.get? d = some (curD w D a D.length k1 k2 k3 tD ta te)) (hne : @LT.lt Nat _ d c)
    (oc : OwnAt base outer c) (od : OwnAt base outer d) (hD : D.length ≤ 1000) (ha : a ≤ D.length)
    (hR : ∀ ta' h' tk', ExtBy [d] s.heap h' → h'.get? d = some (curD w D ((a + wEnd false (D.drop a) : Nat) : Int) D.length k1 k2 k3 tD ta' te) → R (.ok (.ret .none)) {s with heap := h', toks := tk'}) :
    codeAny (model PySem.Challenge.rw_nn0135_01.row.prog w) A (.call (.ref 427) ⟨[.ref c], []⟩) R s := by
  have XB := S.X
  have TB := S.T
  revert S
  k_fill
  intro S
  refine' enter (binds := [(Str.ofString "self", .ref c)]) [(c, instObj 472 d), (d, curD w D a D.length k1 k2 k3 tD ta te)] S ?hn ?k6 ?k7 ?k8 ?k9 ?kB ?_ ?c2 ?c3 ?c4 ?c5
  case hn => intro q hq; rcases List.mem_cons.mp hq with rfl | hq; exact ⟨hc, oc⟩; rcases List.mem_cons.mp hq with rfl | hq; exact ⟨hd, od⟩; cases hq
  case k6 => k_is
  case k7 => k_is
  case k8 => k_room
  case k9 => exact BindsTo.of_eq rfl
  case c5 => decide
  case kB => exact locs rfl
  case c2 => exact rfl
  case c3 => exact rfl
  case c4 => exact rfl
  clear S
  intro g' L' h' F' N' B' X' T' l1
  simp only [AllLt, and_true] at l1
  (try dsimp only)
  (show wpAny _ _ _ _ _ _)
  k_fold
  k_steps
  refine Stopped.intro ?_
  refine my_while (σ := Nat × Tok) (fun q => [(c, instObj 472 d), (d, curD w D q.1 D.length k1 k2 k3 tD q.2 te)]) (fun _ => [(Str.ofString "self", .ref c)])
    (fun q => q.1 ≤ D.length ∧ a + wEnd false (D.drop a) = q.1 + wEnd false (D.drop q.1)) (fun q => D.length - q.1) (a, ta) F' N' ⟨rfl, trivial⟩ ⟨ha, rfl⟩ ?_
  rintro ⟨b, tb⟩ u hh tk ⟨hb, heq⟩ F1 N1
  dsimp only at hb heq F1 N1 ⊢
  clear F' N'
  k_steps
  · -- the comment's loop
    refine Stopped.intro ?_
    rename Fr _ _ _ _ => F2
    rename News _ _ _ _ => N2
    rename @Eq Int _ 37 => hq
    rename (_ : Int) < _ => hlt
    dsimp only at F2 N2 ⊢
    refine my_while (σ := Nat × Tok) (fun q => [(c, instObj 472 d), (d, curD w D q.1 D.length k1 k2 k3 tD q.2 te)]) (fun _ => [(Str.ofString "self", .ref c)])
      (fun q => q.1 ≤ D.length ∧ b ≤ q.1 ∧ a + wEnd false (D.drop a) = q.1 + wEnd true (D.drop q.1)) (fun q => D.length - q.1) (b, tb) F2 N2 ⟨rfl, trivial⟩ ⟨hb, Nat.le_refl _, by rw [heq, turn_com hlt hq]⟩ ?_
    rintro ⟨b2, tb2⟩ u2 hh2 tk2 ⟨hb2, hb3, heq2⟩ F3 N3
    dsimp only at hb2 hb3 heq2 F3 N3 ⊢
    clear F2 N2
    (try clear F1 N1)
    k_steps
    · refine Stopped.intro ?_
      rename Fr _ _ _ _ => F2
      rename News _ _ _ _ => N2
      rename List.any _ _ = true => hw
      rename ((b2 : Nat) : Int) < _ => hlt2
      have z := turn_out hlt2 hw
      (try dsimp only at F2 N2 ⊢)
      have hbb : b2 ≠ b := fun e => z.2 (e ▸ hq)
      exact wEnd_ (b2, _) F2 N2 (fun p hp => .tail _ hp) ⟨rfl, trivial⟩ ⟨hb2, pn_same heq2 z.1⟩ (pn_lt2 hb3 hbb hlt2)
    · refine Stopped.intro ?_
      rename Fr _ _ _ _ => F2
      rename News _ _ _ _ => N2
      rename List.any _ _ = false => hw
      rename ((b2 : Nat) : Int) < _ => hlt2
      have z := turn_in hlt2 (by rw [hw]; decide)
      dsimp only at F2 N2 ⊢
      exact wEnd_ (b2 + 1, _) F2 N2 (fun p hp => .tail _ hp) ⟨rfl, trivial⟩ ⟨z.1, Nat.le_succ_of_le hb3, pn_step heq2 z.2⟩ (pn_lt z.1)
    · refine Stopped.intro ?_
      rename ¬ (((b2 : Nat) : Int) < _) => hlt2
      have z1 := wEnd_done D b2 true (pn_nle hlt2)
      have z2 := wEnd_done D b2 false (pn_nle hlt2)
      exact wEnd_ (b2, _) F3 N3 (fun p hp => hp) ⟨rfl, trivial⟩ ⟨hb2, pn_same heq2 (z1.trans z2.symm)⟩ (pn_lt3 (pn_nle hlt2) hlt)
  · refine Stopped.intro ?_
    rename Fr _ _ _ _ => F2
    rename News _ _ _ _ => N2
    rename ¬ (_ : Int) = 37 => hq
    rename (_ : Int) < _ => hlt
    rename List.any _ _ = true => hw
    have z := turn_white hlt hq hw
    dsimp only at F2 N2 ⊢
    exact wEnd_ (b+1, _) F2 N2 (fun p hp => hp) ⟨rfl, trivial⟩ ⟨z.1, pn_step heq z.2⟩ (pn_lt z.1)
  · refine Stopped.intro ?_
    rename ¬ (_ : Int) = 37 => hq
    rename List.any _ _ = false => hw
    have z := turn_stop hq hw
    k_steps
    rename News _ _ _ _ => N2
    refine hR tb _ _ (ext_2 (by assumption) hc (News.get N2 (List.Mem.head _))) ?_
    rw [heq, z]
    exact News.get N2 (List.Mem.tail _ (List.Mem.head _))
  · rename News _ _ _ _ => N2
    rename ¬ ((_ : Int) < _) => hlt2
    have z := wEnd_done D b false (pn_nle hlt2)
    refine hR tb _ _ (ext_2 (by assumption) hc (News.get N2 (List.Mem.head _))) ?_
    rw [heq, z]
    exact News.get N2 (List.Mem.tail _ (List.Mem.head _))

end
section
set_option maxRecDepth 100000
set_option maxHeartbeats 400000
set_option linter.unusedVariables false
theorem words_Num_0 : True := by
  k_with_none
  trivial
open PySem PySem.W PySem.Calls PyProof.Rows
theorem num_bd {a b f0 f1 : Nat} {v x : Int} (hbd : (b = a ∧ v = 0) ∨ (b = a + 1 ∧ 0 ≤ v ∧ v ≤ 9) ∨ (b = a + 2 ∧ 0 ≤ v ∧ v ≤ 99) ∨ (b = a + 3 ∧ 0 ≤ v ∧ v ≤ 999)) (hfg : a + f0 = b + (f1 + 1)) (h3 : f0 ≤ 3) (h0 : 48 ≤ x) (h1 : x ≤ 57) :
    (b + 1 = a ∧ v * 10 + x - 48 = 0) ∨ (b + 1 = a + 1 ∧ 0 ≤ v * 10 + x - 48 ∧ v * 10 + x - 48 ≤ 9) ∨ (b + 1 = a + 2 ∧ 0 ≤ v * 10 + x - 48 ∧ v * 10 + x - 48 ≤ 99) ∨ (b + 1 = a + 3 ∧ 0 ≤ v * 10 + x - 48 ∧ v * 10 + x - 48 ≤ 999) := by
  rcases hbd with ⟨rfl, rfl⟩ | ⟨rfl, h, h'⟩ | ⟨rfl, h, h'⟩ | ⟨rfl, h, h'⟩
  · exact .inr (.inl ⟨rfl, by omega, by omega⟩)
  · exact .inr (.inr (.inl ⟨rfl, by omega, by omega⟩))
  · exact .inr (.inr (.inr ⟨rfl, by omega, by omega⟩))
  · exfalso; omega
theorem words_Num_1 : True := by
  k_with "k_room" => ((try simp only [depth_under_make, depth_under_kw, depth_in1, depth_deeper, depth_mark]); (try dsimp only); (show (_ : Nat) < 1000); first | (refine Nat.lt_of_le_of_lt (by with_reducible assumption) ?_; decide) | (refine Nat.lt_of_le_of_lt (Nat.add_le_add_right (by with_reducible assumption) 1) ?_; decide) | (refine Nat.lt_of_le_of_lt (Nat.add_le_add_right (Nat.add_le_add_right (by with_reducible assumption) 1) 1) ?_; decide) | omega)
  k_with "LeaveC" => ((refine' leaveC_ ?k1 ?k2 ?_; (case k1 => k_asm); (case k2 => k_asm); intro _))
  k_with "my num" => ((try simp only [Around.deeper_units, depth_deeper, depth_under_make, depth_under_kw, depth_in1, depth_mark]); (try dsimp only); first | (refine Nat.le_trans (by with_reducible assumption) ?_; decide) | (refine Nat.le_trans (Nat.add_le_add_right (by with_reducible assumption) 1) ?_; decide) | (refine Nat.le_trans (Nat.add_le_add_right (Nat.add_le_add_right (by with_reducible assumption) 1) 1) ?_; decide) | omega)
  k_with "my sp" => (first | exact spA (by with_reducible assumption) | exact spB (by with_reducible assumption) | exact spC (by with_reducible assumption) | exact spD (by with_reducible assumption) | (constructor <;> omega))
  k_with "call ref" => (((with_reducible show wpAny _ _ (call (Value.ref 551) [Value.ref _, Value.int _ _]) _ _ _); k_dflt (refine' draw_K ?kB ?kX ?kT ?kF ?kN ?kU ?kc ?kne ?kI ?kl ?kzl ?kA ?ku ?kk ?ksp ?ksd ?kzs ?km ?_; (case kB => k_asm); (case kX => k_asm); (case kT => k_asm); (case kF => k_asm); (case kN => k_asm); (case kU => k_updF); (case kc => k_mem); (case kne => (first | assumption | omega)); (case kI => assumption); (case kl => assumption); (case kzl => assumption); (case kA => walk_at "my num"); (case ku => walk_at "my num"); (case kk => exact rfl); (case ksp => walk_at "my sp"); (case ksd => assumption); (case kzs => assumption); (case km => first | exact ⟨by decide, by decide⟩ | (constructor <;> omega)); k_whole); intro _ _ _ _ _ _ _ _ _; (try k_sweep)))
  trivial
theorem words_Num_2 : True := by
  k_with "compareOp In int ref" => ((k_dflt (refine' in_tupKn ?F ?X ?l ?i ?_; (case F => k_asm); (case X => k_asm); (case l => k_is); (case i => repeat constructor))))
  k_with "compareOp NotIn int ref" => ((k_dflt (refine' notin_tupKn ?F ?X ?l ?i ?_; (case F => k_asm); (case X => k_asm); (case l => k_is); (case i => repeat constructor))))
  k_with "exec While" => (refine Stopped.out ?_)
  k_with "exec While Compare cons nil" => (refine Stopped.out ?_)
  k_with "exec While BoolOp cons nil" => (refine Stopped.out ?_)
  k_with "exec While Call cons nil" => (refine Stopped.out ?_)
  k_with "WPost" => ((dsimp only [WPost]; refine Stopped.out ?_))
  trivial
theorem number_ok {w : World} {A : Around} {s : Shared} {base : Heap} {outer : List Env} {p : Program} {loose : List Str} {mean : ExcName → Option Value} {mg mb : Str → Option Value}
    {R : Result → Shared → Prop} {c d : Addr} {D : List UInt8} {a : Nat} {k1 k2 k3 tD ta te : Tok}
    (S : Site A base outer p loose mean mg mb (pre.heap_1 w.params) s.heap) (hA : A.depth ≤ 800) (hu : A.units ≤ 400)
    (hc : s.heap.get? c = some (instObj 472 d)) (hd : s.heap.get? d = some (curD w D a D.length k1 k2 k3 tD ta te)) (hne : @LT.lt Nat _ d c)
    (oc : OwnAt base outer c) (od : OwnAt base outer d) (hD : D.length ≤ 1000) (ha : a ≤ D.length)
    (hf : figs (D.drop a) ≤ 3)
    (h1 : numF (D.drop a) = none → ∀ ta' h' tk', ExtBy [d] s.heap h' → h'.get? d = some (curD w D a D.length k1 k2 k3 tD ta' te) → R (.ok (.ret .none)) {s with heap := h', toks := tk'})
    (h2 : ∀ v, numF (D.drop a) = some v → 0 ≤ v → v ≤ 999 → ∀ tv ta' h' tk', ExtBy [d] s.heap h' → h'.get? d = some (curD w D ((a + figs (D.drop a) : Nat) : Int) D.length k1 k2 k3 tD ta' te) → R (.ok (.ret (.int v tv))) {s with heap := h', toks := tk'}) :
    codeAny (model PySem.Challenge.rw_nn0135_01.row.prog w) A (.call (.ref 455) ⟨[.ref c], []⟩) R s := by
  have XB := S.X
  have TB := S.T
  obtain ⟨hdl, dp, fr, gs, us⟩ := A
  have hfr := S.B.stack
  dsimp only at hfr hA hu
  subst hfr
  revert S
  k_fill
  intro S
  refine' enter (binds := [(Str.ofString "self", .ref c)]) [(c, instObj 472 d), (d, curD w D a D.length k1 k2 k3 tD ta te)] S ?hn ?k6 ?k7 ?k8 ?k9 ?kB ?_ ?c2 ?c3 ?c4 ?c5
  case hn => intro q hq; rcases List.mem_cons.mp hq with rfl | hq; exact ⟨hc, oc⟩; rcases List.mem_cons.mp hq with rfl | hq; exact ⟨hd, od⟩; cases hq
  case k6 => k_is
  case k7 => k_is
  case k8 => k_room
  case k9 => exact BindsTo.of_eq rfl
  case c5 => decide
  case kB => exact locs rfl
  case c2 => exact rfl
  case c3 => exact rfl
  case c4 => exact rfl
  clear S
  intro g' L' h' F' N' B' X' T' l1
  simp only [AllLt, and_true] at l1
  (try dsimp only)
  (show wpAny _ _ _ _ _ _)
  k_fold
  k_steps

  refine Stopped.intro ?_
  rename Fr _ _ _ _ => F1
  rename News _ _ _ _ => N1
  dsimp only at F1 N1 ⊢
  refine my_while (σ := Nat × Tok × Int × Tok) (fun q => [(c, instObj 472 d), (d, curD w D q.1 D.length k1 k2 k3 tD q.2.1 te)]) (fun q => [(Str.ofString "self", .ref c), (Str.ofString "first", .int a ta), (Str.ofString "number", .int q.2.2.1 q.2.2.2)])
    (fun q => q.1 ≤ D.length ∧ a + figs (D.drop a) = q.1 + figs (D.drop q.1) ∧ valF 0 (D.drop a) = valF q.2.2.1 (D.drop q.1) ∧ ((q.1 = a ∧ q.2.2.1 = 0) ∨ (q.1 = a + 1 ∧ 0 ≤ q.2.2.1 ∧ q.2.2.1 ≤ 9) ∨ (q.1 = a + 2 ∧ 0 ≤ q.2.2.1 ∧ q.2.2.1 ≤ 99) ∨ (q.1 = a + 3 ∧ 0 ≤ q.2.2.1 ∧ q.2.2.1 ≤ 999))) (fun q => D.length - q.1) (a, ta, 0, _) F1 N1 ⟨rfl, rfl, rfl, trivial⟩ ⟨ha, rfl, rfl, .inl ⟨rfl, rfl⟩⟩ ?_
  rintro ⟨b, tb, v, tv⟩ u hh tk ⟨hb, hfg, hval, hbd⟩ F2 N2
  dsimp only at hb hfg hval hbd F2 N2 ⊢
  (try clear F1 N1)
  have hv0 : 0 ≤ v ∧ v ≤ 999 := by omega
  k_steps
  · refine Stopped.intro ?_
    rename Fr _ _ _ _ => F3
    rename News _ _ _ _ => N3
    have hlt : b < D.length := by omega
    have z := fig_turn (v := v) hlt (fig_true (by assumption) (by assumption))
    have hfg9 : a + figs (D.drop a) = b + (figs (D.drop (b + 1)) + 1) := by rw [← z.1]; exact hfg
    have x1 : (48 : Int) ≤ ((D.getD ((b : Int) + 0).toNat 0).toNat : Int) := by assumption
    have x2 : ((D.getD ((b : Int) + 0).toNat 0).toNat : Int) ≤ 57 := by assumption
    rw [b0] at x1 x2
    rw [to_b] at F3
    dsimp only at F3 N3 ⊢
    exact wEnd_ (b + 1, _, v * 10 + ((D.getD b 0).toNat : Int) - 48, _) F3 N3 (fun p hp => hp) ⟨rfl, rfl, rfl, trivial⟩ ⟨hlt, hfg9.trans (by rw [Nat.add_assoc, Nat.add_comm 1]), by dsimp only; rw [hval, z.2], num_bd hbd hfg9 hf x1 x2⟩ (Nat.sub_lt_sub_left hlt (Nat.lt_succ_self _))
  all_goals
    rename ExtBy _ _ _ => hx
    rename News _ _ _ _ => N3
    have hst : b < D.length → isFig (D.getD b 0) = false := by first | exact fun _ => fig_false (by assumption) | exact fun _ => fig_false2 (by assumption) | (intro hb'; exfalso; omega)
    have z := fig_stop (v := v) hst
    first
      | (have e : ((b : Nat) : Int) = a := by assumption
         exact h1 (num_none (by omega)) ta _ _ (ext_2 hx hc (News.get N3 (List.Mem.head _))) (News.get N3 (List.Mem.tail _ (List.Mem.head _))))
      | (have e : ((b : Nat) : Int) ≠ a := by assumption
         have e2 : a + figs (D.drop a) = b := by omega
         refine h2 v (num_some (by omega) (by rw [hval, z.2])) hv0.1 hv0.2 tv tb _ _ (ext_2 hx hc (News.get N3 (List.Mem.head _))) ?_
         rw [e2]
         exact News.get N3 (List.Mem.tail _ (List.Mem.head _)))

end
section
set_option maxRecDepth 100000
set_option maxHeartbeats 400000
set_option linter.unusedVariables false
theorem words_Reg_0 : True := by
  k_with_none
  trivial
open PySem PySem.W PySem.Calls PyProof.Rows
theorem words_Reg_1 : True := by
  k_with "k_room" => ((try simp only [depth_under_make, depth_under_kw, depth_in1, depth_deeper, depth_mark]); (try dsimp only); (show (_ : Nat) < 1000); first | (refine Nat.lt_of_le_of_lt (by with_reducible assumption) ?_; decide) | (refine Nat.lt_of_le_of_lt (Nat.add_le_add_right (by with_reducible assumption) 1) ?_; decide) | (refine Nat.lt_of_le_of_lt (Nat.add_le_add_right (Nat.add_le_add_right (by with_reducible assumption) 1) 1) ?_; decide) | omega)
  k_with "LeaveC" => ((refine' leaveC_ ?k1 ?k2 ?_; (case k1 => k_asm); (case k2 => k_asm); intro _))
  k_with "my num" => ((try simp only [Around.deeper_units, depth_deeper, depth_under_make, depth_under_kw, depth_in1, depth_mark]); (try dsimp only); first | (refine Nat.le_trans (by with_reducible assumption) ?_; decide) | (refine Nat.le_trans (Nat.add_le_add_right (by with_reducible assumption) 1) ?_; decide) | (refine Nat.le_trans (Nat.add_le_add_right (Nat.add_le_add_right (by with_reducible assumption) 1) 1) ?_; decide) | omega)
  k_with "my sp" => (first | exact spA (by with_reducible assumption) | exact spB (by with_reducible assumption) | exact spC (by with_reducible assumption) | exact spD (by with_reducible assumption) | (constructor <;> omega))
  k_with "call ref" => (((with_reducible show wpAny _ _ (call (Value.ref 551) [Value.ref _, Value.int _ _]) _ _ _); k_dflt (refine' draw_K ?kB ?kX ?kT ?kF ?kN ?kU ?kc ?kne ?kI ?kl ?kzl ?kA ?ku ?kk ?ksp ?ksd ?kzs ?km ?_; (case kB => k_asm); (case kX => k_asm); (case kT => k_asm); (case kF => k_asm); (case kN => k_asm); (case kU => k_updF); (case kc => k_mem); (case kne => (first | assumption | omega)); (case kI => assumption); (case kl => assumption); (case kzl => assumption); (case kA => walk_at "my num"); (case ku => walk_at "my num"); (case kk => exact rfl); (case ksp => walk_at "my sp"); (case ksd => assumption); (case kzs => assumption); (case km => first | exact ⟨by decide, by decide⟩ | (constructor <;> omega)); k_whole); intro _ _ _ _ _ _ _ _ _; (try k_sweep)))
  trivial
theorem words_Reg_2 : True := by
  k_with "compareOp In int ref" => ((k_dflt (refine' in_tupKn ?F ?X ?l ?i ?_; (case F => k_asm); (case X => k_asm); (case l => k_is); (case i => repeat constructor))))
  k_with "compareOp NotIn int ref" => ((k_dflt (refine' notin_tupKn ?F ?X ?l ?i ?_; (case F => k_asm); (case X => k_asm); (case l => k_is); (case i => repeat constructor))))
  k_with "exec While" => (refine Stopped.out ?_)
  k_with "exec While Compare cons nil" => (refine Stopped.out ?_)
  k_with "exec While BoolOp cons nil" => (refine Stopped.out ?_)
  k_with "exec While Call cons nil" => (refine Stopped.out ?_)
  k_with "WPost" => ((dsimp only [WPost]; refine Stopped.out ?_))
  k_with "subscriptTail" => (((with_reducible show wpAny _ _ (subscriptTail _ (Expr.Slice (some _) (some _) none _) (Value.bytes _ _) (Value.ref _)) _ _ _); (with_reducible rename Fr _ _ _ _ => F'); (with_reducible rename News _ _ _ _ => N'); (refine slice_2 (s := ⟨_, _, _, _, _⟩) F' N' (by omega) (by omega) (by omega) ?_); intro _ _ _ _ _))
  k_with "subscriptTail" => (((with_reducible show wpAny _ _ (subscriptTail _ (Expr.Slice none (some _) none _) (Value.bytes _ _) (Value.ref _)) _ _ _); (with_reducible rename Fr _ _ _ _ => F'); (with_reducible rename News _ _ _ _ => N'); (refine slice_1 (s := ⟨_, _, _, _, _⟩) F' N' (by omega) (by first | omega | decide) ?_); intro _ _ _ _ _))
  trivial
theorem regular_ok {w : World} {A : Around} {s : Shared} {base : Heap} {outer : List Env} {p : Program} {loose : List Str} {mean : ExcName → Option Value} {mg mb : Str → Option Value}
    {R : Result → Shared → Prop} {c d : Addr} {D : List UInt8} {a : Nat} {k1 k2 k3 tD ta te : Tok}
    (S : Site A base outer p loose mean mg mb (pre.heap_1 w.params) s.heap) (hA : A.depth ≤ 800) (hu : A.units ≤ 400)
    (hc : s.heap.get? c = some (instObj 472 d)) (hd : s.heap.get? d = some (curD w D a D.length k1 k2 k3 tD ta te)) (hne : @LT.lt Nat _ d c)
    (oc : OwnAt base outer c) (od : OwnAt base outer d) (hD : D.length ≤ 1000) (ha : a ≤ D.length)
    (hR : ∀ tv ta' h' tk', ExtBy [d] s.heap h' → h'.get? d = some (curD w D ((a + regs (D.drop a) : Nat) : Int) D.length k1 k2 k3 tD ta' te) → R (.ok (.ret (.bytes ((D.drop a).take (regs (D.drop a))).toArray tv))) {s with heap := h', toks := tk'}) :
    codeAny (model PySem.Challenge.rw_nn0135_01.row.prog w) A (.call (.ref 434) ⟨[.ref c], []⟩) R s := by
  have XB := S.X
  have TB := S.T
  obtain ⟨hdl, dp, fr, gs, us⟩ := A
  have hfr := S.B.stack
  dsimp only at hfr hA hu
  subst hfr
  revert S
  k_fill
  intro S
  refine' enter (binds := [(Str.ofString "self", .ref c)]) [(c, instObj 472 d), (d, curD w D a D.length k1 k2 k3 tD ta te)] S ?hn ?k6 ?k7 ?k8 ?k9 ?kB ?_ ?c2 ?c3 ?c4 ?c5
  case hn => intro q hq; rcases List.mem_cons.mp hq with rfl | hq; exact ⟨hc, oc⟩; rcases List.mem_cons.mp hq with rfl | hq; exact ⟨hd, od⟩; cases hq
  case k6 => k_is
  case k7 => k_is
  case k8 => k_room
  case k9 => exact BindsTo.of_eq rfl
  case c5 => decide
  case kB => exact locs rfl
  case c2 => exact rfl
  case c3 => exact rfl
  case c4 => exact rfl
  clear S
  intro g' L' h' F' N' B' X' T' l1
  simp only [AllLt, and_true] at l1
  (try dsimp only)
  (show wpAny _ _ _ _ _ _)
  k_fold
  k_steps
  refine Stopped.intro ?_
  rename Fr _ _ _ _ => F1
  rename News _ _ _ _ => N1
  (try dsimp only at F1 N1 ⊢)
  refine my_while (σ := Nat × Tok) (fun q => [(c, instObj 472 d), (d, curD w D q.1 D.length k1 k2 k3 tD q.2 te)]) (fun q => [(Str.ofString "self", .ref c), (Str.ofString "first", .int a ta)])
    (fun q => q.1 ≤ D.length ∧ a + regs (D.drop a) = q.1 + regs (D.drop q.1)) (fun q => D.length - q.1) (a, ta) F1 N1 ⟨rfl, rfl, trivial⟩ ⟨ha, rfl⟩ ?_
  rintro ⟨b, tb⟩ u hh tk ⟨hb, hfg⟩ F2 N2
  dsimp only at hb hfg F2 N2 ⊢
  (try clear F1 N1)
  k_steps
  · rename List.any _ _ = true => hw
    rw [to_b] at hw
    have hst : b < D.length → isReg (D.getD b 0) = false := fun _ => reg_f1 hw
    rename ExtBy _ _ _ => hx
    rename News _ _ _ _ => N3
    have z := reg_stop hst
    have e2 : a + regs (D.drop a) = b := pn_end hfg z
    have e3 : ((b : Int)).toNat - ((a : Int)).toNat = regs (D.drop a) := pn_sub e2
    (with_reducible show R (Except.ok (Flow.ret _)) _)
    dsimp only
    rw [e3, to_b]
    refine hR _ tb _ _ (ext_2 hx hc (News.get N3 (List.Mem.head _))) ?_
    rw [e2]
    exact News.get N3 (List.Mem.tail _ (List.Mem.head _))
  · rename List.any _ _ = true => hw
    rw [to_b] at hw
    have hst : b < D.length → isReg (D.getD b 0) = false := fun _ => reg_f2 hw
    rename ExtBy _ _ _ => hx
    rename News _ _ _ _ => N3
    have z := reg_stop hst
    have e2 : a + regs (D.drop a) = b := pn_end hfg z
    have e3 : ((b : Int)).toNat - ((a : Int)).toNat = regs (D.drop a) := pn_sub e2
    (with_reducible show R (Except.ok (Flow.ret _)) _)
    dsimp only
    rw [e3, to_b]
    refine hR _ tb _ _ (ext_2 hx hc (News.get N3 (List.Mem.head _))) ?_
    rw [e2]
    exact News.get N3 (List.Mem.tail _ (List.Mem.head _))
  · refine Stopped.intro ?_
    rename Fr _ _ _ _ => F3
    rename News _ _ _ _ => N3
    have hlt : b < D.length := Int.ofNat_lt.mp (by assumption)
    have y1 : ([0, 9, 10, 12, 13, 32] : List Int).any (· == ((D.getD ((b : Int)).toNat 0).toNat : Int)) = false := by assumption
    have y2 : ([40, 41, 60, 62, 91, 93, 123, 125, 47, 37] : List Int).any (· == ((D.getD ((b : Int)).toNat 0).toNat : Int)) = false := by assumption
    rw [to_b] at y1 y2
    have z := reg_turn hlt (reg_t y1 y2)
    dsimp only at F3 N3 ⊢
    exact wEnd_ (b + 1, _) F3 N3 (fun p hp => hp) ⟨rfl, rfl, trivial⟩ ⟨hlt, pn_step hfg z⟩ (pn_lt hlt)
  · have hst : b < D.length → isReg (D.getD b 0) = false := fun hb' => absurd (Int.ofNat_lt.mpr hb') (by assumption)
    rename ExtBy _ _ _ => hx
    rename News _ _ _ _ => N3
    have z := reg_stop hst
    have e2 : a + regs (D.drop a) = b := pn_end hfg z
    have e3 : ((b : Int)).toNat - ((a : Int)).toNat = regs (D.drop a) := pn_sub e2
    (with_reducible show R (Except.ok (Flow.ret _)) _)
    dsimp only
    rw [e3, to_b]
    refine hR _ tb _ _ (ext_2 hx hc (News.get N3 (List.Mem.head _))) ?_
    rw [e2]
    exact News.get N3 (List.Mem.tail _ (List.Mem.head _))

end
section
set_option maxRecDepth 100000
set_option linter.unusedVariables false
open PySem PySem.W PySem.Calls PyProof.Rows
section
variable {w : World} {A₀ : Around} {s : Shared} {base h₀ : Heap} {outer : List Env} {p : Program} {loose : List Str} {mean : ExcName → Option Value} {mg mb : Str → Option Value}
    {L af : Addr} {m : Str → Option Value} {name : Str} {scope : Scope} {cd : Value} {news : List (Addr × Obj)} {u : Obj → List (Addr × Obj)} {Q : Value → Shared → Prop} {E : Value → Shared → Prop}
    {c d : Addr} {D : List UInt8} {a : Nat} {k1 k2 k3 tD ta te : Tok}
theorem skip_K (B : Below A₀ base outer h₀) (X : (pre.heap_1 w.params).In base) (T : Top p loose mean mg mb base) (F : Fr h₀ L s.heap m) (N : News h₀ L s.heap news)
    (U : UpdF d (curD w D a D.length k1 k2 k3 tD ta te) news u) (hc : (c, instObj 472 d) ∈ news) (hne : @LT.lt Nat _ d c) (hA : A₀.depth ≤ 700) (hu : A₀.units ≤ 300) (hk : scope.kind = .function) (hD : D.length ≤ 1000) (ha : a ≤ D.length)
    (h : ∀ ta' h' tk', Fr h₀ L h' m → News h₀ L h' (u (curD w D ((a + wEnd false (D.drop a) : Nat) : Int) D.length k1 k2 k3 tD ta' te)) → a + wEnd false (D.drop a) ≤ D.length → Q .none {s with heap := h', toks := tk'}) :
    wpAny (model PySem.Challenge.rw_nn0135_01.row.prog w) (A₀.deeper (envOf name scope L af cd)) (call (.ref 427) [.ref c]) Q E s := by
  have hm := mem_upd U
  refine wpAny_call (skip_ok (S := ⟨B.push F hk, X, T⟩) (hA := ?_) (hu := ?_) (hc := (N _ hc).1) (hd := (N _ hm).1) hne (own_news B N hc) (own_news B N hm) hD ha ?_)
  · rw [depth_deeper]; omega
  · rw [Around.deeper_units]; omega
  · intro ta' h' tk' x e
    have z := after_upd F N U x e
    have hl := wEnd_le false (D.drop a)
    rw [List.length_drop] at hl
    exact h ta' h' tk' z.1 z.2 (by omega)
theorem number_K (B : Below A₀ base outer h₀) (X : (pre.heap_1 w.params).In base) (T : Top p loose mean mg mb base) (F : Fr h₀ L s.heap m) (N : News h₀ L s.heap news)
    (U : UpdF d (curD w D a D.length k1 k2 k3 tD ta te) news u) (hc : (c, instObj 472 d) ∈ news) (hne : @LT.lt Nat _ d c) (hA : A₀.depth ≤ 700) (hu : A₀.units ≤ 300) (hk : scope.kind = .function) (hD : D.length ≤ 1000) (ha : a ≤ D.length) (hf : ∀ k, figs (D.drop k) ≤ 3)
    (h1 : ∀ ta' h' tk', numF (D.drop a) = none → Fr h₀ L h' m → News h₀ L h' (u (curD w D a D.length k1 k2 k3 tD ta' te)) → Q .none {s with heap := h', toks := tk'})
    (h2 : ∀ v tv ta' h' tk', numF (D.drop a) = some v → 0 ≤ v → v ≤ 999 → Fr h₀ L h' m → News h₀ L h' (u (curD w D ((a + figs (D.drop a) : Nat) : Int) D.length k1 k2 k3 tD ta' te)) → a + figs (D.drop a) ≤ D.length → Q (.int v tv) {s with heap := h', toks := tk'}) :
    wpAny (model PySem.Challenge.rw_nn0135_01.row.prog w) (A₀.deeper (envOf name scope L af cd)) (call (.ref 455) [.ref c]) Q E s := by
  have hm := mem_upd U
  refine wpAny_call (number_ok (S := ⟨B.push F hk, X, T⟩) (hA := ?_) (hu := ?_) (hc := (N _ hc).1) (hd := (N _ hm).1) hne (own_news B N hc) (own_news B N hm) hD ha (hf a) ?_ ?_)
  · rw [depth_deeper]; omega
  · rw [Around.deeper_units]; omega
  · intro e0 ta' h' tk' x e
    have z := after_upd F N U x e
    exact h1 ta' h' tk' e0 z.1 z.2
  · intro v e0 hv1 hv2 tv ta' h' tk' x e
    have z := after_upd F N U x e
    have hl := figs_le (D.drop a)
    rw [List.length_drop] at hl
    exact h2 v tv ta' h' tk' e0 hv1 hv2 z.1 z.2 (by omega)
theorem regular_K (B : Below A₀ base outer h₀) (X : (pre.heap_1 w.params).In base) (T : Top p loose mean mg mb base) (F : Fr h₀ L s.heap m) (N : News h₀ L s.heap news)
    (U : UpdF d (curD w D a D.length k1 k2 k3 tD ta te) news u) (hc : (c, instObj 472 d) ∈ news) (hne : @LT.lt Nat _ d c) (hA : A₀.depth ≤ 700) (hu : A₀.units ≤ 300) (hk : scope.kind = .function) (hD : D.length ≤ 1000) (ha : a ≤ D.length)
    (h : ∀ tv ta' h' tk', Fr h₀ L h' m → News h₀ L h' (u (curD w D ((a + regs (D.drop a) : Nat) : Int) D.length k1 k2 k3 tD ta' te)) → Q (.bytes ((D.drop a).take (regs (D.drop a))).toArray tv) {s with heap := h', toks := tk'}) :
    wpAny (model PySem.Challenge.rw_nn0135_01.row.prog w) (A₀.deeper (envOf name scope L af cd)) (call (.ref 434) [.ref c]) Q E s := by
  have hm := mem_upd U
  refine wpAny_call (regular_ok (S := ⟨B.push F hk, X, T⟩) (hA := ?_) (hu := ?_) (hc := (N _ hc).1) (hd := (N _ hm).1) hne (own_news B N hc) (own_news B N hm) hD ha ?_)
  · rw [depth_deeper]; omega
  · rw [Around.deeper_units]; omega
  · intro tv ta' h' tk' x e
    have z := after_upd F N U x e
    exact h tv ta' h' tk' z.1 z.2
end

end
section
set_option maxRecDepth 100000
set_option maxHeartbeats 400000
set_option linter.unusedVariables false
theorem words_Meets_0 : True := by
  k_with_none
  trivial
open PySem PySem.W PySem.Calls PyProof.Rows
theorem words_Meets_1 : True := by
  k_with "k_room" => ((try simp only [depth_under_make, depth_under_kw, depth_in1, depth_deeper, depth_mark]); (try dsimp only); (show (_ : Nat) < 1000); first | (refine Nat.lt_of_le_of_lt (by with_reducible assumption) ?_; decide) | (refine Nat.lt_of_le_of_lt (Nat.add_le_add_right (by with_reducible assumption) 1) ?_; decide) | (refine Nat.lt_of_le_of_lt (Nat.add_le_add_right (Nat.add_le_add_right (by with_reducible assumption) 1) 1) ?_; decide) | omega)
  k_with "LeaveC" => ((refine' leaveC_ ?k1 ?k2 ?_; (case k1 => k_asm); (case k2 => k_asm); intro _))
  k_with "my num" => ((try simp only [Around.deeper_units, depth_deeper, depth_under_make, depth_under_kw, depth_in1, depth_mark]); (try dsimp only); first | (refine Nat.le_trans (by with_reducible assumption) ?_; decide) | (refine Nat.le_trans (Nat.add_le_add_right (by with_reducible assumption) 1) ?_; decide) | (refine Nat.le_trans (Nat.add_le_add_right (Nat.add_le_add_right (by with_reducible assumption) 1) 1) ?_; decide) | omega)
  k_with "my sp" => (first | exact spA (by with_reducible assumption) | exact spB (by with_reducible assumption) | exact spC (by with_reducible assumption) | exact spD (by with_reducible assumption) | (constructor <;> omega))
  k_with "call ref" => (((with_reducible show wpAny _ _ (call (Value.ref 551) [Value.ref _, Value.int _ _]) _ _ _); k_dflt (refine' draw_K ?kB ?kX ?kT ?kF ?kN ?kU ?kc ?kne ?kI ?kl ?kzl ?kA ?ku ?kk ?ksp ?ksd ?kzs ?km ?_; (case kB => k_asm); (case kX => k_asm); (case kT => k_asm); (case kF => k_asm); (case kN => k_asm); (case kc => k_mem); (case kU => k_updF); (case kne => (first | assumption | omega)); (case kI => assumption); (case kl => assumption); (case kzl => assumption); (case kA => walk_at "my num"); (case ku => walk_at "my num"); (case kk => exact rfl); (case ksp => walk_at "my sp"); (case ksd => assumption); (case kzs => assumption); (case km => first | exact ⟨by decide, by decide⟩ | (constructor <;> omega)); k_whole); intro _ _ _ _ _ _ _ _ _; (try k_sweep)))
  k_with "call ref" => (((try dsimp only [List.cons_append, List.nil_append]); (with_reducible show wpAny _ _ (call (Value.ref 427) [Value.ref _]) _ _ _); refine Stopped.out ?_))
  k_with "call ref" => (((try dsimp only [List.cons_append, List.nil_append]); (with_reducible show wpAny _ _ (call (Value.ref 455) [Value.ref _]) _ _ _); refine Stopped.out ?_))
  k_with "call ref" => (((try dsimp only [List.cons_append, List.nil_append]); (with_reducible show wpAny _ _ (call (Value.ref 434) [Value.ref _]) _ _ _); refine Stopped.out ?_))
  k_with "call ref" => (((try dsimp only [List.cons_append, List.nil_append]); (with_reducible show wpAny _ _ (call (Value.ref 427) [Value.ref _]) _ _ _); k_dflt (refine' skip_K ?kB ?kX ?kT ?kF ?kN ?kU ?kc ?kne ?kA ?ku ?kk ?kD ?ka ?_; (case kB => k_asm); (case kX => k_asm); (case kT => k_asm); (case kF => k_asm); (case kN => k_asm); (case kc => k_mem); (case kU => k_updF); (case kne => (first | assumption | omega)); (case kA => walk_at "my num"); (case ku => walk_at "my num"); (case kk => exact rfl); (case kD => assumption); (case ka => (first | assumption | omega)); k_whole); intro _ _ _ _ _ _; (try k_sweep)))
  k_with "call ref" => (((try dsimp only [List.cons_append, List.nil_append]); (with_reducible show wpAny _ _ (call (Value.ref 455) [Value.ref _]) _ _ _); k_dflt (refine' number_K ?kB ?kX ?kT ?kF ?kN ?kU ?kc ?kne ?kA ?ku ?kk ?kD ?ka ?kf ?_ ?_; (case kB => k_asm); (case kX => k_asm); (case kT => k_asm); (case kF => k_asm); (case kN => k_asm); (case kc => k_mem); (case kU => k_updF); (case kne => (first | assumption | omega)); (case kA => walk_at "my num"); (case ku => walk_at "my num"); (case kk => exact rfl); (case kD => assumption); (case ka => (first | assumption | omega)); (case kf => assumption)); (intro ta' h' tk' hnum' F' N'); (try k_sweep); rotate_left; (intro _ _ ta' h' tk' hnum' _ _ F' N' _); (try k_sweep); rotate_left))
  k_with "call ref" => (((try dsimp only [List.cons_append, List.nil_append]); (with_reducible show wpAny _ _ (call (Value.ref 434) [Value.ref _]) _ _ _); k_dflt (refine' regular_K ?kB ?kX ?kT ?kF ?kN ?kU ?kc ?kne ?kA ?ku ?kk ?kD ?ka ?_; (case kB => k_asm); (case kX => k_asm); (case kT => k_asm); (case kF => k_asm); (case kN => k_asm); (case kc => k_mem); (case kU => k_updF); (case kne => (first | assumption | omega)); (case kA => walk_at "my num"); (case ku => walk_at "my num"); (case kk => exact rfl); (case kD => assumption); (case ka => (first | assumption | omega)); k_whole); intro _ _ _ _ _ _; (try k_sweep)))
  trivial

theorem meets_ok {w : World} {A : Around} {s : Shared} {base : Heap} {outer : List Env} {p : Program} {loose : List Str} {mean : ExcName → Option Value} {mg mb : Str → Option Value}
    {R : Result → Shared → Prop} {e de : Addr} {D : List UInt8} {num one two : Int} {wv : Value} {j1 j2 j3 to tt tD tn : Tok}
    (S : Site A base outer p loose mean mg mb (pre.heap_1 w.params) s.heap) (hA : A.depth ≤ 600) (hu : A.units ≤ 200)
    (he : s.heap.get? e = some (instObj 535 de)) (hde : s.heap.get? de = some (entD w wv one two j1 j2 j3 to tt)) (hne : @LT.lt Nat _ de e)
    (oe : OwnAt base outer e) (ode : OwnAt base outer de) (hD : D.length ≤ 1000) (hf : ∀ k, figs (D.drop k) ≤ 3)
    (hR : ∀ h' tk', ExtBy [] s.heap h' → R (.ok (.ret (.bool (meetsF D num one two)))) {s with heap := h', toks := tk'}) :
    codeAny (model PySem.Challenge.rw_nn0135_01.row.prog w) A (.call (.ref 483) ⟨[.bytes D.toArray tD, .int num tn, .ref e], []⟩) R s := by
  have XB := S.X
  have TB := S.T
  obtain ⟨hdl, dp, fr, gs, us⟩ := A
  have hfr := S.B.stack
  dsimp only at hfr hA hu
  subst hfr
  revert S
  k_fill
  intro S
  refine' enter (binds := [(Str.ofString "data", .bytes D.toArray tD), (Str.ofString "number", .int num tn), (Str.ofString "entry", .ref e)]) [(e, instObj 535 de), (de, entD w wv one two j1 j2 j3 to tt)] S ?hn ?k6 ?k7 ?k8 ?k9 ?kB ?_ ?c2 ?c3 ?c4 ?c5
  case hn => intro q hq; rcases List.mem_cons.mp hq with rfl | hq; exact ⟨he, oe⟩; rcases List.mem_cons.mp hq with rfl | hq; exact ⟨hde, ode⟩; cases hq
  case k6 => k_is
  case k7 => k_is
  case k8 => k_room
  case k9 => exact BindsTo.of_eq rfl
  case c5 => decide
  case kB => exact locs rfl
  case c2 => exact rfl
  case c3 => exact rfl
  case c4 => exact rfl
  clear S
  intro g' L' h' F' N' B' X' T' l1
  simp only [AllLt, and_true] at l1
  (try dsimp only)
  (show wpAny _ _ _ _ _ _)
  k_fold
  have hsz : D.toArray.size = D.length := List.size_toArray
  have fin : ∀ (b : Bool) hh tk, meetsF D num one two = b → ExtBy [e, de] s.heap hh → (∃ g L, News g L hh [(e, instObj 535 de), (de, entD w wv one two j1 j2 j3 to tt)]) → R (.ok (.ret (.bool b))) {s with heap := hh, toks := tk} := by
    rintro b hh tk rfl x ⟨g, L, N⟩
    exact hR hh tk (x.less fun a ha => by
      rcases List.mem_cons.mp ha with rfl | ha
      · exact .inr ⟨_, he, N.get (.head _)⟩
      · rcases List.mem_cons.mp ha with rfl | ha
        · exact .inr ⟨_, hde, N.get (.tail _ (.head _))⟩
        · cases ha)
  rcases Int.lt_or_le one 0 with hneg | hpos
  · k_steps
    exact fin _ _ _ (mf_out (by omega)) (by assumption) ⟨_, _, by assumption⟩
  · obtain ⟨o, rfl⟩ : ∃ o : Nat, one = o := ⟨one.toNat, by omega⟩
    k_steps
    all_goals (rename News _ _ _ _ => N3)
    all_goals (have N4 := fun q hq => N3 q (List.mem_of_mem_drop (i := 2) hq))
    · exact fin _ _ _ (mf_1 (by assumption)) (by assumption) ⟨_, _, N4⟩
    · exact fin _ _ _ (mf_2 (by assumption) (by assumption)) (by assumption) ⟨_, _, N4⟩
    · exact fin _ _ _ (mf_3 (by assumption)) (by assumption) ⟨_, _, N4⟩
    · exact fin _ _ _ (mf_4 (by assumption) (by assumption)) (by assumption) ⟨_, _, N4⟩
    · subst_vars
      exact fin _ _ _ (mf_5 (by omega) (by assumption) (by assumption)) (by assumption) ⟨_, _, N4⟩
    · exact fin _ _ _ (mf_out (by omega)) (by assumption) ⟨_, _, N3⟩

end
section
set_option maxRecDepth 100000
set_option maxHeartbeats 400000
set_option linter.unusedVariables false
theorem words_Met_0 : True := by
  k_with_none
  trivial
open PySem PySem.W PySem.Calls PyProof.Rows
theorem words_Met_1 : True := by
  k_with "k_room" => ((try simp only [depth_under_make, depth_under_kw, depth_in1, depth_deeper, depth_mark]); (try dsimp only); (show (_ : Nat) < 1000); first | (refine Nat.lt_of_le_of_lt (by with_reducible assumption) ?_; decide) | (refine Nat.lt_of_le_of_lt (Nat.add_le_add_right (by with_reducible assumption) 1) ?_; decide) | (refine Nat.lt_of_le_of_lt (Nat.add_le_add_right (Nat.add_le_add_right (by with_reducible assumption) 1) 1) ?_; decide) | omega)
  k_with "LeaveC" => ((refine' leaveC_ ?k1 ?k2 ?_; (case k1 => k_asm); (case k2 => k_asm); intro _))
  k_with "my num" => ((try simp only [Around.deeper_units, depth_deeper, depth_under_make, depth_under_kw, depth_in1, depth_mark]); (try dsimp only); first | (refine Nat.le_trans (by with_reducible assumption) ?_; decide) | (refine Nat.le_trans (Nat.add_le_add_right (by with_reducible assumption) 1) ?_; decide) | (refine Nat.le_trans (Nat.add_le_add_right (Nat.add_le_add_right (by with_reducible assumption) 1) 1) ?_; decide) | omega)
  trivial

section
variable {w : World} {A₀ : Around} {s : Shared} {base h₀ : Heap} {outer : List Env} {p : Program} {loose : List Str} {mean : ExcName → Option Value} {mg mb : Str → Option Value}
    {L af : Addr} {m : Str → Option Value} {name : Str} {scope : Scope} {cd : Value} {news : List (Addr × Obj)} {Q : Value → Shared → Prop} {E : Value → Shared → Prop}
    {e de : Addr} {D : List UInt8} {num one two : Int} {wv : Value} {j1 j2 j3 to tt tD tn : Tok}
theorem fr_ext0 {h h' : Heap} (F : Fr h₀ L h m) (x : ExtBy [] h h') : Fr h₀ L h' m := fr_after F x (fun q => nomatch q) (fun _ q => nomatch q)
theorem news_ext0 {h h' : Heap} (N : News h₀ L h news) (x : ExtBy [] h h') : News h₀ L h' news := news_after N x (fun _ _ q => nomatch q)
theorem meets_K (B : Below A₀ base outer h₀) (X : (pre.heap_1 w.params).In base) (T : Top p loose mean mg mb base) (F : Fr h₀ L s.heap m) (N : News h₀ L s.heap news)
    (he : (e, instObj 535 de) ∈ news) (hde : (de, entD w wv one two j1 j2 j3 to tt) ∈ news) (hne : @LT.lt Nat _ de e) (hA : A₀.depth ≤ 590) (hu : A₀.units ≤ 190) (hk : scope.kind = .function) (hD : D.length ≤ 1000) (hf : ∀ k, figs (D.drop k) ≤ 3)
    (h : ∀ h' tk', Fr h₀ L h' m → News h₀ L h' news → Q (.bool (meetsF D num one two)) {s with heap := h', toks := tk'}) :
    wpAny (model PySem.Challenge.rw_nn0135_01.row.prog w) (A₀.deeper (envOf name scope L af cd)) (call (.ref 483) [.bytes D.toArray tD, .int num tn, .ref e]) Q E s := by
  refine wpAny_call (meets_ok (S := ⟨B.push F hk, X, T⟩) (hA := ?_) (hu := ?_) (he := (N _ he).1) (hde := (N _ hde).1) hne (own_news B N he) (own_news B N hde) hD hf ?_)
  · rw [depth_deeper]; omega
  · rw [Around.deeper_units]; omega
  · intro h' tk' x
    exact h h' tk' (fr_ext0 F x) (news_ext0 N x)
end
theorem words_Met_2 : True := by
  k_with "call ref" => (((with_reducible show wpAny _ _ (call (Value.ref 483) [Value.bytes _ _, Value.int _ _, Value.ref _]) _ _ _); k_dflt (refine' meets_K ?kB ?kX ?kT ?kF ?kN ?kc ?kd ?kne ?kA ?ku ?kk ?kD ?kf ?_; (case kB => k_asm); (case kX => k_asm); (case kT => k_asm); (case kF => k_asm); (case kN => k_asm); (case kc => k_mem); (case kd => k_mem); (case kne => (first | assumption | omega)); (case kA => walk_at "my num"); (case ku => walk_at "my num"); (case kk => exact rfl); (case kD => assumption); (case kf => assumption); k_whole); intro _ _ _ _; (try k_sweep)))
  trivial

def metF (D : List UInt8) (num : Int) (x : Str) (one two : Int) : Bool := if num < 1 then true else if (x != Str.ofString "used") = true then true else meetsF D num one two
theorem met_ok {w : World} {A : Around} {s : Shared} {base : Heap} {outer : List Env} {p : Program} {loose : List Str} {mean : ExcName → Option Value} {mg mb : Str → Option Value}
    {R : Result → Shared → Prop} {e de : Addr} {D : List UInt8} {num one two : Int} {x : Str} {tx j1 j2 j3 to tt tD tn : Tok}
    (S : Site A base outer p loose mean mg mb (pre.heap_1 w.params) s.heap) (hA : A.depth ≤ 550) (hu : A.units ≤ 150)
    (he : s.heap.get? e = some (instObj 535 de)) (hde : s.heap.get? de = some (entD w (.str x tx) one two j1 j2 j3 to tt)) (hne : @LT.lt Nat _ de e)
    (oe : OwnAt base outer e) (ode : OwnAt base outer de) (hD : D.length ≤ 1000) (hf : ∀ k, figs (D.drop k) ≤ 3)
    (hR : ∀ h' tk', ExtBy [] s.heap h' → R (.ok (.ret (.bool (metF D num x one two)))) {s with heap := h', toks := tk'}) :
    codeAny (model PySem.Challenge.rw_nn0135_01.row.prog w) A (.call (.ref 504) ⟨[.bytes D.toArray tD, .int num tn, .ref e], []⟩) R s := by
  have XB := S.X
  have TB := S.T
  obtain ⟨hdl, dp, fr, gs, us⟩ := A
  have hfr := S.B.stack
  dsimp only at hfr hA hu
  subst hfr
  revert S
  k_fill
  intro S
  refine' enter (binds := [(Str.ofString "data", .bytes D.toArray tD), (Str.ofString "number", .int num tn), (Str.ofString "entry", .ref e)]) [(e, instObj 535 de), (de, entD w (.str x tx) one two j1 j2 j3 to tt)] S ?hn ?k6 ?k7 ?k8 ?k9 ?kB ?_ ?c2 ?c3 ?c4 ?c5
  case hn => intro q hq; rcases List.mem_cons.mp hq with rfl | hq; exact ⟨he, oe⟩; rcases List.mem_cons.mp hq with rfl | hq; exact ⟨hde, ode⟩; cases hq
  case k6 => k_is
  case k7 => k_is
  case k8 => k_room
  case k9 => exact BindsTo.of_eq rfl
  case c5 => decide
  case kB => exact locs rfl
  case c2 => exact rfl
  case c3 => exact rfl
  case c4 => exact rfl
  clear S
  intro g' L' h' F' N' B' X' T' l1
  simp only [AllLt, and_true] at l1
  (try dsimp only)
  (show wpAny _ _ _ _ _ _)
  k_fold
  have hsz : D.toArray.size = D.length := List.size_toArray
  have fin : ∀ (b : Bool) hh tk, metF D num x one two = b → ExtBy [e, de] s.heap hh → (∃ g L, News g L hh [(e, instObj 535 de), (de, entD w (.str x tx) one two j1 j2 j3 to tt)]) → R (.ok (.ret (.bool b))) {s with heap := hh, toks := tk} := by
    rintro b hh tk rfl x ⟨g, L, N⟩
    exact hR hh tk (x.less fun a ha => by
      rcases List.mem_cons.mp ha with rfl | ha
      · exact .inr ⟨_, he, N.get (.head _)⟩
      · rcases List.mem_cons.mp ha with rfl | ha
        · exact .inr ⟨_, hde, N.get (.tail _ (.head _))⟩
        · cases ha)
  k_steps
  · exact fin _ _ _ (by unfold metF; rw [if_pos (by assumption)]; exact (decide_eq_true (by assumption)).symm) (by assumption) ⟨_, _, by assumption⟩
  · exact fin _ _ _ (by unfold metF; rw [if_neg (by assumption), if_pos (by assumption)]; exact Eq.symm (by assumption)) (by assumption) ⟨_, _, by assumption⟩
  · exact fin _ _ _ (by unfold metF; rw [if_neg (by assumption), if_neg (Bool.eq_false_iff.mp (by assumption))]) (by assumption) ⟨_, _, by assumption⟩
section
variable {w : World} {A₀ : Around} {s : Shared} {base h₀ : Heap} {outer : List Env} {p : Program} {loose : List Str} {mean : ExcName → Option Value} {mg mb : Str → Option Value}
    {L af : Addr} {m : Str → Option Value} {name : Str} {scope : Scope} {cd : Value} {news : List (Addr × Obj)} {Q : Value → Shared → Prop} {E : Value → Shared → Prop}
    {e de : Addr} {D : List UInt8} {num one two : Int} {x : Str} {tx j1 j2 j3 to tt tD tn : Tok}
theorem met_K (B : Below A₀ base outer h₀) (X : (pre.heap_1 w.params).In base) (T : Top p loose mean mg mb base) (F : Fr h₀ L s.heap m) (N : News h₀ L s.heap news)
    (he : (e, instObj 535 de) ∈ news) (hde : (de, entD w (.str x tx) one two j1 j2 j3 to tt) ∈ news) (hne : @LT.lt Nat _ de e) (hA : A₀.depth ≤ 540) (hu : A₀.units ≤ 140) (hk : scope.kind = .function) (hD : D.length ≤ 1000) (hf : ∀ k, figs (D.drop k) ≤ 3)
    (h : ∀ h' tk', Fr h₀ L h' m → News h₀ L h' news → Q (.bool (metF D num x one two)) {s with heap := h', toks := tk'}) :
    wpAny (model PySem.Challenge.rw_nn0135_01.row.prog w) (A₀.deeper (envOf name scope L af cd)) (call (.ref 504) [.bytes D.toArray tD, .int num tn, .ref e]) Q E s := by
  refine wpAny_call (met_ok (S := ⟨B.push F hk, X, T⟩) (hA := ?_) (hu := ?_) (he := (N _ he).1) (hde := (N _ hde).1) hne (own_news B N he) (own_news B N hde) hD hf ?_)
  · rw [depth_deeper]; omega
  · rw [Around.deeper_units]; omega
  · intro h' tk' x
    exact h h' tk' (fr_ext0 F x) (news_ext0 N x)
end

end
section
set_option maxRecDepth 100000
set_option maxHeartbeats 400000
set_option linter.unusedVariables false
open PySem PySem.W PySem.Calls PyProof.Rows PySem.Builtin
theorem enc_0 (t u : Tok) : «str.encode» ⟨[.str (Str.ofString "0") t, .str (Str.ofString "ascii") u], []⟩ = (mkBytes #[48] >>= fun v => ret v) := by kernel_rfl
theorem enc_1 (t u : Tok) : «str.encode» ⟨[.str (Str.ofString "1") t, .str (Str.ofString "ascii") u], []⟩ = (mkBytes #[49] >>= fun v => ret v) := by kernel_rfl
theorem enc_2 (t u : Tok) : «str.encode» ⟨[.str (Str.ofString "2") t, .str (Str.ofString "ascii") u], []⟩ = (mkBytes #[50] >>= fun v => ret v) := by kernel_rfl
theorem enc_11 (t u : Tok) : «str.encode» ⟨[.str (Str.ofString "11") t, .str (Str.ofString "ascii") u], []⟩ = (mkBytes #[49, 49] >>= fun v => ret v) := by kernel_rfl
def figB (v : Int) : List UInt8 := [UInt8.ofNat (48 + v.toNat)]
def menu4 {α : Type} (a b c d : α) (k : Int) : α := if k = 0 then a else if k = 1 then b else if k = 2 then c else d
def menu2 {α : Type} (a b : α) (k : Int) : α := if k = 0 then a else b
section
variable {prog : Program} {w : World} {A : Around} {E : Value → Shared → Prop} {s : Shared} {Q : Value → Shared → Prop}
theorem getMethod_encode {M : Model} {x : Str} {t : Tok} {pl : Sem Bool} {Q : Value × List Value → Shared → Prop} (h : Q (.builtin "str.encode", [.str x t]) s) : wpAny M A (getMethod (.str x t) (Str.ofString "encode") pl) Q E s :=
  getMethod_builtin (typeIs_str _ _ _) PySem.F.plainAttrs_str PySem.F.slot_str_encode PySem.F.type_str_encode (fun _ e => nomatch e) h
theorem call_enc {x : Str} {t u : Tok} {b : Array UInt8} (hb : b.size ≤ 100) (e : «str.encode» ⟨[.str x t, .str (Str.ofString "ascii") u], []⟩ = (mkBytes b >>= fun v => ret v))
    (h : ∀ t' k, Q (.bytes b t') { s with toks := k }) : wpAny (model prog w) A (call (.builtin "str.encode") [.str x t, .str (Str.ofString "ascii") u]) Q E s := by
  refine call_meets (S := fun _ R s => ∀ t' k, R (.ok (.ret (.bytes b t'))) { s with toks := k }) PySem.F.slot_str_encode (typeIs_str _ _ _) PySem.F.entry_str_encode (PySem.F.args_str_encode_2 _ _) ?_ h
  intro prog w A R s hS
  rw [e]
  refine wpAny_bind ?_
  unfold mkBytes
  rw [if_neg (by rw [sizeLine_eq]; omega)]
  exact fun _ _ _ => fun _ _ _ => hS _ _
theorem figs_cases {v : Int} (h0 : 0 ≤ v) (h1 : v < 3) : v = 0 ∨ v = 1 ∨ v = 2 := by omega
theorem call_enc_gen {v : Int} {t u : Tok} (h0 : 0 ≤ v) (h1 : v < 3) (h : ∀ t' k, Q (.bytes (figB v).toArray t') { s with toks := k }) :
    wpAny (model prog w) A (call (.builtin "str.encode") [.str (Str.ofString (toString v)) t, .str (Str.ofString "ascii") u]) Q E s := by
  rcases figs_cases h0 h1 with rfl | rfl | rfl
  · exact call_enc (b := #[48]) (by decide) (enc_0 _ _) h
  · exact call_enc (b := #[49]) (by decide) (enc_1 _ _) h
  · exact call_enc (b := #[50]) (by decide) (enc_2 _ _) h
theorem call_enc_11 {t u : Tok} (h : ∀ t' k, Q (.bytes [49, 49].toArray t') { s with toks := k }) :
    wpAny (model prog w) A (call (.builtin "str.encode") [.str (Str.ofString (toString (11 : Int))) t, .str (Str.ofString "ascii") u]) Q E s :=
  call_enc (b := #[49, 49]) (by decide) (enc_11 _ _) h
theorem add_bytesL {x y : List UInt8} {t u : Tok} (hsz : x.length + y.length ≤ 100000) (h : ∀ t' k, Q (.bytes (x ++ y).toArray t') { s with toks := k }) :
    wpAny (model prog w) A (binaryOp .Add (.bytes x.toArray t) (.bytes y.toArray u)) Q E s :=
  KBy.add_bytes (by simp only [List.size_toArray]; omega) (fun t' k => by rw [List.append_toArray]; exact h t' k)
end
section
variable {prog : Program} {w : World} {A : Around} {E : Value → Shared → Prop} {s : Shared} {Q : Value → Shared → Prop} {h₀ : Heap} {L l : Addr} {news : List (Addr × Obj)} {value slice : Expr} {k : Int} {n : Nat} {t0 t1 t2 t3 ku : Tok}
theorem sub_B4 {a b c d : List UInt8} (N : News h₀ L s.heap news) (hm : (l, listOf #[.bytes a.toArray t0, .bytes b.toArray t1, .bytes c.toArray t2, .bytes d.toArray t3] n) ∈ news) (h0 : 0 ≤ k) (h1 : k < 4)
    (h : ∀ t', Q (.bytes (menu4 a b c d k).toArray t') s)
    (hs : subscripted slice false (.ref l) (.int k ku) = operate [.ref l, .int k ku] (getItem (.ref l) (.int k ku)) := by with_unfolding_all rfl) :
    wpAny (model prog w) A (subscriptTail value slice (.ref l) (.int k ku)) Q E s := by
  have hl := PySem.IsL.isList (n := n) (N _ hm).1
  refine tail_any hl.typeIs slot_list_getitem.lookup (wpAny_getItem_list hl h0 (by omega) (x := .bytes (menu4 a b c d k).toArray (menu4 t0 t1 t2 t3 k)) ?_ (h _)) hs
  rcases cases4' h0 h1 with rfl | rfl | rfl | rfl <;> rfl
theorem sub_B2 {a b : List UInt8} (N : News h₀ L s.heap news) (hm : (l, listOf #[.bytes a.toArray t0, .bytes b.toArray t1] n) ∈ news) (h0 : 0 ≤ k) (h1 : k < 2)
    (h : ∀ t', Q (.bytes (menu2 a b k).toArray t') s)
    (hs : subscripted slice false (.ref l) (.int k ku) = operate [.ref l, .int k ku] (getItem (.ref l) (.int k ku)) := by with_unfolding_all rfl) :
    wpAny (model prog w) A (subscriptTail value slice (.ref l) (.int k ku)) Q E s := by
  have hl := PySem.IsL.isList (n := n) (N _ hm).1
  refine tail_any hl.typeIs slot_list_getitem.lookup (wpAny_getItem_list hl h0 (by omega) (x := .bytes (menu2 a b k).toArray (menu2 t0 t1 k)) ?_ (h _)) hs
  rcases cases2' h0 h1 with rfl | rfl <;> rfl
theorem sub_I2 {a b : Int} (N : News h₀ L s.heap news) (hm : (l, listOf #[.int a t0, .int b t1] n) ∈ news) (h0 : 0 ≤ k) (h1 : k < 2)
    (h : ∀ t', Q (.int (menu2 a b k) t') s)
    (hs : subscripted slice false (.ref l) (.int k ku) = operate [.ref l, .int k ku] (getItem (.ref l) (.int k ku)) := by with_unfolding_all rfl) :
    wpAny (model prog w) A (subscriptTail value slice (.ref l) (.int k ku)) Q E s := by
  have hl := PySem.IsL.isList (n := n) (N _ hm).1
  refine tail_any hl.typeIs slot_list_getitem.lookup (wpAny_getItem_list hl h0 (by omega) (x := .int (menu2 a b k) (menu2 t0 t1 k)) ?_ (h _)) hs
  rcases cases2' h0 h1 with rfl | rfl <;> rfl
theorem sub_S2 {a b : Str} (N : News h₀ L s.heap news) (hm : (l, listOf #[.str a t0, .str b t1] n) ∈ news) (h0 : 0 ≤ k) (h1 : k < 2)
    (h : ∀ t', Q (.str (menu2 a b k) t') s)
    (hs : subscripted slice false (.ref l) (.int k ku) = operate [.ref l, .int k ku] (getItem (.ref l) (.int k ku)) := by with_unfolding_all rfl) :
    wpAny (model prog w) A (subscriptTail value slice (.ref l) (.int k ku)) Q E s := by
  have hl := PySem.IsL.isList (n := n) (N _ hm).1
  refine tail_any hl.typeIs slot_list_getitem.lookup (wpAny_getItem_list hl h0 (by omega) (x := .str (menu2 a b k) (menu2 t0 t1 k)) ?_ (h _)) hs
  rcases cases2' h0 h1 with rfl | rfl <;> rfl
end
def In4 (a b c d g : List UInt8) : Prop := g = a ∨ g = b ∨ g = c ∨ g = d
def In2 (a b g : List UInt8) : Prop := g = a ∨ g = b
section
variable {prog : Program} {w : World} {A : Around} {E : Value → Shared → Prop} {s : Shared} {Q : Value → Shared → Prop} {h₀ : Heap} {L l : Addr} {news : List (Addr × Obj)} {value slice : Expr} {k : Int} {n : Nat} {t0 t1 t2 t3 ku : Tok}
theorem sub_B4' {a b c d : List UInt8} (N : News h₀ L s.heap news) (hm : (l, listOf #[.bytes a.toArray t0, .bytes b.toArray t1, .bytes c.toArray t2, .bytes d.toArray t3] n) ∈ news) (h0 : 0 ≤ k) (h1 : k < 4)
    (hn : a.length ≤ 20 ∧ b.length ≤ 20 ∧ c.length ≤ 20 ∧ d.length ≤ 20)
    (h : ∀ g t', In4 a b c d g → g.length ≤ 20 → Q (.bytes g.toArray t') s)
    (hs : subscripted slice false (.ref l) (.int k ku) = operate [.ref l, .int k ku] (getItem (.ref l) (.int k ku)) := by with_unfolding_all rfl) :
    wpAny (model prog w) A (subscriptTail value slice (.ref l) (.int k ku)) Q E s := by
  refine sub_B4 N hm h0 h1 (fun t' => h _ t' ?_ ?_) hs
  · rcases cases4' h0 h1 with rfl | rfl | rfl | rfl
    · exact .inl rfl
    · exact .inr (.inl rfl)
    · exact .inr (.inr (.inl rfl))
    · exact .inr (.inr (.inr rfl))
  · rcases cases4' h0 h1 with rfl | rfl | rfl | rfl
    · exact hn.1
    · exact hn.2.1
    · exact hn.2.2.1
    · exact hn.2.2.2
theorem sub_B2' {a b : List UInt8} (N : News h₀ L s.heap news) (hm : (l, listOf #[.bytes a.toArray t0, .bytes b.toArray t1] n) ∈ news) (h0 : 0 ≤ k) (h1 : k < 2)
    (hn : a.length ≤ 20 ∧ b.length ≤ 20)
    (h : ∀ g t', In2 a b g → g.length ≤ 20 → Q (.bytes g.toArray t') s)
    (hs : subscripted slice false (.ref l) (.int k ku) = operate [.ref l, .int k ku] (getItem (.ref l) (.int k ku)) := by with_unfolding_all rfl) :
    wpAny (model prog w) A (subscriptTail value slice (.ref l) (.int k ku)) Q E s := by
  refine sub_B2 N hm h0 h1 (fun t' => h _ t' ?_ ?_) hs
  · rcases cases2' h0 h1 with rfl | rfl
    · exact .inl rfl
    · exact .inr rfl
  · rcases cases2' h0 h1 with rfl | rfl
    · exact hn.1
    · exact hn.2
theorem len_L {x : List UInt8} {t : Tok} (hf : x.length ≤ 100000) (h : ∀ t' k, Q (.int (x.length : Int) t') { s with toks := k }) : wpAny (model prog w) A (call (.builtin "len") [.bytes x.toArray t]) Q E s :=
  len_bytes (by rw [List.size_toArray]; omega) (by rw [List.size_toArray]; exact h _ _)
theorem figB_len (v : Int) : (figB v).length = 1 := rfl
end
def App (z x y : List UInt8) : Prop := z = x ++ y
def IsFig (z : List UInt8) (v : Int) : Prop := z = figB v
section
variable {prog : Program} {w : World} {A : Around} {E : Value → Shared → Prop} {s : Shared} {Q : Value → Shared → Prop}
theorem add_L {x y : List UInt8} {t u : Tok} (hsz : x.length + y.length ≤ 100000) (h : ∀ z t' k, App z x y → z.length = x.length + y.length → Q (.bytes z.toArray t') { s with toks := k }) :
    wpAny (model prog w) A (binaryOp .Add (.bytes x.toArray t) (.bytes y.toArray u)) Q E s :=
  add_bytesL hsz fun t' k => h _ t' k rfl List.length_append
theorem enc_L {v : Int} {t u : Tok} (h0 : 0 ≤ v) (h1 : v < 3) (h : ∀ z t' k, IsFig z v → z.length = 1 → Q (.bytes z.toArray t') { s with toks := k }) :
    wpAny (model prog w) A (call (.builtin "str.encode") [.str (Str.ofString (toString v)) t, .str (Str.ofString "ascii") u]) Q E s :=
  call_enc_gen h0 h1 fun t' k => h _ t' k rfl rfl
end
def Or2 {α : Type} (a b o : α) : Prop := o = a ∨ o = b
section
variable {prog : Program} {w : World} {A : Around} {E : Value → Shared → Prop} {s : Shared} {Q : Value → Shared → Prop} {h₀ : Heap} {L l : Addr} {news : List (Addr × Obj)} {value slice : Expr} {k : Int} {n : Nat} {t0 t1 ku : Tok}
theorem sub_I2' {a b : Int} (N : News h₀ L s.heap news) (hm : (l, listOf #[.int a t0, .int b t1] n) ∈ news) (h0 : 0 ≤ k) (h1 : k < 2)
    (h : ∀ o t', Or2 a b o → Q (.int o t') s)
    (hs : subscripted slice false (.ref l) (.int k ku) = operate [.ref l, .int k ku] (getItem (.ref l) (.int k ku)) := by with_unfolding_all rfl) :
    wpAny (model prog w) A (subscriptTail value slice (.ref l) (.int k ku)) Q E s := by
  refine sub_I2 N hm h0 h1 (fun t' => h _ t' ?_) hs
  rcases cases2' h0 h1 with rfl | rfl
  · exact .inl rfl
  · exact .inr rfl
theorem sub_S2' {a b : Str} (N : News h₀ L s.heap news) (hm : (l, listOf #[.str a t0, .str b t1] n) ∈ news) (h0 : 0 ≤ k) (h1 : k < 2)
    (h : ∀ o t', Or2 a b o → Q (.str o t') s)
    (hs : subscripted slice false (.ref l) (.int k ku) = operate [.ref l, .int k ku] (getItem (.ref l) (.int k ku)) := by with_unfolding_all rfl) :
    wpAny (model prog w) A (subscriptTail value slice (.ref l) (.int k ku)) Q E s := by
  refine sub_S2 N hm h0 h1 (fun t' => h _ t' ?_) hs
  rcases cases2' h0 h1 with rfl | rfl
  · exact .inl rfl
  · exact .inr rfl
theorem fm2 (x : Int) : 0 ≤ x.fmod 2 ∧ x.fmod 2 < 2 := fm (by decide)
end
section
variable {prog : Program} {w : World} {A : Around} {E : Value → Shared → Prop} {s : Shared} {Q : Value → Shared → Prop} {h₀ : Heap} {L l nm : Addr} {news : List (Addr × Obj)} {value slice : Expr} {k x1 x2 x3 x4 x5 : Int} {n : Nat} {t1 t2 t3 t4 t5 ku : Tok}
theorem sub_V8 (N : News h₀ L s.heap news) (hm : (l, listOf #[.none, .int x1 t1, .int x2 t2, .int x3 t3, .int x4 t4, .int x5 t5, .bool true, .ref nm] n) ∈ news) (h0 : 0 ≤ k) (h1 : k < 8)
    (hA : Q .none s) (hB : ∀ x t, Q (.int x t) s) (hC : Q (.bool true) s) (hD : Q (.ref nm) s)
    (hs : subscripted slice false (.ref l) (.int k ku) = operate [.ref l, .int k ku] (getItem (.ref l) (.int k ku)) := by with_unfolding_all rfl) :
    wpAny (model prog w) A (subscriptTail value slice (.ref l) (.int k ku)) Q E s := by
  have hl := PySem.IsL.isList (n := n) (N _ hm).1
  have go : ∀ v, #[Value.none, .int x1 t1, .int x2 t2, .int x3 t3, .int x4 t4, .int x5 t5, .bool true, .ref nm][k.toNat]? = some v → Q v s → wpAny (model prog w) A (subscriptTail value slice (.ref l) (.int k ku)) Q E s :=
    fun v e q => tail_any hl.typeIs slot_list_getitem.lookup (wpAny_getItem_list hl h0 (by omega) (x := v) e q) hs
  have c := cases8' h0 h1
  rcases c with rfl | rfl | rfl | rfl | rfl | rfl | rfl | rfl
  · exact go _ rfl hA
  · exact go _ rfl (hB _ _)
  · exact go _ rfl (hB _ _)
  · exact go _ rfl (hB _ _)
  · exact go _ rfl (hB _ _)
  · exact go _ rfl (hB _ _)
  · exact go _ rfl hC
  · exact go _ rfl hD
end

end
section
set_option maxRecDepth 100000
set_option linter.unusedVariables false
open PySem PySem.W PySem.Calls PyProof.Rows
section
variable {prog : Program} {w : World} {A : Around} {E : Value → Shared → Prop} {h₀ : Heap} {env : Env} {target : Expr} {body : List Stmt} {Q : Flow → Shared → Prop} {s : Shared} {ws : List (Addr × String)} {keep : List (Addr × Obj)}
theorem allObj_mono : ∀ {ws : List (Addr × String)} {k k' : List (Addr × Obj) → Prop}, (∀ its, k its → k' its) → AllObj ws k → AllObj ws k'
  | [], _, _, h, x => h _ x
  | _ :: _, _, _, h, x => fun o hc => allObj_mono (fun its => h _) (x o hc)
theorem news_sub {h : Heap} {L : Addr} {n n' : List (Addr × Obj)} (N : News h₀ L h n') (hs : ∀ p ∈ n, p ∈ n') : News h₀ L h n := fun p hp => N p (hs p hp)
theorem app_sub {its n n' : List (Addr × Obj)} (hs : ∀ p ∈ n, p ∈ n') : ∀ p ∈ its ++ n, p ∈ its ++ n' := fun p hp => by
  rcases List.mem_append.mp hp with hp | hp
  · exact List.mem_append.mpr (.inl hp)
  · exact List.mem_append.mpr (.inr (hs p hp))
theorem items_mono {r : List Itm} {m : Str → Option Value} {n n' : List (Addr × Obj)} (hs : ∀ p ∈ n, p ∈ n') (h : ItemsRest prog w A E h₀ env target body Q s ws keep r m n) : ItemsRest prog w A E h₀ env target body Q s ws keep r m n' := by
  cases r with
  | nil => exact fun h' tk F N => h h' tk F (news_sub N hs)
  | cons a r => exact fun v h' tk ha F => allObj_mono (fun its k N => k (news_sub N (app_sub hs))) (h v h' tk ha F)
def Held (Inv : List (Addr × Obj) → List (Str × Value) → Prop) (m : Str → Option Value) (n : List (Addr × Obj)) : Prop := ∃ led kns, Inv led kns ∧ (∀ p ∈ led, p ∈ n) ∧ KnAll m kns
end

end
section
set_option maxRecDepth 100000
set_option linter.unusedVariables false
open PySem PySem.W PySem.Calls PyProof.Rows
def digs (n : Int) : List UInt8 := if n = 11 then [49, 49] else figB n
def tailB : List UInt8 := [32, 53, 32, 101, 110, 100, 111, 98, 106, 10]
def seg (g : List UInt8) (n v : Int) (o : List UInt8) : List UInt8 := g ++ digs n ++ [32] ++ figB v ++ o ++ tailB
abbrev G4 := In4 [] [32] [10, 13, 32] [37, 99, 10]
abbrev O2 := In2 [32, 111, 98, 106] [10, 111, 98, 106, 32]
def Built : List UInt8 → List (Int × Int × Int × Int) → Prop
  | z, [] => z = [37, 120, 10]
  | z, q :: r => ∃ y g o, Built y r ∧ G4 g ∧ O2 o ∧ z = y ++ seg g q.1 q.2.1 o ∧ q.2.2.1 = y.length ∧ q.2.2.2 = y.length + g.length ∧ 0 ≤ q.2.1 ∧ q.2.1 < 3
theorem built_step {z z2 z3 z4 z5 z6 y g d f o : List UInt8} {r : List (Int × Int × Int × Int)} {n v : Int} (B : Built y r) (hz : App z z6 [32, 53, 32, 101, 110, 100, 111, 98, 106, 10]) (h6 : App z6 z5 o) (ho : In2 [32, 111, 98, 106] [10, 111, 98, 106, 32] o)
    (h5 : App z5 z4 f) (hf : IsFig f v) (h4 : App z4 z3 [32]) (h3 : App z3 z2 d) (h2 : App z2 y g) (hg : In4 [] [32] [10, 13, 32] [37, 99, 10] g) (hd : d = digs n) (hv0 : 0 ≤ v) (hv1 : v < 3) :
    Built z ((n, v, (y.length : Int), (y.length : Int) + g.length) :: r) := by
  refine ⟨y, g, o, B, hg, ho, ?_, rfl, rfl, hv0, hv1⟩
  rw [hz, h6, h5, h4, h3, h2, hd, hf]
  simp only [seg, tailB, List.append_assoc]
abbrev plO (n v b p : Int) (tn tv tb tp : Tok) : Obj := { cls := .type "tuple", data := .seq #[.int n tn, .int v tv, .int b tb, .int p tp] }

end
section
set_option maxRecDepth 100000
set_option linter.unusedVariables false
open PySem PySem.W PySem.Calls PyProof.Rows
def NR (l : List UInt8) : Prop := ∀ k, figs (l.drop k) ≤ 3
theorem figs_sep {c : UInt8} (hc : isFig c = false) : ∀ (a s : List UInt8), figs (a ++ c :: s) = figs a
  | [], s => by simp [figs, hc]
  | b :: a, s => by simp only [List.cons_append, figs, figs_sep hc a s]
theorem nr_sep {c : UInt8} (hc : isFig c = false) {a s : List UInt8} (ha : NR a) (hs : NR s) : NR (a ++ c :: s) := by
  intro k
  by_cases hk : k ≤ a.length
  · rw [List.drop_append_of_le_length hk, figs_sep hc]; exact ha k
  · obtain ⟨j, rfl⟩ : ∃ j, k = a.length + (j + 1) := ⟨k - a.length - 1, by omega⟩
    rw [← List.drop_drop, List.drop_left, List.drop_succ_cons]; exact hs j
theorem nr_short {l : List UInt8} (h : l.length ≤ 3) : NR l := fun k => by
  have := figs_le (l.drop k)
  rw [List.length_drop] at this
  omega
theorem nr_gap {g d : List UInt8} (hg : G4 g) (hd : d.length ≤ 3) : NR (g ++ d) := by
  have hn : NR ([] : List UInt8) := nr_short (by decide)
  rcases hg with rfl | rfl | rfl | rfl
  · exact nr_short hd
  · exact nr_sep (a := []) (c := 32) (by decide) hn (nr_short hd)
  · exact nr_sep (a := []) (c := 10) (by decide) hn (nr_sep (a := []) (c := 13) (by decide) hn (nr_sep (a := []) (c := 32) (by decide) hn (nr_short hd)))
  · exact nr_sep (a := []) (c := 37) (by decide) hn (nr_sep (a := []) (c := 99) (by decide) hn (nr_sep (a := []) (c := 10) (by decide) hn (nr_short hd)))
theorem digs_len (n : Int) : (digs n).length ≤ 2 := by unfold digs; split; decide; rw [figB_len]; decide
theorem nr_tail : NR ([111, 98, 106] ++ 32 :: ([53] ++ 32 :: ([101, 110, 100] ++ 111 :: ([98, 106, 10])))) :=
  nr_sep (by decide) (nr_short (by decide)) (nr_sep (by decide) (nr_short (by decide)) (nr_sep (by decide) (nr_short (by decide)) (nr_short (by decide))))
theorem nr_tail2 : NR ([111, 98, 106] ++ 32 :: ([] ++ 32 :: ([53] ++ 32 :: ([101, 110, 100] ++ 111 :: ([98, 106, 10]))))) :=
  nr_sep (by decide) (nr_short (by decide)) (nr_sep (by decide) (nr_short (by decide)) (nr_sep (by decide) (nr_short (by decide)) (nr_sep (by decide) (nr_short (by decide)) (nr_short (by decide)))))
theorem nr_seg {g o : List UInt8} (n v : Int) (hg : G4 g) (ho : O2 o) : NR (seg g n v o) := by
  unfold seg tailB
  rcases ho with rfl | rfl
  · have h := nr_sep (c := 32) (by decide) (nr_gap hg (Nat.le_trans (digs_len n) (by decide))) (nr_sep (a := figB v) (c := 32) (by decide) (nr_short (by rw [figB_len]; decide)) nr_tail)
    simpa [List.append_assoc] using h
  · have h := nr_sep (c := 32) (by decide) (nr_gap hg (Nat.le_trans (digs_len n) (by decide))) (nr_sep (a := figB v) (c := 10) (by decide) (nr_short (by rw [figB_len]; decide)) nr_tail2)
    simpa [List.append_assoc] using h
theorem seg_end (g o : List UInt8) (n v : Int) : ∃ y, seg g n v o = y ++ [10] := ⟨g ++ digs n ++ [32] ++ figB v ++ o ++ [32, 53, 32, 101, 110, 100, 111, 98, 106], by simp [seg, tailB, List.append_assoc]⟩
theorem built_nr : ∀ {ps : List (Int × Int × Int × Int)} {z : List UInt8}, Built z ps → NR z ∧ ∃ y, z = y ++ [10]
  | [], z, h => by
    have e : z = [37, 120, 10] := h
    subst e
    exact ⟨nr_short (by decide), [37, 120], rfl⟩
  | q :: r, z, ⟨y, g, o, B, hg, ho, e, _⟩ => by
    subst e
    obtain ⟨h1, y', hy⟩ := built_nr B
    obtain ⟨s', hs⟩ := seg_end g o q.1 q.2.1
    subst hy
    refine ⟨?_, y' ++ [10] ++ s', by rw [hs]; simp [List.append_assoc]⟩
    have ha : NR y' := fun k => by
      by_cases hk : k ≤ y'.length
      · have := h1 k
        rw [List.drop_append_of_le_length hk, figs_sep (by decide)] at this
        exact this
      · rw [List.drop_eq_nil_of_le (by omega)]; decide
    have := nr_sep (c := 10) (by decide) ha (nr_seg q.1 q.2.1 hg ho)
    simpa [List.append_assoc] using this
theorem built_figs {ps : List (Int × Int × Int × Int)} {z : List UInt8} (h : Built z ps) : ∀ k, figs (z.drop k) ≤ 3 := (built_nr h).1

def mS (l : List UInt8) (num two : Int) : Bool :=
  let l1 := l.drop (wEnd false l)
  let l2 := l1.drop (figs l1)
  let l3 := l2.drop (wEnd false l2)
  let l4 := l3.drop (figs l3)
  let l5 := l4.drop (wEnd false l4)
  numF l1 == some num && (numF l3 == some two && l5.take (regs l5) == [111, 98, 106])
theorem meetsF_S {D : List UInt8} {o : Nat} {num two : Int} (h : o < D.length) : meetsF D num o two = mS (D.drop o) num two := by
  unfold meetsF mS
  rw [if_pos ⟨by omega, by omega⟩]
  simp only [to_b, List.drop_drop, P1, P2, P3, P4, P5]
def rest (n v : Int) (o post : List UInt8) : List UInt8 := digs n ++ 32 :: (figB v ++ (o ++ (32 :: 53 :: 32 :: post)))
def Pl (z : List UInt8) (n v b p : Int) : Prop := ∃ (bb pp : Nat) (g o post : List UInt8), b = bb ∧ p = pp ∧ G4 g ∧ O2 o ∧ z.drop bb = g ++ rest n v o post ∧ z.drop pp = rest n v o post ∧ bb < z.length ∧ pp + 3 < z.length ∧ (v = 0 ∨ v = 1 ∨ v = 2)
theorem pl_first {z : List UInt8} {n v b p : Int} {r : List (Int × Int × Int × Int)} (B : Built z ((n, v, b, p) :: r)) : Pl z n v b p := by
  obtain ⟨y, g, o, B, hg, ho, e, h1, h2, h3, h4⟩ := B
  dsimp only at e h1 h2 h3 h4
  have hz : z = y ++ (g ++ rest n v o [101, 110, 100, 111, 98, 106, 10]) := by rw [e]; simp [seg, rest, tailB, List.append_assoc]
  refine ⟨y.length, y.length + g.length, g, o, [101, 110, 100, 111, 98, 106, 10], h1, by rw [h2]; simp, hg, ho, ?_, ?_, ?_, ?_, by omega⟩
  · rw [hz, List.drop_left]
  · rw [hz, ← List.append_assoc, ← List.length_append, List.drop_left]
  · rw [hz]; simp [rest]; omega
  · rw [hz]; simp [rest]; omega
theorem pl_app {z s : List UInt8} {n v b p : Int} (h : Pl z n v b p) : Pl (z ++ s) n v b p := by
  obtain ⟨bb, pp, g, o, post, h1, h2, hg, ho, e1, e2, l1, l2, hv⟩ := h
  refine ⟨bb, pp, g, o, post ++ s, h1, h2, hg, ho, ?_, ?_, by rw [List.length_append]; omega, by rw [List.length_append]; omega, hv⟩
  · rw [List.drop_append_of_le_length (by omega), e1]; simp [rest, List.append_assoc]
  · rw [List.drop_append_of_le_length (by omega), e2]; simp [rest, List.append_assoc]
theorem pl_next {z : List UInt8} {n v b p : Int} {q : Int × Int × Int × Int} {r : List (Int × Int × Int × Int)} (B : Built z (q :: r)) (h : ∀ y, Built y r → Pl y n v b p) : Pl z n v b p := by
  obtain ⟨y, g, o, B, hg, ho, e, _⟩ := B
  subst e
  exact pl_app (h y B)
theorem mS_gap {g l : List UInt8} {n two : Int} (hg : G4 g) (hl : ∃ c r, l = c :: r ∧ isFig c = true) : mS (g ++ l) n two = mS l n two := by
  obtain ⟨c, r, rfl, hc⟩ := hl
  have h0 : wEnd false (c :: r) = 0 := by
    have h1 : (c == 37) = false := by
      cases h : c == 37 with
      | false => rfl
      | true => rw [eq_of_beq h] at hc; revert hc; decide
    have h2 : isWhite c = false := by
      cases h : isWhite c with
      | false => rfl
      | true =>
        simp only [isWhite, Bool.or_eq_true, beq_iff_eq] at h
        rcases h with ((((rfl | rfl) | rfl) | rfl) | rfl) | rfl <;> revert hc <;> decide
    simp [wEnd, h1, h2]
  have e : (g ++ (c :: r)).drop (wEnd false (g ++ (c :: r))) = (c :: r).drop (wEnd false (c :: r)) := by
    rw [h0]
    rcases hg with rfl | rfl | rfl | rfl
    · rw [List.nil_append, h0]
    · have : wEnd false ([32] ++ (c :: r)) = wEnd false (c :: r) + 1 := by simp [wEnd, isWhite]
      rw [this, h0]; rfl
    · have : wEnd false ([10, 13, 32] ++ (c :: r)) = wEnd false (c :: r) + 1 + 1 + 1 := by simp [wEnd, isWhite]
      rw [this, h0]; rfl
    · have : wEnd false ([37, 99, 10] ++ (c :: r)) = wEnd false (c :: r) + 1 + 1 + 1 := by simp [wEnd, isWhite]
      rw [this, h0]; rfl
  unfold mS
  rw [e]
theorem rest_fig {n v : Int} {o post : List UInt8} (hn : n = 1 ∨ n = 2 ∨ n = 11) : ∃ c r, rest n v o post = c :: r ∧ isFig c = true := by
  rcases hn with rfl | rfl | rfl
  · exact ⟨49, _, rfl, by decide⟩
  · exact ⟨50, _, rfl, by decide⟩
  · exact ⟨49, _, rfl, by decide⟩
theorem mS_rest {n v : Int} {o post : List UInt8} (hn : n = 1 ∨ n = 2 ∨ n = 11) (hv : v = 0 ∨ v = 1 ∨ v = 2) (ho : O2 o) : mS (rest n v o post) n v = true := by
  rcases hn with rfl | rfl | rfl <;> rcases hv with rfl | rfl | rfl <;> rcases ho with rfl | rfl <;> kernel_rfl
theorem mS_off {n v : Int} {o post : List UInt8} (hn : n = 1 ∨ n = 2 ∨ n = 11) (hv : v = 0 ∨ v = 1 ∨ v = 2) (ho : O2 o) : mS (rest n v o post) n (v + 1) = false := by
  rcases hn with rfl | rfl | rfl <;> rcases hv with rfl | rfl | rfl <;> rcases ho with rfl | rfl <;> kernel_rfl
theorem mS_1 {n v : Int} {o post : List UInt8} (hn : n = 1 ∨ n = 2 ∨ n = 11) (hv : v = 0 ∨ v = 1 ∨ v = 2) (ho : O2 o) : mS ((rest n v o post).drop 1) n v = false := by
  rcases hn with rfl | rfl | rfl <;> rcases hv with rfl | rfl | rfl <;> rcases ho with rfl | rfl <;> kernel_rfl
theorem mS_2 {n v : Int} {o post : List UInt8} (hn : n = 1 ∨ n = 2 ∨ n = 11) (hv : v = 0 ∨ v = 1 ∨ v = 2) (ho : O2 o) : mS ((rest n v o post).drop 2) n v = false := by
  rcases hn with rfl | rfl | rfl <;> rcases hv with rfl | rfl | rfl <;> rcases ho with rfl | rfl <;> kernel_rfl
theorem sl_1 {v : Int} {o post : List UInt8} (hv : v = 0 ∨ v = 1 ∨ v = 2) (ho : O2 o) : (((rest 11 v o post).drop 1).take 3 == [49, 49, 32]) = false := by
  rcases hv with rfl | rfl | rfl <;> rcases ho with rfl | rfl <;> kernel_rfl
theorem sl_2 {v : Int} {o post : List UInt8} (hv : v = 0 ∨ v = 1 ∨ v = 2) (ho : O2 o) : (((rest 11 v o post).drop 2).take 3 == [49, 49, 32]) = false := by
  rcases hv with rfl | rfl | rfl <;> rcases ho with rfl | rfl <;> kernel_rfl
theorem pl_ok {z : List UInt8} {n v b p q : Int} (h : Pl z n v b p) (hn : n = 1 ∨ n = 2 ∨ n = 11) (hq : Or2 b p q) : meetsF z n q v = true := by
  obtain ⟨bb, pp, g, o, post, rfl, rfl, hg, ho, e1, e2, l1, l2, hv⟩ := h
  rcases hq with rfl | rfl
  · rw [meetsF_S l1, e1, mS_gap hg (rest_fig hn)]; exact mS_rest hn hv ho
  · rw [meetsF_S (by omega), e2]; exact mS_rest hn hv ho
theorem pl_6 {z : List UInt8} {n v b p e : Int} (h : Pl z n v b p) (hn : n = 1 ∨ n = 2 ∨ n = 11) (h0 : 0 ≤ e) (h1 : e < 2) : meetsF z n (p + 1 + e) v = false := by
  obtain ⟨bb, pp, g, o, post, rfl, rfl, hg, ho, e1, e2, l1, l2, hv⟩ := h
  rcases cases2' h0 h1 with rfl | rfl
  · rw [show (pp : Int) + 1 + 0 = ((pp + 1 : Nat) : Int) by omega, meetsF_S (by omega), ← List.drop_drop, e2]; exact mS_1 hn hv ho
  · rw [show (pp : Int) + 1 + 1 = ((pp + 2 : Nat) : Int) by omega, meetsF_S (by omega), ← List.drop_drop, e2]; exact mS_2 hn hv ho
theorem pl_6s {z : List UInt8} {v b p e : Int} (h : Pl z 11 v b p) (h0 : 0 ≤ e) (h1 : e < 2) : ((z.drop (p + 1 + e).toNat).take ((p + 1 + e + 3).toNat - (p + 1 + e).toNat) == [49, 49, 32]) = false := by
  obtain ⟨bb, pp, g, o, post, rfl, rfl, hg, ho, e1, e2, l1, l2, hv⟩ := h
  rcases cases2' h0 h1 with rfl | rfl
  · rw [show ((pp : Int) + 1 + 0).toNat = pp + 1 by omega, show ((pp : Int) + 1 + 0 + 3).toNat - (pp + 1) = 3 by omega, ← List.drop_drop, e2]; exact sl_1 hv ho
  · rw [show ((pp : Int) + 1 + 1).toNat = pp + 2 by omega, show ((pp : Int) + 1 + 1 + 3).toNat - (pp + 2) = 3 by omega, ← List.drop_drop, e2]; exact sl_2 hv ho
theorem pl_7 {z : List UInt8} {n v b p : Int} (h : Pl z n v b p) (hn : n = 1 ∨ n = 2 ∨ n = 11) : meetsF z n p (v + 1) = false := by
  obtain ⟨bb, pp, g, o, post, rfl, rfl, hg, ho, e1, e2, l1, l2, hv⟩ := h
  rw [meetsF_S (by omega), e2]; exact mS_off hn hv ho
theorem pl_8 {z : List UInt8} {n v e : Int} (h0 : 0 ≤ e) : meetsF z n ((z.length : Int) + e) v = false := mf_out (by omega)
theorem met_0 {z : List UInt8} {x : Str} {one two : Int} : metF z 0 x one two = true := by unfold metF; rw [if_pos (by decide)]
theorem met_used {z : List UInt8} {n one two : Int} (hn : n = 1 ∨ n = 2 ∨ n = 11) : metF z n (Str.ofString "used") one two = meetsF z n one two := by
  unfold metF
  rw [if_neg (by rcases hn with rfl | rfl | rfl <;> decide), if_neg (by decide +kernel)]
theorem met_free {z : List UInt8} {n one two : Int} {x : Str} (h : Or2 (Str.ofString "free") (Str.ofString "packed") x) : metF z n x one two = true := by
  unfold metF
  split
  · rfl
  · rw [if_pos (by rcases h with rfl | rfl <;> decide +kernel)]
theorem dA {M b m : Bool} (hb : b = M) (h : m = true) : b = (M && m) := by rw [hb, h, Bool.and_true]
theorem pl_pos {z : List UInt8} {n v b p : Int} (h : Pl z n v b p) : 0 ≤ p := by
  obtain ⟨bb, pp, g, o, post, rfl, rfl, _⟩ := h
  omega

end
section
set_option maxRecDepth 100000
set_option linter.unusedVariables false
open PySem PySem.W PySem.Calls PyProof.Rows
section
variable {prog : Program} {w : World} {A : Around} {E : Value → Shared → Prop} {h₀ : Heap} {env : Env} {x : Str} {body : List Stmt} {Q : Flow → Shared → Prop} {s : Shared} {I : Addr} {a : Int} {n : Nat}
theorem range_mono {k i : Nat} {m : Str → Option Value} {l l' : List (Addr × Obj)} (hs : ∀ p ∈ l, p ∈ l') (h : RangeRest prog w A E h₀ env x body Q s I a n k i m l) : RangeRest prog w A E h₀ env x body Q s I a n k i m l' := by
  cases k with
  | zero => exact fun h' tk F N => h h' tk F (news_sub N hs)
  | succ k => exact fun t h' tk F N => h t h' tk F (news_sub N (fun p hp => by
      rcases List.mem_cons.mp hp with rfl | hp
      · exact .head _
      · exact .tail _ (hs p hp)))
theorem range_ind (Inv : Nat → List (Addr × Obj) → List (Str × Value) → Prop)
    (turn : ∀ (i : Nat) led kns u t h tk, i < n → Inv i led kns → Fr h₀ env.locals h (fun y => if y = x then some (.int (a + (i : Int)) t) else kn kns u y) → News h₀ env.locals h ((I, itR (a + ((i + 1 : Nat) : Int)) ((n : Int) - ((i + 1 : Nat) : Int))) :: led) →
      ∀ (P : Flow → Shared → Prop) (E' : Value → Shared → Prop), (∀ f s₂, UnrPost h₀ env.locals { s with heap := h, toks := tk } I (itR (a + ((i + 1 : Nat) : Int)) ((n : Int) - ((i + 1 : Nat) : Int))) (fun m' n' => Stopped (Held (Inv (i + 1)) m' n')) Q f s₂ → P f s₂) →
      wpAny (model prog w) A (execs body env) P E' { s with heap := h, toks := tk })
    (fin : ∀ led kns u h tk, Inv n led kns → Fr h₀ env.locals h (kn kns u) → News h₀ env.locals h led → Q .next { s with heap := h, toks := tk }) :
    ∀ (k i : Nat), i + k = n → ∀ led kns u, Inv i led kns → RangeRest prog w A E h₀ env x body Q s I a n k i (kn kns u) led
  | 0, i, hk, led, kns, u, hI => fun h tk F N => fin led kns u h tk (by rw [← hk]; exact hI) F N
  | k + 1, i, hk, led, kns, u, hI => fun t h tk F N => by
    have e : ∀ m' n', Stopped (Held (Inv (i + 1)) m' n') → RangeRest prog w A E h₀ env x body Q s I a n k (i + 1) m' n' := by
      rintro m' n' ⟨led', kns', b, c, d⟩
      have q := range_ind Inv turn fin k (i + 1) (by omega) led' kns' m' b
      rw [kn_self d] at q
      exact range_mono c q
    refine wpAny_mono (turn i led kns u t h tk (by omega) hI F N _ E fun _ _ z => z) (fun f s₃ y => ?_) fun _ _ z => z
    cases f with
    | ret v => exact y
    | brk => exact y
    | next =>
      obtain ⟨h', tk', m', n', e1, e2, e3, e4, e5⟩ := y
      exact ⟨h', tk', m', n', e1, e2, e3, e4, e _ _ e5⟩
    | cont =>
      obtain ⟨h', tk', m', n', e1, e2, e3, e4, e5⟩ := y
      exact ⟨h', tk', m', n', e1, e2, e3, e4, e _ _ e5⟩
theorem held_start {Inv : List (Addr × Obj) → List (Str × Value) → Prop} {m : Str → Option Value} {l : List (Addr × Obj)} {k i : Nat} (h : Held Inv m l)
    (r : ∀ led kns u, Inv led kns → RangeRest prog w A E h₀ env x body Q s I a n k i (kn kns u) led) : RangeRest prog w A E h₀ env x body Q s I a n k i m l := by
  obtain ⟨led, kns, b, c, d⟩ := h
  have q := r led kns m b
  rw [kn_self d] at q
  exact range_mono c q
end

end
section
set_option maxRecDepth 100000
set_option linter.unusedVariables false
open PySem PySem.W PySem.Calls PyProof.Rows
section
variable {prog : Program} {w : World} {A : Around} {E : Value → Shared → Prop} {s : Shared} {h₀ : Heap} {L : Addr} {m : Str → Option Value} {env : Env}
def SrcD (prog : Program) (w : World) (A : Around) (h₀ : Heap) (L : Addr) (m : Str → Option Value) (env : Env) (elt : Expr) (x : Str) (scope : Scope) (cl : List (Str × Addr)) (Fin : Shared → List Value → List (Addr × Obj) → Prop) (xv : Value) (s₁ : Shared) : Prop :=
  ∃ (d : Addr) (o : Obj) (kvs : List (Int × Value)) (news : List (Addr × Obj)), xv = .ref d ∧ A.handled = none ∧ (d == sysModules) = false ∧ Fr h₀ L s₁.heap m ∧ News h₀ L s₁.heap news ∧ (d, o) ∈ news ∧ o.IsDictOf (intKind prog w) kvs ∧ kvs.length ≤ 1000 ∧
    ∀ g, LCg.CompRest prog w A h₀ L m env elt x scope cl { s₁ with heap := g } (fun nw => (d, o) ∈ nw) (fun i v => ∃ k x, kvs[i]? = some (k, x) ∧ (intKind prog w).is k v = true) (Fin { s₁ with heap := g }) kvs.length 0 [] news
theorem comp_dict {elt iter : Expr} {x : Str} {px : Pos} {scope : Scope} {cl : List (Str × Addr)} {pos : Pos} {Q : Value → Shared → Prop} (F₀ : Fr h₀ L s.heap m)
    (hclos : closureFor scope env = pure cl) (hcell : ∀ y ∈ scope.names, y.2 ≠ .cell) (hkind : scope.kind = .function)
    (hnames : ∀ y ∈ scope.names, y.2 = .local → scope.names.lookup y.1 = some .local) (hx : scope.names.lookup x = some .local)
    (h : wpAny (model prog w) A (eval iter env) (SrcD prog w A h₀ L m env elt x scope cl (fun s₂ => LCg.FinE h₀ L m s₂ Q)) E s)
    (hs : ∀ x, foldedSetIterable iter env x = pure x := by intro _; rfl) :
    wpAny (model prog w) A (eval (.ListComp elt [⟨.Name x px, iter, [], 0⟩] scope pos) env) Q E s := by
  rw [eval_ListComp]
  refine wpAny_comprehension_free (use := none) rfl hs hclos hkind hnames (wpAny_mono h (fun xv s₁ h₁ => ?_) fun _ _ e => e)
  obtain ⟨d, o, kvs, news, rfl, hh, lo, F, N, hm, hD, hsz, R⟩ := h₁
  have hg := (N _ hm).1
  obtain ⟨es, ep, r⟩ := hD
  have hat : s₁.heap.DictAt (intKind prog w) d kvs ep := ⟨o, es, hg, r⟩
  have hlt : d < s₁.heap.objs.size := Heap.lt_size hg
  refine wpAny_pyIter_dict lo hat ?_
  have up : ∀ b ob, s₁.heap.get? b = some ob → (s₁.heap.push { cls := .type "dict_keyiterator", data := .fields #[.ref d, .int 0 0, .int kvs.length 0, .int ep 0] }).get? b = some ob := fun b ob e => Heap.get?_push_of_some _ e
  refine LCg.block_U (Walks.dictKeys (knd := intKind prog w) hh s₁.heap.objs.size d (Nat.ne_of_lt hlt) kvs ep) (by rw [sizeLine_eq]; omega) (fun i h st => by obtain ⟨o, e, _⟩ := st.1; exact ⟨o, e⟩) ?_ hcell hkind hx ⟨⟨_, Heap.get?_push_size _ rfl, rfl, rfl⟩, hat.push _⟩ (fun b hb => ?_)
      (F.keeps up) (N.grown up) (Nat.ne_of_lt F.ns.lt) (next_is_new F) (fun p hp => Nat.ne_of_lt (Heap.lt_size (N p hp).1)) hm (R _) ?_
  · rintro i h h' oI nw st e1 e2 keep N' hmem
    have g' : h'.get? d = some o := (N' _ hmem).1
    exact ⟨st.1.at fun o' e => by rw [e1] at e; cases e; exact e2, ⟨o, es, g', r⟩⟩
  · show b < (s₁.heap.push _).objs.size
    rw [Heap.size_push]
    rcases List.mem_cons.mp hb with rfl | hb
    · exact Nat.lt_succ_self _
    · rw [List.mem_singleton.mp hb]; exact Nat.lt_succ_of_lt hlt
  · intro D C h tk m' ys news' F' N' o1 hn hC₀ hD₀ hCL hDL hCD offC fin
    refine ⟨m', hn, fun h'' hs'' => fin D h'' tk (F'.change hs'' hCL hC₀) (fun p hp => ?_) o1⟩
    refine ⟨hs''.extBut _ _ ?_ (N' p hp).1, (N' p hp).2⟩
    rcases List.mem_cons.mp hp with rfl | hp
    · exact Ne.symm hCD
    · exact offC p hp
end
theorem int_is {prog : Program} {w : World} {k : Int} {v : Value} (h : (intKind prog w).is k v = true) : ∃ t, v = .int k t := by
  cases v with
  | int i t =>
    refine ⟨t, ?_⟩
    have e : (i == k) = true ∨ (k == i) = true := by first | exact .inl h | exact .inr h
    rcases e with e | e <;> rw [eq_of_beq e]
  | _ => cases h
section
variable {prog : Program} {w : World} {A : Around} {h₀ : Heap} {L : Addr} {m : Str → Option Value} {env : Env} {elt : Expr} {x : Str} {scope : Scope} {cl : List (Str × Addr)} {s : Shared} {S : List (Addr × Obj) → Prop} {P : Nat → Value → Prop} {Fin : List Value → List (Addr × Obj) → Prop} {n : Nat}
theorem comp_ind (Inv : Nat → List Value → List (Addr × Obj) → Prop)
    (turn : ∀ i ys news, i < n → Inv i ys news → ∀ v I oI C oC D m₂ h tk (E' : Value → Shared → Prop), P i v → LCg.NsObj oC m₂ → m₂ x = some v → Fr h₀ L h m → News h₀ L h ((I, oI) :: (C, oC) :: (D, LCg.lst ys) :: news) → LCg.Off3 I C D news → ((@Ne Nat I C) ∧ (@Ne Nat I D) ∧ (@Ne Nat C D)) →
      wpAny (model prog w) A (eval elt (compEnvC scope cl C env)) (LCg.CompEnd h₀ L m { s with heap := h, toks := tk } I oI C oC D (LCg.lst ys) S (fun y news' => Stopped (Inv (i + 1) (ys ++ [y]) news'))) E' { s with heap := h, toks := tk })
    (fin : ∀ ys news, Inv n ys news → Fin ys news) : ∀ k i, i + k = n → ∀ ys news, Inv i ys news → LCg.CompRest prog w A h₀ L m env elt x scope cl s S P Fin k i ys news
  | 0, i, e, ys, news, hI => by
    have : i = n := by omega
    subst this
    exact fin ys news hI
  | k + 1, i, e, ys, news, hI => LCg.CompRest.succ fun v I oI C oC D m₂ h tk E' hv hC hx F N off ne =>
    wpAny_mono (turn i ys news (by omega) hI v I oI C oC D m₂ h tk E' hv hC hx F N off ne) (fun y s₂ z => by
      obtain ⟨h', tk', news', e1, e2, e3, e4, e5, e6⟩ := z
      exact ⟨h', tk', news', e1, e2, e3, e4, e5, comp_ind Inv turn fin k (i + 1) (by omega) _ _ e6⟩) fun _ _ z => z
end
theorem my_made_str {prog : Program} {w : World} {h₀ h : Heap} {L : Addr} {m : Str → Option Value} {news : List (Addr × Obj)} {vs : List (Value × Value)} {P : Heap → Prop} (F : Fr h₀ L h m) (N : News h₀ L h news) (hbig : h₀.NoLimit) (hk : allStrKeys vs = true) (hn : ((strPairs vs).map (·.1)).Nodup)
    (k : ∀ h' o, Fr h₀ L h' m → News h₀ L h' ((h.objs.size, o) :: news) → (∀ p ∈ news, p.1 < h.objs.size) → (h.objs.size == sysModules) = false → o.IsDictOf (PySem.strKind prog w) (strPairs vs) → P h') :
    ∃ kvs, Carries (PySem.strKind prog w) vs kvs ∧ (h.push { cls := .type "dict", data := .dict #[] }).DictOf (PySem.strKind prog w) h.objs.size [] ∧
      ∀ h', h'.DictOf (PySem.strKind prog w) h.objs.size (merged [] kvs) → Heap.SameBut h.objs.size (h.push { cls := .type "dict", data := .dict #[] }) h' → P h' :=
  made_str F N hk hn fun h' o F' N' hd => k h' o F' N' (fun p hp => Heap.lt_size (N p hp).1) (F.notModules (modules_low hbig)) hd

end
section
set_option maxRecDepth 100000
set_option linter.unusedVariables false
open PySem PySem.W PySem.Calls PyProof.Rows PySem.SeqAt
inductive Dt
  | int (i : Int)
  | str (x : Str)
  | bytes (b : List UInt8)
  | tup (ds : List Dt)
def Rd (h : Heap) : Nat → Value → Dt → Prop
  | 0, _, _ => False
  | n + 1, v, d => match d with
    | .int i => ∃ t, v = .int i t
    | .str x => ∃ t, v = .str x t
    | .bytes b => ∃ t, v = .bytes b.toArray t
    | .tup ds => ∃ a vs, v = .ref a ∧ h.IsTuple a vs ∧ vs.size = ds.length ∧ ∀ j (h1 : j < vs.size) (h2 : j < ds.length), Rd h n vs[j] ds[j]
theorem Rd.up {h : Heap} : ∀ {n : Nat} {v : Value} {d : Dt}, Rd h n v d → Rd h (n + 1) v d
  | 0, _, _, x => (show False from x).elim
  | n + 1, v, .int i, x => x
  | n + 1, v, .str y, x => x
  | n + 1, v, .bytes b, x => x
  | n + 1, v, .tup ds, ⟨a, vs, e, ht, hs, r⟩ => ⟨a, vs, e, ht, hs, fun j h1 h2 => Rd.up (r j h1 h2)⟩
theorem eqAt_bytes {A : Around} {s : Shared} (b : Array UInt8) (t u : Tok) : EqAt A s (.bytes b t) (.bytes b u) true := fun prog w E Q h => by
  unfold eqBool
  refine wpAny_holding ?_
  refine wpAny_ite_split (fun _ => ?_) (fun _ => ?_)
  · exact wpAny_bind (wpAny_rule (wpAny_pure h))
  · exact wpAny_bind (eq_bytes (wpAny_truthy_bool (by simpa using h)))
theorem eqAt_data : ∀ (n : Nat) {A : Around} {s : Shared} {v v' : Value} {d : Dt}, Rd s.heap n v d → Rd s.heap n v' d → A.units + n < cLine → EqAt A s v v' true
  | 0, _, _, _, _, _, x, _, _ => (show False from x).elim
  | n + 1, A, s, v, v', .int i, ⟨t, e⟩, ⟨t', e'⟩, hu => by
    subst e e'
    have := EqAt.int_int (A := A) (s := s) i t i t'
    rwa [beq_self_eq_true] at this
  | n + 1, A, s, v, v', .str x, ⟨t, e⟩, ⟨t', e'⟩, hu => by
    subst e e'
    have := EqAt.str_str (A := A) (s := s) x t x t'
    rwa [beq_self_eq_true] at this
  | n + 1, A, s, v, v', .bytes b, ⟨t, e⟩, ⟨t', e'⟩, hu => by
    subst e e'
    exact eqAt_bytes _ _ _
  | n + 1, A, s, v, v', .tup ds, ⟨a, vs, e, ht, hs, r⟩, ⟨a', vs', e', ht', hs', r'⟩, hu => by
    subst e e'
    by_cases hne : a = a'
    · subst hne; exact EqAt.same _
    · refine EqAt.of_refs hne ?_
      have q := RcAt.tuples (A := A) (e := fun _ => true) ht ht' (by omega) (fun j h1 h2 => eqAt_data n (r j h1 (by omega)) (r' j h2 (by omega)) (by show A.units + 1 + n < cLine; omega))
      have e1 : ((List.range (min vs.size vs'.size)).all (fun _ => true) && vs.size == vs'.size) = true := by
        rw [hs, hs']; simp
      rwa [e1] at q
theorem rc_data {n : Nat} {A : Around} {s : Shared} {a a' : Addr} {ds : List Dt} (x : Rd s.heap (n + 1) (.ref a) (.tup ds)) (y : Rd s.heap (n + 1) (.ref a') (.tup ds)) (hu : A.units + (n + 1) < cLine) : RcAt A s (.ref a) (.ref a') true := by
  obtain ⟨b, vs, e, ht, hs, r⟩ := x
  obtain ⟨b', vs', e', ht', hs', r'⟩ := y
  cases e; cases e'
  have q := RcAt.tuples (A := A) (e := fun _ => true) ht ht' (by omega) (fun j h1 h2 => eqAt_data n (r j h1 (by omega)) (r' j h2 (by omega)) (by show A.units + 1 + n < cLine; omega))
  have e1 : ((List.range (min vs.size vs'.size)).all (fun _ => true) && vs.size == vs'.size) = true := by
    rw [hs, hs']; simp
  rwa [e1] at q

end
section
set_option maxRecDepth 100000
set_option linter.unusedVariables false
open PySem PySem.W PySem.Calls PyProof.Rows

end
section
set_option maxRecDepth 100000
set_option linter.unusedVariables false
open PySem PySem.W PySem.Calls PyProof.Rows
theorem gone_of (h : Heap) (news : List (Addr × Obj)) : ∀ b, (hideAll h (news.map (·.1))).get? b = none → (∀ q ∈ news, q.1 ≠ b) → h.get? b = none := fun b e hq => by
  cases r : h.get? b with
  | none => rfl
  | some o =>
    have := hideAll_get (news.map (·.1)) r (fun m => by
      obtain ⟨p, hp, e'⟩ := List.mem_map.mp m
      exact hq p hp e')
    rw [this] at e; cases e
theorem ext_same {as : List Addr} {h h' g : Heap} {L : Addr} {news led : List (Addr × Obj)} (x : ExtBy as h h') (hs : as = news.map (·.1)) (hn : ∀ q ∈ news, h.get? q.1 = some q.2) (N : News g L h' led) (sub : ∀ p ∈ news, p ∈ led) : ExtBy [] h h' := by
  subst hs
  exact x.less fun b hb => by
    obtain ⟨p, hp, rfl⟩ := List.mem_map.mp hb
    exact .inr ⟨_, hn p hp, (N p (sub p hp)).1⟩
theorem enter2 {prog : Program} {w : World} {A : Around} {s : Shared} {base : Heap} {outer : List Env} {K : Frag} {p : Program} {loose : List Str} {mean : ExcName → Option Value} {mg mb : Str → Option Value}
    {R : Result → Shared → Prop} {name qual : Str} {params : Arguments} {body : List Stmt} {scope : Scope} {dV kV doc pm cdv ct oc : Value} {an od : Option Addr} {osl : Array (Option Value)} {f : Addr} {args : Args} {binds : List (Str × Value)}
    (news : List (Addr × Obj))
    (S : Site A base outer p loose mean mg mb K s.heap)
    (hn : ∀ q ∈ news, s.heap.get? q.1 = some q.2 ∧ OwnAt base outer q.1)
    (ho : K.lookup f = some ⟨oc, od, .func (fnOf name qual params body scope dV kV doc pm an cdv ct), osl⟩) (hcd : codeIn K cdv qual = true) (hroom : A.depth < recursionLimit)
    (hbind : BindsTo s (fnOf name qual params body scope dV kV doc pm an cdv ct) args binds) (hloc : ∀ y ∈ binds, scope.names.lookup y.1 = some .local)
    (h : ∀ g L' h₁, Fr g L' h₁ (fun y => binds.reverse.lookup y) → News g L' h₁ news → Below A base outer g → K.In g → Top p loose mean mg mb g → AllLt L' news → (∀ b, g.get? b = none → (∀ q ∈ news, q.1 ≠ b) → s.heap.get? b = none) →
      wpAny (model prog w) (A.deeper (envOf qual scope L' f cdv)) (execs body (envOf qual scope L' f cdv))
        (fun fl s' => LeaveC g (news.map (·.1)) s.heap R (match fl with | .ret v => v | _ => .none) s')
        (fun e s' => wpAny (model prog w) (A.deeper (envOf qual scope L' f cdv)) (leaving (envOf qual scope L' f cdv) e) (fun _ s'' => R (.error e) s'') (fun e' s'' => R (.error e') s'') s')
        { s with heap := h₁, toks := s.toks + binds.length })
    (hco : scope.isCoroutine = false) (hgen : scope.isGenerator = false) (hk : scope.kind = .function)
    (hcell : ∀ x ∈ scope.names, x.2 ≠ .cell) : codeAny (model prog w) A (.call (.ref f) args) R s := by
  obtain ⟨B, X₀, T₀⟩ := S
  have st := B.stays
  have nm : ∀ b o, base.get? b = some o → b ∉ news.map (·.1) := fun b o e q => by
    obtain ⟨p, hp, rfl⟩ := List.mem_map.mp q
    rw [(hn p hp).2.1] at e; cases e
  have stg : base.StaysIn (hideAll s.heap (news.map (·.1))) := fun b o e => hideAll_get _ (st b o e) (nm b o e)
  have B₂ : Below A base outer (hideAll s.heap (news.map (·.1))) := ⟨B.stack, stg, funFrames_hideAll B.frames fun env he b hb hf => by
    obtain ⟨p, hp, rfl⟩ := List.mem_map.mp hb
    exact (hn p hp).2.2 env he hf⟩
  refine codeAny_call_def (fd := fnOf name qual params body scope dV kV doc pm an cdv ct) (body := body) (binds := binds) hroom ((X₀.keeps st) _ _ ho) rfl (T₀.nolimit.keeps st) (codeRec_of (X₀.keeps st) hcd) rfl hbind hcell hloc (fun h₁ hns hk₁ => ?_) hco hgen hk
  refine wpAny_mono (h _ s.heap.objs.size h₁ ⟨hns, fun b o e => hk₁ b o (of_hideAll _ e), Nat.le_of_eq (hideAll_size _ _)⟩
    (fun p hp => ⟨hk₁ _ _ (hn p hp).1, Nat.ne_of_lt (Heap.lt_size (hn p hp).1), hideAll_none _ (List.mem_map_of_mem hp)⟩) B₂ (X₀.keeps stg) (T₀.keeps stg) (allLt_of fun p hp => Heap.lt_size (hn p hp).1) (gone_of _ _)) (fun fl s' hl => ?_) fun _ _ y => y
  obtain ⟨L', m', news', F', N', k⟩ := hl
  exact k fun b o n e => F'.keep b o (hideAll_get _ e n)

theorem enterC2 {prog : Program} {w : World} {A : Around} {s : Shared} {base : Heap} {outer : List Env} {K : Frag} {p : Program} {loose : List Str} {mean : ExcName → Option Value} {mg mb : Str → Option Value}
    {R : Result → Shared → Prop} {name qual : Str} {params : Arguments} {body : List Stmt} {scope : Scope} {dV kV doc pm cdv ct oc : Value} {an od : Option Addr} {osl : Array (Option Value)} {f : Addr} {args : Args} {binds : List (Str × Value)}
    (news : List (Addr × Obj))
    (S : Site A base outer p loose mean mg mb K s.heap)
    (hn : ∀ q ∈ news, s.heap.get? q.1 = some q.2 ∧ OwnAt base outer q.1)
    (ho : K.lookup f = some ⟨oc, od, .func (fnOf name qual params body scope dV kV doc pm an cdv ct), osl⟩) (hcd : codeIn K cdv qual = true) (hroom : A.depth < recursionLimit)
    (hbind : BindsTo s (fnOf name qual params body scope dV kV doc pm an cdv ct) args binds) (hkind : (binds.all fun y => scope.names.lookup y.1 == some .local || scope.names.lookup y.1 == some .cell) = true)
    (hnd : ((cellsFrom 0 scope.names []).map (·.1)).Nodup)
    (h : ∀ g L' h₁ tk cells, Fr g L' h₁ (bindL (envOfC qual scope L' f cdv).kindOf binds fun _ => none) → News g L' h₁ (cells ++ news) →
      CellsAre (bindC (envOfC qual scope L' f cdv).kindOf binds fun _ => none) (cellsFrom (L' + 1) scope.names []) cells → Below A base outer g → K.In g → Top p loose mean mg mb g → AllLt L' news → (∀ b, g.get? b = none → (∀ q ∈ news, q.1 ≠ b) → s.heap.get? b = none) →
      wpAny (model prog w) (A.deeper (envOfC qual scope L' f cdv)) (execs body (envOfC qual scope L' f cdv))
        (fun fl s' => LeaveC g (news.map (·.1)) s.heap R (match fl with | .ret v => v | _ => .none) s')
        (fun e s' => wpAny (model prog w) (A.deeper (envOfC qual scope L' f cdv)) (leaving (envOfC qual scope L' f cdv) e) (fun _ s'' => R (.error e) s'') (fun e' s'' => R (.error e') s'') s')
        { s with heap := h₁, toks := tk })
    (hco : scope.isCoroutine = false) (hgen : scope.isGenerator = false) (hk : scope.kind = .function) : codeAny (model prog w) A (.call (.ref f) args) R s := by
  obtain ⟨B, X₀, T₀⟩ := S
  have st := B.stays
  have nm : ∀ b o, base.get? b = some o → b ∉ news.map (·.1) := fun b o e q => by
    obtain ⟨p, hp, rfl⟩ := List.mem_map.mp q
    rw [(hn p hp).2.1] at e; cases e
  have stg : base.StaysIn (hideAll s.heap (news.map (·.1))) := fun b o e => hideAll_get _ (st b o e) (nm b o e)
  have B₂ : Below A base outer (hideAll s.heap (news.map (·.1))) := ⟨B.stack, stg, funFrames_hideAll B.frames fun env he b hb hf => by
    obtain ⟨p, hp, rfl⟩ := List.mem_map.mp hb
    exact (hn p hp).2.2 env he hf⟩
  refine codeAny_call_function hroom ((X₀.keeps st) _ _ ho) rfl hco hgen rfl (codeRec_of (X₀.keeps st) hcd) (hbind _ _ _ _ ?_)
  refine wpAny_newFunctionEnv_cells hk (kindsX hkind _) fun env' he s' x => ?_
  subst he
  refine ⟨(T₀.nolimit.keeps st).keeps x.toInCall.keep, codeAny_func ?_⟩
  obtain ⟨h₁, tk, rfl, _⟩ := x.done
  have hk₁ := x.toInCall.keep
  obtain ⟨cells, NC, Y⟩ := Cl.news (h₀ := s.heap) (Nat.le_refl _) fun n c hm => ⟨x.cell n c (lookup_of_mem_nodup (cellsFrom_names scope.names 0 (s.heap.objs.size + 1) [] [] rfl ▸ hnd) hm), x.above n c hm⟩
  have X₂ : K.In (hideAll s.heap (news.map (·.1))) := X₀.keeps stg
  have T₂ : Top p loose mean mg mb (hideAll s.heap (news.map (·.1))) := T₀.keeps stg
  refine wpAny_mono (h (hideAll s.heap (news.map (·.1))) s.heap.objs.size h₁ tk cells ⟨x.toInCall.ns, fun b o e => hk₁ b o (of_hideAll _ e), Nat.le_of_eq (hideAll_size _ _)⟩ (fun p hp => ?_) Y B₂ X₂ T₂ (allLt_of fun p hp => Heap.lt_size (hn p hp).1) (gone_of _ _)) (fun fl s' hl => ?_) fun _ _ y => y
  · rcases List.mem_append.mp hp with hp | hp
    · refine ⟨(NC p hp).1, (NC p hp).2.1, ?_⟩
      cases q : (hideAll s.heap (news.map (·.1))).get? p.1 with
      | none => rfl
      | some o => have := of_hideAll _ q; rw [(NC p hp).2.2] at this; cases this
    · exact ⟨hk₁ _ _ (hn p hp).1, Nat.ne_of_lt (Heap.lt_size (hn p hp).1), hideAll_none _ (List.mem_map_of_mem hp)⟩
  · obtain ⟨L', m', news', F', N', k⟩ := hl
    exact k fun b o n e => F'.keep b o (hideAll_get _ e n)

end
section
set_option maxRecDepth 100000
set_option linter.unusedVariables false
open PySem PySem.W PySem.Calls PyProof.Rows

def RdL (T : List (Addr × Obj)) (n : Nat) (v : Value) (d : Dt) : Prop := ∀ h : Heap, (∀ p ∈ T, h.get? p.1 = some p.2) → Rd h n v d
theorem RdL.mono {T T' : List (Addr × Obj)} {n : Nat} {v : Value} {d : Dt} (x : RdL T n v d) (hs : ∀ p ∈ T, p ∈ T') : RdL T' n v d := fun h hT => x h fun p hp => hT p (hs p hp)
theorem Rd.le {h : Heap} {n m : Nat} {v : Value} {d : Dt} (x : Rd h n v d) (hm : n ≤ m) : Rd h m v d := by
  induction hm with
  | refl => exact x
  | step _ ih => exact Rd.up ih
theorem RdL.le {T : List (Addr × Obj)} {n m : Nat} {v : Value} {d : Dt} (x : RdL T n v d) (hm : n ≤ m) : RdL T m v d := fun h hT => (x h hT).le hm
theorem RdL.int {T : List (Addr × Obj)} {n : Nat} {i : Int} {t : Tok} : RdL T (n + 1) (.int i t) (.int i) := fun _ _ => ⟨t, rfl⟩
theorem RdL.str {T : List (Addr × Obj)} {n : Nat} {i : Str} {t : Tok} : RdL T (n + 1) (.str i t) (.str i) := fun _ _ => ⟨t, rfl⟩
theorem RdL.bytes {T : List (Addr × Obj)} {n : Nat} {b : List UInt8} {t : Tok} : RdL T (n + 1) (.bytes b.toArray t) (.bytes b) := fun _ _ => ⟨t, rfl⟩
inductive RdAll (T : List (Addr × Obj)) (n : Nat) : List Value → List Dt → Prop
  | nil : RdAll T n [] []
  | cons {v d vs ds} : RdL T n v d → RdAll T n vs ds → RdAll T n (v :: vs) (d :: ds)
theorem RdAll.length {T : List (Addr × Obj)} {n : Nat} : ∀ {vs : List Value} {ds : List Dt}, RdAll T n vs ds → vs.length = ds.length
  | _, _, .nil => rfl
  | _, _, .cons _ y => by simp [y.length]
theorem RdAll.at {T : List (Addr × Obj)} {n : Nat} : ∀ {vs : List Value} {ds : List Dt}, RdAll T n vs ds → ∀ j (h1 : j < vs.length) (h2 : j < ds.length), RdL T n vs[j] ds[j]
  | _, _, .cons x _, 0, _, _ => x
  | _, _, .cons _ y, j + 1, h1, h2 => y.at j (Nat.lt_of_succ_lt_succ h1) (Nat.lt_of_succ_lt_succ h2)
theorem RdAll.mono {T T' : List (Addr × Obj)} {n : Nat} (hs : ∀ p ∈ T, p ∈ T') : ∀ {vs : List Value} {ds : List Dt}, RdAll T n vs ds → RdAll T' n vs ds
  | _, _, .nil => .nil
  | _, _, .cons x y => .cons (x.mono hs) (RdAll.mono hs y)
theorem RdAll.append {T : List (Addr × Obj)} {n : Nat} : ∀ {vs us : List Value} {ds es : List Dt}, RdAll T n vs ds → RdAll T n us es → RdAll T n (vs ++ us) (ds ++ es)
  | _, _, _, _, .nil, y => y
  | _, _, _, _, .cons x z, y => .cons x (RdAll.append z y)
abbrev tupObj (vs : List Value) (c : Nat) : Obj := { cls := .type "tuple", data := .seq vs.toArray c }
theorem RdL.tup {T : List (Addr × Obj)} {n c : Nat} {a : Addr} {vs : List Value} {ds : List Dt} (hm : (a, tupObj vs c) ∈ T) (x : RdAll T n vs ds) : RdL T (n + 1) (.ref a) (.tup ds) := fun h hT =>
  ⟨a, vs.toArray, rfl, ⟨_, hT _ hm, rfl, _, rfl⟩, by rw [List.size_toArray, x.length], fun j h1 h2 => by
    have := x.at j (by simpa using h1) h2 h hT
    simpa using this⟩
def Gives (s h' : Heap) (n : Nat) (v : Value) (d : Dt) : Prop := ∃ T2 : List (Addr × Obj), (∀ p ∈ T2, h'.get? p.1 = some p.2 ∧ s.get? p.1 = none) ∧ RdL T2 n v d

theorem gv1 {g s h' : Heap} {L a : Addr} {o : Obj} {news led : List (Addr × Obj)} (N : News g L h' led) (hm : (a, o) ∈ led) (hg : ∀ b, g.get? b = none → (∀ q ∈ news, q.1 ≠ b) → s.get? b = none) (hne : ∀ q ∈ news, q.1 ≠ a) : h'.get? a = some o ∧ s.get? a = none :=
  ⟨N.get hm, hg _ (N.fresh hm) hne⟩
inductive TlF : List (Addr × Obj) → (List (Addr × Obj) → List (Addr × Obj)) → Prop
  | here {T} : TlF T (fun T2 => T2 ++ T)
  | cons {x l f} : TlF l f → TlF (x :: l) (fun T2 => x :: f T2)
theorem TlF.sub {T2 : List (Addr × Obj)} : ∀ {l : List (Addr × Obj)} {f : List (Addr × Obj) → List (Addr × Obj)}, TlF l f → ∀ p ∈ f T2, p ∈ T2 ∨ p ∈ l
  | _, _, .here, p, hp => List.mem_append.mp hp
  | _, _, .cons x, p, hp => by
    rcases List.mem_cons.mp hp with rfl | hp
    · exact .inr (.head _)
    · rcases TlF.sub x p hp with h | h
      · exact .inl h
      · exact .inr (.tail _ h)
def OffT (T : List (Addr × Obj)) (news : List (Addr × Obj)) : Prop := ∀ p ∈ T, ∀ q ∈ news, p.1 ≠ q.1
theorem OffT.ne {T news : List (Addr × Obj)} {d : Addr} {o : Obj} (x : OffT T news) (hm : (d, o) ∈ news) : ∀ p ∈ T, p.1 ≠ d := fun p hp => x p hp _ hm
inductive Lv
  | int (i : Int)
  | tru
  | name (x : Str)
  | ref (n g : Int)
def dtL : Lv → Dt
  | .int i => .tup [.str (Str.ofString "int"), .int i]
  | .tru => .tup [.str (Str.ofString "truth"), .int 1]
  | .name x => .tup [.str (Str.ofString "name"), .str x]
  | .ref n g => .tup [.str (Str.ofString "ref"), .int n, .int g]
def LvIs (w : World) (T : List (Addr × Obj)) (v : Value) : Lv → Prop
  | .int i => ∃ t, v = .int i t
  | .tru => v = .bool true
  | .name x => ∃ a d j t, v = .ref a ∧ (@LT.lt Nat _ d a) ∧ (a, instObj 171 d) ∈ T ∧ (d, strD w x j t) ∈ T
  | .ref n g => ∃ a d j1 j2 t1 t2, v = .ref a ∧ (@LT.lt Nat _ d a) ∧ (a, instObj 242 d) ∈ T ∧ (d, refD w n g j1 j2 t1 t2) ∈ T
theorem LvIs.mono {w : World} {T T' : List (Addr × Obj)} {v : Value} (hs : ∀ p ∈ T, p ∈ T') : ∀ {l : Lv}, LvIs w T v l → LvIs w T' v l
  | .int _, x => x
  | .tru, x => x
  | .name _, ⟨a, d, j, t, e, h, h1, h2⟩ => ⟨a, d, j, t, e, h, hs _ h1, hs _ h2⟩
  | .ref _ _, ⟨a, d, j1, j2, t1, t2, e, h, h1, h2⟩ => ⟨a, d, j1, j2, t1, t2, e, h, hs _ h1, hs _ h2⟩
theorem LvIs.ne {w : World} {T : List (Addr × Obj)} {v : Value} : ∀ {l : Lv}, LvIs w T v l → v ≠ .none
  | .int _, ⟨t, e⟩ => by rw [e]; intro h; cases h
  | .tru, e => by rw [show v = .bool true from e]; intro h; cases h
  | .name _, ⟨a, d, j, t, e, h, h1, h2⟩ => by rw [e]; intro h; cases h
  | .ref _ _, ⟨a, d, j1, j2, t1, t2, e, h, h1, h2⟩ => by rw [e]; intro h; cases h
theorem LvIs.plain {w : World} {T : List (Addr × Obj)} {v : Value} : ∀ {l : Lv}, LvIs w T v l → plainIs v .none = true
  | .int _, ⟨t, e⟩ => by rw [e]; rfl
  | .tru, e => by rw [show v = .bool true from e]; rfl
  | .name _, ⟨a, d, j, t, e, h, h1, h2⟩ => by rw [e]; rfl
  | .ref _ _, ⟨a, d, j1, j2, t1, t2, e, h, h1, h2⟩ => by rw [e]; rfl
theorem isNot_lv {M : Model} {A : Around} {s : Shared} {E : Value → Shared → Prop} {Q : Value → Shared → Prop} {w : World} {T : List (Addr × Obj)} {v : Value} {l : Lv} (hl : LvIs w T v l) (h : Q (.bool true) s) : wpAny M A (compareOp .IsNot v .none) Q E s :=
  wpAny_isNot_other hl.plain hl.ne h
theorem gives_K {prog : Program} {w : World} {A : Around} {s : Shared} {h₀ : Heap} {L fn : Addr} {m : Str → Option Value} {news : List (Addr × Obj)} {f : List (Addr × Obj) → List (Addr × Obj)} {Q : Value → Shared → Prop} {E : Value → Shared → Prop} {args : List Value} {n : Nat} {D : Dt}
    (F : Fr h₀ L s.heap m) (N : News h₀ L s.heap news) (tl : TlF news f)
    (hc : ∀ R' : Result → Shared → Prop, (∀ a h' tk', ExtBy [] s.heap h' → Gives s.heap h' n (.ref a) D → R' (.ok (.ret (.ref a))) {s with heap := h', toks := tk'}) → codeAny (model prog w) A (.call (.ref fn) ⟨args, []⟩) R' s)
    (h : ∀ a T2 h' tk', Fr h₀ L h' m → News h₀ L h' (f T2) → OffT T2 news → RdL T2 n (.ref a) D → Q (.ref a) {s with heap := h', toks := tk'}) :
    wpAny (model prog w) A (call (.ref fn) args) Q E s := by
  refine wpAny_call (hc _ fun a h' tk' x g => ?_)
  obtain ⟨T2, hT2, r⟩ := g
  refine h a T2 h' tk' (fr_after F x (fun q => nomatch q) (fun _ q => nomatch q)) (fun p hp => ?_) (fun p hp q hq e => ?_) r
  · rcases tl.sub p hp with hp | hp
    · refine ⟨(hT2 p hp).1, fun e => ?_, ?_⟩
      · obtain ⟨oL, es, ep, hL', _⟩ := F.ns
        have := (hT2 p hp).2
        rw [e, hL'] at this; cases this
      · cases q : h₀.get? p.1 with
        | none => rfl
        | some o => have := F.keep _ _ q; rw [(hT2 p hp).2] at this; cases this
    · exact ⟨x _ _ (fun q => nomatch q) (N p hp).1, (N p hp).2⟩
  · have := (hT2 p hp).2
    rw [e, (N q hq).1] at this; cases this
theorem str_is {prog : Program} {w : World} {k : Str} {v : Value} (h : (strKind prog w).is k v = true) : ∃ t, v = .str k t := by
  cases v with
  | str i t =>
    refine ⟨t, ?_⟩
    have e : (i == k) = true ∨ (k == i) = true := by first | exact .inl h | exact .inr h
    rcases e with e | e <;> rw [eq_of_beq e]
  | _ => cases h
inductive Rm (I C D : Addr) : List (Addr × Obj) → List (Addr × Obj) → Prop
  | dI {o l l'} : Rm I C D l l' → Rm I C D ((I, o) :: l) l'
  | dC {o l l'} : Rm I C D l l' → Rm I C D ((C, o) :: l) l'
  | dD {o l l'} : Rm I C D l l' → Rm I C D ((D, o) :: l) l'
  | keep {p l l'} : Rm I C D l l' → Rm I C D (p :: l) (p :: l')
  | nil {l} : Rm I C D l l
theorem Rm.sub {I C D : Addr} : ∀ {l l' : List (Addr × Obj)}, Rm I C D l l' → ∀ p ∈ l', p ∈ l
  | _, _, .dI x, p, hp => .tail _ (x.sub p hp)
  | _, _, .dC x, p, hp => .tail _ (x.sub p hp)
  | _, _, .dD x, p, hp => .tail _ (x.sub p hp)
  | _, _, .nil, p, hp => hp
  | _, _, .keep x, p, hp => by
    rcases List.mem_cons.mp hp with rfl | hp
    · exact .head _
    · exact .tail _ (x.sub p hp)
theorem comp_end {h₀ : Heap} {L I C D : Addr} {m : Str → Option Value} {s₁ : Shared} {oI oC oD : Obj} {S : List (Addr × Obj) → Prop} {rest : Value → List (Addr × Obj) → Prop} {y : Value} {h' : Heap} {tk : Nat} {all news' : List (Addr × Obj)}
    (F : Fr h₀ L h' m) (N : News h₀ L h' all) (rm : Rm I C D all news') (hI : (I, oI) ∈ all) (hC : (C, oC) ∈ all) (hD : (D, oD) ∈ all) (off : LCg.Off3 I C D news') (hS : S news') (r : rest y news') :
    LCg.CompEnd h₀ L m s₁ I oI C oC D oD S rest y { s₁ with heap := h', toks := tk } := LCg.CompEnd.intro F N news' (fun p hp => by
      rcases List.mem_cons.mp hp with rfl | hp
      · exact hI
      · rcases List.mem_cons.mp hp with rfl | hp
        · exact hC
        · rcases List.mem_cons.mp hp with rfl | hp
          · exact hD
          · exact rm.sub p hp) off hS r
theorem off3_app {I C D : Addr} {T2 T : List (Addr × Obj)} (h1 : ∀ p ∈ T2, p.1 ≠ I ∧ p.1 ≠ C ∧ p.1 ≠ D) (h2 : LCg.Off3 I C D T) : LCg.Off3 I C D (T2 ++ T) := LCg.Off3.of fun p hp => by
  rcases List.mem_append.mp hp with hp | hp
  · exact h1 p hp
  · exact h2.mem p hp
theorem offT_3 {I C D : Addr} {T2 news : List (Addr × Obj)} {oI oC oD : Obj} (x : OffT T2 news) (hI : (I, oI) ∈ news) (hC : (C, oC) ∈ news) (hD : (D, oD) ∈ news) : ∀ p ∈ T2, p.1 ≠ I ∧ p.1 ≠ C ∧ p.1 ≠ D := fun p hp => ⟨x p hp _ hI, x p hp _ hC, x p hp _ hD⟩
theorem sorted_of {prog : Program} {w : World} {K : Type} [DecidableEq K] {knd : KeyKind prog w K} {A : Around} {E : Value → Shared → Prop} {s : Shared} {h₀ : Heap} {L d : Addr} {m : Str → Option Value} {news : List (Addr × Obj)} {o : Obj} {kvs : List (K × Value)} {Q : Value → Shared → Prop}
    (hh : A.handled = none) (F : Fr h₀ L s.heap m) (N : News h₀ L s.heap news) (hm : (d, o) ∈ news) (hD : o.IsDictOf knd kvs) (lo : (d == sysModules) = false) (hn : kvs.length ≤ sizeLine)
    (h : ∀ (D : Addr) (h' : Heap) (tk : Nat) (vs : List Value), Fr h₀ L h' m → News h₀ L h' ((D, listOf vs.toArray 0) :: news) → (∀ q ∈ news, q.1 < D) → vs.length = kvs.length → (∀ (j : Nat) (v : Value), vs[j]? = some v → ∃ k x, kvs[j]? = some (k, x) ∧ knd.is k v = true) →
      wpAny (model prog w) A.in1 (call (.builtin "list.sort") [.ref D]) (fun _ s' => Q (.ref D) s') E { s with heap := h', toks := tk }) :
    wpAny (model prog w) A (call (.builtin "sorted") [.ref d]) Q E s := by
  have hg := (N _ hm).1
  obtain ⟨es, ep, r⟩ := hD
  have hat : s.heap.DictAt knd d kvs ep := ⟨o, es, hg, r⟩
  exact kdu_sorted (kdl_dict lo) hh F N hat hn h
theorem keys1 {prog : Program} {w : World} {k : Str} {x : Value} {vs : List Value} (hl : vs.length = ([(k, x)] : List (Str × Value)).length) (hv : ∀ (j : Nat) (v : Value), vs[j]? = some v → ∃ k' x', ([(k, x)] : List (Str × Value))[j]? = some (k', x') ∧ (strKind prog w).is k' v = true) : ∃ t, vs = [.str k t] := by
  match vs, hl with
  | [v], _ =>
    obtain ⟨k', x', e, hk⟩ := hv 0 v rfl
    obtain ⟨t, rfl⟩ := str_is hk
    simp at e
    exact ⟨t, by rw [e.1]⟩
theorem keys2 {prog : Program} {w : World} {k k2 : Str} {x x2 : Value} {vs : List Value} (hl : vs.length = ([(k, x), (k2, x2)] : List (Str × Value)).length) (hv : ∀ (j : Nat) (v : Value), vs[j]? = some v → ∃ k' x', ([(k, x), (k2, x2)] : List (Str × Value))[j]? = some (k', x') ∧ (strKind prog w).is k' v = true) : ∃ t t2, vs = [.str k t, .str k2 t2] := by
  match vs, hl with
  | [v, v2], _ =>
    obtain ⟨k', x', e, hk⟩ := hv 0 v rfl
    obtain ⟨t, rfl⟩ := str_is hk
    obtain ⟨k3, x3, e3, hk3⟩ := hv 1 v2 rfl
    obtain ⟨t3, rfl⟩ := str_is hk3
    simp at e e3
    exact ⟨t, t3, by rw [e.1, e3.1]⟩
theorem va1 {k : Str} {x : Value} : valueAt [(k, x)] k = some x := by simp [valueAt]
theorem lsort1 {prog : Program} {w : World} {A : Around} {E : Value → Shared → Prop} {s : Shared} {h₀ : Heap} {L D : Addr} {m : Str → Option Value} {news : List (Addr × Obj)} {g : Obj → List (Addr × Obj)} {n : Nat} {k : Str} {t : Tok} {Q : Value → Shared → Prop}
    (F : Fr h₀ L s.heap m) (N : News h₀ L s.heap news) (U : UpdF D (listOf #[.str k t] n) news g)
    (h : ∀ c h', Fr h₀ L h' m → News h₀ L h' (g (listOf #[.str k t] c)) → Q .none { s with heap := h' }) :
    wpAny (model prog w) A (call (.builtin "list.sort") [.ref D]) Q E s := by
  obtain ⟨pre, post, rfl, hg, x1, x2⟩ := U.split
  have z := N (D, listOf #[.str k t] n) (List.mem_append.mpr (.inr (.head _)))
  have ho : s.heap.get? D = some (seqObj "list" [Value.str k t].toArray n) := z.1
  refine wpAny_call_entry PyProof.Rows.slot_list_sort ⟨_, z.1, rfl⟩ PyProof.Rows.entry_list_sort (list_sort_treeK (κ := PyProof.Rows.strKind) strKind_oneLt (n := n) (vs := [Value.str k t]) ho (fun p hp => ?_) (fun _ _ _ e => by cases e) (by simp) fun st' hp _ => ⟨.none, rfl, ?_⟩) (PyProof.Rows.args_list_sort _)
  · simp [pairsOf] at hp
    subst hp
    exact ⟨_, rfl⟩
  · have e : (arrOf st').map (·.2) = #[Value.str k t] := by
      have := hp.toList
      simp [pairsOf] at this
      have e2 : arrOf st' = #[(Value.str k t, Value.str k t)] := Array.toList_inj.mp this
      rw [e2]; simp
    rw [e]
    obtain ⟨c, hc⟩ := sortedHeap_at (vs := [Value.str k t]) (out := #[Value.str k t]) ho
    have F4 : Fr h₀ L (sortedHeap s.heap D [Value.str k t] #[Value.str k t]) m :=
      ksk_fr (((ksk_fr F (Heap.SameBut.update s.heap D (Obj.mapSeq fun _ => #[])) z.2.1 z.2.2).push (seqObj "tuple" [Value.str k t].toArray 0)).push (seqObj "list" #[] 0)) (Heap.SameBut.update _ D (Obj.mapSeq fun _ => #[Value.str k t])) z.2.1 z.2.2
    refine h c _ F4 ?_
    rw [hg]
    intro p hq
    rcases List.mem_append.mp hq with hq | hq
    · have y := N p (List.mem_append_left _ hq)
      exact ⟨(sortedHeap_old (x1 p hq) (Heap.lt_size y.1)).trans y.1, y.2⟩
    · rcases List.mem_cons.mp hq with rfl | hq
      · exact ⟨hc, z.2⟩
      · have y := N p (List.mem_append_right _ (.tail _ hq))
        exact ⟨(sortedHeap_old (x2 p hq) (Heap.lt_size y.1)).trans y.1, y.2⟩
theorem below_g {A₀ A : Around} {base h₀ h : Heap} {outer : List Env} {env : Env} {L : Addr} {m : Str → Option Value} (B : Below A₀ base outer h₀) (F : Fr h₀ L h m) (hA : A.frames = some (env :: outer)) (hf : env.frame = some L) (hke : env.scope.kind = .function) : Below A base (env :: outer) h := by
  have hnew : base.get? L = none := by
    cases hq : base.get? L with
    | none => rfl
    | some o => exact absurd (Nat.lt_of_lt_of_le (Heap.lt_size (B.stays L o hq)) F.above) (Nat.lt_irrefl _)
  exact ⟨hA, fun b o e => F.keep b o (B.stays b o e), .cons (by rw [hke]; decide) hf F.ns hnew (B.frames.of_keeps fun b o e _ => ⟨o, F.keep b o e, rfl⟩)⟩
theorem own_g {A₀ : Around} {base h₀ h : Heap} {outer : List Env} {env : Env} {L : Addr} {news : List (Addr × Obj)} (B : Below A₀ base outer h₀) (N : News h₀ L h news) (hf : env.frame = some L) : ∀ p ∈ news, OwnAt base (env :: outer) p.1 := fun p hp => by
  refine ⟨?_, fun env' he q => ?_⟩
  · cases e : base.get? p.1 with
    | none => rfl
    | some o => have := B.stays _ _ e; rw [(N p hp).2.2] at this; cases this
  · cases he with
    | head => rw [hf] at q; exact (N p hp).2.1 (Option.some.inj q).symm
    | tail _ he =>
      obtain ⟨L₁, o₁, hf₁, ho₁⟩ := funFrames_in B.frames env' he
      rw [hf₁] at q
      have := (N p hp).2.2
      rw [← Option.some.inj q, ho₁] at this; cases this
def fresh (s : Heap) (led : List (Addr × Obj)) : List (Addr × Obj) := led.filter fun p => (s.get? p.1).isNone
theorem gives_of {g s h' : Heap} {L : Addr} {led : List (Addr × Obj)} {n : Nat} {v : Value} {d : Dt} (N : News g L h' led) (r : RdL (fresh s led) n v d) : Gives s h' n v d :=
  ⟨fresh s led, fun p hp => by
    have := List.mem_filter.mp hp
    exact ⟨(N p this.1).1, by simpa using this.2⟩, r⟩
theorem fmm {g s h' : Heap} {L a : Addr} {o : Obj} {news led : List (Addr × Obj)} (N : News g L h' led) (hm : (a, o) ∈ led) (hg : ∀ b, g.get? b = none → (∀ q ∈ news, q.1 ≠ b) → s.get? b = none) (hne : ∀ q ∈ news, q.1 ≠ a) : (a, o) ∈ fresh s led :=
  List.mem_filter.mpr ⟨hm, by simp [hg _ (N.fresh hm) hne]⟩
theorem fT {g s h' : Heap} {L : Addr} {T2 news news0 led : List (Addr × Obj)} (N : News g L h' led) (hg : ∀ b, g.get? b = none → (∀ q ∈ news, q.1 ≠ b) → s.get? b = none) (hoff : OffT T2 news0) (hm : ∀ p ∈ T2, p ∈ led) (hsub : ∀ q ∈ news, q ∈ news0) : ∀ p ∈ T2, p ∈ fresh s led :=
  fun p hp => List.mem_filter.mpr ⟨hm p hp, by simp [hg _ (N p (hm p hp)).2.2 fun q hq e => hoff p hp q (hsub q hq) e.symm]⟩

end
section
set_option maxRecDepth 100000
set_option linter.unusedVariables false
open PySem PySem.W PySem.Calls PyProof.Rows PySem.SeqAt
def sift (as : List Addr) (led : List (Addr × Obj)) : List (Addr × Obj) := led.filter fun p => as.all fun b => p.1 != b
theorem mem_sift {as : List Addr} {led : List (Addr × Obj)} {p : Addr × Obj} (hm : p ∈ led) (hn : ∀ b ∈ as, p.1 ≠ b) : p ∈ sift as led :=
  List.mem_filter.mpr ⟨hm, by simp only [List.all_eq_true, bne_iff_ne]; exact hn⟩
theorem sift_sub {as : List Addr} {led : List (Addr × Obj)} : ∀ p ∈ sift as led, p ∈ led := fun p hp => (List.mem_filter.mp hp).1
theorem sift_off {as : List Addr} {led : List (Addr × Obj)} : OwnOff (sift as led) as := fun p hp b hb => by
  have := (List.mem_filter.mp hp).2
  simp only [List.all_eq_true, bne_iff_ne] at this
  exact this b hb
abbrev penO (cells : Addr) (sp sd : Int) (t1 t2 : Tok) : Obj := listOf #[.ref cells, .int sp t1, .int sd t2] 0
theorem unr_endW1 {h₀ : Heap} {L I : Addr} {it : Obj} {rest : (Str → Option Value) → List (Addr × Obj) → Prop} {s₁ : Shared} {h' : Heap} {tk : Nat} {m' : Str → Option Value} {all news' : List (Addr × Obj)} (F : Fr h₀ L h' m') (N : News h₀ L h' all) (rm : Rm I I I all news') (hI : (I, it) ∈ all) (off : ∀ p ∈ news', p.1 ≠ I) (r : rest m' news') : UnrEndW h₀ L s₁ [(I, it)] rest { s₁ with heap := h', toks := tk } :=
  ⟨h', tk, m', news', rfl, F, fun p hp => by
    rcases List.mem_cons.mp hp with rfl | hp
    · exact N _ hI
    · exact N p (rm.sub p hp), fun p hp q hq => by
    rw [List.mem_singleton.mp hq]
    exact off p hp, r⟩

end
section
set_option maxRecDepth 100000
set_option linter.unusedVariables false
open PySem PySem.W PySem.Calls PyProof.Rows PySem.SeqAt
section
variable {prog : Program} {w : World} {A : Around} {E : Value → Shared → Prop} {h₀ : Heap} {env : Env} {target : Expr} {body : List Stmt} {Q : Flow → Shared → Prop} {s : Shared} {ws : List (Addr × String)} {keep : List (Addr × Obj)} {α : Type}
theorem itm_ind {f : α → Itm} {xs : List α} {Inv : List α → List (Addr × Obj) → List (Str × Value) → Prop}
    (turn : ∀ a pre post led kns u v h tk, xs = pre.reverse ++ a :: post → Inv pre led kns → (f a).Is v h → Fr h₀ env.locals h (kn kns u) → AllObj ws (fun its => News h₀ env.locals h (its ++ led) →
      ∀ (P : Flow → Shared → Prop) (E' : Value → Shared → Prop), (∀ f s₂, UnrPostW h₀ env.locals { s with heap := h, toks := tk } its (fun m' n' => SubL keep n' ∧ Stopped (Held (Inv (a :: pre)) m' n')) Q f s₂ → P f s₂) →
      wpAny (model prog w) A (assign target env v) (fun _ s₂ => wpAny (model prog w) A (execs body env) P E' s₂) E' { s with heap := h, toks := tk }))
    (fin : ∀ led kns u h tk, Inv xs.reverse led kns → Fr h₀ env.locals h (kn kns u) → News h₀ env.locals h led → Q .next { s with heap := h, toks := tk }) :
    ∀ (post pre : List α), xs = pre.reverse ++ post → ∀ led kns u, Inv pre led kns → ItemsRest prog w A E h₀ env target body Q s ws keep (post.map f) (kn kns u) led
  | [], pre, e, led, kns, u, hI => fun h tk F N => fin led kns u h tk (by rw [e, List.append_nil, List.reverse_reverse]; exact hI) F N
  | a :: post, pre, e, led, kns, u, hI => fun v h tk ha F => by
    have e' : ∀ m' n', (SubL keep n' ∧ Stopped (Held (Inv (a :: pre)) m' n')) → SubL keep n' ∧ ItemsRest prog w A E h₀ env target body Q s ws keep (post.map f) m' n' := by
      rintro m' n' ⟨x, led', kns', b, c, d⟩
      refine ⟨x, items_mono c ?_⟩
      have q := itm_ind turn fin post (a :: pre) (by rw [e, List.reverse_cons, List.append_assoc]; rfl) led' kns' m' b
      rw [kn_self d] at q
      exact q
    refine allObj_mono (fun its k N => ?_) (turn a pre post led kns u v h tk e hI ha F)
    refine wpAny_mono (k N _ E fun _ _ x => x) (fun _ s₂ z => wpAny_mono z (fun fl s₃ y => ?_) fun _ _ x => x) fun _ _ x => x
    cases fl with
    | ret v => exact y
    | brk => exact y
    | next =>
      obtain ⟨h', tk, m', n', e1, e2, e3, e4, e5⟩ := y
      exact ⟨h', tk, m', n', e1, e2, e3, e4, e' _ _ e5⟩
    | cont =>
      obtain ⟨h', tk, m', n', e1, e2, e3, e4, e5⟩ := y
      exact ⟨h', tk, m', n', e1, e2, e3, e4, e' _ _ e5⟩
theorem itm_start {f : α → Itm} {xs : List α} {Inv : List α → List (Addr × Obj) → List (Str × Value) → Prop} {m : Str → Option Value} {l : List (Addr × Obj)} (h : Held (Inv []) m l)
    (turn : ∀ a pre post led kns u v h tk, xs = pre.reverse ++ a :: post → Inv pre led kns → (f a).Is v h → Fr h₀ env.locals h (kn kns u) → AllObj ws (fun its => News h₀ env.locals h (its ++ led) →
      ∀ (P : Flow → Shared → Prop) (E' : Value → Shared → Prop), (∀ f s₂, UnrPostW h₀ env.locals { s with heap := h, toks := tk } its (fun m' n' => SubL keep n' ∧ Stopped (Held (Inv (a :: pre)) m' n')) Q f s₂ → P f s₂) →
      wpAny (model prog w) A (assign target env v) (fun _ s₂ => wpAny (model prog w) A (execs body env) P E' s₂) E' { s with heap := h, toks := tk }))
    (fin : ∀ led kns u h tk, Inv xs.reverse led kns → Fr h₀ env.locals h (kn kns u) → News h₀ env.locals h led → Q .next { s with heap := h, toks := tk }) :
    ItemsRest prog w A E h₀ env target body Q s ws keep (xs.map f) m l := by
  obtain ⟨led, kns, b, c, d⟩ := h
  have q := itm_ind (E := E) turn fin xs [] rfl led kns m b
  rw [kn_self d] at q
  exact items_mono c q
end
def N4 (n : Int) : Prop := n = 0 ∨ n = 1 ∨ n = 2 ∨ n = 11
theorem N4.lo {n : Int} (h : N4 n) : 0 ≤ n := by rcases h with rfl | rfl | rfl | rfl <;> decide
theorem N4.hi {n : Int} (h : N4 n) : n ≤ 11 := by rcases h with rfl | rfl | rfl | rfl <;> decide
def IsDig (z : List UInt8) (n : Int) : Prop := z = digs n
section
variable {prog : Program} {w : World} {A : Around} {E : Value → Shared → Prop} {s : Shared} {Q : Value → Shared → Prop}
theorem add_L2 {x y : List UInt8} {a b : Nat} {t u : Tok} (hx : x.length ≤ a) (hy : y.length ≤ b) (hs : a + b ≤ 100000) (h : ∀ z t' k, App z x y → z.length ≤ a + b → Q (.bytes z.toArray t') { s with toks := k }) :
    wpAny (model prog w) A (binaryOp .Add (.bytes x.toArray t) (.bytes y.toArray u)) Q E s :=
  add_L (Nat.le_trans (Nat.add_le_add hx hy) hs) fun z t' k e hl => h z t' k e (hl ▸ Nat.add_le_add hx hy)
theorem enc_L2 {v : Int} {t u : Tok} (h0 : 0 ≤ v) (h1 : v < 3) (h : ∀ z t' k, IsFig z v → z.length ≤ 1 → Q (.bytes z.toArray t') { s with toks := k }) :
    wpAny (model prog w) A (call (.builtin "str.encode") [.str (Str.ofString (toString v)) t, .str (Str.ofString "ascii") u]) Q E s :=
  enc_L h0 h1 fun z t' k e hl => h z t' k e (Nat.le_of_eq hl)
theorem enc_N {v : Int} {t u : Tok} (hn : N4 v) (h : ∀ z t' k, IsDig z v → z.length ≤ 2 → Q (.bytes z.toArray t') { s with toks := k }) :
    wpAny (model prog w) A (call (.builtin "str.encode") [.str (Str.ofString (toString v)) t, .str (Str.ofString "ascii") u]) Q E s := by
  rcases hn with rfl | rfl | rfl | rfl
  · exact call_enc_gen (by decide) (by decide) fun t' k => h _ t' k rfl (by decide)
  · exact call_enc_gen (by decide) (by decide) fun t' k => h _ t' k rfl (by decide)
  · exact call_enc_gen (by decide) (by decide) fun t' k => h _ t' k rfl (by decide)
  · exact call_enc_11 fun t' k => h _ t' k rfl (by decide)
end
set_option genInjectivity false in
set_option genSizeOfSpec false in
structure PR where
  D : Addr
  n : Int
  v : Int
  b : Int
  p : Int
  tn : Tok
  tv : Tok
  tb : Tok
  tp : Tok
def PR.q (r : PR) : Int × Int × Int × Int := (r.n, r.v, r.b, r.p)
def PR.at (r : PR) : Addr × Obj := (r.D, plO r.n r.v r.b r.p r.tn r.tv r.tb r.tp)
abbrev prefs (rs : List PR) : Array Value := (rs.reverse.map fun r => Value.ref r.D).toArray
theorem prefs_push {rs : List PR} {D : Addr} {n v b p : Int} {tn tv tb tp : Tok} : (prefs rs).push (.ref D) = prefs (⟨D, n, v, b, p, tn, tv, tb, tp⟩ :: rs) := by
  simp [prefs]
def Inv1 (pen cells dt it pl : Addr) (tk0 : Nat) (ys : List Value) (sd sp0 : Int) (t2 : Tok) (pre : List (Int × Tok)) (led : List (Addr × Obj)) (kns : List (Str × Value)) : Prop :=
  ∃ (z : List UInt8) (tz : Tok) (sp : Int) (t1 : Tok) (cap : Nat) (rs : List PR) (T : List (Addr × Obj)), Built z (rs.map PR.q) ∧ rs.map PR.n = pre.map (·.1) ∧ z.length ≤ 3 + 60 * pre.length ∧ (sp0 ≤ sp ∧ sp ≤ sp0 + 3 * (pre.length : Int)) ∧ (∀ r ∈ rs, r.at ∈ T) ∧ OwnOff T [pen, cells, dt, it, pl] ∧
    led = (pen, penO cells sp sd t1 t2) :: (cells, LCg.lst ys) :: (dt, plO 0 1 2 11 tk0 (tk0 + 1) (tk0 + 1 + 1) (tk0 + 1 + 1 + 1)) :: (pl, listOf (prefs rs) cap) :: T ∧ kns = [(Str.ofString "pen", .ref pen), (Str.ofString "data", .bytes z.toArray tz), (Str.ofString "places", .ref pl)]
theorem inv1_start {pen cells dt it pl : Addr} {tk0 : Nat} {ys : List Value} {sd sp0 : Int} {t1 t2 tz : Tok} {m : Str → Option Value} {n : List (Addr × Obj)} {c : Nat}
    (kn : KnAll m [(Str.ofString "pen", .ref pen), (Str.ofString "data", .bytes ([37, 120, 10] : List UInt8).toArray tz), (Str.ofString "places", .ref pl)])
    (mem : ∀ p ∈ ([(pen, penO cells sp0 sd t1 t2), (cells, LCg.lst ys), (dt, plO 0 1 2 11 tk0 (tk0 + 1) (tk0 + 1 + 1) (tk0 + 1 + 1 + 1)), (pl, listOf #[] c)] : List (Addr × Obj)), p ∈ n) : Held (Inv1 pen cells dt it pl tk0 ys sd sp0 t2 []) m n :=
  ⟨_, _, ⟨[37, 120, 10], tz, sp0, t1, c, [], [], rfl, rfl, Nat.le_refl _, ⟨Int.le_refl _, by simp⟩, (fun r hr => nomatch hr), (fun p hp => nomatch hp), rfl, rfl⟩, mem, kn⟩
theorem g4_len {g : List UInt8} (h : G4 g) : g.length ≤ 3 := by rcases h with rfl | rfl | rfl | rfl <;> decide
theorem o2_len {o : List UInt8} (h : O2 o) : o.length ≤ 5 := by rcases h with rfl | rfl <;> decide
theorem seg_len {g o : List UInt8} {n v : Int} (hg : G4 g) (ho : O2 o) : (seg g n v o).length ≤ 60 := by
  have h1 := g4_len hg
  have h2 := o2_len ho
  have h3 := digs_len n
  have h4 : tailB.length = 10 := rfl
  simp only [seg, List.length_append, figB_len, h4, List.length_cons, List.length_nil]
  omega
theorem built_len : ∀ {ps : List (Int × Int × Int × Int)} {z : List UInt8}, Built z ps → z.length ≤ 3 + 60 * ps.length
  | [], z, h => by rw [show z = [37, 120, 10] from h]; decide
  | q :: r, z, ⟨y, g, o, B, hg, ho, e, _⟩ => by
    have h1 := built_len B
    have h2 := seg_len (n := q.1) (v := q.2.1) hg ho
    rw [e, List.length_append, List.length_cons, Nat.mul_add, ← Nat.add_assoc]
    exact Nat.add_le_add h1 h2
theorem inv1_held {pen cells dt it pl D : Addr} {tk0 : Nat} {ys : List Value} {sd sp0 sp : Int} {t1 t2 tz : Tok} {m : Str → Option Value} {n' T : List (Addr × Obj)} {cap : Nat} {z : List UInt8} {rs : List PR} {pre : List (Int × Tok)} {n v b p : Int} {tn tv tb tp tn' : Tok}
    (kn : KnAll m [(Str.ofString "pen", .ref pen), (Str.ofString "data", .bytes z.toArray tz), (Str.ofString "places", .ref pl)])
    (hp : (pen, penO cells sp sd t1 t2) ∈ n') (hc : (cells, LCg.lst ys) ∈ n') (hd : (dt, plO 0 1 2 11 tk0 (tk0 + 1) (tk0 + 1 + 1) (tk0 + 1 + 1 + 1)) ∈ n') (hl : (pl, listOf ((prefs rs).push (.ref D)) cap) ∈ n')
    (hT : ∀ p ∈ T, p ∈ n') (ho : OwnOff T [pen, cells, dt, it, pl]) (hr : ∀ r ∈ rs, r.at ∈ T) (hD : (D, plO n v b p tn tv tb tp) ∈ sift [pen, cells, dt, it, pl] n')
    (B : Built z ((n, v, b, p) :: rs.map PR.q)) (hn : rs.map PR.n = pre.map (·.1)) (h0 : sp0 ≤ sp) (h1 : sp ≤ sp0 + 3 * (pre.length : Int) + 3) :
    Held (Inv1 pen cells dt it pl tk0 ys sd sp0 t2 ((n, tn') :: pre)) m n' := by
  refine ⟨_, _, ⟨z, tz, sp, t1, cap, ⟨D, n, v, b, p, tn, tv, tb, tp⟩ :: rs, sift [pen, cells, dt, it, pl] n', B, by simp [hn], ?_, ⟨h0, ?_⟩, fun r h => ?_, sift_off, rfl, rfl⟩, fun p hp' => ?_, kn⟩
  · have h9 := built_len B
    rwa [List.length_cons, List.length_map, show rs.length = pre.length from by have := congrArg List.length hn; simpa using this] at h9
  · rw [List.length_cons]; push_cast; omega
  · rcases List.mem_cons.mp h with rfl | h
    · exact hD
    · exact mem_sift (hT _ (hr r h)) fun b hb => ho _ (hr r h) b hb
  · simp only [List.mem_cons] at hp'
    rcases hp' with rfl | rfl | rfl | rfl | h
    · exact hp
    · exact hc
    · exact hd
    · rw [← prefs_push]; exact hl
    · exact sift_sub p h
theorem built_stepN {z z2 z3 z4 z5 z6 y g d f o : List UInt8} {r : List (Int × Int × Int × Int)} {n v : Int} (B : Built y r) (hz : App z z6 [32, 53, 32, 101, 110, 100, 111, 98, 106, 10]) (h6 : App z6 z5 o) (ho : In2 [32, 111, 98, 106] [10, 111, 98, 106, 32] o)
    (h5 : App z5 z4 f) (hf : IsFig f v) (h4 : App z4 z3 [32]) (h3 : App z3 z2 d) (h2 : App z2 y g) (hg : In4 [] [32] [10, 13, 32] [37, 99, 10] g) (hd : IsDig d n) (hv0 : 0 ≤ v) (hv1 : v < 3) :
    Built z ((n, v, (y.length : Int), (y.length : Int) + g.length) :: r) := built_step B hz h6 ho h5 hf h4 h3 h2 hg hd hv0 hv1
theorem its_at {pre post : List (Int × Tok)} {n : Int} {tn tk : Tok} (hx : [((0 : Int), tk), (1, tk + 1), (2, tk + 1 + 1), (11, tk + 1 + 1 + 1)] = pre.reverse ++ (n, tn) :: post) : N4 n ∧ pre.length ≤ 3 := by
  constructor
  · have : (n, tn) ∈ [((0 : Int), tk), (1, tk + 1), (2, tk + 1 + 1), (11, tk + 1 + 1 + 1)] := by rw [hx]; simp
    simp only [List.mem_cons, Prod.mk.injEq, List.not_mem_nil, or_false] at this
    rcases this with h | h | h | h
    · exact .inl h.1
    · exact .inr (.inl h.1)
    · exact .inr (.inr (.inl h.1))
    · exact .inr (.inr (.inr h.1))
  · have := congrArg List.length hx
    simp only [List.length_cons, List.length_nil, List.length_append, List.length_reverse] at this
    omega
theorem nat60 {a k : Nat} (h : a ≤ 3 + 60 * k) (hk : k ≤ 3) : a ≤ 183 := by omega
theorem int9 {a b : Int} {k : Nat} (h : a ≤ b + 3 * (k : Int)) (hk : k ≤ 3) : a ≤ b + 9 := by omega
theorem prefs_size {rs : List PR} (h : rs.length ≤ 4) : (prefs rs).size ≤ sizeLine := by
  rw [List.size_toArray, List.length_map, List.length_reverse, sizeLine_eq]; omega
theorem rs_len {rs : List PR} {pre : List (Int × Tok)} (h : rs.map PR.n = pre.map (·.1)) (hp : pre.length ≤ 3) : rs.length ≤ 4 := by
  have := congrArg List.length h
  simp only [List.length_map] at this
  omega
theorem pl_all : ∀ {rs : List PR} {z : List UInt8}, Built z (rs.map PR.q) → ∀ r ∈ rs, Pl z r.n r.v r.b r.p
  | [], _, _, _, h => nomatch h
  | r :: rs, z, B, x, h => by
    rcases List.mem_cons.mp h with rfl | h
    · exact pl_first B
    · exact pl_next B fun y B' => pl_all B' x h
theorem rs_fin {rs : List PR} {tk : Tok} (h : rs.map PR.n = ([((0 : Int), tk), (1, tk + 1), (2, tk + 1 + 1), (11, tk + 1 + 1 + 1)].reverse).map (·.1)) : rs.map PR.n = [11, 2, 1, 0] := h
theorem rs_len4 {rs : List PR} (h : rs.map PR.n = [11, 2, 1, 0]) : rs.length = 4 := by
  have := congrArg List.length h
  simpa using this
theorem rs_n4 {rs : List PR} (h : rs.map PR.n = [11, 2, 1, 0]) : ∀ r ∈ rs, N4 r.n := fun r hr => by
  have : r.n ∈ rs.map PR.n := List.mem_map.mpr ⟨r, hr, rfl⟩
  rw [h] at this
  simp only [List.mem_cons, List.not_mem_nil, or_false] at this
  rcases this with h | h | h | h
  · exact .inr (.inr (.inr h))
  · exact .inr (.inr (.inl h))
  · exact .inr (.inl h)
  · exact .inl h
set_option genInjectivity false in
set_option genSizeOfSpec false in
structure ER where
  num : Int
  x : Addr
  d : Addr
  wy : Str
  a : Int
  c : Int
  tw : Tok
  ja : Tok
  jb : Tok
  jc : Tok
  ta : Tok
  tc : Tok
def ER.kv (e : ER) : Int × Value := (e.num, .ref e.x)
def ER.met (z : List UInt8) (e : ER) : Bool := metF z e.num e.wy e.a e.c
def ER.In (w : World) (T : List (Addr × Obj)) (e : ER) : Prop := (@LT.lt Nat _ e.d e.x) ∧ (e.x, instObj 535 e.d) ∈ T ∧ (e.d, entD w (.str e.wy e.tw) e.a e.c e.ja e.jb e.jc e.ta e.tc) ∈ T
theorem ER.In.mono {w : World} {T T' : List (Addr × Obj)} {e : ER} (hs : ∀ p ∈ T, p ∈ T') (h : e.In w T) : e.In w T' := ⟨h.1, hs _ h.2.1, hs _ h.2.2⟩
def Inv2 (w : World) (pen cells pl ent it : Addr) (ys : List Value) (sd sp0 : Int) (t2 : Tok) (z : List UInt8) (tz : Tok) (rs : List PR) (cap : Nat) (pre : List PR) (led : List (Addr × Obj)) (kns : List (Str × Value)) : Prop :=
  ∃ (sp : Int) (t1 : Tok) (oe : Obj) (b : Bool) (es : List ER) (T : List (Addr × Obj)), Obj.IsDictOf (intKind PySem.Challenge.rw_nn0135_01.row.prog w) oe (es.map ER.kv) ∧ es.map ER.num = (pre.map PR.n).reverse ∧ b = es.all (ER.met z) ∧ (sp0 ≤ sp ∧ sp ≤ sp0 + 12 + 2 * (pre.length : Int)) ∧ (∀ e ∈ es, e.In w T) ∧ (∀ r ∈ rs, r.at ∈ T) ∧ OwnOff T [pen, cells, pl, ent, it] ∧
    led = (pen, penO cells sp sd t1 t2) :: (cells, LCg.lst ys) :: (pl, listOf (prefs rs) cap) :: (ent, oe) :: T ∧ kns = [(Str.ofString "pen", .ref pen), (Str.ofString "data", .bytes z.toArray tz), (Str.ofString "entries", .ref ent), (Str.ofString "is_due", .bool b)]
theorem inv2_start {w : World} {pen cells pl ent it : Addr} {ys : List Value} {sd sp0 sp : Int} {t1 t2 tz : Tok} {z : List UInt8} {rs : List PR} {cap : Nat} {T : List (Addr × Obj)} {oe : Obj} {m : Str → Option Value} {n : List (Addr × Obj)}
    (kn : KnAll m [(Str.ofString "pen", .ref pen), (Str.ofString "data", .bytes z.toArray tz), (Str.ofString "entries", .ref ent), (Str.ofString "is_due", .bool true)])
    (hp : (pen, penO cells sp sd t1 t2) ∈ n) (hc : (cells, LCg.lst ys) ∈ n) (hl : (pl, listOf (prefs rs) cap) ∈ n) (he : (ent, oe) ∈ n) (hT : ∀ p ∈ T, p ∈ n) (hr : ∀ r ∈ rs, r.at ∈ T) (ho : ∀ p ∈ T, ∀ b ∈ [pen, cells, pl, ent, it], p.1 ≠ b)
    (hD : Obj.IsDictOf (intKind PySem.Challenge.rw_nn0135_01.row.prog w) oe []) (h0 : sp0 ≤ sp) (h1 : sp ≤ sp0 + 12) : Held (Inv2 w pen cells pl ent it ys sd sp0 t2 z tz rs cap []) m n := by
  refine ⟨_, _, ⟨sp, t1, oe, true, [], T, hD, rfl, rfl, ⟨h0, by simpa using h1⟩, (fun r hr => nomatch hr), hr, ho, rfl, rfl⟩, fun p hp' => ?_, kn⟩
  simp only [List.mem_cons] at hp'
  rcases hp' with rfl | rfl | rfl | rfl | h
  · exact hp
  · exact hc
  · exact hl
  · exact he
  · exact hT p h
theorem new_key {rs pre post : List PR} {r : PR} (hn : rs.map PR.n = [11, 2, 1, 0]) (hx : rs.reverse = pre.reverse ++ r :: post) : r.n ∉ pre.map PR.n := fun h => by
  have e : rs = post.reverse ++ r :: pre := by
    have := congrArg List.reverse hx
    simpa using this
  have nd : (rs.map PR.n).Nodup := by rw [hn]; decide
  rw [e, List.map_append, List.map_cons] at nd
  exact (List.nodup_cons.mp (List.nodup_append.mp nd).2.1).1 h
theorem keys_none {es : List ER} {pre : List PR} {n : Int} (hk : es.map ER.num = (pre.map PR.n).reverse) (hn : n ∉ pre.map PR.n) : valueAt (es.map ER.kv) n = none := by
  apply valueAt_none_of_not_mem
  intro h
  rw [List.map_map, show (Prod.fst ∘ ER.kv) = ER.num from rfl, hk, List.mem_reverse] at h
  exact hn h
theorem inv2_held {w : World} {pen cells pl ent it x d : Addr} {ys : List Value} {sd sp0 sp : Int} {t1 t2 tz : Tok} {z : List UInt8} {rs pre : List PR} {r : PR} {cap : Nat} {T n' : List (Addr × Obj)} {oe : Obj} {es : List ER} {b b' : Bool} {m : Str → Option Value} {wy : Str} {n a c : Int} {tw ja jb jc ta tc : Tok}
    (kn : KnAll m [(Str.ofString "pen", .ref pen), (Str.ofString "data", .bytes z.toArray tz), (Str.ofString "entries", .ref ent), (Str.ofString "is_due", .bool b')])
    (hp : (pen, penO cells sp sd t1 t2) ∈ n') (hc : (cells, LCg.lst ys) ∈ n') (hl : (pl, listOf (prefs rs) cap) ∈ n') (he : (ent, oe) ∈ n') (hT : ∀ p ∈ T, p ∈ n') (ho : OwnOff T [pen, cells, pl, ent, it]) (hr : ∀ r ∈ rs, r.at ∈ T) (hes : ∀ e ∈ es, e.In w T)
    (hx : (x, instObj 535 d) ∈ sift [pen, cells, pl, ent, it] n') (hd : (d, entD w (.str wy tw) a c ja jb jc ta tc) ∈ sift [pen, cells, pl, ent, it] n') (hlt : @LT.lt Nat _ d x)
    (hD : Obj.IsDictOf (intKind PySem.Challenge.rw_nn0135_01.row.prog w) oe (stored (es.map ER.kv) n (.ref x))) (hrn : r.n = n) (hk : es.map ER.num = (pre.map PR.n).reverse) (hn : n ∉ pre.map PR.n)
    (hb : b = es.all (ER.met z)) (hb' : b' = (b && metF z n wy a c)) (h0 : sp0 ≤ sp) (h1 : sp ≤ sp0 + 12 + 2 * (pre.length : Int) + 2) :
    Held (Inv2 w pen cells pl ent it ys sd sp0 t2 z tz rs cap (r :: pre)) m n' := by
  have hs : ∀ p ∈ T, p ∈ sift [pen, cells, pl, ent, it] n' := fun p hp => mem_sift (hT p hp) fun b hb => ho p hp b hb
  rw [stored_absent (keys_none hk hn)] at hD
  refine ⟨_, _, ⟨sp, t1, oe, b', es ++ [⟨n, x, d, wy, a, c, tw, ja, jb, jc, ta, tc⟩], sift [pen, cells, pl, ent, it] n', by rw [List.map_append]; exact hD, by simp [hk, hrn], ?_, ⟨h0, ?_⟩, fun e h => ?_, fun r h => hs _ (hr r h), sift_off, rfl, rfl⟩, fun p hp' => ?_, kn⟩
  · rw [hb', hb]; simp [List.all_append, ER.met]
  · rw [List.length_cons]; push_cast; omega
  · rcases List.mem_append.mp h with h | h
    · exact (hes e h).mono hs
    · rw [List.mem_singleton.mp h]; exact ⟨hlt, hx, hd⟩
  · simp only [List.mem_cons] at hp'
    rcases hp' with rfl | rfl | rfl | rfl | h
    · exact hp
    · exact hc
    · exact hl
    · exact he
    · exact sift_sub p h
theorem allLt_mem {d : Addr} {l : List (Addr × Obj)} (h : AllLt d l) : ∀ p ∈ l, @LT.lt Nat _ p.1 d := by
  induction l with
  | nil => intro p hp; cases hp
  | cons q l ih =>
    intro p hp
    rcases List.mem_cons.mp hp with e | hp
    · rw [e]; exact h.1
    · exact ih h.2 p hp
theorem off2 {T l1 l2 : List (Addr × Obj)} {pen cells dt it pl ent I : Addr} (hof : OwnOff T [pen, cells, dt, it, pl]) (h1 : AllLt ent l1) (s1 : ∀ p ∈ T, p ∈ l1) (h2 : AllLt I l2) (s2 : ∀ p ∈ T, p ∈ l2) : ∀ p ∈ T, ∀ b ∈ [pen, cells, pl, ent, I], p.1 ≠ b := fun p hp b hb => by
  simp only [List.mem_cons, List.not_mem_nil, or_false] at hb
  rcases hb with rfl | rfl | rfl | rfl | rfl
  · exact hof p hp _ (by simp)
  · exact hof p hp _ (by simp)
  · exact hof p hp _ (by simp)
  · exact Nat.ne_of_lt (allLt_mem h1 p (s1 p hp))
  · exact Nat.ne_of_lt (allLt_mem h2 p (s2 p hp))
theorem iter_prefs {prog : Program} {w : World} {A : Around} {h₀ : Heap} {env : Env} {target : Expr} {body : List Stmt} {Q : Flow → Shared → Prop} {E : Value → Shared → Prop} {s : Shared} {ax : Addr} {rs : List PR} {n : Nat} {m₀ : Str → Option Value} {news : List (Addr × Obj)}
    (hh : A.handled = none) (F : Fr h₀ env.locals s.heap m₀) (N : News h₀ env.locals s.heap news) (hm : (ax, listOf (prefs rs) n) ∈ news)
    (rest₀ : ∀ I : Addr, (∀ p ∈ news, p.1 < I) → ItemsRest prog w A E h₀ env target body Q s [(I, "list_iterator")] [(ax, listOf (prefs rs) n)] (rs.reverse.map fun r => Itm.val (.ref r.D)) m₀ news) :
    wpAny (model prog w) A (pyIter (.ref ax)) (fun it s₂ => TurnsAt prog w A h₀ env target body Q E it s₂) E s :=
  iter_listTurns hh F N hm rfl rfl fun I hI => by rw [List.map_map]; exact rest₀ I hI
theorem turn_facts {rs pre post : List PR} {r : PR} {T : List (Addr × Obj)} {z : List UInt8} (hx : rs.reverse = pre.reverse ++ r :: post) (hT : ∀ r ∈ rs, r.at ∈ T) (hp : ∀ r ∈ rs, Pl z r.n r.v r.b r.p) (hn : ∀ r ∈ rs, N4 r.n) (h4 : rs.length = 4) : r.at ∈ T ∧ Pl z r.n r.v r.b r.p ∧ N4 r.n ∧ pre.length ≤ 3 := by
  have hm : r ∈ rs := by
    have : r ∈ rs.reverse := by rw [hx]; simp
    simpa using this
  refine ⟨hT _ hm, hp _ hm, hn _ hm, ?_⟩
  have := congrArg List.length hx
  simp only [List.length_cons, List.length_append, List.length_reverse] at this
  omega
theorem int18 {a b : Int} {k : Nat} (h : a ≤ b + 12 + 2 * (k : Int)) (hk : k ≤ 3) : a ≤ b + 18 := by omega
theorem es_len {es : List ER} {pre : List PR} (hk : es.map ER.num = (pre.map PR.n).reverse) (hp : pre.length ≤ 3) : (es.map ER.kv).length ≤ 3 := by
  have := congrArg List.length hk
  simp only [List.length_map, List.length_reverse] at this ⊢
  omega
theorem va_stored {kvs : List (Int × Value)} {n : Int} {v : Value} (h : valueAt kvs n = none) : valueAt (stored kvs n v) n = some v := by
  rw [stored_absent h]
  unfold valueAt at h ⊢
  rw [Option.map_eq_none_iff] at h
  rw [List.find?_append, h]
  simp
theorem set_size {kvs : List (Int × Value)} (h : kvs.length ≤ 3) : kvs.length ≤ sizeLine := by rw [sizeLine_eq]; omega
section
variable {z : List UInt8} {n v b p o e a c : Int} {bb m : Bool} {x : Str}
theorem N4.pos {n : Int} (h : N4 n) (h0 : ¬ n = 0) : n = 1 ∨ n = 2 ∨ n = 11 := h.resolve_left h0
theorem du_ok (hn : N4 n) (h : Pl z n v b p) (ho : Or2 b p o) : bb = (bb && metF z n (Str.ofString "used") o v) := by
  refine dA rfl ?_
  by_cases h0 : n = 0
  · subst h0; exact met_0
  · exact (met_used (hn.pos h0)).trans (pl_ok h (hn.pos h0) ho)
theorem du_ff (hb : bb = false) : bb = (bb && m) := by rw [hb]; rfl
theorem du_60 (hb : bb = true) (h0 : n = 0) : (n == 0) = (bb && metF z n x a c) := by subst h0; rw [hb, met_0]; rfl
theorem du_n (hb : bb = true) (hn : N4 n) (h : ∀ h0 : ¬ n = 0, meetsF z n a c = false) : (n == 0) = (bb && metF z n (Str.ofString "used") a c) := by
  by_cases h0 : n = 0
  · exact du_60 hb h0
  · rw [hb, met_used (hn.pos h0), h h0]; simpa using h0
theorem du_7 (hb : bb = true) (hn : N4 n) (h : Pl z n v b p) : (n == 0) = (bb && metF z n (Str.ofString "used") p (v + 1)) := du_n hb hn fun h0 => pl_7 h (hn.pos h0)
theorem du_8 (hb : bb = true) (hn : N4 n) (h0 : 0 ≤ e) : (n == 0) = (bb && metF z n (Str.ofString "used") ((z.length : Int) + e) v) := du_n hb hn fun _ => pl_8 h0
theorem du_6c (hb : bb = true) (h0 : ¬ n = 0) (h1 : ¬ n = 11) (hn : N4 n) (h : Pl z n v b p) (e0 : 0 ≤ e) (e1 : e < 2) : (n == 11) = (bb && metF z n (Str.ofString "used") (p + 1 + e) v) := by
  rw [hb, met_used (hn.pos h0), pl_6 h (hn.pos h0) e0 e1]; simpa using h1
theorem du_6b (hb : bb = true) (h1 : n = 11) (h : Pl z n v b p) (e0 : 0 ≤ e) (e1 : e < 2) : ((z.drop (p + 1 + e).toNat).take ((p + 1 + e + 3).toNat - (p + 1 + e).toNat) == [49, 49, 32]) = (bb && metF z n (Str.ofString "used") (p + 1 + e) v) := by
  subst h1
  rw [pl_6s h e0 e1, hb, met_used (.inr (.inr rfl)), pl_6 h (.inr (.inr rfl)) e0 e1]; rfl
theorem du_fr (h : Or2 (Str.ofString "free") (Str.ofString "packed") x) : bb = (bb && metF z n x a c) := by rw [met_free h, Bool.and_true]
end
theorem es_four {es : List ER} {rs : List PR} (hk : es.map ER.num = (rs.reverse.reverse.map PR.n).reverse) (hn : rs.map PR.n = [11, 2, 1, 0]) : es.map ER.num = [0, 1, 2, 11] := by
  rw [hk, List.reverse_reverse, hn]; rfl
theorem iter_ent {prog : Program} {w : World} {A : Around} {h₀ : Heap} {env : Env} {target : Expr} {body : List Stmt} {Q : Flow → Shared → Prop} {E : Value → Shared → Prop} {s : Shared} {d : Addr} {od : Obj} {es : List ER} {m₀ : Str → Option Value} {news : List (Addr × Obj)}
    (hh : A.handled = none) (F : Fr h₀ env.locals s.heap m₀) (N : News h₀ env.locals s.heap news) (hm : (d, od) ∈ news) (hd : od.IsDictOf (intKind prog w) (es.map ER.kv)) (lo : (d == sysModules) = false)
    (rest₀ : ∀ I : Addr, (∀ p ∈ news, p.1 < I) → ItemsRest prog w A E h₀ env target body Q s [(I, "dict_keyiterator")] [(d, od)] (es.map fun e => Itm.tok fun t => .int e.num t) m₀ news) :
    wpAny (model prog w) A (pyIter (.ref d)) (fun it s₂ => TurnsAt prog w A h₀ env target body Q E it s₂) E s :=
  kta_keys (enc := PyData.int) hh F N hm hd lo (fun k v h => int_is h) (by rw [List.map_map]; rfl) rest₀
def Inv3 (pen cells pl ent : Addr) (o1 o2 o3 o4 : Obj) (z : List UInt8) (tz : Tok) (T : List (Addr × Obj)) (pre : List ER) (led : List (Addr × Obj)) (kns : List (Str × Value)) : Prop :=
  (∀ e ∈ pre, ER.met z e = true) ∧ led = (pen, o1) :: (cells, o2) :: (pl, o3) :: (ent, o4) :: T ∧ kns = [(Str.ofString "data", .bytes z.toArray tz), (Str.ofString "entries", .ref ent)]
theorem inv3_held {pen cells pl ent : Addr} {o1 o2 o3 o4 : Obj} {z : List UInt8} {tz : Tok} {T n : List (Addr × Obj)} {pre : List ER} {m : Str → Option Value} (kn : KnAll m [(Str.ofString "data", .bytes z.toArray tz), (Str.ofString "entries", .ref ent)])
    (h1 : (pen, o1) ∈ n) (h2 : (cells, o2) ∈ n) (h3 : (pl, o3) ∈ n) (h4 : (ent, o4) ∈ n) (hT : ∀ p ∈ T, p ∈ n) (h : ∀ e ∈ pre, ER.met z e = true) : Held (Inv3 pen cells pl ent o1 o2 o3 o4 z tz T pre) m n := by
  refine ⟨_, _, ⟨h, rfl, rfl⟩, fun p hp => ?_, kn⟩
  simp only [List.mem_cons] at hp
  rcases hp with rfl | rfl | rfl | rfl | hp
  · exact h1
  · exact h2
  · exact h3
  · exact h4
  · exact hT p hp
theorem met_cons {z : List UInt8} {e : ER} {pre : List ER} (h : ER.met z e = true) (hs : ∀ e ∈ pre, ER.met z e = true) : ∀ x ∈ e :: pre, ER.met z x = true := fun x hx => by
  rcases List.mem_cons.mp hx with rfl | hx
  · exact h
  · exact hs x hx
theorem es_va {es pre post : List ER} {e : ER} (hk : es.map ER.num = [0, 1, 2, 11]) (hx : es = pre.reverse ++ e :: post) : e ∈ es ∧ valueAt (es.map ER.kv) e.num = some (.ref e.x) := by
  have hm : e ∈ es := by rw [hx]; simp
  refine ⟨hm, ?_⟩
  obtain ⟨i, hi⟩ := List.getElem?_of_mem hm
  refine valueAt_of_get (i := i) ?_ (by rw [List.getElem?_map, hi]; rfl)
  rw [List.map_map, show (Prod.fst ∘ ER.kv) = ER.num from rfl, hk]
  decide
theorem sound_f {bb : Bool} {es : List ER} {e : ER} {z : List UInt8} (hb : bb = es.all (ER.met z)) (hm : e ∈ es) (h : ER.met z e = false) : (false == bb) = true := by
  have : es.all (ER.met z) = false := by
    rw [List.all_eq_false]; exact ⟨e, hm, by rw [h]; decide⟩
  rw [hb, this]; rfl
theorem sound_t {bb : Bool} {es : List ER} {z : List UInt8} (hb : bb = es.all (ER.met z)) (h : ∀ e ∈ es.reverse, ER.met z e = true) : (true == bb) = true := by
  have : es.all (ER.met z) = true := by
    rw [List.all_eq_true]; exact fun e he => h e (List.mem_reverse.mpr he)
  rw [hb, this]; rfl
theorem off1 {T l : List (Addr × Obj)} {I : Addr} (h : AllLt I l) (s : ∀ p ∈ T, p ∈ l) : OwnOff T [I] := fun p hp b hb => by
  rw [List.mem_singleton.mp hb]; exact Nat.ne_of_lt (allLt_mem h p (s p hp))

end
section
set_option maxRecDepth 100000
set_option maxHeartbeats 40000000
set_option linter.unusedVariables false
theorem words_Sound_0 : True := by
  k_with_none
  trivial
open PySem PySem.W PySem.Calls PyProof.Rows
theorem words_Sound_1 : True := by
  k_with "k_room" => ((try simp only [depth_under_make, depth_under_kw, depth_in1, depth_deeper, depth_mark]); (try dsimp only); (show (_ : Nat) < 1000); first | (refine Nat.lt_of_le_of_lt (by with_reducible assumption) ?_; decide) | (refine Nat.lt_of_le_of_lt (Nat.add_le_add_right (by with_reducible assumption) 1) ?_; decide) | (refine Nat.lt_of_le_of_lt (Nat.add_le_add_right (Nat.add_le_add_right (by with_reducible assumption) 1) 1) ?_; decide) | omega)
  k_with "LeaveC" => ((refine' leaveC_ ?k1 ?k2 ?_; (case k1 => k_asm); (case k2 => k_asm); intro _))
  k_with "my num" => ((try simp only [Around.deeper_units, depth_deeper, depth_under_make, depth_under_kw, depth_in1, depth_mark]); (try dsimp only); first | (refine Nat.le_trans (by with_reducible assumption) ?_; decide) | (refine Nat.le_trans (Nat.add_le_add_right (by with_reducible assumption) 1) ?_; decide) | (refine Nat.le_trans (Nat.add_le_add_right (Nat.add_le_add_right (by with_reducible assumption) 1) 1) ?_; decide) | omega)
  k_with "k_in" => (first | with_reducible assumption | ((refine' Frag.In.keeps ?kiX (Fr.keep ?kiF)); (case kiF => with_reducible assumption); (case kiX => with_reducible assumption)))
  k_with "my mem" => (first | exact List.forall_mem_nil _ | (refine' List.forall_mem_cons.mpr ⟨?ma, ?mb⟩; (case ma => k_mem); (case mb => walk_at "my mem")) | walk_at "my sub")
  k_with "my tail" => (first | with_reducible assumption | (refine List.mem_cons_of_mem _ ?_; walk_at "my tail") | (refine List.mem_append_right _ ?_; walk_at "my tail") | (refine List.mem_append_left _ ?_; walk_at "my tail"))
  k_with "my sub" => ((intro _ _; walk_at "my tail"))
  k_with "my sub" => ((intro _ hp9; first | walk_at "my tail" | (rcases List.mem_append.mp hp9 with hp8 | hp8 <;> walk_at "my tail")))
  k_with "my rm" => (first | (with_reducible refine' Rm.dI ?rmx; (case rmx => walk_at "my rm")) | (with_reducible refine' Rm.dC ?rmx; (case rmx => walk_at "my rm")) | (with_reducible refine' Rm.dD ?rmx; (case rmx => walk_at "my rm")) | (refine' Rm.keep ?rmx; (case rmx => walk_at "my rm")) | exact Rm.nil)
  k_with "k_mem" => (first | with_reducible_and_instances assumption | (refine List.mem_append_right _ ?_; k_mem) | (refine List.mem_append_left _ ?_; k_mem) | fail "k_mem")
  k_with "k_all" => (first | kst_allNe | exact OffT.ne (by with_reducible assumption) (by k_mem) | fail "k_all")
  k_with "my ne" => (first | exact List.forall_mem_nil _ | (refine List.forall_mem_cons.mpr ⟨by k_ne, ?_⟩; walk_at "my ne"))
  k_with "my si" => (exact mem_sift (by k_mem) (by walk_at "my ne"))
  k_with "k_lt" => (skip)
  k_with "k_ne" => (first | with_reducible assumption | kd_ltNe | (refine Ne.symm ?_; kd_ltNe) | ((try dsimp only); first | with_reducible assumption | (refine Ne.symm ?_; with_reducible assumption)) | (refine neN ?_; (try dsimp only); omega))
  k_with "UnrEndW" => ((refine unr_endW1 (by k_asm) (by k_asm) (by walk_at "my rm") (by k_mem) (by k_all) ⟨⟨by k_mem, trivial⟩, ?_⟩))
  k_with "my sp" => (first | exact spA (by with_reducible assumption) | exact spB (by with_reducible assumption) | exact spC (by with_reducible assumption) | exact spD (by with_reducible assumption) | (constructor <;> omega))
  k_with "call ref" => (((with_reducible show wpAny _ _ (call (Value.ref 551) [Value.ref _, Value.int _ _]) _ _ _); k_dflt (refine' draw_K ?kB ?kX ?kT ?kF ?kN ?kU ?kc ?kne ?kI ?kl ?kzl ?kA ?ku ?kk ?ksp ?ksd ?kzs ?km ?_; (case kB => k_asm); (case kX => k_asm); (case kT => k_asm); (case kF => k_asm); (case kN => k_asm); (case kU => k_updF); (case kc => k_mem); (case kne => (first | assumption | omega)); (case kI => assumption); (case kl => assumption); (case kzl => assumption); (case kA => walk_at "my num"); (case ku => walk_at "my num"); (case kk => exact rfl); (case ksp => walk_at "my sp"); (case ksd => assumption); (case kzs => assumption); (case km => first | exact ⟨by decide, by decide⟩ | (constructor <;> omega)); k_whole); intro _ _ _ _ _ _ _ _ _; (try k_sweep)))
  k_with "my len" => (first | with_reducible assumption | exact Nat.le_refl _)
  k_with "subscriptTail" => (((with_reducible show wpAny _ _ (subscriptTail _ _ (Value.ref _) (Value.int _ _)) _ _ _); k_dflt (refine' sub_B4' ?kN ?km ?k0 ?k1 ?kn ?_; (case kN => k_asm); (case km => k_mem); (case k0 => assumption); (case k1 => assumption); (case kn => decide)); intro _ _ _ _))
  k_with "subscriptTail" => (((with_reducible show wpAny _ _ (subscriptTail _ _ (Value.ref _) (Value.int _ _)) _ _ _); k_dflt (refine' sub_B2' ?kN ?km ?k0 ?k1 ?kn ?_; (case kN => k_asm); (case km => k_mem); (case k0 => assumption); (case k1 => assumption); (case kn => decide)); intro _ _ _ _))
  k_with "subscriptTail" => (((with_reducible show wpAny _ _ (subscriptTail _ _ (Value.ref _) (Value.int _ _)) _ _ _); k_dflt (refine' sub_I2' ?kN ?km ?k0 ?k1 ?_; (case kN => k_asm); (case km => k_mem); (case k0 => walk_at "my fm2"); (case k1 => walk_at "my fm2")); intro _ _ _))
  k_with "subscriptTail" => (((with_reducible show wpAny _ _ (subscriptTail _ _ (Value.ref _) (Value.int _ _)) _ _ _); k_dflt (refine' sub_S2' ?kN ?km ?k0 ?k1 ?_; (case kN => k_asm); (case km => k_mem); (case k0 => walk_at "my fm2"); (case k1 => walk_at "my fm2")); intro _ _ _))
  k_with "my fm2" => (first | assumption | exact (fm2 _).1 | exact (fm2 _).2)
  k_with "getMethod str" => ((refine getMethod_encode ?_))
  k_with "call builtin:str.encode" => ((refine enc_L2 (by first | assumption | decide) (by first | assumption | decide) ?_); intro _ _ _ _ hzl')
  k_with "call builtin:str.encode" => ((refine enc_N (by with_reducible assumption) ?_); intro _ _ _ _ hzl')
  k_with "call builtin:len" => (((with_reducible show wpAny _ _ (call (Value.builtin "len") [Value.bytes _ _]) _ _ _); (refine len_L (Nat.le_trans (by walk_at "my len") (by decide)) ?_); intro _ _))
  k_with "binaryOp Add bytes bytes" => (((with_reducible show wpAny _ _ (binaryOp _ (Value.bytes _ _) (Value.bytes _ _)) _ _ _); (refine add_L2 (by walk_at "my len") (by walk_at "my len") (by decide) ?_); intro _ _ _ _ hzl'))
  k_with "call builtin:list.append" => ((with_reducible show wpAny _ _ (call (Value.builtin _) [Value.ref _, _]) _ _ _); k_dflt (refine' append_K ?k1 ?k2 ?k3 ?_ ?z; (case k1 => k_asm); (case k2 => k_asm); (case k3 => k_upd); (case z => exact prefs_size (by with_reducible assumption)); k_whole); intro _ _ _; (try k_sweep))
  k_with "exec For Tuple Name cons nil" => ((rename Fr _ _ _ _ => lF'); (with_unfolding_all refine' For_turns lF' ?_; k_whole))
  k_with "pyIter ref" => ((with_reducible show wpAny _ _ (pyIter (Value.ref _)) (fun it s₂ => TurnsAt _ _ _ _ _ _ _ _ _ it s₂) _ _); (refine iter_prefs (by rfl) (by k_asm) (by k_asm) (by k_mem) ?_); intro _ hI; (try k_lt hI))
  k_with "pyIter ref" => ((with_reducible show wpAny _ _ (pyIter (Value.ref _)) (fun it s₂ => TurnsAt _ _ _ _ _ _ _ _ _ it s₂) _ _); (refine iter_tupTurns (by rfl) (by k_asm) (by k_asm) (by k_mem) rfl rfl ?_); intro _ hI; (try k_lt hI))
  k_with "setItem ref int" => ((with_reducible show wpAny _ _ (setItem (Value.ref _) (Value.int _ _) (Value.ref _)) _ _ _); k_dflt (refine' kda_set (knd := PySem.intKind _ _) ?F ?N ?U ?d (intKind_is _ _ _ _) ?z ?_; (case F => k_asm); (case N => k_asm); (case U => k_updF); (case d => with_reducible assumption); (case z => exact set_size (by with_reducible assumption))); intro _ _ _ N' _; (try dsimp only at N'); (try k_sweep))
  k_with "subscriptTail" => ((with_reducible show wpAny _ _ (subscriptTail _ _ (Value.ref _) (Value.int _ _)) _ _ _); k_dflt (refine kdt_tail (knd := PySem.intKind _ _) (by k_asm) (by k_mem) (by with_reducible assumption) (kdt_getItem (knd := PySem.intKind _ _) (by k_asm) (by k_mem) (by with_reducible assumption) (intKind_is _ _ _ _) (by first | exact va_stored (by with_reducible assumption) | with_reducible assumption) ?_)))
  k_with "subscriptTail" => (((with_reducible show wpAny _ _ (subscriptTail _ (Expr.Slice (some _) (some _) none _) (Value.bytes _ _) (Value.ref _)) _ _ _); (with_reducible rename Fr _ _ _ _ => F'); (with_reducible rename News _ _ _ _ => N'); (refine slice_2 (s := ⟨_, _, _, _, _⟩) F' N' (by omega) (by omega) (by omega) ?_); intro _ _ _ _ _))
  k_with "subscriptTail" => (((with_reducible show wpAny _ _ (subscriptTail _ (Expr.Slice none (some _) none _) (Value.bytes _ _) (Value.ref _)) _ _ _); (with_reducible rename Fr _ _ _ _ => F'); (with_reducible rename News _ _ _ _ => N'); (refine slice_1 (s := ⟨_, _, _, _, _⟩) F' N' (by omega) (by first | omega | decide) ?_); intro _ _ _ _ _))
  k_with "my ass" => (with_reducible assumption)
  k_with "my due" => (first | with_reducible exact du_fr (by walk_at "my ass") | with_reducible exact du_ff (by walk_at "my ass") | with_reducible exact du_ok (by walk_at "my ass") (by walk_at "my ass") (by walk_at "my ass") | with_reducible exact du_60 (by walk_at "my ass") (by walk_at "my ass") | with_reducible exact du_7 (by walk_at "my ass") (by walk_at "my ass") (by walk_at "my ass") | with_reducible exact du_8 (by walk_at "my ass") (by walk_at "my ass") (by walk_at "my ass") | with_reducible exact du_6c (by walk_at "my ass") (by walk_at "my ass") (by walk_at "my ass") (by walk_at "my ass") (by walk_at "my ass") (by walk_at "my ass") (by walk_at "my ass") | with_reducible exact du_6b (by walk_at "my ass") (by walk_at "my ass") (by walk_at "my ass") (by walk_at "my ass") (by walk_at "my ass"))
  k_with "exec For Name Name cons nil" => ((rename Fr _ _ _ _ => lF'); (with_unfolding_all refine' For_turns lF' ?_; k_whole))
  k_with "pyIter ref" => ((with_reducible show wpAny _ _ (pyIter (Value.ref _)) (fun it s₂ => TurnsAt _ _ _ _ _ _ _ _ _ it s₂) _ _); (refine iter_ent (by rfl) (by k_asm) (by k_asm) (by k_mem) (by with_reducible assumption) (by with_reducible assumption) ?_); intro _ hI; (try k_lt hI))
  k_with "call ref" => (((with_reducible show wpAny _ _ (call (Value.ref 504) [Value.bytes _ _, Value.int _ _, Value.ref _]) _ _ _); k_dflt (refine' met_K ?kB ?kX ?kT ?kF ?kN ?kc ?kd ?kne ?kA ?ku ?kk ?kD ?kf ?_; (case kB => k_asm); (case kX => k_asm); (case kT => k_asm); (case kF => k_asm); (case kN => k_asm); (case kc => k_mem); (case kd => k_mem); (case kne => (first | assumption | omega)); (case kA => walk_at "my num"); (case ku => walk_at "my num"); (case kk => exact rfl); (case kD => first | assumption | omega); (case kf => assumption); k_whole); intro _ _ _ _; (try k_sweep)))
  k_with "ItemsRest" => (refine Stopped.out ?_)
  k_with "call ref" => ((with_reducible show wpAny _ _ (call (Value.ref 535) [Value.str _ _, Value.int _ _, Value.int _ _]) _ _ _); k_dflt (refine' new_K (init_ent _ _ _ _ _ _ _) ?kB ?kX ?kT ?kF ?kN ?kfA ?kff ?kfK ?km ?ki ?kfn ?kA ?ku ?kH ?_; (case kF => k_asm); (case kN => k_asm); (case kB => k_asm); (case kX => k_asm); (case kT => k_asm); (case kfA => exact rfl); (case kff => exact rfl); (case kfK => exact rfl); (case km => k_is); (case ki => k_is); (case kfn => k_is); (case kA => walk_at "my num"); (case ku => walk_at "my num"); (case kH => rfl); k_whole); intro _ _ _ _ _ hP' _ _ _ _ _; (obtain ⟨_, _, _, e2⟩ := hP'; subst e2); (try k_sweep))
  trivial

theorem sound_ok {w : World} {A : Around} {s : Shared} {base : Heap} {outer : List Env} {p : Program} {loose : List Str} {mean : ExcName → Option Value} {mg mb : Str → Option Value}
    {R : Result → Shared → Prop} {pen cells : Addr} {sp0 sd : Int} {t1 t2 : Tok} {ys : List Value} {zs : List Int}
    (S : Site A base outer p loose mean mg mb (pre.heap_1 w.params) s.heap) (hA : A.depth ≤ 500) (hu : A.units ≤ 100) (hH : A.handled = none)
    (hpen : s.heap.get? pen = some (listOf #[.ref cells, .int sp0 t1, .int sd t2] 0)) (hcells : s.heap.get? cells = some (LCg.lst ys)) (hI : IntsAre ys zs) (hl : ys.length = zs.length) (hne : @LT.lt Nat _ cells pen)
    (op : OwnAt base outer pen) (oc : OwnAt base outer cells)
    (hsp : 0 ≤ sp0 ∧ sp0 ≤ 100) (hsd : 0 ≤ sd ∧ sd < 997) (hzs : ∀ z ∈ zs, 0 ≤ z ∧ z < 1000003) (hzl : zs.length ≤ 60)
    (hR : ∀ sp' t1' h' tk', ExtBy [pen] s.heap h' → h'.get? pen = some (listOf #[.ref cells, .int sp' t1', .int sd t2] 0) → 0 ≤ sp' → sp' ≤ sp0 + 100 → R (.ok (.ret (.bool true))) {s with heap := h', toks := tk'}) :
    codeAny (model PySem.Challenge.rw_nn0135_01.row.prog w) A (.call (.ref 565) ⟨[.ref pen], []⟩) R s := by
  obtain ⟨hp0, gn0, dr0, tk00, os0⟩ := s
  dsimp only at S hpen hcells hR
  have XB := S.X
  have TB := S.T
  obtain ⟨hdl, dp, fr, gs, us⟩ := A
  have hfr := S.B.stack
  dsimp only at hfr hA hu hH
  subst hfr hH
  obtain ⟨hsp0, hsp1⟩ := hsp
  revert S
  k_fill
  intro S
  refine' enter (binds := [(Str.ofString "pen", .ref pen)]) [(pen, listOf #[.ref cells, .int sp0 t1, .int sd t2] 0), (cells, LCg.lst ys)] S ?hn ?k6 ?k7 ?k8 ?k9 ?kB ?_ ?c2 ?c3 ?c4 ?c5
  case hn => intro q hq; rcases List.mem_cons.mp hq with rfl | hq; exact ⟨hpen, op⟩; rcases List.mem_cons.mp hq with rfl | hq; exact ⟨hcells, oc⟩; cases hq
  case k6 => k_is
  case k7 => k_is
  case k8 => k_room
  case k9 => exact BindsTo.of_eq rfl
  case c5 => decide
  case kB => exact locs rfl
  case c2 => exact rfl
  case c3 => exact rfl
  case c4 => exact rfl
  clear S
  intro g' L' h' F' N' B' X' T' l1
  (try dsimp only)
  k_fold
  have fin : ∀ (bb : Bool) hh tk sp' t1', bb = true → ExtBy [pen, cells] hp0 hh → hh.get? pen = some (listOf #[.ref cells, .int sp' t1', .int sd t2] 0) → hh.get? cells = some (LCg.lst ys) → 0 ≤ sp' → sp' ≤ sp0 + 100 → R (.ok (.ret (.bool bb))) ⟨hh, gn0, dr0, tk, os0⟩ := by
    rintro _ hh tk sp' t1' rfl x h1 h2 q1 q2
    exact hR sp' t1' hh tk (ext_1 x hcells h2) h1 q1 q2
  k_steps
  refine Stopped.intro ?_
  rename_i pl q1 q2 tu q3 q4 q5 q6 q7 dt q8 Nq lq it hit
  (with_unfolding_all refine itm_start (f := fun a : Int × Tok => Itm.val (.int a.1 a.2)) (xs := [(0, tk), (1, tk + 1), (2, tk + 1 + 1), (11, tk + 1 + 1 + 1)]) (Inv := Inv1 pen cells dt it pl tk ys sd sp0 t2) (inv1_start (c := 0) (t1 := t1) (tz := _) ⟨rfl, rfl, rfl, trivial⟩ (by walk_at "my mem")) ?tu ?fi)
  case tu =>
    rintro ⟨n, tn⟩ pre post _ _ u v h tk2 hx ⟨z, tz, sp, t1, cap, rs, T, hB, hrn, hzl, ⟨hs0, hs1⟩, hrT, hof, rfl, rfl⟩ hv F
    obtain ⟨hn, hpl⟩ := its_at hx
    have hn0 := hn.lo
    have hn1 := hn.hi
    have hz9 := nat60 hzl hpl
    have hs9 := int9 hs1 hpl
    have hsp9 : 0 ≤ sp ∧ sp ≤ 900 := by constructor <;> omega
    have hrl := rs_len hrn hpl
    have hv : v = .int n tn := hv
    subst hv
    clear hx
    dsimp only [kn] at F
    ktu_objs
    intro P9 E9 hP9
    k_steps
    refine hP9 _ _ ?_
    k_steps
    refine Stopped.intro ?_
    refine' inv1_held (pre := pre) (rs := rs) (T := T) ?kn ?hp ?hc ?hd ?hl ?hT hof hrT ?hD ?B hrn ?h0 ?h1
    case kn => exact ⟨rfl, rfl, rfl, trivial⟩
    case hp => k_mem
    case hc => k_mem
    case hd => k_mem
    case hl => k_mem
    case hT => walk_at "my sub"
    case hD => walk_at "my si"
    case B => exact built_stepN hB (by with_reducible assumption) (by with_reducible assumption) (by with_reducible assumption) (by with_reducible assumption) (by with_reducible assumption) (by with_reducible assumption) (by with_reducible assumption) (by with_reducible assumption) (by with_reducible assumption) (by with_reducible assumption) (by with_reducible assumption) (by with_reducible assumption)
    case h0 => omega
    case h1 => omega
  case fi =>
    rintro _ _ u h tk2 ⟨z, tz, sp, t1, cap, rs, T, hB, hrn, hzl, ⟨hs0, hs1⟩, hrT, hof, rfl, rfl⟩ F N
    replace hrn := rs_fin hrn
    have hfg := built_figs hB
    have hpl := pl_all hB
    have hn4 := rs_n4 hrn
    have hrl := rs_len4 hrn
    have hz4 : z.length ≤ 243 := hzl
    have hs2 : sp ≤ sp0 + 12 := hs1
    clear hB
    dsimp only [kn] at F
    k_steps
    refine Stopped.intro ?_
    rename_i ent q1 oe q2 q3 q4 q5 q6 hE9 q7 q8 q9 q10 q11 q12 q13 q14 q15 I
    (with_unfolding_all refine itm_start (Inv := Inv2 w pen cells pl ent I ys sd sp0 t2 z tz rs cap) (inv2_start (T := T) ⟨rfl, rfl, rfl, rfl, trivial⟩ (by k_mem) (by k_mem) (by k_mem) (by k_mem) (by walk_at "my sub") hrT (off2 hof hE9 (by walk_at "my sub") hI (by walk_at "my sub")) (by with_reducible assumption) hs0 hs2) ?tu2 ?fi2)
    case tu2 =>
      rintro ⟨D, n, v, b, p, tn, tv, tb, tp⟩ pre post _ _ u v' h tk2 hx ⟨sp, t1, oe, bb, es, T, hD, hk, hb, ⟨hq0, hq1⟩, hes, hrT, hof, rfl, rfl⟩ hv F
      obtain ⟨hrm, hPl, hn, hpr⟩ := turn_facts hx hrT hpl hn4 hrl
      have hnew := new_key hrn hx
      dsimp only [PR.at] at hrm hPl hn hnew
      have hq9 := int18 hq1 hpr
      have hsp9 : 0 ≤ sp ∧ sp ≤ 900 := by constructor <;> omega
      have hel := es_len hk hpr
      have hva := keys_none hk hnew
      have hpp := pl_pos hPl
      have hn0 := hn.lo
      have hn1 := hn.hi
      have hv : v' = .ref D := hv
      subst hv
      clear hx
      dsimp only [kn] at F
      ktu_objs
      intro P9 E9 hP9
      k_steps
      all_goals refine hP9 _ _ ?_
      all_goals k_steps
      all_goals (refine' Stopped.intro (inv2_held (r := ⟨D, n, v, b, p, tn, tv, tb, tp⟩) (T := T) (es := es) (n := n) ?kn ?hp ?hc ?hl ?he ?hT hof hrT hes ?hx ?hd ?hlt ?hD rfl hk hnew hb ?hb ?h0 ?h1); (case kn => exact ⟨rfl, rfl, rfl, rfl, trivial⟩); (case hp => k_mem); (case hc => k_mem); (case hl => k_mem); (case hD => with_reducible assumption); (case he => k_mem); (case hT => walk_at "my sub"); (case hx => walk_at "my si"); (case hd => walk_at "my si"); (case hlt => with_reducible assumption); (case hb => walk_at "my due"); (case h0 => omega); (case h1 => omega))
    case fi2 =>
      rintro _ _ u h tk2 ⟨sp, t1, oe, bb, es, T, hD, hk, hb, ⟨hq0, hq1⟩, hes, hrT, hof, rfl, rfl⟩ F N
      have hk4 := es_four hk hrn
      have hq9 : sp ≤ sp0 + 100 := by rw [List.length_reverse, List.length_reverse, hrl] at hq1; omega
      clear hk hrT hpl hn4
      dsimp only [kn] at F
      k_steps
      refine Stopped.intro ?_
      rename_i I
      have hoI := off1 (T := T) hI (by walk_at "my sub")
      (with_unfolding_all refine itm_start (Inv := Inv3 pen cells pl ent (penO cells sp sd t1 t2) (LCg.lst ys) (listOf (prefs rs) cap) oe z tz T) (inv3_held ⟨rfl, rfl, trivial⟩ (by k_mem) (by k_mem) (by k_mem) (by k_mem) (by walk_at "my sub") (fun e he => nomatch he)) ?tu3 ?fi3)
      case tu3 =>
        rintro ⟨n, x, d, wy, a, c, tw, ja, jb, jc, ta, tc⟩ pre post _ _ u v' h tk2 hx ⟨hpre, rfl, rfl⟩ hv F
        obtain ⟨hm, hva⟩ := es_va hk4 hx
        obtain ⟨i1, i2, i3⟩ := hes _ hm
        obtain ⟨t', hv⟩ : ∃ t, v' = .int n t := hv
        subst hv
        (try dsimp only at i1 i2 i3 hva)
        dsimp only [kn] at F
        ktu_objs
        intro P9 E9 hP9
        k_steps
        all_goals refine hP9 _ _ ?_
        all_goals k_steps
        · refine Stopped.intro (inv3_held ⟨rfl, rfl, trivial⟩ (by k_mem) (by k_mem) (by k_mem) (by k_mem) (by walk_at "my sub") (met_cons (e := ⟨n, x, d, wy, a, c, tw, ja, jb, jc, ta, tc⟩) (show metF z n wy a c = true by with_reducible assumption) hpre))
        · (rename ExtBy _ _ _ => hx9; rename News _ _ _ _ => N9; refine' fin _ _ _ _ _ ?eb hx9 (N9.get ?ep) (N9.get ?ec) ?e0 ?e1; (case ep => k_mem); (case ec => k_mem); (case e0 => omega); (case e1 => omega); (case eb => exact sound_f hb hm (show metF z n wy a c = false by first | with_reducible assumption | exact Bool.eq_false_iff.mpr (by with_reducible assumption))))
      case fi3 =>
        rintro _ _ u h tk2 ⟨hall, rfl, rfl⟩ F N
        dsimp only [kn] at F
        k_steps
        (rename ExtBy _ _ _ => hx9; rename News _ _ _ _ => N9; refine' fin _ _ _ _ _ ?eb hx9 (N9.get ?ep) (N9.get ?ec) ?e0 ?e1; (case ep => k_mem); (case ec => k_mem); (case e0 => omega); (case e1 => omega); (case eb => exact sound_t hb hall))

end
section
set_option maxRecDepth 100000
set_option linter.unusedVariables false
open PySem PySem.W PySem.Calls PyProof.Rows
def PenOK (w : World) (fn : Addr) (mx : Int) : Prop := ∀ ⦃A : Around⦄ ⦃s : Shared⦄ ⦃base : Heap⦄ ⦃outer : List Env⦄ ⦃p : Program⦄ ⦃loose : List Str⦄ ⦃mean : ExcName → Option Value⦄ ⦃mg mb : Str → Option Value⦄
    ⦃R : Result → Shared → Prop⦄ ⦃pen cells : Addr⦄ ⦃sp sd : Int⦄ ⦃t1 t2 : Tok⦄ ⦃ys : List Value⦄ ⦃zs : List Int⦄,
    Site A base outer p loose mean mg mb (pre.heap_1 w.params) s.heap → A.depth ≤ 490 → A.units ≤ 90 → A.handled = none →
    s.heap.get? pen = some (listOf #[.ref cells, .int sp t1, .int sd t2] 0) → s.heap.get? cells = some (LCg.lst ys) → IntsAre ys zs → ys.length = zs.length → (@LT.lt Nat _ cells pen) →
    OwnAt base outer pen → OwnAt base outer cells → (0 ≤ sp ∧ sp ≤ mx) → (0 ≤ sd ∧ sd < 997) → (∀ z ∈ zs, 0 ≤ z ∧ z < 1000003) → zs.length ≤ 60 →
    (∀ sp' t1' h' tk', ExtBy [pen] s.heap h' → h'.get? pen = some (listOf #[.ref cells, .int sp' t1', .int sd t2] 0) → 0 ≤ sp' → sp' ≤ sp + 100 → R (.ok (.ret (.bool true))) {s with heap := h', toks := tk'}) →
    codeAny (model PySem.Challenge.rw_nn0135_01.row.prog w) A (.call (.ref fn) ⟨[.ref pen], []⟩) R s
theorem pen_K {w : World} {fn : Addr} {mx : Int} (P : PenOK w fn mx) {A₀ A : Around} {s : Shared} {base h₀ : Heap} {outer : List Env} {p : Program} {loose : List Str} {mean : ExcName → Option Value} {mg mb : Str → Option Value}
    {L : Addr} {m : Str → Option Value} {env : Env} {news : List (Addr × Obj)} {u : Obj → List (Addr × Obj)} {Q : Value → Shared → Prop} {E : Value → Shared → Prop} {pen cells : Addr} {sp sd : Int} {t1 t2 : Tok} {ys : List Value} {zs : List Int}
    (B : Below A₀ base outer h₀) (X : (pre.heap_1 w.params).In base) (T : Top p loose mean mg mb base) (F : Fr h₀ L s.heap m) (N : News h₀ L s.heap news) (hF : A.frames = some (env :: outer)) (hf : env.frame = some L) (hke : env.scope.kind = .function)
    (U : UpdF pen (listOf #[.ref cells, .int sp t1, .int sd t2] 0) news u) (hc : (cells, LCg.lst ys) ∈ news) (hne : @LT.lt Nat _ cells pen) (hI : IntsAre ys zs) (hz : zs.length ≤ 60) (hzs : ∀ z ∈ zs, 0 ≤ z ∧ z < 1000003)
    (hA : A.depth ≤ 490) (hu : A.units ≤ 90) (hH : A.handled = none) (hs : 0 ≤ sp ∧ sp ≤ mx) (hsd : 0 ≤ sd ∧ sd < 997)
    (h : ∀ sp' t1' h' tk', 0 ≤ sp' → sp' ≤ sp + 100 → Fr h₀ L h' m → News h₀ L h' (u (listOf #[.ref cells, .int sp' t1', .int sd t2] 0)) → Q (.bool true) {s with heap := h', toks := tk'}) :
    wpAny (model PySem.Challenge.rw_nn0135_01.row.prog w) A (call (.ref fn) [.ref pen]) Q E s := by
  have hpm := mem_upd U
  refine wpAny_call (P ⟨pen_below B F hF hf hke, X, T⟩ hA hu hH (N _ hpm).1 (N _ hc).1 hI hI.length hne (pen_own B N hf _ hpm) (pen_own B N hf _ hc) hs hsd hzs hz fun sp' t1' h' tk' x e h1 h2 => ?_)
  obtain ⟨F', N'⟩ := after_upd F N U x e
  exact h sp' t1' h' tk' h1 h2 F' N'
theorem fm_all {ns : List Int} : ∀ z ∈ ns.map (fun x => x.fmod 1000003), 0 ≤ z ∧ z < 1000003 := fun z hz => by
  obtain ⟨x, _, rfl⟩ := List.mem_map.mp hz
  exact ⟨Int.fmod_nonneg_of_pos x (by decide), Int.fmod_lt_of_pos x (by decide)⟩
theorem fm_997 (x : Int) : 0 ≤ x.fmod 997 ∧ x.fmod 997 < 997 := ⟨Int.fmod_nonneg_of_pos x (by decide), Int.fmod_lt_of_pos x (by decide)⟩

end
section
set_option maxRecDepth 100000
set_option linter.unusedVariables false
open PySem PySem.W PySem.Calls PyProof.Rows
def CutPost (P : Value → Shared → Prop) : Value → Shared → Prop := P
def szN : Value → Int
  | .int a _ => a
  | _ => 1
def fdN : Value → Int
  | .int a _ => if 1 > a then 1 else a
  | _ => 1
def MenuS (nm : Addr) (x : Value) : Prop := x = .none ∨ (∃ a t, x = .int a t) ∨ x = .bool true ∨ x = .ref nm
section
variable {prog : Program} {w : World} {A : Around} {E : Value → Shared → Prop} {s : Shared} {h₀ : Heap} {L l : Addr} {m : Str → Option Value} {env : Env} {news : List (Addr × Obj)} {value slice : Expr} {Q : Value → Shared → Prop}
theorem sub_V8' {k x1 x2 x3 x4 x5 : Int} {ku t1 t2 t3 t4 t5 : Tok} {nm : Addr} {n : Nat} (N : News h₀ L s.heap news) (hm : (l, listOf #[.none, .int x1 t1, .int x2 t2, .int x3 t3, .int x4 t4, .int x5 t5, .bool true, .ref nm] n) ∈ news) (h0 : 0 ≤ k) (h1 : k < 8)
    (h : ∀ x, MenuS nm x → Q x s)
    (hs : subscripted slice false (.ref l) (.int k ku) = operate [.ref l, .int k ku] (getItem (.ref l) (.int k ku)) := by with_unfolding_all rfl) :
    wpAny (model prog w) A (subscriptTail value slice (.ref l) (.int k ku)) Q E s :=
  sub_V8 N hm h0 h1 (h _ (.inl rfl)) (fun x t => h _ (.inr (.inl ⟨x, t, rfl⟩))) (h _ (.inr (.inr (.inl rfl)))) (h _ (.inr (.inr (.inr rfl)))) hs
theorem is_menuS {M : Model} {nm : Addr} {x : Value} (hx : MenuS nm x) (hn : x ≠ .none) (h : Q (.bool false) s) : wpAny M A (compareOp .Is x .none) Q E s := by
  refine wpAny_is_other ?_ hn h
  rcases hx with rfl | ⟨_, _, rfl⟩ | rfl | rfl <;> first | rfl | exact absurd rfl hn
def TrPost (w : World) (h₀ : Heap) (L : Addr) (s : Shared) (m : Str → Option Value) (news : List (Addr × Obj)) (x : Value) (v : Value) (s' : Shared) : Prop :=
  ∃ D o h' tk kvs, v = .ref D ∧ s' = { s with heap := h', toks := tk } ∧ Fr h₀ L h' m ∧ News h₀ L h' ((D, o) :: news) ∧ AllLt D news ∧ (D == sysModules) = false ∧ o.IsDictOf (strKind PySem.Challenge.rw_nn0135_01.row.prog w) kvs ∧ (valueAt kvs (Str.ofString "Size")).getD .none = x
theorem tr_cut {M : Model} {e : Expr} {nm : Addr} {x : Value} (F : Fr h₀ L s.heap m) (N : News h₀ L s.heap news) (hx : MenuS nm x)
    (h1 : x = .none → wpAny M A (eval e env) (CutPost (TrPost w h₀ L s m news .none)) E s) (h2 : x ≠ .none → wpAny M A (eval e env) (CutPost (TrPost w h₀ L s m news x)) E s)
    (h : ∀ D o h' tk kvs, Fr h₀ L h' m → News h₀ L h' ((D, o) :: news) → AllLt D news → (D == sysModules) = false → o.IsDictOf (strKind PySem.Challenge.rw_nn0135_01.row.prog w) kvs → (valueAt kvs (Str.ofString "Size")).getD .none = x → Q (.ref D) { s with heap := h', toks := tk }) :
    wpAny M A (eval e env) Q E s := by
  have g : wpAny M A (eval e env) (CutPost (TrPost w h₀ L s m news x)) E s := by
    rcases Classical.em (x = .none) with hn | hn
    · have := h1 hn; rw [← hn] at this; exact this
    · exact h2 hn
  refine wpAny_mono g (fun v s' z => ?_) fun _ _ z => z
  obtain ⟨D, o, h', tk, kvs, rfl, rfl, q1, q2, q3, q4, q5, q6⟩ := z
  exact h D o h' tk kvs q1 q2 q3 q4 q5 q6
def IntPost (n : Int) (s : Shared) (v : Value) (s' : Shared) : Prop := ∃ t tk, v = .int n t ∧ s' = { s with toks := tk }
theorem int_cut {M : Model} {e : Expr} {n : Int} (g : wpAny M A (eval e env) (CutPost (IntPost n s)) E s) (h : ∀ t tk, Q (.int n t) { s with toks := tk }) : wpAny M A (eval e env) Q E s :=
  wpAny_mono g (fun v s' z => by obtain ⟨t, tk, rfl, rfl⟩ := z; exact h t tk) fun _ _ z => z
theorem get_tr {d : Addr} {o : Obj} {kvs : List (Str × Value)} {t : Tok} {x : Value} (N : News h₀ L s.heap news) (hp : (d, o) ∈ news) (hd : o.IsDictOf (strKind prog w) kvs) (lo : (d == sysModules) = false) (hv : (valueAt kvs (Str.ofString "Size")).getD .none = x) (h : Q x { s with toks := s.toks + 1 }) :
    wpAny (model prog w) A (call (.builtin "dict.get") [.ref d, .str (Str.ofString "Size") t]) Q E s :=
  kdg_get1 N hp hd lo (strKind_is _ _ _ _) _ rfl (by rw [hv]; exact h)
def IntPost2 (n : Int) (h₀ : Heap) (L : Addr) (m : Str → Option Value) (news : List (Addr × Obj)) (s : Shared) (v : Value) (s' : Shared) : Prop := ∃ t tk h', v = .int n t ∧ s' = { s with heap := h', toks := tk } ∧ Fr h₀ L h' m ∧ News h₀ L h' news
theorem int_cut2 {M : Model} {e : Expr} {n : Int} (F : Fr h₀ L s.heap m) (N : News h₀ L s.heap news) (g : wpAny M A (eval e env) (CutPost (IntPost2 n h₀ L m news s)) E s) (h : ∀ t tk h', Fr h₀ L h' m → News h₀ L h' news → Q (.int n t) { s with heap := h', toks := tk }) : wpAny M A (eval e env) Q E s :=
  wpAny_mono g (fun v s' z => by obtain ⟨t, tk, h', rfl, rfl, q1, q2⟩ := z; exact h t tk h' q1 q2) fun _ _ z => z
variable {elt : Expr} {x : Str} {scope : Scope} {cl : List (Str × Addr)} {S : List (Addr × Obj) → Prop} {Fin : List Value → List (Addr × Obj) → Prop}
abbrev k1 (kvs : List (Int × Value)) : List Int := kvs.map fun p => p.1 + 1
theorem intsAre_snoc : ∀ {ys : List Value} {ns : List Int} {n : Int} {t : Tok}, IntsAre ys ns → IntsAre (ys ++ [.int n t]) (ns ++ [n])
  | _, _, n, t, .nil => .cons n t .nil
  | _, _, _, _, .cons a b r => .cons a b (intsAre_snoc r)
theorem keys_ind {kvs : List (Int × Value)} {news : List (Addr × Obj)}
    (turn : ∀ k t ys I oI C oC D m₂ h tk (E' : Value → Shared → Prop), LCg.NsObj oC m₂ → m₂ x = some (.int k t) → Fr h₀ L h m → News h₀ L h ((I, oI) :: (C, oC) :: (D, LCg.lst ys) :: news) → LCg.Off3 I C D news → ((@Ne Nat I C) ∧ (@Ne Nat I D) ∧ (@Ne Nat C D)) →
      wpAny (model prog w) A (eval elt (compEnvC scope cl C env)) (LCg.CompEnd h₀ L m { s with heap := h, toks := tk } I oI C oC D (LCg.lst ys) S (fun y news' => Stopped (news' = news ∧ ∃ t, y = .int (k + 1) t))) E' { s with heap := h, toks := tk })
    (fin : ∀ ys, IntsAre ys (k1 kvs) → Fin ys news) : LCg.CompRest prog w A h₀ L m env elt x scope cl s S (fun i v => ∃ k x, kvs[i]? = some (k, x) ∧ (intKind prog w).is k v = true) Fin kvs.length 0 [] news := by
  refine comp_ind (fun i ys news' => news' = news ∧ IntsAre ys ((k1 kvs).take i)) ?_ ?_ _ 0 (Nat.zero_add _) [] _ ⟨rfl, .nil⟩
  · rintro i ys _ hlt ⟨rfl, hi⟩ v I oI C oC D m₂ h tk E' ⟨k, xv, hk, hv⟩ hC hx F N off ne
    obtain ⟨t, rfl⟩ := int_is hv
    refine wpAny_mono (turn k t ys I oI C oC D m₂ h tk E' hC hx F N off ne) (fun y s₂ z => ?_) fun _ _ z => z
    obtain ⟨h', tk', news', e1, e2, e3, e4, e5, e6⟩ := z
    refine ⟨h', tk', news', e1, e2, e3, e4, e5, ?_⟩
    obtain ⟨e7, t', rfl⟩ := e6
    refine ⟨e7, ?_⟩
    have e : (k1 kvs).take (i + 1) = (k1 kvs).take i ++ [k + 1] := by
      rw [List.take_add_one, List.getElem?_map, hk]; rfl
    rw [e]
    exact intsAre_snoc hi
  · rintro ys _ ⟨rfl, hi⟩
    refine fin ys ?_
    rw [List.take_of_length_le (by rw [List.length_map]; exact Nat.le_refl _)] at hi
    exact hi
end
theorem max_one {l : List Int} {x : Value} {M N : Int} (h1 : M ∈ [fdN x] ++ l) (h2 : ∀ a, a ∈ [fdN x] ++ l → a ≤ M) (h3 : N ∈ [1, szN x] ++ l) (h4 : ∀ a, a ∈ [1, szN x] ++ l → a ≤ N) : M = N := by
  simp only [List.cons_append, List.nil_append] at h1 h2 h3 h4
  have e : fdN x = if 1 > szN x then 1 else szN x := by
    cases x <;> rfl
  have hf := h2 _ (List.mem_cons_self)
  have g1 := h4 1 (by simp)
  have g2 := h4 (szN x) (by simp)
  have hMN : M ≤ N := by
    rcases List.mem_cons.mp h1 with h | h
    · rw [h, e]; split <;> assumption
    · exact h4 _ (by simp [h])
  have hNM : N ≤ M := by
    rcases List.mem_cons.mp h3 with h | h
    · rw [h]; rw [e] at hf; split at hf <;> omega
    · rcases List.mem_cons.mp h with h | h
      · rw [h]; rw [e] at hf; split at hf <;> omega
      · exact h2 _ (by simp [h])
  omega

end
section
set_option maxRecDepth 100000
set_option maxHeartbeats 12000000
set_option linter.unusedVariables false
theorem words_Size_0 : True := by
  k_with_none
  trivial
open PySem PySem.W PySem.Calls PyProof.Rows
theorem words_Size_1 : True := by
  k_with "k_room" => ((try simp only [depth_under_make, depth_under_kw, depth_in1, depth_deeper, depth_mark]); (try dsimp only); (show (_ : Nat) < 1000); first | (refine Nat.lt_of_le_of_lt (by with_reducible assumption) ?_; decide) | (refine Nat.lt_of_le_of_lt (Nat.add_le_add_right (by with_reducible assumption) 1) ?_; decide) | (refine Nat.lt_of_le_of_lt (Nat.add_le_add_right (Nat.add_le_add_right (by with_reducible assumption) 1) 1) ?_; decide) | omega)
  k_with "LeaveC" => ((refine' leaveC_ ?k1 ?k2 ?_; (case k1 => k_asm); (case k2 => k_asm); intro _))
  k_with "my num" => ((try simp only [Around.deeper_units, depth_deeper, depth_under_make, depth_under_kw, depth_in1, depth_mark]); (try dsimp only); first | (refine Nat.le_trans (by with_reducible assumption) ?_; decide) | (refine Nat.le_trans (Nat.add_le_add_right (by with_reducible assumption) 1) ?_; decide) | (refine Nat.le_trans (Nat.add_le_add_right (Nat.add_le_add_right (by with_reducible assumption) 1) 1) ?_; decide) | omega)
  k_with "my sp" => (first | exact spA (by with_reducible assumption) | exact spB (by with_reducible assumption) | exact spC (by with_reducible assumption) | exact spD (by with_reducible assumption) | (constructor <;> omega))
  k_with "call ref" => (((with_reducible show wpAny _ _ (call (Value.ref 551) [Value.ref _, Value.int _ _]) _ _ _); k_dflt (refine' draw_K ?kB ?kX ?kT ?kF ?kN ?kU ?kc ?kne ?kI ?kl ?kzl ?kA ?ku ?kk ?ksp ?ksd ?kzs ?km ?_; (case kB => k_asm); (case kX => k_asm); (case kT => k_asm); (case kF => k_asm); (case kN => k_asm); (case kU => k_updF); (case kc => k_mem); (case kne => (first | assumption | omega)); (case kI => assumption); (case kl => assumption); (case kzl => assumption); (case kA => walk_at "my num"); (case ku => walk_at "my num"); (case kk => exact rfl); (case ksp => walk_at "my sp"); (case ksd => assumption); (case kzs => assumption); (case km => first | exact ⟨by decide, by decide⟩ | (constructor <;> omega)); k_whole); intro _ _ _ _ _ _ _ _ _; (try k_sweep)))
  k_with "subscriptTail" => (((with_reducible show wpAny _ _ (subscriptTail _ _ (Value.ref _) (Value.int _ _)) _ _ _); k_dflt (refine' sub_V8' ?kN ?km ?k0 ?k1 ?_; (case kN => k_asm); (case km => k_mem); (case k0 => assumption); (case k1 => assumption)); intro _ _))
  k_with "pyIter ref" => (((with_reducible show wpAny _ _ (pyIter (Value.ref _)) (fun it s₂ => LoopAtV _ _ _ _ _ _ _ _ _ it s₂) _ _); refine Stopped.out ?_))
  k_with "my mem" => (first | exact List.forall_mem_nil _ | (refine' List.forall_mem_cons.mpr ⟨?ma, ?mb⟩; (case ma => k_mem); (case mb => walk_at "my mem")))
  k_with "setItem ref int" => (((with_reducible show wpAny _ _ (setItem (Value.ref _) (Value.int _ _) (Value.ref _)) _ _ _); k_dflt (refine' kda_set (knd := PySem.intKind _ _) ?F ?N ?U ?d (intKind_is _ _ _ _) ?z ?_; (case F => k_asm); (case N => k_asm); (case U => k_updF); (case d => assumption); (case z => rw [sizeLine_eq]; omega)); intro _ _ _ N' _; (try dsimp only at N')))
  k_with "k_lt" => (skip)
  k_with "k_ne" => (first | with_reducible assumption | exact (LCg.Off3.mem (by with_reducible assumption) _ (by k_mem)).1 | exact (LCg.Off3.mem (by with_reducible assumption) _ (by k_mem)).2.1 | exact (LCg.Off3.mem (by with_reducible assumption) _ (by k_mem)).2.2 | kd_ltNe | (refine Ne.symm ?_; kd_ltNe) | (refine neN ?_; (try dsimp only); omega))
  k_with "lcg_src" => (((try dsimp only); k_mem))
  k_with "k_in" => (first | with_reducible assumption | ((refine' Frag.In.keeps ?kiX (Fr.keep ?kiF)); (case kiF => with_reducible assumption); (case kiX => with_reducible assumption)))
  k_with "eval ListComp" => ((k_dflt (refine comp_dict (F₀ := by k_asm) (by with_unfolding_all rfl) (by decide) (by rfl) (by decide) (by rfl) ?_)))
  k_with "SrcD" => (((refine ⟨_, _, _, _, rfl, rfl, by with_reducible assumption, by k_asm, by k_asm, by k_mem, by with_reducible assumption, by with_reducible assumption, ?_⟩); intro _))
  k_with "CompRest" => ((with_unfolding_all refine keys_ind (fun k' t' ys' I' oI' C' oC' D' m' h' tk' E' hC' hx' F' N' off' ne' => ?_) (fun ys' hi' => ?_)))
  k_with "Exists" => ((k_here; (refine my_made_str (by k_asm) (by first | k_asm | exact News.nil) (Top.nolimit (by k_asm)) (by rfl) (of_decide_eq_true (by rfl)) ?_; intro _ _ _ _ l1 _ hd'; (try k_lt l1); (try simp only [strPairs] at hd'))))
  k_with "eval IfExp" => (((fail_if_success (with_reducible show wpAny _ _ _ (CutPost _) _ _)); refine Stopped.out ?_))
  k_with "CutPost" => (refine Stopped.out ?_)
  k_with "compareOp Is" => ((refine is_menuS (by with_reducible assumption) (by with_reducible assumption) ?_))
  k_with "call builtin:dict.get" => ((refine get_tr (by k_asm) (by k_mem) (by k_asm) (by k_asm) (by assumption) ?_))
  k_with "call ref" => ((with_reducible show wpAny _ _ (call (Value.ref 535) [Value.str _ _, Value.int _ _, Value.int _ _]) _ _ _); k_dflt (refine' new_K (init_ent _ _ _ _ _ _ _) ?kB ?kX ?kT ?kF ?kN ?kfA ?kff ?kfK ?km ?ki ?kfn ?kA ?ku ?kH ?_; (case kF => k_asm); (case kN => k_asm); (case kB => k_asm); (case kX => k_asm); (case kT => k_asm); (case kfA => exact rfl); (case kff => exact rfl); (case kfK => exact rfl); (case km => k_is); (case ki => k_is); (case kfn => k_is); (case kA => walk_at "my num"); (case ku => walk_at "my num"); (case kH => rfl); k_whole); intro _ _ _ _ _ hP' _ _ _ _ _; (obtain ⟨_, _, _, e2⟩ := hP'; subst e2); (try k_sweep))
  k_with "call ref" => ((with_reducible show wpAny _ _ (call (Value.ref 171) [Value.str _ _]) _ _ _); k_dflt (refine' new_K (init_name _ _ _) ?kB ?kX ?kT ?kF ?kN ?kfA ?kff ?kfK ?km ?ki ?kfn ?kA ?ku ?kH ?_; (case kF => k_asm); (case kN => k_asm); (case kB => k_asm); (case kX => k_asm); (case kT => k_asm); (case kfA => exact rfl); (case kff => exact rfl); (case kfK => exact rfl); (case km => k_is); (case ki => k_is); (case kfn => k_is); (case kA => walk_at "my num"); (case ku => walk_at "my num"); (case kH => rfl); k_whole); intro _ _ _ _ _ hP' _ _ _ _ _; (obtain ⟨_, e2⟩ := hP'; subst e2); (try k_sweep))
  trivial
def InvS (w : World) (pen cells ent : Addr) (ys : List Value) (sd sp0 : Int) (t2 : Tok) (i : Nat) (led : List (Addr × Obj)) (kns : List (Str × Value)) : Prop :=
  ∃ (sp : Int) (t1 : Tok) (oe : Obj) (kvs : List (Int × Value)), Obj.IsDictOf (intKind PySem.Challenge.rw_nn0135_01.row.prog w) oe kvs ∧ kvs.length ≤ i ∧ (sp0 ≤ sp ∧ sp ≤ sp0 + 1 + i) ∧
    led = [(pen, listOf #[.ref cells, .int sp t1, .int sd t2] 0), (cells, LCg.lst ys), (ent, oe)] ∧ kns = [(Str.ofString "pen", .ref pen), (Str.ofString "entries", .ref ent)]
theorem invS {w : World} {pen cells ent : Addr} {ys : List Value} {sd sp0 : Int} {t2 : Tok} {i : Nat} {sp : Int} {t1 : Tok} {oe : Obj} {kvs : List (Int × Value)} {m : Str → Option Value} {n : List (Addr × Obj)}
    (kn : KnAll m [(Str.ofString "pen", .ref pen), (Str.ofString "entries", .ref ent)]) (mem : ∀ p ∈ ([(pen, listOf #[.ref cells, .int sp t1, .int sd t2] 0), (cells, LCg.lst ys), (ent, oe)] : List (Addr × Obj)), p ∈ n)
    (B : Obj.IsDictOf (intKind PySem.Challenge.rw_nn0135_01.row.prog w) oe kvs) (hz : kvs.length ≤ i) (hs0 : sp0 ≤ sp) (hs1 : sp ≤ sp0 + 1 + i) : Held (InvS w pen cells ent ys sd sp0 t2 i) m n :=
  ⟨_, _, ⟨sp, t1, oe, kvs, B, hz, ⟨hs0, hs1⟩, rfl, rfl⟩, mem, kn⟩

theorem size_ok {w : World} {A : Around} {s : Shared} {base : Heap} {outer : List Env} {p : Program} {loose : List Str} {mean : ExcName → Option Value} {mg mb : Str → Option Value}
    {R : Result → Shared → Prop} {pen cells : Addr} {sp0 sd : Int} {t1 t2 : Tok} {ys : List Value} {zs : List Int}
    (S : Site A base outer p loose mean mg mb (pre.heap_1 w.params) s.heap) (hA : A.depth ≤ 500) (hu : A.units ≤ 100) (hH : A.handled = none)
    (hpen : s.heap.get? pen = some (listOf #[.ref cells, .int sp0 t1, .int sd t2] 0)) (hcells : s.heap.get? cells = some (LCg.lst ys)) (hI : IntsAre ys zs) (hl : ys.length = zs.length) (hne : @LT.lt Nat _ cells pen)
    (op : OwnAt base outer pen) (oc : OwnAt base outer cells)
    (hsp : 0 ≤ sp0 ∧ sp0 ≤ 300) (hsd : 0 ≤ sd ∧ sd < 997) (hzs : ∀ z ∈ zs, 0 ≤ z ∧ z < 1000003) (hzl : zs.length ≤ 60)
    (hR : ∀ sp' t1' h' tk', ExtBy [pen] s.heap h' → h'.get? pen = some (listOf #[.ref cells, .int sp' t1', .int sd t2] 0) → 0 ≤ sp' → sp' ≤ sp0 + 100 → R (.ok (.ret (.bool true))) {s with heap := h', toks := tk'}) :
    codeAny (model PySem.Challenge.rw_nn0135_01.row.prog w) A (.call (.ref 570) ⟨[.ref pen], []⟩) R s := by
  have XB := S.X
  have TB := S.T
  obtain ⟨hdl, dp, fr, gs, us⟩ := A
  have hfr := S.B.stack
  dsimp only at hfr hA hu hH
  subst hfr hH
  have hsp9 : 0 ≤ sp0 ∧ sp0 ≤ 900 := ⟨hsp.1, Int.le_trans hsp.2 (by decide)⟩
  obtain ⟨hsp0, hsp1⟩ := hsp
  revert S
  k_fill
  intro S
  refine' enter (binds := [(Str.ofString "pen", .ref pen)]) [(pen, listOf #[.ref cells, .int sp0 t1, .int sd t2] 0), (cells, LCg.lst ys)] S ?hn ?k6 ?k7 ?k8 ?k9 ?kB ?_ ?c2 ?c3 ?c4 ?c5
  case hn => intro q hq; rcases List.mem_cons.mp hq with rfl | hq; exact ⟨hpen, op⟩; rcases List.mem_cons.mp hq with rfl | hq; exact ⟨hcells, oc⟩; cases hq
  case k6 => k_is
  case k7 => k_is
  case k8 => k_room
  case k9 => exact BindsTo.of_eq rfl
  case c5 => decide
  case kB => exact locs rfl
  case c2 => exact rfl
  case c3 => exact rfl
  case c4 => exact rfl
  clear S
  intro g' L' h' F' N' B' X' T' l1
  (try dsimp only)
  (show wpAny _ _ _ _ _ _)
  k_fold
  have fin : ∀ (bb : Bool) hh tk sp' t1', bb = true → ExtBy [pen, cells] s.heap hh → hh.get? pen = some (listOf #[.ref cells, .int sp' t1', .int sd t2] 0) → hh.get? cells = some (LCg.lst ys) → 0 ≤ sp' → sp' ≤ sp0 + 100 → R (.ok (.ret (.bool bb))) {s with heap := hh, toks := tk} := by
    rintro _ hh tk sp' t1' rfl x h1 h2 q1 q2
    exact hR sp' t1' hh tk (ext_1 x hcells h2) h1 q1 q2
  k_steps
  refine Stopped.intro ?_
  rename_i ent q1 oe0 q2 q3 q4 q5 q6 q7 q8 q9 q10 q11 q12 q13 q14 q15 q16 q17 q18 q19 q20 q21 q22 q23 q24 q25 q26
  rename IsRange _ _ _ _ _ _ _ _ => rgX
  rename Fr _ _ _ _ => F9
  rename News _ _ _ _ => N9
  (with_unfolding_all refine iter_rangeUnr (by rfl) rgX (small_one (by omega) (by omega) (by omega) (by omega)) (rangeSize_nat _ _) F9 N9 ?_)
  intro I hI
  (try k_lt hI)
  refine held_start (invS (w := w) (sp0 := sp0) (i := 0) (oe := oe0) (sp := sp0 + 1) (t1 := q11) (kvs := []) ?kn ?mem ?B (Nat.le_refl _) ?s0 ?s1) (range_ind (InvS w pen cells ent ys sd sp0 t2) ?tu ?fi _ _ (Nat.zero_add _))
  case kn => exact ⟨rfl, rfl, trivial⟩
  case mem => walk_at "my mem"
  case B => assumption
  case s0 => omega
  case s1 => omega
  case tu =>
    rintro i _ _ u t h tk hin ⟨sp, t1, oe, kvs, hD, hkl, ⟨hq0, hq1⟩, rfl, rfl⟩ F N P9 E9 hP9
    dsimp only [kn] at F
    have hsp9 : 0 ≤ sp ∧ sp ≤ 900 := by constructor <;> omega
    k_steps
    refine hP9 _ _ ?_
    k_steps
    refine' Stopped.intro (invS (w := w) (sp0 := sp0) ?kn1 ?mem1 ?B1 ?z1 ?s01 ?s11)
    case kn1 => exact ⟨rfl, rfl, trivial⟩
    case mem1 => walk_at "my mem"
    case B1 => assumption
    case z1 => exact Nat.le_trans (stored_length_le _ _ _) (Nat.succ_le_succ hkl)
    case s01 => omega
    case s11 => omega
  case fi =>
    rintro _ _ u h tk ⟨sp, t1, oe, kvs, hD, hkl, ⟨hq0, hq1⟩, rfl, rfl⟩ F N
    dsimp only [kn] at F
    have hk9 : kvs.length ≤ 1000 := by omega
    have hs9 : 0 ≤ sp + 1 ∧ sp + 1 ≤ sp0 + 100 := by omega
    have hsp9 : 0 ≤ sp ∧ sp ≤ 900 := by constructor <;> omega
    k_steps
    refine Stopped.intro ?_
    rename MenuS _ _ => hx8
    rename Fr _ _ _ _ => F8
    rename News _ _ _ _ => N8
    refine tr_cut (w := w) F8 N8 hx8 ?_ ?_ ?_
    · intro hx7
      subst hx7
      k_steps
      exact Stopped.intro ⟨_, _, _, _, _, rfl, rfl, by k_asm, by k_asm, by with_reducible assumption, by with_reducible assumption, by with_reducible assumption, rfl⟩
    · intro hx7
      k_steps
      exact Stopped.intro ⟨_, _, _, _, _, rfl, rfl, by k_asm, by k_asm, by with_reducible assumption, by with_reducible assumption, by with_reducible assumption, rfl⟩
    intro D8 o8 h8 tk8 kvs8 F7 N7 l8 lo8 hd8 hv8
    clear F8 N8
    k_steps
    refine Stopped.intro ?_
    rename Value => x8
    refine int_cut (n := szN x8) ?_ ?_
    · rcases hx8 with rfl | ⟨a9, t9, rfl⟩ | rfl | rfl
      · k_steps
        exact Stopped.intro ⟨_, _, rfl, rfl⟩
      · k_steps
        exact Stopped.intro ⟨_, _, rfl, rfl⟩
      · k_steps
        exact Stopped.intro ⟨_, _, rfl, rfl⟩
      · k_steps
        exact Stopped.intro ⟨_, _, rfl, rfl⟩
    intro t9 tk9
    k_steps
    refine Stopped.intro ?_
    rename Fr _ _ _ _ => F8
    rename News _ _ _ _ => N8
    refine int_cut2 (n := fdN x8) F8 N8 ?_ ?_
    · rcases hx8 with rfl | ⟨a9, t9, rfl⟩ | rfl | rfl
      · k_steps
        exact Stopped.intro ⟨_, _, _, rfl, rfl, by k_asm, by k_asm⟩
      · k_steps
        exact Stopped.intro ⟨_, _, _, rfl, rfl, by k_asm, by k_asm⟩
      · k_steps
        exact Stopped.intro ⟨_, _, _, rfl, rfl, by k_asm, by k_asm⟩
      · k_steps
        exact Stopped.intro ⟨_, _, _, rfl, rfl, by k_asm, by k_asm⟩
    clear F8 N8
    intro t7 tk7 h7 F7 N7
    k_steps
    · exact Stopped.intro ⟨rfl, _, rfl⟩
    · exact Stopped.intro ⟨rfl, _, rfl⟩
    rename ExtBy _ _ _ => hx9
    rename News _ _ _ _ => N9
    refine fin _ _ _ _ _ ?eb hx9 (N9.get (by k_mem)) (N9.get (by k_mem)) hs9.1 hs9.2
    exact beq_iff_eq.mpr (max_one (x := x8) (by with_reducible assumption) (by with_reducible assumption) (by with_reducible assumption) (by with_reducible assumption))

end
section
set_option maxRecDepth 100000
set_option maxHeartbeats 6000000
set_option linter.unusedVariables false
theorem words_Leaf_0 : True := by
  k_with_none
  trivial
open PySem PySem.W PySem.Calls PyProof.Rows
theorem words_Leaf_1 : True := by
  k_with "k_room" => ((try simp only [depth_under_make, depth_under_kw, depth_in1, depth_deeper, depth_mark]); (try dsimp only); (show (_ : Nat) < 1000); first | (refine Nat.lt_of_le_of_lt (by with_reducible assumption) ?_; decide) | (refine Nat.lt_of_le_of_lt (Nat.add_le_add_right (by with_reducible assumption) 1) ?_; decide) | (refine Nat.lt_of_le_of_lt (Nat.add_le_add_right (Nat.add_le_add_right (by with_reducible assumption) 1) 1) ?_; decide) | omega)
  k_with "TruePost" => (exact ⟨rfl, _, rfl⟩)
  k_with "exec If" => ((with_reducible show wpAny _ _ (exec (Stmt.If _ _ [] _) _) _ _ _); k_dflt ((refine if_no ?hT ?_); (case hT => (k_steps; done)); intro _))
  k_with "LeaveC" => ((refine' leaveC_ ?k1 ?k2 ?_; (case k1 => k_asm); (case k2 => k_asm); intro _))
  k_with "my num" => ((try simp only [Around.deeper_units, depth_deeper, depth_under_make, depth_under_kw, depth_in1, depth_mark]); (try dsimp only); first | (refine Nat.le_trans (by with_reducible assumption) ?_; decide) | (refine Nat.le_trans (Nat.add_le_add_right (by with_reducible assumption) 1) ?_; decide) | (refine Nat.le_trans (Nat.add_le_add_right (Nat.add_le_add_right (by with_reducible assumption) 1) 1) ?_; decide) | omega)
  k_with "k_in" => (first | with_reducible assumption | ((refine' Frag.In.keeps ?kiX (Fr.keep ?kiF)); (case kiF => with_reducible assumption); (case kiX => with_reducible assumption)))
  k_with "my mem" => (first | exact List.forall_mem_nil _ | (refine' List.forall_mem_cons.mpr ⟨?ma, ?mb⟩; (case ma => k_mem); (case mb => walk_at "my mem")))
  trivial
theorem told_int {w : World} {A : Around} {s : Shared} {base : Heap} {outer : List Env} {p : Program} {loose : List Str} {mean : ExcName → Option Value} {mg mb : Str → Option Value}
    {R : Result → Shared → Prop} {i : Int} {t : Tok}
    (S : Site A base outer p loose mean mg mb (pre.heap_1 w.params) s.heap) (hA : A.depth ≤ 550) (hu : A.units ≤ 150) (hH : A.handled = none)
    
    (hR : ∀ a h' tk', ExtBy [] s.heap h' → Gives s.heap h' 2 (.ref a) (.tup [.str (Str.ofString "int"), .int i]) → R (.ok (.ret (.ref a))) {s with heap := h', toks := tk'}) :
    codeAny (model PySem.Challenge.rw_nn0135_01.row.prog w) A (.call (.ref 265) ⟨[.int i t], []⟩) R s := by
  have XB := S.X
  have TB := S.T
  obtain ⟨hdl, dp, fr, gs, us⟩ := A
  have hfr := S.B.stack
  dsimp only at hfr hA hu hH
  subst hfr hH
  revert S
  k_fill
  intro S
  have hn9 : ∀ q ∈ ([] : List (Addr × Obj)), s.heap.get? q.1 = some q.2 ∧ OwnAt base outer q.1 := by
    intro q hq; cases hq
  refine' enterC2 (binds := [(Str.ofString "value", .int i t)]) [] S ?hn ?k6 ?k7 ?k8 ?k9 ?kB ?kD ?_ ?c2 ?c3 ?c4
  case hn => exact hn9
  case k6 => k_is
  case k7 => k_is
  case k8 => k_room
  case k9 => exact BindsTo.of_eq rfl
  case kB => exact rfl
  case kD => decide +kernel
  case c2 => exact rfl
  case c3 => exact rfl
  case c4 => exact rfl
  clear S
  intro g' L' h' tk' cells' F' N' Y' B' X' T' l1 hg9
  simp only [AllLt, and_true] at l1
  k_cells Y'
  (try simp only [List.cons_append, List.nil_append] at N')
  (try dsimp only)
  (show wpAny _ _ _ _ _ _)
  k_fold
  k_steps
  all_goals (rename ExtBy _ _ _ => hx9; rename News _ _ _ _ => N9; exact hR _ _ _ (ext_same hx9 rfl (fun q hq => (hn9 q hq).1) N9 (by walk_at "my mem")) ⟨[(_, _)], List.forall_mem_cons.mpr ⟨gv1 N9 (List.Mem.head _) hg9 (by k_all), List.forall_mem_nil _⟩, RdL.tup (List.Mem.head _) (.cons .str (.cons .int .nil))⟩)
theorem told_true {w : World} {A : Around} {s : Shared} {base : Heap} {outer : List Env} {p : Program} {loose : List Str} {mean : ExcName → Option Value} {mg mb : Str → Option Value}
    {R : Result → Shared → Prop} 
    (S : Site A base outer p loose mean mg mb (pre.heap_1 w.params) s.heap) (hA : A.depth ≤ 550) (hu : A.units ≤ 150) (hH : A.handled = none)
    
    (hR : ∀ a h' tk', ExtBy [] s.heap h' → Gives s.heap h' 2 (.ref a) (.tup [.str (Str.ofString "truth"), .int 1]) → R (.ok (.ret (.ref a))) {s with heap := h', toks := tk'}) :
    codeAny (model PySem.Challenge.rw_nn0135_01.row.prog w) A (.call (.ref 265) ⟨[.bool true], []⟩) R s := by
  have XB := S.X
  have TB := S.T
  obtain ⟨hdl, dp, fr, gs, us⟩ := A
  have hfr := S.B.stack
  dsimp only at hfr hA hu hH
  subst hfr hH
  revert S
  k_fill
  intro S
  have hn9 : ∀ q ∈ ([] : List (Addr × Obj)), s.heap.get? q.1 = some q.2 ∧ OwnAt base outer q.1 := by
    intro q hq; cases hq
  refine' enterC2 (binds := [(Str.ofString "value", .bool true)]) [] S ?hn ?k6 ?k7 ?k8 ?k9 ?kB ?kD ?_ ?c2 ?c3 ?c4
  case hn => exact hn9
  case k6 => k_is
  case k7 => k_is
  case k8 => k_room
  case k9 => exact BindsTo.of_eq rfl
  case kB => exact rfl
  case kD => decide +kernel
  case c2 => exact rfl
  case c3 => exact rfl
  case c4 => exact rfl
  clear S
  intro g' L' h' tk' cells' F' N' Y' B' X' T' l1 hg9
  simp only [AllLt, and_true] at l1
  k_cells Y'
  (try simp only [List.cons_append, List.nil_append] at N')
  (try dsimp only)
  (show wpAny _ _ _ _ _ _)
  k_fold
  k_steps
  all_goals (rename ExtBy _ _ _ => hx9; rename News _ _ _ _ => N9; exact hR _ _ _ (ext_same hx9 rfl (fun q hq => (hn9 q hq).1) N9 (by walk_at "my mem")) ⟨[(_, _)], List.forall_mem_cons.mpr ⟨gv1 N9 (List.Mem.head _) hg9 (by k_all), List.forall_mem_nil _⟩, RdL.tup (List.Mem.head _) (.cons .str (.cons .int .nil))⟩)
theorem told_name {w : World} {A : Around} {s : Shared} {base : Heap} {outer : List Env} {p : Program} {loose : List Str} {mean : ExcName → Option Value} {mg mb : Str → Option Value}
    {R : Result → Shared → Prop} {a d : Addr} {x : Str} {j t : Tok}
    (S : Site A base outer p loose mean mg mb (pre.heap_1 w.params) s.heap) (hA : A.depth ≤ 550) (hu : A.units ≤ 150) (hH : A.handled = none)
    (ha : s.heap.get? a = some (instObj 171 d)) (hd : s.heap.get? d = some (strD w x j t)) (hlt : @LT.lt Nat _ d a) (oa : OwnAt base outer a) (od : OwnAt base outer d)
    (hR : ∀ a h' tk', ExtBy [] s.heap h' → Gives s.heap h' 2 (.ref a) (.tup [.str (Str.ofString "name"), .str x]) → R (.ok (.ret (.ref a))) {s with heap := h', toks := tk'}) :
    codeAny (model PySem.Challenge.rw_nn0135_01.row.prog w) A (.call (.ref 265) ⟨[.ref a], []⟩) R s := by
  have XB := S.X
  have TB := S.T
  obtain ⟨hdl, dp, fr, gs, us⟩ := A
  have hfr := S.B.stack
  dsimp only at hfr hA hu hH
  subst hfr hH
  revert S
  k_fill
  intro S
  have hn9 : ∀ q ∈ ([(a, instObj 171 d), (d, strD w x j t)] : List (Addr × Obj)), s.heap.get? q.1 = some q.2 ∧ OwnAt base outer q.1 := by
    intro q hq; rcases List.mem_cons.mp hq with rfl | hq; exact ⟨ha, oa⟩; rcases List.mem_cons.mp hq with rfl | hq; exact ⟨hd, od⟩; cases hq
  refine' enterC2 (binds := [(Str.ofString "value", .ref a)]) [(a, instObj 171 d), (d, strD w x j t)] S ?hn ?k6 ?k7 ?k8 ?k9 ?kB ?kD ?_ ?c2 ?c3 ?c4
  case hn => exact hn9
  case k6 => k_is
  case k7 => k_is
  case k8 => k_room
  case k9 => exact BindsTo.of_eq rfl
  case kB => exact rfl
  case kD => decide +kernel
  case c2 => exact rfl
  case c3 => exact rfl
  case c4 => exact rfl
  clear S
  intro g' L' h' tk' cells' F' N' Y' B' X' T' l1 hg9
  simp only [AllLt, and_true] at l1
  k_cells Y'
  (try simp only [List.cons_append, List.nil_append] at N')
  (try dsimp only)
  (show wpAny _ _ _ _ _ _)
  k_fold
  k_steps
  all_goals (rename ExtBy _ _ _ => hx9; rename News _ _ _ _ => N9; exact hR _ _ _ (ext_same hx9 rfl (fun q hq => (hn9 q hq).1) N9 (by walk_at "my mem")) ⟨[(_, _)], List.forall_mem_cons.mpr ⟨gv1 N9 (List.Mem.head _) hg9 (by k_all), List.forall_mem_nil _⟩, RdL.tup (List.Mem.head _) (.cons .str (.cons .str .nil))⟩)
theorem told_ref {w : World} {A : Around} {s : Shared} {base : Heap} {outer : List Env} {p : Program} {loose : List Str} {mean : ExcName → Option Value} {mg mb : Str → Option Value}
    {R : Result → Shared → Prop} {a d : Addr} {n g : Int} {j1 j2 t1 t2 : Tok}
    (S : Site A base outer p loose mean mg mb (pre.heap_1 w.params) s.heap) (hA : A.depth ≤ 550) (hu : A.units ≤ 150) (hH : A.handled = none)
    (ha : s.heap.get? a = some (instObj 242 d)) (hd : s.heap.get? d = some (refD w n g j1 j2 t1 t2)) (hlt : @LT.lt Nat _ d a) (oa : OwnAt base outer a) (od : OwnAt base outer d)
    (hR : ∀ a h' tk', ExtBy [] s.heap h' → Gives s.heap h' 2 (.ref a) (.tup [.str (Str.ofString "ref"), .int n, .int g]) → R (.ok (.ret (.ref a))) {s with heap := h', toks := tk'}) :
    codeAny (model PySem.Challenge.rw_nn0135_01.row.prog w) A (.call (.ref 265) ⟨[.ref a], []⟩) R s := by
  have XB := S.X
  have TB := S.T
  obtain ⟨hdl, dp, fr, gs, us⟩ := A
  have hfr := S.B.stack
  dsimp only at hfr hA hu hH
  subst hfr hH
  revert S
  k_fill
  intro S
  have hn9 : ∀ q ∈ ([(a, instObj 242 d), (d, refD w n g j1 j2 t1 t2)] : List (Addr × Obj)), s.heap.get? q.1 = some q.2 ∧ OwnAt base outer q.1 := by
    intro q hq; rcases List.mem_cons.mp hq with rfl | hq; exact ⟨ha, oa⟩; rcases List.mem_cons.mp hq with rfl | hq; exact ⟨hd, od⟩; cases hq
  refine' enterC2 (binds := [(Str.ofString "value", .ref a)]) [(a, instObj 242 d), (d, refD w n g j1 j2 t1 t2)] S ?hn ?k6 ?k7 ?k8 ?k9 ?kB ?kD ?_ ?c2 ?c3 ?c4
  case hn => exact hn9
  case k6 => k_is
  case k7 => k_is
  case k8 => k_room
  case k9 => exact BindsTo.of_eq rfl
  case kB => exact rfl
  case kD => decide +kernel
  case c2 => exact rfl
  case c3 => exact rfl
  case c4 => exact rfl
  clear S
  intro g' L' h' tk' cells' F' N' Y' B' X' T' l1 hg9
  simp only [AllLt, and_true] at l1
  k_cells Y'
  (try simp only [List.cons_append, List.nil_append] at N')
  (try dsimp only)
  (show wpAny _ _ _ _ _ _)
  k_fold
  k_steps
  all_goals (rename ExtBy _ _ _ => hx9; rename News _ _ _ _ => N9; exact hR _ _ _ (ext_same hx9 rfl (fun q hq => (hn9 q hq).1) N9 (by walk_at "my mem")) ⟨[(_, _)], List.forall_mem_cons.mpr ⟨gv1 N9 (List.Mem.head _) hg9 (by k_all), List.forall_mem_nil _⟩, RdL.tup (List.Mem.head _) (.cons .str (.cons .int (.cons .int .nil)))⟩)
theorem told_lv {w : World} {A : Around} {s : Shared} {base : Heap} {outer : List Env} {p : Program} {loose : List Str} {mean : ExcName → Option Value} {mg mb : Str → Option Value}
    {R : Result → Shared → Prop} {T : List (Addr × Obj)} {v : Value} {l : Lv}
    (S : Site A base outer p loose mean mg mb (pre.heap_1 w.params) s.heap) (hA : A.depth ≤ 550) (hu : A.units ≤ 150) (hH : A.handled = none)
    (hT : ∀ q ∈ T, s.heap.get? q.1 = some q.2 ∧ OwnAt base outer q.1) (hl : LvIs w T v l)
    (hR : ∀ a h' tk', ExtBy [] s.heap h' → Gives s.heap h' 2 (.ref a) (dtL l) → R (.ok (.ret (.ref a))) {s with heap := h', toks := tk'}) :
    codeAny (model PySem.Challenge.rw_nn0135_01.row.prog w) A (.call (.ref 265) ⟨[v], []⟩) R s := by
  cases l with
  | int i => obtain ⟨t, rfl⟩ := hl; exact told_int S hA hu hH hR
  | tru => obtain rfl := hl; exact told_true S hA hu hH hR
  | name x => obtain ⟨a, d, j, t, rfl, h, h1, h2⟩ := hl; exact told_name S hA hu hH (hT _ h1).1 (hT _ h2).1 h (hT _ h1).2 (hT _ h2).2 hR
  | ref n g => obtain ⟨a, d, j1, j2, t1, t2, rfl, h, h1, h2⟩ := hl; exact told_ref S hA hu hH (hT _ h1).1 (hT _ h2).1 h (hT _ h1).2 (hT _ h2).2 hR
theorem told_lv_K {w : World} {A₀ A : Around} {s : Shared} {base h₀ : Heap} {outer : List Env} {p : Program} {loose : List Str} {mean : ExcName → Option Value} {mg mb : Str → Option Value}
    {L : Addr} {m : Str → Option Value} {env : Env} {news T : List (Addr × Obj)} {f : List (Addr × Obj) → List (Addr × Obj)} {Q : Value → Shared → Prop} {E : Value → Shared → Prop} {v : Value} {l : Lv}
    (B : Below A₀ base outer h₀) (X : (pre.heap_1 w.params).In base) (T₀ : Top p loose mean mg mb base) (F : Fr h₀ L s.heap m) (N : News h₀ L s.heap news) (hF : A.frames = some (env :: outer)) (hf : env.frame = some L) (hke : env.scope.kind = .function)
    (hs : ∀ p ∈ T, p ∈ news) (hl : LvIs w T v l) (tl : TlF news f) (hA : A.depth ≤ 550) (hu : A.units ≤ 150) (hH : A.handled = none)
    (h : ∀ a T2 h' tk', Fr h₀ L h' m → News h₀ L h' (f T2) → OffT T2 news → RdL T2 2 (.ref a) (dtL l) → Q (.ref a) {s with heap := h', toks := tk'}) :
    wpAny (model PySem.Challenge.rw_nn0135_01.row.prog w) A (call (.ref 265) [v]) Q E s :=
  gives_K F N tl (fun R' hR' => told_lv ⟨below_g B F hF hf hke, X, T₀⟩ hA hu hH (fun q hq => ⟨(N q (hs q hq)).1, own_g B N hf q (hs q hq)⟩) hl hR') h

end
section
set_option maxRecDepth 100000
set_option maxHeartbeats 6000000
set_option linter.unusedVariables false
theorem words_Dict_0 : True := by
  k_with_none
  trivial
open PySem PySem.W PySem.Calls PyProof.Rows
theorem words_Dict_1 : True := by
  k_with "k_room" => ((try simp only [depth_under_make, depth_under_kw, depth_in1, depth_deeper, depth_mark]); (try dsimp only); (show (_ : Nat) < 1000); first | (refine Nat.lt_of_le_of_lt (by with_reducible assumption) ?_; decide) | (refine Nat.lt_of_le_of_lt (Nat.add_le_add_right (by with_reducible assumption) 1) ?_; decide) | (refine Nat.lt_of_le_of_lt (Nat.add_le_add_right (Nat.add_le_add_right (by with_reducible assumption) 1) 1) ?_; decide) | omega)
  k_with "TruePost" => (exact ⟨rfl, _, rfl⟩)
  k_with "exec If" => ((with_reducible show wpAny _ _ (exec (Stmt.If _ _ [] _) _) _ _ _); k_dflt ((refine if_no ?hT ?_); (case hT => (k_steps; done)); intro _))
  k_with "LeaveC" => ((refine' leaveC_ ?k1 ?k2 ?_; (case k1 => k_asm); (case k2 => k_asm); intro _))
  k_with "my num" => ((try simp only [Around.deeper_units, depth_deeper, depth_under_make, depth_under_kw, depth_in1, depth_mark]); (try dsimp only); first | (refine Nat.le_trans (by with_reducible assumption) ?_; decide) | (refine Nat.le_trans (Nat.add_le_add_right (by with_reducible assumption) 1) ?_; decide) | (refine Nat.le_trans (Nat.add_le_add_right (Nat.add_le_add_right (by with_reducible assumption) 1) 1) ?_; decide) | omega)
  k_with "k_in" => (first | with_reducible assumption | ((refine' Frag.In.keeps ?kiX (Fr.keep ?kiF)); (case kiF => with_reducible assumption); (case kiX => with_reducible assumption)))
  k_with "my mem" => (first | exact List.forall_mem_nil _ | (refine' List.forall_mem_cons.mpr ⟨?ma, ?mb⟩; (case ma => k_mem); (case mb => walk_at "my mem")) | walk_at "my sub")
  k_with "my tail" => (first | with_reducible assumption | (refine List.mem_cons_of_mem _ ?_; walk_at "my tail") | (refine List.mem_append_right _ ?_; walk_at "my tail") | (refine List.mem_append_left _ ?_; walk_at "my tail"))
  k_with "my sub" => ((intro _ _; walk_at "my tail"))
  k_with "my tl" => (first | (refine' TlF.cons ?tlx; (case tlx => walk_at "my tl")) | exact TlF.here)
  k_with "my rm" => (first | (with_reducible refine' Rm.dI ?rmx; (case rmx => walk_at "my rm")) | (with_reducible refine' Rm.dC ?rmx; (case rmx => walk_at "my rm")) | (with_reducible refine' Rm.dD ?rmx; (case rmx => walk_at "my rm")) | (refine' Rm.keep ?rmx; (case rmx => walk_at "my rm")) | exact Rm.nil)
  k_with "my off" => (first | exact True.intro | (refine And.intro ⟨by k_ne, by k_ne, by k_ne⟩ ?_; walk_at "my off") | (refine off3_app (offT_3 (by with_reducible assumption) (by k_mem) (by k_mem) (by k_mem)) ?_; walk_at "my off") | exact LCg.Off3.of (fun p hp => LCg.Off3.mem (by with_reducible assumption) p (by walk_at "my tail")) | fail "my off")
  k_with "k_mem" => (with_reducible_and_instances assumption)
  k_with "k_all" => (first | kst_allNe | exact OffT.ne (by with_reducible assumption) (by k_mem) | fail "k_all")
  k_with "k_ne" => (first | with_reducible assumption | exact (LCg.Off3.mem (by with_reducible assumption) _ (by k_mem)).1 | exact (LCg.Off3.mem (by with_reducible assumption) _ (by k_mem)).2.1 | exact (LCg.Off3.mem (by with_reducible assumption) _ (by k_mem)).2.2 | (refine neN ?_; (try dsimp only); omega))
  k_with "lcg_src" => (first | exact True.intro | ((try dsimp only); first | exact Or.inr ⟨_, by k_mem, rfl, _, rfl⟩ | exact Or.inl (by assumption)))
  k_with "eval ListComp" => ((k_here; k_dflt (refine LCt.ListComp_T (F₀ := by k_asm) (by with_unfolding_all rfl) (by decide) (by rfl) (by decide) (by rfl) ?_)))
  k_with "call builtin:sorted" => (((with_reducible show wpAny _ _ (call (Value.builtin "sorted") [Value.ref _]) _ _ _); k_dflt (refine sorted_of (knd := PySem.strKind _ _) (by rfl) (by k_asm) (by k_asm) (by k_mem) (by assumption) (by assumption) (by rw [sizeLine_eq]; exact Nat.le_of_ble_eq_true rfl) ?_); intro _ _ _ _ _ _ l1 hl9 hv9; (first | (obtain ⟨t9, e9⟩ := keys1 hl9 hv9) | (obtain ⟨t9, t8, e9⟩ := keys2 hl9 hv9)); subst e9; clear hl9 hv9; (try k_lt l1)))
  k_with "call builtin:list.sort" => (((with_reducible show wpAny _ _ (call (Value.builtin _) [Value.ref _]) _ _ _); k_dflt (refine' lsort1 ?F ?N ?U ?_; (case F => k_asm); (case N => k_asm); (case U => k_updF); k_whole); intro _ _ _ N'; (try dsimp only at N'); (try k_sweep)))
  k_with "subscriptTail" => (((with_reducible show wpAny _ _ (subscriptTail _ _ (Value.ref _) (Value.str _ _)) _ _ _); k_dflt (refine kda_item (knd := PySem.strKind _ _) (by k_asm) (by k_mem) (by assumption) (strKind_is _ _ _ _) (by first | exact va1 | rfl) ?_)))
  k_with "subscriptTail Name" => (((with_reducible show wpAny _ _ (subscriptTail _ _ (Value.ref _) (Value.str _ _)) _ _ _); k_dflt (refine kda_item (knd := PySem.strKind _ _) (by k_asm) (by k_mem) (by assumption) (strKind_is _ _ _ _) (by first | exact va1 | rfl) ?_)))
  k_with "CompRestT" => ((with_unfolding_all first | (refine LCt.CompRestT.succ ?_; intro _ _ _ _ _ _ _ _ _ _ hv' _ _ _ _ _ _; lcg_open hv') | refine LCt.CompRestT.zero ?_))
  k_with "CompEnd" => ((refine comp_end (by k_asm) (by k_asm) (by walk_at "my rm") (by k_mem) (by k_mem) (by k_mem) (by walk_at "my off") (by lcg_src) ?_))
  k_with "compareOp IsNot" => (refine isNot_lv (by with_reducible assumption) ?_)
  k_with "call ref" => (((with_reducible show wpAny _ _ (call (Value.ref 265) [_]) _ _ _); k_dflt (refine' told_lv_K ?kB ?kX ?kT ?kF ?kN ?kfA ?kff ?kfK ?ks ?kl ?ktl ?kA ?ku ?kH ?_; (case kF => k_asm); (case kN => k_asm); (case kB => k_asm); (case kX => k_asm); (case kT => k_asm); (case kfA => exact rfl); (case kff => exact rfl); (case kfK => exact rfl); (case kl => with_reducible assumption); (case ks => walk_at "my sub"); (case ktl => walk_at "my tl"); (case kA => walk_at "my num"); (case ku => walk_at "my num"); (case kH => rfl); k_whole); intro _ _ _ _ _ N' _ _; (try dsimp only at N'); (try k_sweep)))
  trivial
theorem told_d1 {w : World} {A : Around} {s : Shared} {base : Heap} {outer : List Env} {p : Program} {loose : List Str} {mean : ExcName → Option Value} {mg mb : Str → Option Value}
    {R : Result → Shared → Prop} {T : List (Addr × Obj)} {h : Addr} {es : Array DictEntry} {ep : Nat} {k : Str} {v : Value} {l : Lv}
    (S : Site A base outer p loose mean mg mb (pre.heap_1 w.params) s.heap) (hA : A.depth ≤ 540) (hu : A.units ≤ 140) (hH : A.handled = none)
    (ho : s.heap.get? h = some ({ cls := .type "dict", data := .dict es ep } : Obj)) (hD : Obj.IsDictOf (PySem.strKind PySem.Challenge.rw_nn0135_01.row.prog w) ({ cls := .type "dict", data := .dict es ep } : Obj) [(k, v)]) (lo : (h == sysModules) = false)
    (oe : OwnAt base outer h) (hT : ∀ q ∈ T, s.heap.get? q.1 = some q.2 ∧ OwnAt base outer q.1) (hl : LvIs w T v l)
    (hR : ∀ a h' tk', ExtBy [] s.heap h' → Gives s.heap h' 4 (.ref a) (.tup [.str (Str.ofString "dict"), .tup [.str k, dtL l]]) → R (.ok (.ret (.ref a))) {s with heap := h', toks := tk'}) :
    codeAny (model PySem.Challenge.rw_nn0135_01.row.prog w) A (.call (.ref 265) ⟨[.ref h], []⟩) R s := by
  have XB := S.X
  have TB := S.T
  obtain ⟨hdl, dp, fr, gs, us⟩ := A
  have hfr := S.B.stack
  dsimp only at hfr hA hu hH
  subst hfr hH
  revert S
  k_fill
  intro S
  have hn9 : ∀ q ∈ (((h, ({ cls := .type "dict", data := .dict es ep } : Obj)) :: T) : List (Addr × Obj)), s.heap.get? q.1 = some q.2 ∧ OwnAt base outer q.1 := by
    intro q hq; rcases List.mem_cons.mp hq with rfl | hq; exact ⟨ho, oe⟩; exact hT q hq
  refine' enterC2 (binds := [(Str.ofString "value", .ref h)]) ((h, ({ cls := .type "dict", data := .dict es ep } : Obj)) :: T) S ?hn ?k6 ?k7 ?k8 ?k9 ?kB ?kD ?_ ?c2 ?c3 ?c4
  case hn => exact hn9
  case k6 => k_is
  case k7 => k_is
  case k8 => k_room
  case k9 => exact BindsTo.of_eq rfl
  case kB => exact rfl
  case kD => decide +kernel
  case c2 => exact rfl
  case c3 => exact rfl
  case c4 => exact rfl
  clear S
  intro g' L' h' tk' cells' F' N' Y' B' X' T' l1 hg9
  simp only [AllLt, and_true] at l1
  k_cells Y'
  (try simp only [List.cons_append, List.nil_append] at N')
  (try dsimp only)
  (show wpAny _ _ _ _ _ _)
  k_fold
  k_steps
  all_goals (rename ExtBy _ _ _ => hx9; rename News _ _ _ _ => N9; exact hR _ _ _ (ext_same hx9 rfl (fun q hq => (hn9 q hq).1) N9 (by walk_at "my mem")) (gives_of N9 (RdL.tup (fmm N9 (by k_mem) hg9 (by k_all)) (.cons .str (.cons (RdL.tup (fmm N9 (by k_mem) hg9 (by k_all)) (.cons .str (.cons (RdL.mono (by with_reducible assumption) (fT N9 hg9 (by with_reducible assumption) (by walk_at "my sub") (by walk_at "my mem"))) .nil))) .nil)))))
theorem told_d2 {w : World} {A : Around} {s : Shared} {base : Heap} {outer : List Env} {p : Program} {loose : List Str} {mean : ExcName → Option Value} {mg mb : Str → Option Value}
    {R : Result → Shared → Prop} {T : List (Addr × Obj)} {h : Addr} {es : Array DictEntry} {ep : Nat} {v1 v2 : Value} {l1 l2 : Lv}
    (S : Site A base outer p loose mean mg mb (pre.heap_1 w.params) s.heap) (hA : A.depth ≤ 540) (hu : A.units ≤ 140) (hH : A.handled = none)
    (ho : s.heap.get? h = some ({ cls := .type "dict", data := .dict es ep } : Obj)) (hD : Obj.IsDictOf (PySem.strKind PySem.Challenge.rw_nn0135_01.row.prog w) ({ cls := .type "dict", data := .dict es ep } : Obj) [(Str.ofString "K", v1), (Str.ofString "Length", v2)]) (lo : (h == sysModules) = false)
    (oe : OwnAt base outer h) (hT : ∀ q ∈ T, s.heap.get? q.1 = some q.2 ∧ OwnAt base outer q.1) (hl1 : LvIs w T v1 l1) (hl2 : LvIs w T v2 l2)
    (hR : ∀ a h' tk', ExtBy [] s.heap h' → Gives s.heap h' 4 (.ref a) (.tup [.str (Str.ofString "dict"), .tup [.str (Str.ofString "K"), dtL l1], .tup [.str (Str.ofString "Length"), dtL l2]]) → R (.ok (.ret (.ref a))) {s with heap := h', toks := tk'}) :
    codeAny (model PySem.Challenge.rw_nn0135_01.row.prog w) A (.call (.ref 265) ⟨[.ref h], []⟩) R s := by
  have XB := S.X
  have TB := S.T
  obtain ⟨hdl, dp, fr, gs, us⟩ := A
  have hfr := S.B.stack
  dsimp only at hfr hA hu hH
  subst hfr hH
  revert S
  k_fill
  intro S
  have hn9 : ∀ q ∈ (((h, ({ cls := .type "dict", data := .dict es ep } : Obj)) :: T) : List (Addr × Obj)), s.heap.get? q.1 = some q.2 ∧ OwnAt base outer q.1 := by
    intro q hq; rcases List.mem_cons.mp hq with rfl | hq; exact ⟨ho, oe⟩; exact hT q hq
  refine' enterC2 (binds := [(Str.ofString "value", .ref h)]) ((h, ({ cls := .type "dict", data := .dict es ep } : Obj)) :: T) S ?hn ?k6 ?k7 ?k8 ?k9 ?kB ?kD ?_ ?c2 ?c3 ?c4
  case hn => exact hn9
  case k6 => k_is
  case k7 => k_is
  case k8 => k_room
  case k9 => exact BindsTo.of_eq rfl
  case kB => exact rfl
  case kD => decide +kernel
  case c2 => exact rfl
  case c3 => exact rfl
  case c4 => exact rfl
  clear S
  intro g' L' h' tk' cells' F' N' Y' B' X' T' l1 hg9
  simp only [AllLt, and_true] at l1
  k_cells Y'
  (try simp only [List.cons_append, List.nil_append] at N')
  (try dsimp only)
  (show wpAny _ _ _ _ _ _)
  k_fold
  k_steps
  all_goals (rename ExtBy _ _ _ => hx9; rename News _ _ _ _ => N9; exact hR _ _ _ (ext_same hx9 rfl (fun q hq => (hn9 q hq).1) N9 (by walk_at "my mem")) (gives_of N9 (RdL.tup (fmm N9 (by k_mem) hg9 (by k_all)) (.cons .str (.cons (RdL.tup (fmm N9 (by k_mem) hg9 (by k_all)) (.cons .str (.cons (RdL.mono (by with_reducible assumption) (fT N9 hg9 (by with_reducible assumption) (by walk_at "my sub") (by walk_at "my mem"))) .nil))) (.cons (RdL.tup (fmm N9 (by k_mem) hg9 (by k_all)) (.cons .str (.cons (RdL.mono (by with_reducible assumption) (fT N9 hg9 (by with_reducible assumption) (by walk_at "my sub") (by walk_at "my mem"))) .nil))) .nil))))))
def HdIs (w : World) (T : List (Addr × Obj)) (h : Addr) (way : Int) (l : Option Lv) : Prop :=
  ∃ es ep v1, (h, ({ cls := .type "dict", data := .dict es ep } : Obj)) ∈ T ∧ (h == sysModules) = false ∧ LvIs w T v1 (.int way) ∧
    match l with
    | none => Obj.IsDictOf (PySem.strKind PySem.Challenge.rw_nn0135_01.row.prog w) ({ cls := .type "dict", data := .dict es ep } : Obj) [(Str.ofString "K", v1)]
    | some l => ∃ v2, LvIs w T v2 l ∧ Obj.IsDictOf (PySem.strKind PySem.Challenge.rw_nn0135_01.row.prog w) ({ cls := .type "dict", data := .dict es ep } : Obj) [(Str.ofString "K", v1), (Str.ofString "Length", v2)]
theorem HdIs.mono {w : World} {T T' : List (Addr × Obj)} {h : Addr} {way : Int} (hs : ∀ p ∈ T, p ∈ T') : ∀ {l : Option Lv}, HdIs w T h way l → HdIs w T' h way l
  | none, ⟨es, ep, v1, h1, lo, hl, d⟩ => ⟨es, ep, v1, hs _ h1, lo, LvIs.mono hs hl, d⟩
  | some _, ⟨es, ep, v1, h1, lo, hl, v2, hl2, d⟩ => ⟨es, ep, v1, hs _ h1, lo, LvIs.mono hs hl, v2, LvIs.mono hs hl2, d⟩
def dtHd (way : Int) : Option Lv → Dt
  | none => .tup [.str (Str.ofString "dict"), .tup [.str (Str.ofString "K"), dtL (.int way)]]
  | some l => .tup [.str (Str.ofString "dict"), .tup [.str (Str.ofString "K"), dtL (.int way)], .tup [.str (Str.ofString "Length"), dtL l]]
theorem told_hd {w : World} {A : Around} {s : Shared} {base : Heap} {outer : List Env} {p : Program} {loose : List Str} {mean : ExcName → Option Value} {mg mb : Str → Option Value}
    {R : Result → Shared → Prop} {T : List (Addr × Obj)} {h : Addr} {way : Int} {l : Option Lv}
    (S : Site A base outer p loose mean mg mb (pre.heap_1 w.params) s.heap) (hA : A.depth ≤ 540) (hu : A.units ≤ 140) (hH : A.handled = none)
    (hT : ∀ q ∈ T, s.heap.get? q.1 = some q.2 ∧ OwnAt base outer q.1) (hh : HdIs w T h way l)
    (hR : ∀ a h' tk', ExtBy [] s.heap h' → Gives s.heap h' 4 (.ref a) (dtHd way l) → R (.ok (.ret (.ref a))) {s with heap := h', toks := tk'}) :
    codeAny (model PySem.Challenge.rw_nn0135_01.row.prog w) A (.call (.ref 265) ⟨[.ref h], []⟩) R s := by
  cases l with
  | none => obtain ⟨es, ep, v1, h1, lo, hl, d⟩ := hh; exact told_d1 S hA hu hH (hT _ h1).1 d lo (hT _ h1).2 hT hl hR
  | some l => obtain ⟨es, ep, v1, h1, lo, hl, v2, hl2, d⟩ := hh; exact told_d2 S hA hu hH (hT _ h1).1 d lo (hT _ h1).2 hT hl hl2 hR
theorem told_hd_K {w : World} {A₀ A : Around} {s : Shared} {base h₀ : Heap} {outer : List Env} {p : Program} {loose : List Str} {mean : ExcName → Option Value} {mg mb : Str → Option Value}
    {L : Addr} {m : Str → Option Value} {env : Env} {news T : List (Addr × Obj)} {f : List (Addr × Obj) → List (Addr × Obj)} {Q : Value → Shared → Prop} {E : Value → Shared → Prop} {hd' : Addr} {way : Int} {l : Option Lv}
    (B : Below A₀ base outer h₀) (X : (pre.heap_1 w.params).In base) (T₀ : Top p loose mean mg mb base) (F : Fr h₀ L s.heap m) (N : News h₀ L s.heap news) (hF : A.frames = some (env :: outer)) (hf : env.frame = some L) (hke : env.scope.kind = .function)
    (hs : ∀ p ∈ T, p ∈ news) (hl : HdIs w T hd' way l) (tl : TlF news f) (hA : A.depth ≤ 540) (hu : A.units ≤ 140) (hH : A.handled = none)
    (h : ∀ a T2 h' tk', Fr h₀ L h' m → News h₀ L h' (f T2) → OffT T2 news → RdL T2 4 (.ref a) (dtHd way l) → Q (.ref a) {s with heap := h', toks := tk'}) :
    wpAny (model PySem.Challenge.rw_nn0135_01.row.prog w) A (call (.ref 265) [.ref hd']) Q E s :=
  gives_K F N tl (fun R' hR' => told_hd ⟨below_g B F hF hf hke, X, T₀⟩ hA hu hH (fun q hq => ⟨(N q (hs q hq)).1, own_g B N hf q (hs q hq)⟩) hl hR') h

end
section
set_option maxRecDepth 100000
set_option maxHeartbeats 1500000
set_option linter.unusedVariables false
theorem words_St_0 : True := by
  k_with_none
  trivial
open PySem PySem.W PySem.Calls PyProof.Rows
theorem words_St_1 : True := by
  k_with "k_room" => ((try simp only [depth_under_make, depth_under_kw, depth_in1, depth_deeper, depth_mark]); (try dsimp only); (show (_ : Nat) < 1000); first | (refine Nat.lt_of_le_of_lt (by with_reducible assumption) ?_; decide) | (refine Nat.lt_of_le_of_lt (Nat.add_le_add_right (by with_reducible assumption) 1) ?_; decide) | (refine Nat.lt_of_le_of_lt (Nat.add_le_add_right (Nat.add_le_add_right (by with_reducible assumption) 1) 1) ?_; decide) | omega)
  k_with "TruePost" => (exact ⟨rfl, _, rfl⟩)
  k_with "exec If" => ((with_reducible show wpAny _ _ (exec (Stmt.If _ _ [] _) _) _ _ _); k_dflt ((refine if_no ?hT ?_); (case hT => (k_steps; done)); intro _))
  k_with "LeaveC" => ((refine' leaveC_ ?k1 ?k2 ?_; (case k1 => k_asm); (case k2 => k_asm); intro _))
  k_with "my num" => ((try simp only [Around.deeper_units, depth_deeper, depth_under_make, depth_under_kw, depth_in1, depth_mark]); (try dsimp only); first | (refine Nat.le_trans (by with_reducible assumption) ?_; decide) | (refine Nat.le_trans (Nat.add_le_add_right (by with_reducible assumption) 1) ?_; decide) | (refine Nat.le_trans (Nat.add_le_add_right (Nat.add_le_add_right (by with_reducible assumption) 1) 1) ?_; decide) | omega)
  k_with "k_in" => (first | with_reducible assumption | ((refine' Frag.In.keeps ?kiX (Fr.keep ?kiF)); (case kiF => with_reducible assumption); (case kiX => with_reducible assumption)))
  k_with "my mem" => (first | exact List.forall_mem_nil _ | (refine' List.forall_mem_cons.mpr ⟨?ma, ?mb⟩; (case ma => k_mem); (case mb => walk_at "my mem")) | walk_at "my sub")
  k_with "my tail" => (first | with_reducible assumption | (refine List.mem_cons_of_mem _ ?_; walk_at "my tail") | (refine List.mem_append_right _ ?_; walk_at "my tail") | (refine List.mem_append_left _ ?_; walk_at "my tail"))
  k_with "my sub" => ((intro _ _; walk_at "my tail"))
  k_with "my tl" => (first | (refine' TlF.cons ?tlx; (case tlx => walk_at "my tl")) | exact TlF.here)
  k_with "my rm" => (first | (with_reducible refine' Rm.dI ?rmx; (case rmx => walk_at "my rm")) | (with_reducible refine' Rm.dC ?rmx; (case rmx => walk_at "my rm")) | (with_reducible refine' Rm.dD ?rmx; (case rmx => walk_at "my rm")) | (refine' Rm.keep ?rmx; (case rmx => walk_at "my rm")) | exact Rm.nil)
  k_with "my off" => (first | exact True.intro | (refine And.intro ⟨by k_ne, by k_ne, by k_ne⟩ ?_; walk_at "my off") | (refine off3_app (offT_3 (by with_reducible assumption) (by k_mem) (by k_mem) (by k_mem)) ?_; walk_at "my off") | exact LCg.Off3.of (fun p hp => LCg.Off3.mem (by with_reducible assumption) p (by walk_at "my tail")) | fail "my off")
  k_with "k_mem" => (first | with_reducible_and_instances assumption | (refine List.mem_append_right _ ?_; k_mem) | (refine List.mem_append_left _ ?_; k_mem) | fail "k_mem")
  k_with "k_all" => (first | kst_allNe | exact OffT.ne (by with_reducible assumption) (by k_mem) | fail "k_all")
  k_with "k_ne" => (first | with_reducible assumption | exact (LCg.Off3.mem (by with_reducible assumption) _ (by k_mem)).1 | exact (LCg.Off3.mem (by with_reducible assumption) _ (by k_mem)).2.1 | exact (LCg.Off3.mem (by with_reducible assumption) _ (by k_mem)).2.2 | (refine neN ?_; (try dsimp only); omega))
  k_with "lcg_src" => (first | exact True.intro | ((try dsimp only); first | exact Or.inr ⟨_, by k_mem, rfl, _, rfl⟩ | exact Or.inl (by assumption)))
  k_with "eval ListComp" => ((k_here; k_dflt (first | refine LCg.ListComp_U (F₀ := by k_asm) (by with_unfolding_all rfl) (by decide) (by rfl) (by decide) (by rfl) ?_ | refine LCt.ListComp_T (F₀ := by k_asm) (by with_unfolding_all rfl) (by decide) (by rfl) (by decide) (by rfl) ?_)))
  k_with "call builtin:sorted" => (((with_reducible show wpAny _ _ (call (Value.builtin "sorted") [Value.ref _]) _ _ _); k_dflt (refine sorted_of (knd := PySem.strKind _ _) (by rfl) (by k_asm) (by k_asm) (by k_mem) (by assumption) (by assumption) (by rw [sizeLine_eq]; exact Nat.le_of_ble_eq_true rfl) ?_); intro _ _ _ _ _ _ l1 hl9 hv9; (first | (obtain ⟨t9, e9⟩ := keys1 hl9 hv9) | (obtain ⟨t9, t8, e9⟩ := keys2 hl9 hv9)); subst e9; clear hl9 hv9; (try k_lt l1)))
  k_with "call builtin:list.sort" => (((with_reducible show wpAny _ _ (call (Value.builtin _) [Value.ref _]) _ _ _); k_dflt (refine' lsort1 ?F ?N ?U ?_; (case F => k_asm); (case N => k_asm); (case U => k_updF); k_whole); intro _ _ _ N'; (try dsimp only at N'); (try k_sweep)))
  k_with "subscriptTail" => (((with_reducible show wpAny _ _ (subscriptTail _ _ (Value.ref _) (Value.str _ _)) _ _ _); k_dflt (refine kda_item (knd := PySem.strKind _ _) (by k_asm) (by k_mem) (by assumption) (strKind_is _ _ _ _) (by first | exact va1 | rfl) ?_)))
  k_with "subscriptTail Name" => (((with_reducible show wpAny _ _ (subscriptTail _ _ (Value.ref _) (Value.str _ _)) _ _ _); k_dflt (refine kda_item (knd := PySem.strKind _ _) (by k_asm) (by k_mem) (by assumption) (strKind_is _ _ _ _) (by first | exact va1 | rfl) ?_)))
  k_with "CompRestT" => ((with_unfolding_all first | (refine LCt.CompRestT.succ ?_; intro _ _ _ _ _ _ _ _ _ _ hv' _ _ _ _ _ _; lcg_open hv') | refine LCt.CompRestT.zero ?_))
  k_with "CompRest" => ((with_unfolding_all first | (refine LCg.CompRest.succ ?_; intro _ _ _ _ _ _ _ _ _ _ hv' _ _ _ _ _ _; lcg_open hv') | refine LCg.CompRest.zero ?_))
  k_with "CompEnd" => ((refine comp_end (by k_asm) (by k_asm) (by walk_at "my rm") (by k_mem) (by k_mem) (by k_mem) (by walk_at "my off") (by lcg_src) ?_))
  k_with "compareOp IsNot" => (refine isNot_lv (by with_reducible assumption) ?_)
  trivial

theorem bb_slot : typeLookup (.type "bytes") "__bytes__" = pure (some (.builtin "bytes.__bytes__")) := by rw [typeLookup_type, builtinLookup_eq_fast]; kernel_rfl
section
variable {prog : Program} {w : World} {A : Around} {E : Value → Shared → Prop} {s : Shared}
theorem bb_new {b : Array UInt8} {t : Tok} {Q : Value → Shared → Prop} (hQ : Q (.bytes b t) s) :
    codeAny (model prog w) A (.call (.builtin "bytes.__new__") ⟨[.type "bytes", .bytes b t], []⟩) (wants Q E) s := by
  refine codeAny_of_tree ?_
  show wpAny _ A.in1 (do checkBuiltinCall "bytes.__new__" ⟨[.type "bytes", .bytes b t], []⟩; again (.builtin "bytes.__new__" ⟨[.type "bytes", .bytes b t], []⟩)) _ _ s
  refine wpAny_bind (wpAny_of_eq (F.bm_newCall _) (wpAny_pure ⟨plainId_quiet F.bm_plain _, codeAny_builtin F.bm_entry ?_⟩))
  rw [Around.under_plainId F.bm_plain _]
  have hT : s.TypeIs (.bytes b t) "bytes" := PySem.W.typeIs_bytes _ _ _
  unfold Builtin.«bytes.__new__»
  refine wpAny_bind (wpAny_of_eq (a := true) rfl ?_)
  refine bm_if_false rfl ?_
  refine wpAny_bind (wpAny_of_eq F.bm_sub ?_)
  refine bm_if_false rfl ?_
  refine wpAny_bind (wpAny_of_eq (F.bm_bind _) ?_)
  refine wpAny_bind (wpAny_of_eq (a := ()) rfl ?_)
  refine wpAny_bind (wpAny_of_eq (a := ()) rfl ?_)
  refine bm_if_false rfl ?_
  refine wpAny_bind (wpAny_specialOf hT bb_slot ?_)
  refine wpAny_bind (wpAny_rule ?_)
  refine wpAny_bind (wpAny_of_eq (a := Value.type "bytes") rfl ?_)
  refine bm_if_true rfl ?_
  refine wpAny_pure ?_
  exact hQ
theorem call_bytes_bytes {b : Array UInt8} {t : Tok} {Q : Value → Shared → Prop} (hQ : Q (.bytes b t) s) : wpAny (model prog w) A (call (.type "bytes") [.bytes b t]) Q E s := by
  refine callType_codes (Q₁ := fun obj s₁ => s₁.TypeIs obj "bytes" ∧ Q obj s₁) F.bm_called (F.bm_typeCall _) F.entry_object_init
    (bb_new ⟨PySem.W.typeIs_bytes _ _ _, hQ⟩) fun obj s₁ h₁ => ?_
  exact ⟨h₁.1, F.args_object_init_2 obj _, object_init_meets F.bm_called.init.lookup F.bm_called.made (by decide) prog w A.in1 _ s₁ ⟨h₁.1, rfl, h₁.2⟩⟩
end
theorem words_St_2 : True := by
  k_with "call ref" => (((with_reducible show wpAny _ _ (call (Value.ref 265) [_]) _ _ _); k_dflt (refine' told_lv_K ?kB ?kX ?kT ?kF ?kN ?kfA ?kff ?kfK ?ks ?kl ?ktl ?kA ?ku ?kH ?_; (case kF => k_asm); (case kN => k_asm); (case kB => k_asm); (case kX => k_asm); (case kT => k_asm); (case kfA => exact rfl); (case kff => exact rfl); (case kfK => exact rfl); (case kl => with_reducible assumption); (case ks => walk_at "my sub"); (case ktl => walk_at "my tl"); (case kA => walk_at "my num"); (case ku => walk_at "my num"); (case kH => rfl); k_whole); intro _ _ _ _ _ N' _ _; (try dsimp only at N'); (try k_sweep)))
  k_with "call type:bytes" => (((with_reducible show wpAny _ _ (call (Value.type "bytes") [Value.bytes _ _]) _ _ _); k_dflt (refine call_bytes_bytes ?_)))
  k_with "call ref" => (((with_reducible show wpAny _ _ (call (Value.ref 265) [Value.ref _]) _ _ _); k_dflt (refine' told_hd_K ?kB ?kX ?kT ?kF ?kN ?kfA ?kff ?kfK ?ks ?kl ?ktl ?kA ?ku ?kH ?_; (case kF => k_asm); (case kN => k_asm); (case kB => k_asm); (case kX => k_asm); (case kT => k_asm); (case kfA => exact rfl); (case kff => exact rfl); (case kfK => exact rfl); (case kl => with_reducible assumption); (case ks => walk_at "my sub"); (case ktl => walk_at "my tl"); (case kA => walk_at "my num"); (case ku => walk_at "my num"); (case kH => rfl); k_whole); intro _ _ _ _ _ N' _ _; (try dsimp only at N'); (try k_sweep)))
  trivial
theorem told_st {w : World} {A : Around} {s : Shared} {base : Heap} {outer : List Env} {p : Program} {loose : List Str} {mean : ExcName → Option Value} {mg mb : Str → Option Value}
    {R : Result → Shared → Prop} {T : List (Addr × Obj)} {a d h : Addr} {oct : List UInt8} {j1 j2 t : Tok} {way : Int} {l : Option Lv}
    (S : Site A base outer p loose mean mg mb (pre.heap_1 w.params) s.heap) (hA : A.depth ≤ 530) (hu : A.units ≤ 130) (hH : A.handled = none)
    (hT : ∀ q ∈ T, s.heap.get? q.1 = some q.2 ∧ OwnAt base outer q.1) (h1 : (a, instObj 214 d) ∈ T) (h2 : (d, stmD w h oct j1 j2 t) ∈ T) (hh : HdIs w T h way l)
    (hR : ∀ a h' tk', ExtBy [] s.heap h' → Gives s.heap h' 5 (.ref a) (.tup [.str (Str.ofString "stream"), dtHd way l, .bytes oct]) → R (.ok (.ret (.ref a))) {s with heap := h', toks := tk'}) :
    codeAny (model PySem.Challenge.rw_nn0135_01.row.prog w) A (.call (.ref 265) ⟨[.ref a], []⟩) R s := by
  have XB := S.X
  have TB := S.T
  obtain ⟨hdl, dp, fr, gs, us⟩ := A
  have hfr := S.B.stack
  dsimp only at hfr hA hu hH
  subst hfr hH
  revert S
  k_fill
  intro S
  have hn9 : ∀ q ∈ T, s.heap.get? q.1 = some q.2 ∧ OwnAt base outer q.1 := by
    exact hT
  refine' enterC2 (binds := [(Str.ofString "value", .ref a)]) T S ?hn ?k6 ?k7 ?k8 ?k9 ?kB ?kD ?_ ?c2 ?c3 ?c4
  case hn => exact hn9
  case k6 => k_is
  case k7 => k_is
  case k8 => k_room
  case k9 => exact BindsTo.of_eq rfl
  case kB => exact rfl
  case kD => decide +kernel
  case c2 => exact rfl
  case c3 => exact rfl
  case c4 => exact rfl
  clear S
  intro g' L' h' tk' cells' F' N' Y' B' X' T' l1 hg9
  (try simp only [AllLt, and_true] at l1)
  k_cells Y'
  (try simp only [List.cons_append, List.nil_append] at N')
  (try dsimp only)
  (show wpAny _ _ _ _ _ _)
  k_fold
  k_steps
  all_goals (rename ExtBy _ _ _ => hx9; rename News _ _ _ _ => N9; exact hR _ _ _ (ext_same hx9 rfl (fun q hq => (hn9 q hq).1) N9 (by walk_at "my mem")) (gives_of N9 (RdL.tup (fmm N9 (by k_mem) hg9 (by k_all)) (.cons .str (.cons (RdL.mono (by with_reducible assumption) (fT N9 hg9 (by with_reducible assumption) (by walk_at "my sub") (by walk_at "my mem"))) (.cons .bytes .nil))))))
theorem told_l2 {w : World} {A : Around} {s : Shared} {base : Heap} {outer : List Env} {p : Program} {loose : List Str} {mean : ExcName → Option Value} {mg mb : Str → Option Value}
    {R : Result → Shared → Prop} {T : List (Addr × Obj)} {a : Addr} {t : Tok} {c : Nat}
    (S : Site A base outer p loose mean mg mb (pre.heap_1 w.params) s.heap) (hA : A.depth ≤ 530) (hu : A.units ≤ 130) (hH : A.handled = none)
    (hT : ∀ q ∈ T, s.heap.get? q.1 = some q.2 ∧ OwnAt base outer q.1) (h1 : (a, listOf #[.int 2 t] c) ∈ T)
    (hR : ∀ a h' tk', ExtBy [] s.heap h' → Gives s.heap h' 5 (.ref a) (.tup [.str (Str.ofString "array"), dtL (.int 2)]) → R (.ok (.ret (.ref a))) {s with heap := h', toks := tk'}) :
    codeAny (model PySem.Challenge.rw_nn0135_01.row.prog w) A (.call (.ref 265) ⟨[.ref a], []⟩) R s := by
  have XB := S.X
  have TB := S.T
  obtain ⟨hdl, dp, fr, gs, us⟩ := A
  have hfr := S.B.stack
  dsimp only at hfr hA hu hH
  subst hfr hH
  revert S
  k_fill
  intro S
  have hn9 : ∀ q ∈ T, s.heap.get? q.1 = some q.2 ∧ OwnAt base outer q.1 := by
    exact hT
  refine' enterC2 (binds := [(Str.ofString "value", .ref a)]) T S ?hn ?k6 ?k7 ?k8 ?k9 ?kB ?kD ?_ ?c2 ?c3 ?c4
  case hn => exact hn9
  case k6 => k_is
  case k7 => k_is
  case k8 => k_room
  case k9 => exact BindsTo.of_eq rfl
  case kB => exact rfl
  case kD => decide +kernel
  case c2 => exact rfl
  case c3 => exact rfl
  case c4 => exact rfl
  clear S
  intro g' L' h' tk' cells' F' N' Y' B' X' T' l1 hg9
  (try simp only [AllLt, and_true] at l1)
  k_cells Y'
  (try simp only [List.cons_append, List.nil_append] at N')
  (try dsimp only)
  (show wpAny _ _ _ _ _ _)
  k_fold
  k_steps
  all_goals (rename ExtBy _ _ _ => hx9; rename News _ _ _ _ => N9; exact hR _ _ _ (ext_same hx9 rfl (fun q hq => (hn9 q hq).1) N9 (by walk_at "my mem")) (gives_of N9 (RdL.tup (fmm N9 (by k_mem) hg9 (by k_all)) (.cons .str (.cons (RdL.tup (fmm N9 (by k_mem) hg9 (by k_all)) (.cons .str (.cons .int .nil))) .nil)))))

inductive Vd
  | st (way : Int) (l : Option Lv) (oct : List UInt8)
  | two
  | ltwo
  | dk (k : Str) (i : Int)
def dtV : Vd → Dt
  | .st way l oct => .tup [.str (Str.ofString "stream"), dtHd way l, .bytes oct]
  | .two => dtL (.int 2)
  | .ltwo => .tup [.str (Str.ofString "array"), dtL (.int 2)]
  | .dk k i => .tup [.str (Str.ofString "dict"), .tup [.str k, dtL (.int i)]]
def VdIs (w : World) (T : List (Addr × Obj)) (v : Value) : Vd → Prop
  | .st way l oct => ∃ a d h j1 j2 t, v = .ref a ∧ (@LT.lt Nat _ d a) ∧ (a, instObj 214 d) ∈ T ∧ (d, stmD w h oct j1 j2 t) ∈ T ∧ HdIs w T h way l
  | .two => ∃ t, v = .int 2 t
  | .ltwo => ∃ a t c, v = .ref a ∧ (a, listOf #[.int 2 t] c) ∈ T
  | .dk k i => ∃ h es ep v1, v = .ref h ∧ (h, ({ cls := .type "dict", data := .dict es ep } : Obj)) ∈ T ∧ (h == sysModules) = false ∧ LvIs w T v1 (.int i) ∧ Obj.IsDictOf (PySem.strKind PySem.Challenge.rw_nn0135_01.row.prog w) ({ cls := .type "dict", data := .dict es ep } : Obj) [(k, v1)]
theorem VdIs.mono {w : World} {T T' : List (Addr × Obj)} {v : Value} (hs : ∀ p ∈ T, p ∈ T') : ∀ {V : Vd}, VdIs w T v V → VdIs w T' v V
  | .st _ _ _, ⟨a, d, h, j1, j2, t, e, lt, h1, h2, hh⟩ => ⟨a, d, h, j1, j2, t, e, lt, hs _ h1, hs _ h2, HdIs.mono hs hh⟩
  | .two, x => x
  | .ltwo, ⟨a, t, c, e, h1⟩ => ⟨a, t, c, e, hs _ h1⟩
  | .dk _ _, ⟨h, es, ep, v1, e, h1, lo, hl, d⟩ => ⟨h, es, ep, v1, e, hs _ h1, lo, LvIs.mono hs hl, d⟩
theorem Gives.le {s h' : Heap} {n m : Nat} {v : Value} {d : Dt} (x : Gives s h' n v d) (hm : n ≤ m) : Gives s h' m v d := let ⟨T2, h1, h2⟩ := x; ⟨T2, h1, h2.le hm⟩
theorem told_vd {w : World} {A : Around} {s : Shared} {base : Heap} {outer : List Env} {p : Program} {loose : List Str} {mean : ExcName → Option Value} {mg mb : Str → Option Value}
    {R : Result → Shared → Prop} {T : List (Addr × Obj)} {v : Value} {V : Vd}
    (S : Site A base outer p loose mean mg mb (pre.heap_1 w.params) s.heap) (hA : A.depth ≤ 530) (hu : A.units ≤ 130) (hH : A.handled = none)
    (hT : ∀ q ∈ T, s.heap.get? q.1 = some q.2 ∧ OwnAt base outer q.1) (hv : VdIs w T v V)
    (hR : ∀ a h' tk', ExtBy [] s.heap h' → Gives s.heap h' 5 (.ref a) (dtV V) → R (.ok (.ret (.ref a))) {s with heap := h', toks := tk'}) :
    codeAny (model PySem.Challenge.rw_nn0135_01.row.prog w) A (.call (.ref 265) ⟨[v], []⟩) R s := by
  cases V with
  | st way l oct => obtain ⟨a, d, h, j1, j2, t, rfl, lt, h1, h2, hh⟩ := hv; exact told_st S hA hu hH hT h1 h2 hh hR
  | two => obtain ⟨t, rfl⟩ := hv; exact told_int S (by omega) (by omega) hH fun a h' tk' x g => hR a h' tk' x (g.le (by decide))
  | ltwo => obtain ⟨a, t, c, rfl, h1⟩ := hv; exact told_l2 S hA hu hH hT h1 hR
  | dk k i => obtain ⟨h, es, ep, v1, rfl, h1, lo, hl, d⟩ := hv; exact told_d1 S (by omega) (by omega) hH (hT _ h1).1 d lo (hT _ h1).2 hT hl fun a h' tk' x g => hR a h' tk' x (g.le (by decide))
theorem told_vd_K {w : World} {A₀ A : Around} {s : Shared} {base h₀ : Heap} {outer : List Env} {p : Program} {loose : List Str} {mean : ExcName → Option Value} {mg mb : Str → Option Value}
    {L : Addr} {m : Str → Option Value} {env : Env} {news T : List (Addr × Obj)} {f : List (Addr × Obj) → List (Addr × Obj)} {Q : Value → Shared → Prop} {E : Value → Shared → Prop} {v : Value} {V : Vd}
    (B : Below A₀ base outer h₀) (X : (pre.heap_1 w.params).In base) (T₀ : Top p loose mean mg mb base) (F : Fr h₀ L s.heap m) (N : News h₀ L s.heap news) (hF : A.frames = some (env :: outer)) (hf : env.frame = some L) (hke : env.scope.kind = .function)
    (hs : ∀ p ∈ T, p ∈ news) (hl : VdIs w T v V) (tl : TlF news f) (hA : A.depth ≤ 530) (hu : A.units ≤ 130) (hH : A.handled = none)
    (h : ∀ a T2 h' tk', Fr h₀ L h' m → News h₀ L h' (f T2) → OffT T2 news → RdL T2 5 (.ref a) (dtV V) → Q (.ref a) {s with heap := h', toks := tk'}) :
    wpAny (model PySem.Challenge.rw_nn0135_01.row.prog w) A (call (.ref 265) [v]) Q E s :=
  gives_K F N tl (fun R' hR' => told_vd ⟨below_g B F hF hf hke, X, T₀⟩ hA hu hH (fun q hq => ⟨(N q (hs q hq)).1, own_g B N hf q (hs q hq)⟩) hl hR') h

end
section
set_option maxRecDepth 100000
set_option linter.unusedVariables false
open PySem PySem.W PySem.Calls PyProof.Rows
inductive EntsIs (w : World) (T : List (Addr × Obj)) : List (Int × Value) → List (Int × Int × Vd) → Prop
  | nil : EntsIs w T [] []
  | cons {k g : Int} {t : Addr} {tg : Tok} {v : Value} {c : Nat} {V : Vd} {kvs : List (Int × Value)} {Es : List (Int × Int × Vd)} : (t, tupObj [.int g tg, v] c) ∈ T → VdIs w T v V → EntsIs w T kvs Es → EntsIs w T ((k, .ref t) :: kvs) ((k, g, V) :: Es)
theorem EntsIs.mono {w : World} {T T' : List (Addr × Obj)} (hs : ∀ p ∈ T, p ∈ T') : ∀ {kvs : List (Int × Value)} {Es : List (Int × Int × Vd)}, EntsIs w T kvs Es → EntsIs w T' kvs Es
  | _, _, .nil => .nil
  | _, _, .cons h1 h2 r => .cons (hs _ h1) (VdIs.mono hs h2) (EntsIs.mono hs r)
theorem EntsIs.append {w : World} {T : List (Addr × Obj)} : ∀ {kvs : List (Int × Value)} {Es : List (Int × Int × Vd)} {kvs' : List (Int × Value)} {Es' : List (Int × Int × Vd)}, EntsIs w T kvs Es → EntsIs w T kvs' Es' → EntsIs w T (kvs ++ kvs') (Es ++ Es')
  | _, _, _, _, .nil, y => y
  | _, _, _, _, .cons h1 h2 r, y => .cons h1 h2 (EntsIs.append r y)
theorem EntsIs.keys {w : World} {T : List (Addr × Obj)} : ∀ {kvs : List (Int × Value)} {Es : List (Int × Int × Vd)}, EntsIs w T kvs Es → kvs.map (·.1) = Es.map (·.1)
  | _, _, .nil => rfl
  | _, _, .cons _ _ r => by simp [r.keys]
def esAt (Es : List (Int × Int × Vd)) (n : Int) : Option (Int × Vd) := (Es.find? fun e => e.1 = n).map (·.2)
theorem EntsIs.at {w : World} {T : List (Addr × Obj)} {n : Int} : ∀ {kvs : List (Int × Value)} {Es : List (Int × Int × Vd)}, EntsIs w T kvs Es → n ∈ Es.map (·.1) → ∃ t g tg v c V, valueAt kvs n = some (.ref t) ∧ esAt Es n = some (g, V) ∧ (t, tupObj [.int g tg, v] c) ∈ T ∧ VdIs w T v V
  | _, _, .nil, h => by simp at h
  | _, _, @EntsIs.cons _ _ k g t tg v c V kvs Es h1 h2 r, h => by
    by_cases e : k = n
    · subst e
      exact ⟨t, g, tg, v, c, V, by simp [valueAt], by simp [esAt], h1, h2⟩
    · have hm : n ∈ Es.map (·.1) := by
        rcases List.mem_cons.mp h with q | q
        · exact absurd q.symm e
        · exact q
      obtain ⟨t', g', tg', v', c', V', q1, q2, q3, q4⟩ := EntsIs.at r hm
      exact ⟨t', g', tg', v', c', V', by simpa [valueAt, e] using q1, by simpa [esAt, e] using q2, q3, q4⟩
theorem EntsIs.off {w : World} {T : List (Addr × Obj)} {n : Int} {kvs : List (Int × Value)} {Es : List (Int × Int × Vd)} (x : EntsIs w T kvs Es) (h : n ∉ Es.map (·.1)) : valueAt kvs n = none := by
  apply valueAt_none_of_not_mem
  rw [x.keys]; exact h
def rowOf (Es : List (Int × Int × Vd)) (n : Int) : Dt := match esAt Es n with
  | some (g, V) => .tup [.int n, .int g, dtV V]
  | none => .tup []
def dtSh (Es : List (Int × Int × Vd)) (ns : List Int) (V : Vd) : Dt := .tup [.tup (ns.map (rowOf Es)), dtV V]
theorem intsOf {prog : Program} {w : World} : ∀ {kvs : List (Int × Value)} {vs : List Value}, vs.length = kvs.length → (∀ (j : Nat) (v : Value), vs[j]? = some v → ∃ k x, kvs[j]? = some (k, x) ∧ (intKind prog w).is k v = true) → IntsAre vs (kvs.map (·.1))
  | [], [], _, _ => .nil
  | (k, x) :: kvs, v :: vs, hl, hv => by
    obtain ⟨k', x', e, hk⟩ := hv 0 v rfl
    obtain ⟨t, rfl⟩ := int_is hk
    simp at e
    rw [List.map_cons, ← e.1]
    exact .cons _ t (intsOf (by simpa using hl) fun j u hu => by simpa using hv (j + 1) u (by simpa using hu))
  | [], _ :: _, hl, _ => by simp at hl
  | _ :: _, [], hl, _ => by simp at hl
theorem sorted_eq : ∀ {a b : List Int}, a.Perm b → a.Pairwise (· ≤ ·) → b.Pairwise (· ≤ ·) → a = b := fun p ha hb => lks_uniq p ha hb
def InvSh (pre T : List (Addr × Obj)) (Es : List (Int × Int × Vd)) (ns : List Int) (i : Nat) (ys : List Value) (news : List (Addr × Obj)) : Prop :=
  ∃ T2, news = pre ++ (T2 ++ T) ∧ OffT T2 (pre ++ T) ∧ RdAll T2 6 ys ((ns.take i).map (rowOf Es))
section
variable {prog : Program} {w : World} {A : Around} {h₀ : Heap} {L : Addr} {m : Str → Option Value} {env : Env} {elt : Expr} {x : Str} {scope : Scope} {cl : List (Str × Addr)} {s : Shared} {S : List (Addr × Obj) → Prop} {Fin : List Value → List (Addr × Obj) → Prop}
theorem sh_ind {vs : List Value} {ns : List Int} {pre T : List (Addr × Obj)} {kvs : List (Int × Value)} {Es : List (Int × Int × Vd)} (hi : IntsAre vs ns) (hp : ns.Perm (kvs.map (·.1))) (hE : EntsIs w T kvs Es)
    (turn : ∀ i ys T2 n tn t g tg v c V, ns[i]? = some n → valueAt kvs n = some (.ref t) → (t, tupObj [.int g tg, v] c) ∈ T → VdIs w T v V → rowOf Es n = .tup [.int n, .int g, dtV V] → OffT T2 (pre ++ T) → RdAll T2 6 ys ((ns.take i).map (rowOf Es)) →
      ∀ I oI C oC D m₂ h tk (E' : Value → Shared → Prop), LCg.NsObj oC m₂ → m₂ x = some (.int n tn) → Fr h₀ L h m → News h₀ L h ((I, oI) :: (C, oC) :: (D, LCg.lst ys) :: (pre ++ (T2 ++ T))) → LCg.Off3 I C D (pre ++ (T2 ++ T)) → ((@Ne Nat I C) ∧ (@Ne Nat I D) ∧ (@Ne Nat C D)) →
      wpAny (model prog w) A (eval elt (compEnvC scope cl C env)) (LCg.CompEnd h₀ L m { s with heap := h, toks := tk } I oI C oC D (LCg.lst ys) S (fun y news' => Stopped (InvSh pre T Es ns (i + 1) (ys ++ [y]) news'))) E' { s with heap := h, toks := tk })
    (fin : ∀ ys T2, OffT T2 (pre ++ T) → RdAll T2 6 ys (ns.map (rowOf Es)) → Fin ys (pre ++ (T2 ++ T))) :
    LCg.CompRest prog w A h₀ L m env elt x scope cl s S (fun i v => vs.toArray[i]? = some v) Fin vs.toArray.size 0 [] (pre ++ ([] ++ T)) := by
  refine comp_ind (InvSh pre T Es ns) ?_ ?_ _ 0 (Nat.zero_add _) [] _ ⟨[], rfl, (fun p hp => nomatch hp), .nil⟩
  · rintro i ys _ hlt ⟨T2, rfl, ho, hr⟩ v I oI C oC D m₂ h tk E' hv hC hx F N off ne
    have hv' : vs[i]? = some v := by simpa using hv
    obtain ⟨n, tn, rfl, hn⟩ := hi.at i v hv'
    have hmem : n ∈ Es.map (·.1) := by rw [← hE.keys]; exact hp.subset (List.mem_of_getElem? hn)
    obtain ⟨t, g, tg, v, c, V, q1, q2, q3, q4⟩ := hE.at hmem
    exact turn i ys T2 n tn t g tg v c V hn q1 q3 q4 (by unfold rowOf; rw [q2]) ho hr I oI C oC D m₂ h tk E' hC hx F N off ne
  · rintro ys _ ⟨T2, rfl, ho, hr⟩
    refine fin ys T2 ho ?_
    rw [List.take_of_length_le (by rw [List.size_toArray, hi.length]; exact Nat.le_refl _)] at hr
    exact hr
theorem sh_end {s₁ : Shared} {h' : Heap} {tk : Nat} {I C D Dn a : Addr} {oI oC : Obj} {ys : List Value} {ns : List Int} {pre T T2 T2n : List (Addr × Obj)} {Es : List (Int × Int × Vd)} {i : Nat} {n g : Int} {tn tg : Tok} {V : Vd}
    (F : Fr h₀ L h' m) (N : News h₀ L h' ((Dn, tupObj [.int n tn, .int g tg, .ref a] 0) :: (I, oI) :: (C, oC) :: (D, LCg.lst ys) :: (pre ++ (T2n ++ (T2 ++ T)))))
    (hDn : ∀ p ∈ (I, oI) :: (C, oC) :: (D, LCg.lst ys) :: (pre ++ T), p.1 ≠ Dn)
    (hoff : OffT T2n ((I, oI) :: (C, oC) :: (D, LCg.lst ys) :: (pre ++ (T2 ++ T)))) (off : LCg.Off3 I C D (pre ++ (T2 ++ T))) (hS : ∀ news', (∀ p ∈ pre, p ∈ news') → S news')
    (hn : ns[i]? = some n) (ho : OffT T2 (pre ++ T)) (hr : RdAll T2 6 ys ((ns.take i).map (rowOf Es))) (hrow : rowOf Es n = .tup [.int n, .int g, dtV V]) (hv : RdL T2n 5 (.ref a) (dtV V)) :
    LCg.CompEnd h₀ L m s₁ I oI C oC D (LCg.lst ys) S (fun y news' => Stopped (InvSh pre T Es ns (i + 1) (ys ++ [y]) news')) (.ref Dn) { s₁ with heap := h', toks := tk } := by
  have hI : Dn ≠ I := fun e => hDn (I, oI) (.head _) e.symm
  have hC : Dn ≠ C := fun e => hDn (C, oC) (.tail _ (.head _)) e.symm
  have hD : Dn ≠ D := fun e => hDn (D, LCg.lst ys) (.tail _ (.tail _ (.head _))) e.symm
  refine LCg.CompEnd.intro F N (pre ++ (((Dn, tupObj [.int n tn, .int g tg, .ref a] 0) :: (T2n ++ T2)) ++ T)) (fun p hp => ?_) (LCg.Off3.of fun p hp => ?_) (hS _ fun p hp => List.mem_append_left _ hp) ⟨_, rfl, fun p hp q hq => ?_, ?_⟩
  · simp only [List.mem_cons, List.mem_append, List.cons_append] at hp ⊢
    rcases hp with h | h | h | h | h | (h | h) | h <;> simp [h]
  · simp only [List.mem_cons, List.mem_append, List.cons_append] at hp
    rcases hp with h | h | (h | h) | h
    · exact off.mem p (by simp [h])
    · subst h; exact ⟨hI, hC, hD⟩
    · exact ⟨hoff p h (I, oI) (by simp), hoff p h (C, oC) (by simp), hoff p h (D, LCg.lst ys) (by simp)⟩
    · exact off.mem p (by simp [h])
    · exact off.mem p (by simp [h])
  · rcases List.mem_cons.mp hp with rfl | hp
    · exact fun e => hDn q (.tail _ (.tail _ (.tail _ hq))) e.symm
    · rcases List.mem_append.mp hp with hp | hp
      · refine hoff p hp q ?_
        rcases List.mem_append.mp hq with hq | hq <;> simp [hq]
      · exact ho p hp q hq
  · have e : ns.take (i + 1) = ns.take i ++ [n] := by rw [List.take_add_one, hn]; rfl
    rw [e, List.map_append]
    refine RdAll.append (hr.mono fun p hp => by simp [hp]) (.cons ?_ .nil)
    rw [hrow]
    exact RdL.tup (List.mem_cons_self) (.cons .int (.cons .int (.cons (hv.mono fun p hp => by simp [hp]) .nil)))
end

end
section
set_option maxRecDepth 100000
set_option maxHeartbeats 1500000
set_option linter.unusedVariables false
theorem words_Sh_0 : True := by
  k_with_none
  trivial
open PySem PySem.W PySem.Calls PyProof.Rows
theorem words_Sh_1 : True := by
  k_with "k_room" => ((try simp only [depth_under_make, depth_under_kw, depth_in1, depth_deeper, depth_mark]); (try dsimp only); (show (_ : Nat) < 1000); first | (refine Nat.lt_of_le_of_lt (by with_reducible assumption) ?_; decide) | (refine Nat.lt_of_le_of_lt (Nat.add_le_add_right (by with_reducible assumption) 1) ?_; decide) | (refine Nat.lt_of_le_of_lt (Nat.add_le_add_right (Nat.add_le_add_right (by with_reducible assumption) 1) 1) ?_; decide) | omega)
  k_with "LeaveC" => ((refine' leaveC_ ?k1 ?k2 ?_; (case k1 => k_asm); (case k2 => k_asm); intro _))
  k_with "my num" => ((try simp only [Around.deeper_units, depth_deeper, depth_under_make, depth_under_kw, depth_in1, depth_mark]); (try dsimp only); first | (refine Nat.le_trans (by with_reducible assumption) ?_; decide) | (refine Nat.le_trans (Nat.add_le_add_right (by with_reducible assumption) 1) ?_; decide) | (refine Nat.le_trans (Nat.add_le_add_right (Nat.add_le_add_right (by with_reducible assumption) 1) 1) ?_; decide) | omega)
  k_with "k_in" => (first | with_reducible assumption | ((refine' Frag.In.keeps ?kiX (Fr.keep ?kiF)); (case kiF => with_reducible assumption); (case kiX => with_reducible assumption)))
  k_with "my mem" => (first | exact List.forall_mem_nil _ | (refine' List.forall_mem_cons.mpr ⟨?ma, ?mb⟩; (case ma => k_mem); (case mb => walk_at "my mem")) | walk_at "my sub")
  k_with "my tail" => (first | with_reducible assumption | (refine List.mem_cons_of_mem _ ?_; walk_at "my tail") | (refine List.mem_append_right _ ?_; walk_at "my tail") | (refine List.mem_append_left _ ?_; walk_at "my tail"))
  k_with "my sub" => ((intro _ _; walk_at "my tail"))
  k_with "my tl" => (first | (refine' TlF.cons ?tlx; (case tlx => walk_at "my tl")) | exact TlF.here)
  k_with "my rm" => (first | (with_reducible refine' Rm.dI ?rmx; (case rmx => walk_at "my rm")) | (with_reducible refine' Rm.dC ?rmx; (case rmx => walk_at "my rm")) | (with_reducible refine' Rm.dD ?rmx; (case rmx => walk_at "my rm")) | (refine' Rm.keep ?rmx; (case rmx => walk_at "my rm")) | exact Rm.nil)
  k_with "my off" => (first | exact True.intro | (refine And.intro ⟨by k_ne, by k_ne, by k_ne⟩ ?_; walk_at "my off") | (refine off3_app (offT_3 (by with_reducible assumption) (by k_mem) (by k_mem) (by k_mem)) ?_; walk_at "my off") | exact LCg.Off3.of (fun p hp => LCg.Off3.mem (by with_reducible assumption) p (by walk_at "my tail")) | fail "my off")
  k_with "k_mem" => (first | with_reducible_and_instances assumption | (refine List.mem_append_right _ ?_; k_mem) | (refine List.mem_append_left _ ?_; k_mem) | fail "k_mem")
  k_with "k_all" => (first | kst_allNe | exact OffT.ne (by with_reducible assumption) (by k_mem) | fail "k_all")
  k_with "k_ne" => (first | with_reducible assumption | exact (LCg.Off3.mem (by with_reducible assumption) _ (by k_mem)).1 | exact (LCg.Off3.mem (by with_reducible assumption) _ (by k_mem)).2.1 | exact (LCg.Off3.mem (by with_reducible assumption) _ (by k_mem)).2.2 | (refine neN ?_; (try dsimp only); omega))
  k_with "lcg_src" => (first | exact True.intro | ((try dsimp only); first | exact Or.inr ⟨_, by k_mem, rfl, _, rfl⟩ | exact Or.inl (by assumption)))
  k_with "eval ListComp" => ((k_here; k_dflt (refine LCg.ListComp_U (F₀ := by k_asm) (by with_unfolding_all rfl) (by decide) (by rfl) (by decide) (by rfl) ?_)))
  k_with "call builtin:sorted" => (((with_reducible show wpAny _ _ (call (Value.builtin "sorted") [Value.ref _]) _ _ _); k_dflt (refine sorted_of (knd := PySem.intKind _ _) (by rfl) (by k_asm) (by k_asm) (by k_mem) (by assumption) (by assumption) (by rw [sizeLine_eq]; omega) ?_); intro _ _ _ _ _ _ l1 hl9 hv9; have hi9 := intsOf hl9 hv9; clear hv9; (try k_lt l1)))
  k_with "CompSrc" => ((k_here; k_dflt (refine LCg.CompSrc.ledger (by rfl) (by k_asm) (by k_asm) (by k_mem) (by (rename IntsAre _ _ => hi7); (rename List.Perm _ _ => hp7); have h5 := hp7.length_eq; have h6 := hi7.length; rw [List.length_map] at h5; rw [sizeLine_eq, List.size_toArray]; omega) ?_); intro _))
  k_with "CompRest" => (refine Stopped.out ?_)
  k_with "CompEnd" => (refine Stopped.out ?_)
  k_with "subscriptTail" => (((with_reducible show wpAny _ _ (subscriptTail _ _ (Value.ref _) (Value.int _ _)) _ _ _); k_dflt (refine kdt_tail (knd := PySem.intKind _ _) (by k_asm) (by k_mem) (by assumption) (kdt_getItem (knd := PySem.intKind _ _) (by k_asm) (by k_mem) (by assumption) (intKind_is _ _ _ _) (by with_reducible assumption) ?_))))
  k_with "call type:tuple" => (((with_reducible show wpAny _ _ (call (Value.type _) [Value.ref _]) _ _ _); k_dflt (refine' kde_tupleOf ?k1 ?k2 ?k3 ?k4 ?k5 ?_; (case k1 => k_asm); (case k2 => k_asm); (case k3 => exact News.isList (by k_asm) (by k_mem)); (case k4 => (rw [List.size_toArray]; omega)); (case k5 => exact List.toList_toArray); k_whole); intro _ _ _ _ l1; (try k_lt l1); (try k_sweep)))
  trivial

theorem words_Sh_2 : True := by
  k_with "call ref" => (((with_reducible show wpAny _ _ (call (Value.ref 265) [_]) _ _ _); k_dflt (refine' told_vd_K ?kB ?kX ?kT ?kF ?kN ?kfA ?kff ?kfK ?ks ?kl ?ktl ?kA ?ku ?kH ?_; (case kF => k_asm); (case kN => k_asm); (case kB => k_asm); (case kX => k_asm); (case kT => k_asm); (case kfA => exact rfl); (case kff => exact rfl); (case kfK => exact rfl); (case kl => with_reducible assumption); (case ks => walk_at "my sub"); (case ktl => walk_at "my tl"); (case kA => walk_at "my num"); (case ku => walk_at "my num"); (case kH => rfl); k_whole); intro _ _ _ _ _ N' _ _; (try dsimp only at N'); (try k_sweep)))
  trivial
theorem told_sh {w : World} {A : Around} {s : Shared} {base : Heap} {outer : List Env} {p : Program} {loose : List Str} {mean : ExcName → Option Value} {mg mb : Str → Option Value}
    {R : Result → Shared → Prop} {T : List (Addr × Obj)} {sh dsh tab tr : Addr} {ot : Obj} {j1 j2 : Tok} {kvs : List (Int × Value)} {Es : List (Int × Int × Vd)} {Vt : Vd}
    (S : Site A base outer p loose mean mg mb (pre.heap_1 w.params) s.heap) (hA : A.depth ≤ 520) (hu : A.units ≤ 120) (hH : A.handled = none)
    (hT : ∀ q ∈ ((sh, instObj 351 dsh) :: (dsh, shD w tab tr j1 j2) :: (tab, ot) :: T), s.heap.get? q.1 = some q.2 ∧ OwnAt base outer q.1) (hD : Obj.IsDictOf (PySem.intKind PySem.Challenge.rw_nn0135_01.row.prog w) ot kvs) (lo : (tab == sysModules) = false) (hk : kvs.length ≤ 20) (hE : EntsIs w T kvs Es) (ht : VdIs w T (.ref tr) Vt)
    (hR : ∀ a ns h' tk', ExtBy [] s.heap h' → ns.Perm (Es.map (·.1)) → ns.Pairwise (· ≤ ·) → Gives s.heap h' 8 (.ref a) (dtSh Es ns Vt) → R (.ok (.ret (.ref a))) {s with heap := h', toks := tk'}) :
    codeAny (model PySem.Challenge.rw_nn0135_01.row.prog w) A (.call (.ref 348) ⟨[.ref sh], []⟩) R s := by
  have XB := S.X
  have TB := S.T
  obtain ⟨hdl, dp, fr, gs, us⟩ := A
  have hfr := S.B.stack
  dsimp only at hfr hA hu hH
  subst hfr hH
  revert S
  k_fill
  intro S
  have hn9 : ∀ q ∈ ((sh, instObj 351 dsh) :: (dsh, shD w tab tr j1 j2) :: (tab, ot) :: T), s.heap.get? q.1 = some q.2 ∧ OwnAt base outer q.1 := by
    exact hT
  refine' enterC2 (binds := [(Str.ofString "self", .ref sh)]) ((sh, instObj 351 dsh) :: (dsh, shD w tab tr j1 j2) :: (tab, ot) :: T) S ?hn ?k6 ?k7 ?k8 ?k9 ?kB ?kD ?_ ?c2 ?c3 ?c4
  case hn => exact hn9
  case k6 => k_is
  case k7 => k_is
  case k8 => k_room
  case k9 => exact BindsTo.of_eq rfl
  case kB => exact rfl
  case kD => decide +kernel
  case c2 => exact rfl
  case c3 => exact rfl
  case c4 => exact rfl
  clear S
  intro g' L' h' tk' cells' F' N' Y' B' X' T' l1 hg9
  (try simp only [AllLt, and_true] at l1)
  k_cells Y'
  (try simp only [List.cons_append, List.nil_append] at N')
  (try dsimp only)
  (show wpAny _ _ _ _ _ _)
  k_fold
  k_steps
  refine Stopped.intro ?_
  rename IntsAre _ _ => hi7
  rename List.Perm _ _ => hp7
  rename List.Pairwise _ _ => hs7
  have hq7 := hE.keys ▸ hp7
  refine sh_ind (pre := [(_, _), (_, _), (_, _), (_, _), (_, _)]) hi7 hp7 hE ?tu ?fi
  case tu =>
    intro i ys T2 n tn t g tg v c V hn hva ht8 hv8 hrow ho8 hr8 I' oI' C' oC' D' m' h' tk' E' hC' hx' F' N' off' ne'
    simp only [List.cons_append, List.nil_append] at N' off'
    k_steps
    refine Stopped.intro ?_
    rename Fr _ _ _ _ => F9
    rename News _ _ _ _ => N9
    rename OffT _ _ => ho9
    rename RdL _ _ _ _ => hr9
    exact sh_end F9 N9 (by simp only [List.cons_append, List.nil_append]; k_all) ho9 off' (fun news' hs => Or.inr ⟨_, hs _ (List.Mem.head _), rfl, _, rfl⟩) hn ho8 hr8 hrow hr9
  case fi =>
    intro ys T2 ho8 hr8
    have hyl : ys.length ≤ 20 := by
      have h1 := hr8.length
      have h2 := hp7.length_eq
      rw [List.length_map] at h1 h2
      omega
    simp only [List.cons_append, List.nil_append] at ho8 ⊢
    k_steps
    rename ExtBy _ _ _ => hx9
    rename News _ _ _ _ => N9
    exact hR _ _ _ _ (ext_same hx9 rfl (fun q hq => (hn9 q hq).1) N9 (by walk_at "my mem")) hq7 hs7 (gives_of N9 (RdL.tup (fmm N9 (by k_mem) hg9 (by k_all)) (.cons (RdL.tup (fmm N9 (by k_mem) hg9 (by k_all)) (hr8.mono (fT N9 hg9 ho8 (by walk_at "my sub") (by walk_at "my mem")))) (.cons (RdL.le (n := 5) (RdL.mono (by with_reducible assumption) (fT N9 hg9 (by with_reducible assumption) (by walk_at "my sub") (by walk_at "my mem"))) (by decide)) .nil))))
theorem gives_KP {prog : Program} {w : World} {A : Around} {s : Shared} {h₀ : Heap} {L fn : Addr} {m : Str → Option Value} {news : List (Addr × Obj)} {f : List (Addr × Obj) → List (Addr × Obj)} {Q : Value → Shared → Prop} {E : Value → Shared → Prop} {args : List Value} {ι : Type} {P : ι → Value → List (Addr × Obj) → Prop}
    (F : Fr h₀ L s.heap m) (N : News h₀ L s.heap news) (tl : TlF news f)
    (hc : ∀ R' : Result → Shared → Prop, (∀ v i h' tk', ExtBy [] s.heap h' → (∃ T2 : List (Addr × Obj), (∀ p ∈ T2, h'.get? p.1 = some p.2 ∧ s.heap.get? p.1 = none) ∧ P i v T2) → R' (.ok (.ret v)) {s with heap := h', toks := tk'}) → codeAny (model prog w) A (.call (.ref fn) ⟨args, []⟩) R' s)
    (h : ∀ v i T2 h' tk', Fr h₀ L h' m → News h₀ L h' (f T2) → OffT T2 news → P i v T2 → Q v {s with heap := h', toks := tk'}) :
    wpAny (model prog w) A (call (.ref fn) args) Q E s := by
  refine wpAny_call (hc _ fun v i h' tk' x g => ?_)
  obtain ⟨T2, hT2, r⟩ := g
  refine h v i T2 h' tk' (fr_after F x (fun q => nomatch q) (fun _ q => nomatch q)) (fun p hp => ?_) (fun p hp q hq e => ?_) r
  · rcases tl.sub p hp with hp | hp
    · refine ⟨(hT2 p hp).1, fun e => ?_, ?_⟩
      · obtain ⟨oL, es, ep, hL', _⟩ := F.ns
        have := (hT2 p hp).2
        rw [e, hL'] at this; cases this
      · cases q : h₀.get? p.1 with
        | none => rfl
        | some o => have := F.keep _ _ q; rw [(hT2 p hp).2] at this; cases this
    · exact ⟨x _ _ (fun q => nomatch q) (N p hp).1, (N p hp).2⟩
  · have := (hT2 p hp).2
    rw [e, (N q hq).1] at this; cases this
theorem told_sh_K {w : World} {A₀ A : Around} {s : Shared} {base h₀ : Heap} {outer : List Env} {p : Program} {loose : List Str} {mean : ExcName → Option Value} {mg mb : Str → Option Value}
    {L : Addr} {m : Str → Option Value} {env : Env} {news T : List (Addr × Obj)} {f : List (Addr × Obj) → List (Addr × Obj)} {Q : Value → Shared → Prop} {E : Value → Shared → Prop} {sh dsh tab tr : Addr} {ot : Obj} {j1 j2 : Tok} {kvs : List (Int × Value)} {Es : List (Int × Int × Vd)} {Vt : Vd}
    (B : Below A₀ base outer h₀) (X : (pre.heap_1 w.params).In base) (T₀ : Top p loose mean mg mb base) (F : Fr h₀ L s.heap m) (N : News h₀ L s.heap news) (hF : A.frames = some (env :: outer)) (hf : env.frame = some L) (hke : env.scope.kind = .function)
    (hD : Obj.IsDictOf (PySem.intKind PySem.Challenge.rw_nn0135_01.row.prog w) ot kvs) (lo : (tab == sysModules) = false) (hk : kvs.length ≤ 20) (hE : EntsIs w T kvs Es) (ht : VdIs w T (.ref tr) Vt)
    (hs : ∀ p ∈ ((sh, instObj 351 dsh) :: (dsh, shD w tab tr j1 j2) :: (tab, ot) :: T), p ∈ news) (tl : TlF news f) (hA : A.depth ≤ 520) (hu : A.units ≤ 120) (hH : A.handled = none)
    (h : ∀ v ns T2 h' tk', Fr h₀ L h' m → News h₀ L h' (f T2) → OffT T2 news → (ns.Perm (Es.map (·.1)) ∧ ns.Pairwise (· ≤ ·) ∧ (∃ a, v = .ref a) ∧ RdL T2 8 v (dtSh Es ns Vt)) → Q v {s with heap := h', toks := tk'}) :
    wpAny (model PySem.Challenge.rw_nn0135_01.row.prog w) A (call (.ref 348) [.ref sh]) Q E s :=
  gives_KP (P := fun ns v T2 => ns.Perm (Es.map (·.1)) ∧ ns.Pairwise (· ≤ ·) ∧ (∃ a, v = .ref a) ∧ RdL T2 8 v (dtSh Es ns Vt)) F N tl (fun R' hR' => told_sh ⟨below_g B F hF hf hke, X, T₀⟩ hA hu hH (fun q hq => ⟨(N q (hs q hq)).1, own_g B N hf q (hs q hq)⟩) hD lo hk hE ht fun a ns h' tk' x hp hs g => hR' _ ns h' tk' x (let ⟨T2, h1, h2⟩ := g; ⟨T2, h1, hp, hs, ⟨a, rfl⟩, h2⟩)) h

end
section
set_option maxRecDepth 100000
set_option linter.unusedVariables false
open PySem PySem.W PySem.Calls PyProof.Rows PySem.SeqAt
theorem int_eq_inst (b : Int) (u : Tok) (l : Addr) (c : Value) (dd : Option Addr) (sl : Array (Option Value)) :
    Meets (Builtin.«int.__eq__» ⟨[.int b u, .ref l], []⟩) (fun _ R s => s.heap.get? l = some { cls := c, dict := dd, data := .plain, slots := sl } ∧ R (.ok (.ret .notImplemented)) s) :=
  .of_wp fun prog w A R s h => by obtain ⟨hp, g, d, tk, os⟩ := s; obtain ⟨hl, h⟩ := h; wp_walk using AutoSeq1.wpAny_loadPart' hl, wpAny_load hl; exact ⟨_, rfl, h⟩
theorem obj_eq_int {M : Model} {A : Around} {E : Value → Shared → Prop} {s : Shared} {x : Addr} {n : Int} {t : Tok} {Q : Fin → Shared → Prop} (hq : Q (.done (.ret .notImplemented)) s) : wpAny M A (Builtin.«object.__eq__» ⟨[.ref x, .int n t], []⟩) Q E s := by
  unfold Builtin.«object.__eq__»
  repeat (first | with_reducible refine wpAny_of_eq (rfl : isSame (.ref x) (.int n t) = pure false) ?_ | wp_step)
  exact hq
section
variable {prog : Program} {w : World} {A : Around} {E : Value → Shared → Prop} {s : Shared} {K : Frag} {x C d : Addr} {ox : Obj} {od : Option Obj}
theorem inst_eq_int {n : Int} {t : Tok} {Q : Value → Shared → Prop} (hu : A.units < cLine) (X : K.In s.heap) (I : InstAt s.heap x ox C od) (ho : s.heap.get? x = some (instObj C d)) (hs : findIn K (.ref C) (Str.ofString "__eq__") = some (some (.builtin "object.__eq__"))) (hn : subIn K (.type "int") (.ref C) = some false) (ho2 : subIn K (.ref C) (.type "object") = some true)
    (h : Q (.bool false) s) : wpAny (model prog w) A (richCompare .Eq (.ref x) (.int n t)) Q E s := by
  have chk : ∀ (A : Around) (E : Value → Shared → Prop) (Q' : Unit → Shared → Prop), Q' () s → wpAny (model prog w) A (checkBuiltinCall "object.__eq__" ⟨[.ref x, .int n t], []⟩) Q' E s := fun A E Q' hq => by
    simp only [checkBuiltinCall, F.cmpKind_eq, F.cmpSplit_eq]
    refine wpAny_bind ?_
    unfold isInstance
    refine wpAny_bind (I.type.here ((looks_subIn X ho2).here ?_))
    have ha := F.cmpArgs_eq (.ref x) (.int n t)
    cases hsig : Manifest.signature? "object.__eq__" with
    | none => exact wpAny_pure hq
    | some sig =>
      simp only [argsOk, hsig] at ha
      have h2 : Bind.checkArgs "object.__eq__" sig ⟨[.ref x, .int n t], []⟩ = pure () := ha
      show wpAny _ _ (Bind.checkArgs "object.__eq__" sig ⟨[.ref x, .int n t], []⟩) _ _ _
      rw [h2]; exact wpAny_pure hq
  have c1 : ∀ Q' : Value → Shared → Prop, Q' .notImplemented s → wpAny (model prog w) A (call (.builtin "object.__eq__") [.ref x, .int n t]) Q' E s := fun Q' hq =>
    wpAny_call (codeAny_call_builtin F.cmp_object.eq.plain F.cmpEntry_eq (chk _ _ _ (obj_eq_int hq)))
  have t1 : ∀ Q' : Option Value → Shared → Prop, Q' none s → wpAny (model prog w) A (tryCompare (.ref x) (Str.ofString "__eq__") (.int n t)) Q' E s := fun Q' hq => by
    unfold tryCompare
    refine wpAny_bind ?_
    simp only [callSpecialIfBound?, bindSpecialIfBound?]
    refine wpAny_holding (wpAny_bind (wpAny_bind (wpAny_bind (I.type.here ((looks_findIn X hs).here ?_)))))
    simp only [F.cmp_object.eq.bind]
    refine wpAny_bind (wpAny_askSetting (wpAny_ite ?_))
    split
    · exact wpAny_bind (wpAny_pure (wpAny_pure (by
      show wpAny _ _ (call _ ([Value.ref x] ++ [Value.int n t]) >>= _) _ _ _
      refine wpAny_bind (wpAny_mono (c1 (fun v s' => v = .notImplemented ∧ s' = s) ⟨rfl, rfl⟩) (fun v s' h' => ?_) fun _ _ h' => h')
      obtain ⟨rfl, rfl⟩ := h'
      exact wpAny_pure (wpAny_pure hq))))
    · exact wpAny_tryCatch (wpAny_bind (wpAny_pure (wpAny_pure (by
      show wpAny _ _ (call _ ([Value.ref x] ++ [Value.int n t]) >>= _) _ _ _
      refine wpAny_bind (wpAny_mono (c1 (fun v s' => v = .notImplemented ∧ s' = s) ⟨rfl, rfl⟩) (fun v s' h' => ?_) fun _ _ h' => h')
      obtain ⟨rfl, rfl⟩ := h'
      exact wpAny_pure (wpAny_pure hq)))))
  have c2 : ∀ Q' : Value → Shared → Prop, Q' .notImplemented s → wpAny (model prog w) A (call (.builtin "int.__eq__") [.int n t, .ref x]) Q' E s := fun Q' hq =>
    call_meets F.slot_int_eq_refl (typeIs_int s n t) F.entry_int_eq (F.args_int_eq_2 _ _) (int_eq_inst n t x (.ref C) (some d) #[]) ⟨ho, hq⟩
  unfold richCompare
  simp only [oneThing_ref]
  refine wpAny_holding (wpAny_bind (wpAny_cRoomFor hu ?_))
  refine wpAny_bind (I.type.here (wpAny_bind (wpAny_typeOf (typeIs_int s n t) ?_)))
  split
  · refine wpAny_bind ((looks_subIn X hn).here ?_)
    simp only [Bool.false_eq_true, if_false]
    refine wpAny_bind (t1 _ ?_)
    simp only [Bool.not_false, if_true]
    refine wpAny_bind (wpAny_tryCompare_declines (typeIs_int s n t) F.slot_int_eq_refl (c2 _ ⟨rfl, ?_⟩))
    exact wpAny_bind (wpAny_rule (wpAny_bind (wpAny_of_eq (rfl : isSame (.ref x) (.int n t) = pure false) (wpAny_pure h))))
  · rename_i q
    exact absurd rfl q
end

end
section
set_option maxRecDepth 100000
set_option linter.unusedVariables false
open PySem PySem.W PySem.Calls PyProof.Rows PySem.SeqAt
inductive Gv
  | none
  | int (i : Int)
  | tru
  | inst
  | lst
def GvIs (T : List (Addr × Obj)) (v : Value) : Gv → Prop
  | .none => v = .none
  | .int i => ∃ t, v = .int i t
  | .tru => v = .bool true
  | .inst => ∃ a d od, v = .ref a ∧ (a, instObj 171 d) ∈ T ∧ (d, od) ∈ T
  | .lst => ∃ a its c, v = .ref a ∧ (a, listOf its c) ∈ T
def eqG : Gv → Int → Bool
  | .int i, n => i == n
  | .tru, n => (1 : Int) == n
  | _, _ => false
theorem cmp_gv {w : World} {A : Around} {s : Shared} {E : Value → Shared → Prop} {Q : Value → Shared → Prop} {T : List (Addr × Obj)} {v : Value} {g : Gv} {n : Int} {t : Tok} (hg : GvIs T v g) (hu : A.units < cLine) (X : (pre.heap_1 w.params).In s.heap)
    (hT : ∀ p ∈ T, s.heap.get? p.1 = some p.2) (h : Q (.bool (eqG g n)) s) : wpAny (model PySem.Challenge.rw_nn0135_01.row.prog w) A (compareOp .Eq v (.int n t)) Q E s := by
  refine cmp_ofEq ?_
  revert X
  k_fill
  intro X
  cases g with
  | none => obtain rfl := hg; exact RcAt.none_int n t _ w E Q h
  | int i => obtain ⟨t', rfl⟩ := hg; exact RcAt.int_int i t' n t _ w E Q h
  | tru => obtain rfl := hg; exact RcAt.bool_int true n t _ w E Q h
  | inst =>
    obtain ⟨a, d, od, rfl, h1, h2⟩ := hg
    exact inst_eq_int (K := pre.heap_1 w.params) (od := some od) hu X ⟨hT _ h1, rfl, rfl, hT _ h2⟩ (hT _ h1) (by k_is) (by k_is) (by k_is) h
  | lst => obtain ⟨a, its, c, rfl, h1⟩ := hg; exact RcAt.list_int n t ⟨_, hT _ h1, rfl, c, rfl⟩ hu _ w E Q h
theorem gv_cases {T : List (Addr × Obj)} {v : Value} : ∀ {g : Gv}, GvIs T v g → v = .none ∨ (∃ i t, v = .int i t) ∨ v = .bool true ∨ (∃ a d od, v = .ref a ∧ (a, instObj 171 d) ∈ T ∧ (d, od) ∈ T) ∨ (∃ a its c, v = .ref a ∧ (a, listOf its c) ∈ T)
  | .none, h => .inl h
  | .int i, ⟨t, h⟩ => .inr (.inl ⟨i, t, h⟩)
  | .tru, h => .inr (.inr (.inl h))
  | .inst, h => .inr (.inr (.inr (.inl h)))
  | .lst, h => .inr (.inr (.inr (.inr h)))
theorem unr_end {h₀ : Heap} {L I : Addr} {it : Obj} {rest : (Str → Option Value) → List (Addr × Obj) → Prop} {s₁ : Shared} {h' : Heap} {tk : Nat} {m' : Str → Option Value} {all news' : List (Addr × Obj)} (F : Fr h₀ L h' m') (N : News h₀ L h' all) (rm : Rm I I I all news') (hI : (I, it) ∈ all) (off : ∀ p ∈ news', p.1 ≠ I) (r : rest m' news') : UnrEnd h₀ L s₁ I it rest { s₁ with heap := h', toks := tk } :=
  UnrEnd.intro F N news' (fun p hp => by
    rcases List.mem_cons.mp hp with rfl | hp
    · exact hI
    · exact rm.sub p hp) off r

end
section
set_option maxRecDepth 100000
set_option maxHeartbeats 1500000
set_option linter.unusedVariables false
theorem words_Get_0 : True := by
  k_with_none
  trivial
open PySem PySem.W PySem.Calls PyProof.Rows
theorem words_Get_1 : True := by
  k_with "k_room" => ((try simp only [depth_under_make, depth_under_kw, depth_in1, depth_deeper, depth_mark]); (try dsimp only); (show (_ : Nat) < 1000); first | (refine Nat.lt_of_le_of_lt (by with_reducible assumption) ?_; decide) | (refine Nat.lt_of_le_of_lt (Nat.add_le_add_right (by with_reducible assumption) 1) ?_; decide) | (refine Nat.lt_of_le_of_lt (Nat.add_le_add_right (Nat.add_le_add_right (by with_reducible assumption) 1) 1) ?_; decide) | omega)
  k_with "TruePost" => (exact ⟨rfl, _, rfl⟩)
  k_with "exec If" => ((with_reducible show wpAny _ _ (exec (Stmt.If _ _ [] _) _) _ _ _); k_dflt ((refine if_no ?hT ?_); (case hT => (k_steps; done)); intro _))
  k_with "LeaveC" => ((refine' leaveC_ ?k1 ?k2 ?_; (case k1 => k_asm); (case k2 => k_asm); intro _))
  k_with "my num" => ((try simp only [Around.deeper_units, depth_deeper, depth_under_make, depth_under_kw, depth_in1, depth_mark]); (try dsimp only); first | (refine Nat.le_trans (by with_reducible assumption) ?_; decide) | (refine Nat.le_trans (Nat.add_le_add_right (by with_reducible assumption) 1) ?_; decide) | (refine Nat.le_trans (Nat.add_le_add_right (Nat.add_le_add_right (by with_reducible assumption) 1) 1) ?_; decide) | omega)
  k_with "k_in" => (first | with_reducible assumption | ((refine' Frag.In.keeps ?kiX (Fr.keep ?kiF)); (case kiF => with_reducible assumption); (case kiX => with_reducible assumption)))
  k_with "my mem" => (first | exact List.forall_mem_nil _ | (refine' List.forall_mem_cons.mpr ⟨?ma, ?mb⟩; (case ma => k_mem); (case mb => walk_at "my mem")) | walk_at "my sub")
  k_with "my tail" => (first | with_reducible assumption | (refine List.mem_cons_of_mem _ ?_; walk_at "my tail") | (refine List.mem_append_right _ ?_; walk_at "my tail") | (refine List.mem_append_left _ ?_; walk_at "my tail"))
  k_with "my sub" => ((intro _ _; walk_at "my tail"))
  k_with "my tl" => (first | (refine' TlF.cons ?tlx; (case tlx => walk_at "my tl")) | exact TlF.here)
  k_with "my rm" => (first | (with_reducible refine' Rm.dI ?rmx; (case rmx => walk_at "my rm")) | (with_reducible refine' Rm.dC ?rmx; (case rmx => walk_at "my rm")) | (with_reducible refine' Rm.dD ?rmx; (case rmx => walk_at "my rm")) | (refine' Rm.keep ?rmx; (case rmx => walk_at "my rm")) | exact Rm.nil)
  k_with "my off" => (first | exact True.intro | (refine And.intro ⟨by k_ne, by k_ne, by k_ne⟩ ?_; walk_at "my off") | (refine off3_app (offT_3 (by with_reducible assumption) (by k_mem) (by k_mem) (by k_mem)) ?_; walk_at "my off") | exact LCg.Off3.of (fun p hp => LCg.Off3.mem (by with_reducible assumption) p (by walk_at "my tail")) | fail "my off")
  k_with "k_mem" => (first | with_reducible_and_instances assumption | (refine List.mem_append_right _ ?_; k_mem) | (refine List.mem_append_left _ ?_; k_mem) | fail "k_mem")
  k_with "k_all" => (first | kst_allNe | exact OffT.ne (by with_reducible assumption) (by k_mem) | fail "k_all")
  k_with "k_ne" => (first | with_reducible assumption | (refine neN ?_; (try dsimp only); omega))
  k_with "getMethod ref" => (((with_reducible show wpAny _ _ (getMethod (Value.ref _) (Str.ofString "get") _) _ _ _); k_dflt (first | refine kdg_method (knd := PySem.strKind _ _) (by k_asm) (by k_mem) (by with_reducible assumption) ?_ | refine kdg_method (knd := PySem.intKind _ _) (by k_asm) (by k_mem) (by with_reducible assumption) ?_)))
  k_with "call builtin:dict.get" => ((k_here; k_dflt (first | refine kdg_get1 (knd := PySem.strKind _ _) (by k_asm) (by k_mem) (by with_reducible assumption) (by with_reducible assumption) (strKind_is _ _ _ _) (some _) (by rfl) ?_ | refine kdg_get1 (knd := PySem.strKind _ _) (by k_asm) (by k_mem) (by with_reducible assumption) (by with_reducible assumption) (strKind_is _ _ _ _) none (by rfl) ?_ | refine kdg_get2 (knd := PySem.intKind _ _) (by k_asm) (by k_mem) (by with_reducible assumption) (by with_reducible assumption) (intKind_is _ _ _ _) _ (by with_reducible assumption) ?_); (try dsimp only [Option.getD])))
  k_with "pyIter ref" => (((with_reducible show wpAny _ _ (pyIter (Value.ref _)) (fun it s₂ => LoopAtV _ _ _ _ _ _ _ _ _ it s₂) _ _); (rename IsRange _ _ _ _ _ _ _ _ => rgX); (rename Fr _ _ _ _ => F9); (rename News _ _ _ _ => N9); (with_unfolding_all refine iter_rangeUnr (by rfl) rgX (by decide) (by rfl) F9 N9 ?_); intro _ hI; (try k_lt hI)))
  k_with "UnrEnd" => ((refine unr_end (by k_asm) (by k_asm) (by walk_at "my rm") (by k_mem) (by k_all) ?_))
  k_with "call builtin:isinstance" => (((fail_if_success (with_reducible show wpAny _ _ (call _ [Value.ref _, _]) _ _ _)); (rename GvIs _ _ _ => hg8); have hn8 := gv_cases hg8; (rcases hn8 with e8 | ⟨i8, t8, e8⟩ | e8 | ⟨a8, d8, od8, e8, m8, m7⟩ | ⟨a8, its8, c8, e8, m8⟩) <;> (subst e8)))
  trivial
theorem get_1 {w : World} {A : Around} {s : Shared} {base : Heap} {outer : List Env} {p : Program} {loose : List Str} {mean : ExcName → Option Value} {mg mb : Str → Option Value}
    {R : Result → Shared → Prop} {T : List (Addr × Obj)} {sh dsh tab tr hd' : Addr} {ot : Obj} {j1 j2 tl : Tok} {kvs : List (Int × Value)} {es : Array DictEntry} {ep : Nat} {v1 : Value}
    (S : Site A base outer p loose mean mg mb (pre.heap_1 w.params) s.heap) (hA : A.depth ≤ 520) (hu : A.units ≤ 120) (hH : A.handled = none)
    (hT : ∀ q ∈ ((sh, instObj 351 dsh) :: (dsh, shD w tab tr j1 j2) :: (tab, ot) :: T), s.heap.get? q.1 = some q.2 ∧ OwnAt base outer q.1) (hD : Obj.IsDictOf (PySem.intKind PySem.Challenge.rw_nn0135_01.row.prog w) ot kvs) (lo : (tab == sysModules) = false) (h1 : (hd', ({ cls := .type "dict", data := .dict es ep } : Obj)) ∈ T) (loh : (hd' == sysModules) = false) (hH1 : Obj.IsDictOf (PySem.strKind PySem.Challenge.rw_nn0135_01.row.prog w) ({ cls := .type "dict", data := .dict es ep } : Obj) [(Str.ofString "K", v1)])
    (hR : ∀ h' tk', ExtBy [] s.heap h' → R (.ok (.ret .none)) {s with heap := h', toks := tk'}) :
    codeAny (model PySem.Challenge.rw_nn0135_01.row.prog w) A (.call (.ref 294) ⟨[.ref sh, .ref hd', .str (Str.ofString "Length") tl], []⟩) R s := by
  have XB := S.X
  have TB := S.T
  obtain ⟨hdl, dp, fr, gs, us⟩ := A
  have hfr := S.B.stack
  dsimp only at hfr hA hu hH
  subst hfr hH
  revert S
  k_fill
  intro S
  have hn9 : ∀ q ∈ ((sh, instObj 351 dsh) :: (dsh, shD w tab tr j1 j2) :: (tab, ot) :: T), s.heap.get? q.1 = some q.2 ∧ OwnAt base outer q.1 := by
    exact hT
  refine' enter2 (binds := [(Str.ofString "self", .ref sh), (Str.ofString "head", .ref hd'), (Str.ofString "key", .str (Str.ofString "Length") tl)]) ((sh, instObj 351 dsh) :: (dsh, shD w tab tr j1 j2) :: (tab, ot) :: T) S ?hn ?k6 ?k7 ?k8 ?k9 ?kB ?_ ?c2 ?c3 ?c4 ?c5
  case hn => exact hn9
  case k6 => k_is
  case k7 => k_is
  case k8 => k_room
  case k9 => exact BindsTo.of_eq rfl
  case c5 => decide
  case kB => exact locs rfl
  case c2 => exact rfl
  case c3 => exact rfl
  case c4 => exact rfl
  clear S
  intro g' L' h' F' N' B' X' T' l1 hg9
  (try simp only [AllLt, and_true] at l1)
  (try dsimp only)
  (show wpAny _ _ _ _ _ _)
  k_fold
  k_steps
  all_goals (rename ExtBy _ _ _ => hx9; rename News _ _ _ _ => N9; exact hR _ _ (ext_same hx9 rfl (fun q hq => (hn9 q hq).1) N9 (by walk_at "my mem")))
theorem get_2 {w : World} {A : Around} {s : Shared} {base : Heap} {outer : List Env} {p : Program} {loose : List Str} {mean : ExcName → Option Value} {mg mb : Str → Option Value}
    {R : Result → Shared → Prop} {T : List (Addr × Obj)} {sh dsh tab tr hd' : Addr} {ot : Obj} {j1 j2 tl : Tok} {kvs : List (Int × Value)} {es : Array DictEntry} {ep : Nat} {v1 v2 : Value} {g : Gv}
    (S : Site A base outer p loose mean mg mb (pre.heap_1 w.params) s.heap) (hA : A.depth ≤ 520) (hu : A.units ≤ 120) (hH : A.handled = none)
    (hT : ∀ q ∈ ((sh, instObj 351 dsh) :: (dsh, shD w tab tr j1 j2) :: (tab, ot) :: T), s.heap.get? q.1 = some q.2 ∧ OwnAt base outer q.1) (hD : Obj.IsDictOf (PySem.intKind PySem.Challenge.rw_nn0135_01.row.prog w) ot kvs) (lo : (tab == sysModules) = false) (h1 : (hd', ({ cls := .type "dict", data := .dict es ep } : Obj)) ∈ T) (loh : (hd' == sysModules) = false) (hH1 : Obj.IsDictOf (PySem.strKind PySem.Challenge.rw_nn0135_01.row.prog w) ({ cls := .type "dict", data := .dict es ep } : Obj) [(Str.ofString "K", v1), (Str.ofString "Length", v2)]) (hg : GvIs T v2 g)
    (hR : ∀ h' tk', ExtBy [] s.heap h' → R (.ok (.ret v2)) {s with heap := h', toks := tk'}) :
    codeAny (model PySem.Challenge.rw_nn0135_01.row.prog w) A (.call (.ref 294) ⟨[.ref sh, .ref hd', .str (Str.ofString "Length") tl], []⟩) R s := by
  have XB := S.X
  have TB := S.T
  obtain ⟨hdl, dp, fr, gs, us⟩ := A
  have hfr := S.B.stack
  dsimp only at hfr hA hu hH
  subst hfr hH
  revert S
  k_fill
  intro S
  have hn9 : ∀ q ∈ ((sh, instObj 351 dsh) :: (dsh, shD w tab tr j1 j2) :: (tab, ot) :: T), s.heap.get? q.1 = some q.2 ∧ OwnAt base outer q.1 := by
    exact hT
  refine' enter2 (binds := [(Str.ofString "self", .ref sh), (Str.ofString "head", .ref hd'), (Str.ofString "key", .str (Str.ofString "Length") tl)]) ((sh, instObj 351 dsh) :: (dsh, shD w tab tr j1 j2) :: (tab, ot) :: T) S ?hn ?k6 ?k7 ?k8 ?k9 ?kB ?_ ?c2 ?c3 ?c4 ?c5
  case hn => exact hn9
  case k6 => k_is
  case k7 => k_is
  case k8 => k_room
  case k9 => exact BindsTo.of_eq rfl
  case c5 => decide
  case kB => exact locs rfl
  case c2 => exact rfl
  case c3 => exact rfl
  case c4 => exact rfl
  clear S
  intro g' L' h' F' N' B' X' T' l1 hg9
  (try simp only [AllLt, and_true] at l1)
  (try dsimp only)
  (show wpAny _ _ _ _ _ _)
  k_fold
  k_steps
  all_goals (rename ExtBy _ _ _ => hx9; rename News _ _ _ _ => N9; exact hR _ _ (ext_same hx9 rfl (fun q hq => (hn9 q hq).1) N9 (by walk_at "my mem")))
theorem get_3 {w : World} {A : Around} {s : Shared} {base : Heap} {outer : List Env} {p : Program} {loose : List Str} {mean : ExcName → Option Value} {mg mb : Str → Option Value}
    {R : Result → Shared → Prop} {T : List (Addr × Obj)} {sh dsh tab tr hd' : Addr} {ot : Obj} {j1 j2 tl : Tok} {kvs : List (Int × Value)} {es : Array DictEntry} {ep : Nat} {v1 v' : Value} {g : Gv} {ra rd t : Addr} {n : Int} {c : Nat} {tg i1 i2 i3 i4 : Tok}
    (S : Site A base outer p loose mean mg mb (pre.heap_1 w.params) s.heap) (hA : A.depth ≤ 520) (hu : A.units ≤ 120) (hH : A.handled = none)
    (hT : ∀ q ∈ ((sh, instObj 351 dsh) :: (dsh, shD w tab tr j1 j2) :: (tab, ot) :: T), s.heap.get? q.1 = some q.2 ∧ OwnAt base outer q.1) (hD : Obj.IsDictOf (PySem.intKind PySem.Challenge.rw_nn0135_01.row.prog w) ot kvs) (lo : (tab == sysModules) = false) (h1 : (hd', ({ cls := .type "dict", data := .dict es ep } : Obj)) ∈ T) (loh : (hd' == sysModules) = false) (hH1 : Obj.IsDictOf (PySem.strKind PySem.Challenge.rw_nn0135_01.row.prog w) ({ cls := .type "dict", data := .dict es ep } : Obj) [(Str.ofString "K", v1), (Str.ofString "Length", .ref ra)]) (h2 : (ra, instObj 242 rd) ∈ T) (h3 : (rd, refD w n 0 i1 i2 i3 i4) ∈ T) (hva : valueAt kvs n = some (.ref t)) (h4 : (t, tupObj [.int 0 tg, v'] c) ∈ T) (hg : GvIs T v' g)
    (hR : ∀ h' tk', ExtBy [] s.heap h' → R (.ok (.ret v')) {s with heap := h', toks := tk'}) :
    codeAny (model PySem.Challenge.rw_nn0135_01.row.prog w) A (.call (.ref 294) ⟨[.ref sh, .ref hd', .str (Str.ofString "Length") tl], []⟩) R s := by
  have XB := S.X
  have TB := S.T
  obtain ⟨hdl, dp, fr, gs, us⟩ := A
  have hfr := S.B.stack
  dsimp only at hfr hA hu hH
  subst hfr hH
  revert S
  k_fill
  intro S
  have hn9 : ∀ q ∈ ((sh, instObj 351 dsh) :: (dsh, shD w tab tr j1 j2) :: (tab, ot) :: T), s.heap.get? q.1 = some q.2 ∧ OwnAt base outer q.1 := by
    exact hT
  refine' enter2 (binds := [(Str.ofString "self", .ref sh), (Str.ofString "head", .ref hd'), (Str.ofString "key", .str (Str.ofString "Length") tl)]) ((sh, instObj 351 dsh) :: (dsh, shD w tab tr j1 j2) :: (tab, ot) :: T) S ?hn ?k6 ?k7 ?k8 ?k9 ?kB ?_ ?c2 ?c3 ?c4 ?c5
  case hn => exact hn9
  case k6 => k_is
  case k7 => k_is
  case k8 => k_room
  case k9 => exact BindsTo.of_eq rfl
  case c5 => decide
  case kB => exact locs rfl
  case c2 => exact rfl
  case c3 => exact rfl
  case c4 => exact rfl
  clear S
  intro g' L' h' F' N' B' X' T' l1 hg9
  (try simp only [AllLt, and_true] at l1)
  (try dsimp only)
  (show wpAny _ _ _ _ _ _)
  k_fold
  k_steps
  all_goals (rename ExtBy _ _ _ => hx9; rename News _ _ _ _ => N9; exact hR _ _ (ext_same hx9 rfl (fun q hq => (hn9 q hq).1) N9 (by walk_at "my mem")))
theorem get_4 {w : World} {A : Around} {s : Shared} {base : Heap} {outer : List Env} {p : Program} {loose : List Str} {mean : ExcName → Option Value} {mg mb : Str → Option Value}
    {R : Result → Shared → Prop} {T : List (Addr × Obj)} {sh dsh tab tr hd' : Addr} {ot : Obj} {j1 j2 tl : Tok} {kvs : List (Int × Value)} {es : Array DictEntry} {ep : Nat} {v1 : Value} {ra rd : Addr} {n : Int} {i1 i2 i3 i4 : Tok}
    (S : Site A base outer p loose mean mg mb (pre.heap_1 w.params) s.heap) (hA : A.depth ≤ 520) (hu : A.units ≤ 120) (hH : A.handled = none)
    (hT : ∀ q ∈ ((sh, instObj 351 dsh) :: (dsh, shD w tab tr j1 j2) :: (tab, ot) :: T), s.heap.get? q.1 = some q.2 ∧ OwnAt base outer q.1) (hD : Obj.IsDictOf (PySem.intKind PySem.Challenge.rw_nn0135_01.row.prog w) ot kvs) (lo : (tab == sysModules) = false) (h1 : (hd', ({ cls := .type "dict", data := .dict es ep } : Obj)) ∈ T) (loh : (hd' == sysModules) = false) (hH1 : Obj.IsDictOf (PySem.strKind PySem.Challenge.rw_nn0135_01.row.prog w) ({ cls := .type "dict", data := .dict es ep } : Obj) [(Str.ofString "K", v1), (Str.ofString "Length", .ref ra)]) (h2 : (ra, instObj 242 rd) ∈ T) (h3 : (rd, refD w n 0 i1 i2 i3 i4) ∈ T) (hva : valueAt kvs n = none)
    (hR : ∀ h' tk', ExtBy [] s.heap h' → R (.ok (.ret .none)) {s with heap := h', toks := tk'}) :
    codeAny (model PySem.Challenge.rw_nn0135_01.row.prog w) A (.call (.ref 294) ⟨[.ref sh, .ref hd', .str (Str.ofString "Length") tl], []⟩) R s := by
  have XB := S.X
  have TB := S.T
  obtain ⟨hdl, dp, fr, gs, us⟩ := A
  have hfr := S.B.stack
  dsimp only at hfr hA hu hH
  subst hfr hH
  revert S
  k_fill
  intro S
  have hn9 : ∀ q ∈ ((sh, instObj 351 dsh) :: (dsh, shD w tab tr j1 j2) :: (tab, ot) :: T), s.heap.get? q.1 = some q.2 ∧ OwnAt base outer q.1 := by
    exact hT
  refine' enter2 (binds := [(Str.ofString "self", .ref sh), (Str.ofString "head", .ref hd'), (Str.ofString "key", .str (Str.ofString "Length") tl)]) ((sh, instObj 351 dsh) :: (dsh, shD w tab tr j1 j2) :: (tab, ot) :: T) S ?hn ?k6 ?k7 ?k8 ?k9 ?kB ?_ ?c2 ?c3 ?c4 ?c5
  case hn => exact hn9
  case k6 => k_is
  case k7 => k_is
  case k8 => k_room
  case k9 => exact BindsTo.of_eq rfl
  case c5 => decide
  case kB => exact locs rfl
  case c2 => exact rfl
  case c3 => exact rfl
  case c4 => exact rfl
  clear S
  intro g' L' h' F' N' B' X' T' l1 hg9
  (try simp only [AllLt, and_true] at l1)
  (try dsimp only)
  (show wpAny _ _ _ _ _ _)
  k_fold
  k_steps
  all_goals (rename ExtBy _ _ _ => hx9; rename News _ _ _ _ => N9; exact hR _ _ (ext_same hx9 rfl (fun q hq => (hn9 q hq).1) N9 (by walk_at "my mem")))

def RefOK (Es : List (Int × Int × Vd)) : Option Lv → Prop
  | some (.ref n g) => g = 0 ∧ (esAt Es n = some (0, .two) ∨ esAt Es n = some (0, .ltwo) ∨ n ∉ Es.map (·.1))
  | _ => True
def gvOf (Es : List (Int × Int × Vd)) : Option Lv → Gv
  | none => .none
  | some (.int i) => .int i
  | some .tru => .tru
  | some (.name _) => .inst
  | some (.ref n _) => match esAt Es n with
    | some (_, .two) => .int 2
    | some (_, .ltwo) => .lst
    | _ => .none
theorem esAt_mem {Es : List (Int × Int × Vd)} {n : Int} {p : Int × Vd} (h : esAt Es n = some p) : n ∈ Es.map (·.1) := by
  unfold esAt at h
  cases q : Es.find? (fun e => e.1 = n) with
  | none => rw [q] at h; cases h
  | some e =>
    have h1 := List.find?_some q
    have h2 := List.mem_of_find?_eq_some q
    simp at h1
    exact List.mem_map.mpr ⟨e, h2, h1⟩
theorem esAt_none {Es : List (Int × Int × Vd)} {n : Int} (h : n ∉ Es.map (·.1)) : esAt Es n = none := by
  cases q : esAt Es n with
  | none => rfl
  | some p => exact absurd (esAt_mem q) h
theorem get_ok {w : World} {A : Around} {s : Shared} {base : Heap} {outer : List Env} {p : Program} {loose : List Str} {mean : ExcName → Option Value} {mg mb : Str → Option Value}
    {R : Result → Shared → Prop} {T : List (Addr × Obj)} {sh dsh tab tr hd' : Addr} {ot : Obj} {j1 j2 tl : Tok} {kvs : List (Int × Value)} {Es : List (Int × Int × Vd)} {way : Int} {l : Option Lv}
    (S : Site A base outer p loose mean mg mb (pre.heap_1 w.params) s.heap) (hA : A.depth ≤ 520) (hu : A.units ≤ 120) (hH : A.handled = none)
    (hT : ∀ q ∈ ((sh, instObj 351 dsh) :: (dsh, shD w tab tr j1 j2) :: (tab, ot) :: T), s.heap.get? q.1 = some q.2 ∧ OwnAt base outer q.1) (hD : Obj.IsDictOf (PySem.intKind PySem.Challenge.rw_nn0135_01.row.prog w) ot kvs) (lo : (tab == sysModules) = false)
    (hE : EntsIs w T kvs Es) (hh : HdIs w T hd' way l) (hr : RefOK Es l)
    (hR : ∀ v h' tk', ExtBy [] s.heap h' → GvIs T v (gvOf Es l) → R (.ok (.ret v)) {s with heap := h', toks := tk'}) :
    codeAny (model PySem.Challenge.rw_nn0135_01.row.prog w) A (.call (.ref 294) ⟨[.ref sh, .ref hd', .str (Str.ofString "Length") tl], []⟩) R s := by
  cases l with
  | none =>
    obtain ⟨es, ep, v1, h1, loh, hl, d⟩ := hh
    exact get_1 S hA hu hH hT hD lo h1 loh d fun h' tk' x => hR _ h' tk' x rfl
  | some l =>
    obtain ⟨es, ep, v1, h1, loh, hl, v2, hl2, d⟩ := hh
    cases l with
    | int i => obtain ⟨t, rfl⟩ := hl2; exact get_2 (g := .int i) S hA hu hH hT hD lo h1 loh d ⟨t, rfl⟩ fun h' tk' x => hR _ h' tk' x ⟨t, rfl⟩
    | tru => obtain rfl := hl2; exact get_2 (g := .tru) S hA hu hH hT hD lo h1 loh d rfl fun h' tk' x => hR _ h' tk' x rfl
    | name x => obtain ⟨a, d9, j, t, rfl, lt, m1, m2⟩ := hl2; exact get_2 (g := .inst) S hA hu hH hT hD lo h1 loh d ⟨a, d9, _, rfl, m1, m2⟩ fun h' tk' x => hR _ h' tk' x ⟨a, d9, _, rfl, m1, m2⟩
    | ref n g =>
      obtain ⟨a, d9, i1, i2, t1, t2, rfl, lt, m1, m2⟩ := hl2
      obtain ⟨rfl, hc⟩ := hr
      rcases hc with hc | hc | hc
      · obtain ⟨t, g, tg, v, c, V, q1, q2, q3, q4⟩ := hE.at (esAt_mem hc)
        rw [hc] at q2; cases q2
        obtain ⟨tv, rfl⟩ := q4
        exact get_3 (g := .int 2) S hA hu hH hT hD lo h1 loh d m1 m2 q1 q3 ⟨tv, rfl⟩ fun h' tk' x => hR _ h' tk' x (by simp only [gvOf, hc]; exact ⟨tv, rfl⟩)
      · obtain ⟨t, g, tg, v, c, V, q1, q2, q3, q4⟩ := hE.at (esAt_mem hc)
        rw [hc] at q2; cases q2
        obtain ⟨a9, t9, c9, rfl, m9⟩ := q4
        exact get_3 (g := .lst) S hA hu hH hT hD lo h1 loh d m1 m2 q1 q3 ⟨a9, _, c9, rfl, m9⟩ fun h' tk' x => hR _ h' tk' x (by simp only [gvOf, hc]; exact ⟨a9, _, c9, rfl, m9⟩)
      · exact get_4 S hA hu hH hT hD lo h1 loh d m1 m2 (hE.off hc) fun h' tk' x => hR _ h' tk' x (by simp only [gvOf, esAt_none hc]; exact rfl)
theorem get_K {w : World} {A₀ A : Around} {s : Shared} {base h₀ : Heap} {outer : List Env} {p : Program} {loose : List Str} {mean : ExcName → Option Value} {mg mb : Str → Option Value}
    {L : Addr} {m : Str → Option Value} {env : Env} {news T : List (Addr × Obj)} {Q : Value → Shared → Prop} {E : Value → Shared → Prop} {sh dsh tab tr hd' : Addr} {ot : Obj} {j1 j2 tl : Tok} {kvs : List (Int × Value)} {Es : List (Int × Int × Vd)} {way : Int} {l : Option Lv}
    (B : Below A₀ base outer h₀) (X : (pre.heap_1 w.params).In base) (T₀ : Top p loose mean mg mb base) (F : Fr h₀ L s.heap m) (N : News h₀ L s.heap news) (hF : A.frames = some (env :: outer)) (hf : env.frame = some L) (hke : env.scope.kind = .function)
    (hh : HdIs w T hd' way l) (hD : Obj.IsDictOf (PySem.intKind PySem.Challenge.rw_nn0135_01.row.prog w) ot kvs) (lo : (tab == sysModules) = false) (hE : EntsIs w T kvs Es) (hr : RefOK Es l)
    (hs : ∀ p ∈ ((sh, instObj 351 dsh) :: (dsh, shD w tab tr j1 j2) :: (tab, ot) :: T), p ∈ news) (hA : A.depth ≤ 520) (hu : A.units ≤ 120) (hH : A.handled = none)
    (h : ∀ v h' tk', Fr h₀ L h' m → News h₀ L h' news → GvIs T v (gvOf Es l) → Q v {s with heap := h', toks := tk'}) :
    wpAny (model PySem.Challenge.rw_nn0135_01.row.prog w) A (call (.ref 294) [.ref sh, .ref hd', .str (Str.ofString "Length") tl]) Q E s :=
  wpAny_call (get_ok ⟨below_g B F hF hf hke, X, T₀⟩ hA hu hH (fun q hq => ⟨(N q (hs q hq)).1, own_g B N hf q (hs q hq)⟩) hD lo hE hh hr fun v h' tk' x hg => h v h' tk' (fr_after F x (fun q => nomatch q) (fun _ q => nomatch q)) (news_after N x (fun _ _ q => nomatch q)) hg)

end
section
set_option maxRecDepth 100000
set_option linter.unusedVariables false
open PySem PySem.W PySem.Calls PyProof.Rows PySem.SeqAt
theorem dict_form {prog : Program} {w : World} {K : Type} [DecidableEq K] {knd : KeyKind prog w K} {o : Obj} {kvs : List (K × Value)} (h : o.IsDictOf knd kvs) : ∃ es ep, o = ({ cls := .type "dict", data := .dict es ep } : Obj) := by
  obtain ⟨es, ep, ⟨h1, h2, h3⟩, h4, _⟩ := h
  obtain ⟨c, d, dt, sl⟩ := o
  simp only at h1 h2 h3 h4
  subst h1 h2 h3 h4
  exact ⟨es, ep, rfl⟩
theorem dict_copy_K {prog : Program} {w : World} {KK : Type} [DecidableEq KK] {knd : KeyKind prog w KK} {A : Around} {E : Value → Shared → Prop} {s : Shared} {h₀ : Heap} {L src : Addr} {m : Str → Option Value} {news : List (Addr × Obj)} {o : Obj} {kvs : List (KK × Value)} {Q : Value → Shared → Prop}
    (F : Fr h₀ L s.heap m) (N : News h₀ L s.heap news) (hbig : h₀.NoLimit) (hm : (src, o) ∈ news) (hd : o.IsDictOf knd kvs) (lo : (src == sysModules) = false) (hsz : kvs.length ≤ sizeLine)
    (k : ∀ d h' o', Fr h₀ L h' m → News h₀ L h' ((d, o') :: news) → (∀ p ∈ news, p.1 < d) → (d == sysModules) = false → o'.IsDictOf knd kvs → Q (.ref d) { s with heap := h' }) :
    wpAny (model prog w) A (call (.type "dict") [.ref src]) Q E s := by
  refine kt_call_dict lo (Heap.dictOf_iff.mpr ⟨o, (N _ hm).1, hd⟩) hsz fun h' hm hs => ?_
  obtain ⟨o', ho', hd'⟩ := Heap.dictOf_iff.mp hm
  have N1 := News.push F N { cls := .type "dict", data := .dict #[] }
  exact k _ h' o' ((F.push _).change hs (N1 _ (.head _)).2.1 (N1.fresh (.head _))) (N1.setHead N.apart hs ho') (fun p hp => Heap.lt_size (N p hp).1) (F.notModules (modules_low hbig)) hd'
theorem hd_open {w : World} {T : List (Addr × Obj)} {h : Addr} {way : Int} {l : Option Lv} (hh : HdIs w T h way l) : ∃ es ep kvh, (h, ({ cls := .type "dict", data := .dict es ep } : Obj)) ∈ T ∧ (h == sysModules) = false ∧ Obj.IsDictOf (PySem.strKind PySem.Challenge.rw_nn0135_01.row.prog w) ({ cls := .type "dict", data := .dict es ep } : Obj) kvh ∧ kvh.length ≤ 2 ∧
    ∀ (T' : List (Addr × Obj)) (h' : Addr) (o' : Obj) (len : Int) (t : Tok), (∀ p ∈ T, p ∈ T') → (h', o') ∈ T' → (h' == sysModules) = false → o'.IsDictOf (PySem.strKind PySem.Challenge.rw_nn0135_01.row.prog w) (stored kvh (Str.ofString "Length") (.int len t)) → HdIs w T' h' way (some (.int len)) := by
  cases l with
  | none =>
    obtain ⟨es, ep, v1, h1, lo, hl, d⟩ := hh
    refine ⟨es, ep, _, h1, lo, d, by simp, fun T' h' o' len t hs hm lo' hd => ?_⟩
    obtain ⟨es', ep', rfl⟩ := dict_form hd
    exact ⟨es', ep', v1, hm, lo', LvIs.mono hs hl, .int len t, ⟨t, rfl⟩, hd⟩
  | some l =>
    obtain ⟨es, ep, v1, h1, lo, hl, v2, hl2, d⟩ := hh
    refine ⟨es, ep, _, h1, lo, d, by simp, fun T' h' o' len t hs hm lo' hd => ?_⟩
    obtain ⟨es', ep', rfl⟩ := dict_form hd
    exact ⟨es', ep', v1, hm, lo', LvIs.mono hs hl, .int len t, ⟨t, rfl⟩, hd⟩
def mend (Es : List (Int × Int × Vd)) : Vd → Vd
  | .st way l oct => if eqG (gvOf Es l) oct.length then .st way l oct else .st way (some (.int oct.length)) oct
  | V => V
theorem cmp_gvN {w : World} {A : Around} {s : Shared} {E : Value → Shared → Prop} {Q : Value → Shared → Prop} {T news : List (Addr × Obj)} {g' : Heap} {L : Addr} {v : Value} {g : Gv} {n : Int} {t : Tok} (hg : GvIs T v g) (hu : A.units < cLine) (X : (pre.heap_1 w.params).In s.heap)
    (N : News g' L s.heap news) (hs : ∀ p ∈ T, p ∈ news) (h : Q (.bool (eqG g n)) s) : wpAny (model PySem.Challenge.rw_nn0135_01.row.prog w) A (compareOp .Eq v (.int n t)) Q E s :=
  cmp_gv hg hu X (fun p hp => (N p (hs p hp)).1) h
theorem mend_t {Es : List (Int × Int × Vd)} {way : Int} {l : Option Lv} {oct : List UInt8} (h : eqG (gvOf Es l) ((oct.toArray.size : Nat) : Int) = true) : mend Es (.st way l oct) = .st way l oct := by
  rw [List.size_toArray] at h; simp only [mend, h, if_true]
theorem mend_f {Es : List (Int × Int × Vd)} {way : Int} {l : Option Lv} {oct : List UInt8} (h : eqG (gvOf Es l) ((oct.toArray.size : Nat) : Int) = false) : mend Es (.st way l oct) = .st way (some (.int ((oct.toArray.size : Nat) : Int))) oct := by
  rw [List.size_toArray] at h ⊢; simp only [mend, h, Bool.false_eq_true, if_false]
theorem fresh_ok {g s h' : Heap} {L : Addr} {led : List (Addr × Obj)} (N : News g L h' led) : ∀ p ∈ fresh s led, h'.get? p.1 = some p.2 ∧ s.get? p.1 = none := fun p hp => by
  have := List.mem_filter.mp hp
  exact ⟨(N p this.1).1, by simpa using this.2⟩

end
section
set_option maxRecDepth 100000
set_option maxHeartbeats 1500000
set_option linter.unusedVariables false
theorem words_Tlen_0 : True := by
  k_with_none
  trivial
open PySem PySem.W PySem.Calls PyProof.Rows
theorem words_Tlen_1 : True := by
  k_with "k_room" => ((try simp only [depth_under_make, depth_under_kw, depth_in1, depth_deeper, depth_mark]); (try dsimp only); (show (_ : Nat) < 1000); first | (refine Nat.lt_of_le_of_lt (by with_reducible assumption) ?_; decide) | (refine Nat.lt_of_le_of_lt (Nat.add_le_add_right (by with_reducible assumption) 1) ?_; decide) | (refine Nat.lt_of_le_of_lt (Nat.add_le_add_right (Nat.add_le_add_right (by with_reducible assumption) 1) 1) ?_; decide) | omega)
  k_with "TruePost" => (exact ⟨rfl, _, rfl⟩)
  k_with "exec If" => ((with_reducible show wpAny _ _ (exec (Stmt.If _ _ [] _) _) _ _ _); k_dflt ((refine if_no ?hT ?_); (case hT => (k_steps; done)); intro _))
  k_with "LeaveC" => ((refine' leaveC_ ?k1 ?k2 ?_; (case k1 => k_asm); (case k2 => k_asm); intro _))
  k_with "my num" => ((try simp only [Around.deeper_units, depth_deeper, depth_under_make, depth_under_kw, depth_in1, depth_mark]); (try dsimp only); first | (refine Nat.le_trans (by with_reducible assumption) ?_; decide) | (refine Nat.le_trans (Nat.add_le_add_right (by with_reducible assumption) 1) ?_; decide) | (refine Nat.le_trans (Nat.add_le_add_right (Nat.add_le_add_right (by with_reducible assumption) 1) 1) ?_; decide) | omega)
  k_with "k_in" => (first | with_reducible assumption | ((refine' Frag.In.keeps ?kiX (Fr.keep ?kiF)); (case kiF => with_reducible assumption); (case kiX => with_reducible assumption)))
  k_with "my mem" => (first | exact List.forall_mem_nil _ | (refine' List.forall_mem_cons.mpr ⟨?ma, ?mb⟩; (case ma => k_mem); (case mb => walk_at "my mem")) | walk_at "my sub")
  k_with "my tail" => (first | with_reducible assumption | (refine List.mem_cons_of_mem _ ?_; walk_at "my tail") | (refine List.mem_append_right _ ?_; walk_at "my tail") | (refine List.mem_append_left _ ?_; walk_at "my tail"))
  k_with "my sub" => ((intro _ _; walk_at "my tail"))
  k_with "my tl" => (first | (refine' TlF.cons ?tlx; (case tlx => walk_at "my tl")) | exact TlF.here)
  k_with "my rm" => (first | (with_reducible refine' Rm.dI ?rmx; (case rmx => walk_at "my rm")) | (with_reducible refine' Rm.dC ?rmx; (case rmx => walk_at "my rm")) | (with_reducible refine' Rm.dD ?rmx; (case rmx => walk_at "my rm")) | (refine' Rm.keep ?rmx; (case rmx => walk_at "my rm")) | exact Rm.nil)
  k_with "my off" => (first | exact True.intro | (refine And.intro ⟨by k_ne, by k_ne, by k_ne⟩ ?_; walk_at "my off") | (refine off3_app (offT_3 (by with_reducible assumption) (by k_mem) (by k_mem) (by k_mem)) ?_; walk_at "my off") | exact LCg.Off3.of (fun p hp => LCg.Off3.mem (by with_reducible assumption) p (by walk_at "my tail")) | fail "my off")
  k_with "k_mem" => (first | with_reducible_and_instances assumption | (refine List.mem_append_right _ ?_; k_mem) | (refine List.mem_append_left _ ?_; k_mem) | fail "k_mem")
  k_with "k_all" => (first | kst_allNe | exact OffT.ne (by with_reducible assumption) (by k_mem) | fail "k_all")
  k_with "k_all" => (with_reducible assumption)
  k_with "k_ne" => (first | with_reducible assumption | (refine neN ?_; (try dsimp only); omega))
  k_with "my cl" => ((show (_ : Nat) < 9900; (try simp only [Around.deeper_units]); (try dsimp only); omega))
  k_with "call ref" => (((with_reducible show wpAny _ _ (call (Value.ref 294) [_, _, _]) _ _ _); k_dflt (refine' get_K ?kB ?kX ?kT ?kF ?kN ?kfA ?kff ?kfK ?kl ?kD ?klo ?kE ?kr ?ks ?kA ?ku ?kH ?_; (case kF => k_asm); (case kN => k_asm); (case kB => k_asm); (case kX => k_asm); (case kT => k_asm); (case kfA => exact rfl); (case kff => exact rfl); (case kfK => exact rfl); (case kl => with_reducible assumption); (case ks => walk_at "my mem"); (case kD => with_reducible assumption); (case klo => with_reducible assumption); (case kE => with_reducible assumption); (case kr => with_reducible assumption); (case kA => walk_at "my num"); (case ku => walk_at "my num"); (case kH => rfl); k_whole); intro _ _ _ _ _ _; (try k_sweep)))
  k_with "compareOp Eq" => ((k_dflt (refine' cmp_gvN ?kg ?ku ?kX ?kN ?ks ?_; (case kg => with_reducible assumption); (case ku => walk_at "my cl"); (case kX => k_in); (case kN => k_asm); (case ks => walk_at "my sub"); k_whole)))
  k_with "call type:dict" => (((with_reducible show wpAny _ _ (call (Value.type "dict") [Value.ref _]) _ _ _); k_dflt (refine dict_copy_K (knd := PySem.strKind _ _) (by k_asm) (by k_asm) (Top.nolimit (by k_asm)) (by k_mem) (by with_reducible assumption) (by with_reducible assumption) (by rw [sizeLine_eq]; omega) ?_); intro _ _ _ _ _ l1 _ _; (try k_lt l1); (try k_sweep)))
  k_with "setItem ref str" => (((with_reducible show wpAny _ _ (setItem (Value.ref _) (Value.str _ _) _) _ _ _); k_dflt (refine' kda_set (knd := PySem.strKind _ _) ?F ?N ?U ?d (strKind_is _ _ _ _) ?z ?_; (case F => k_asm); (case N => k_asm); (case U => k_updF); (case d => with_reducible assumption); (case z => rw [sizeLine_eq]; omega)); intro _ _ _ N' _; (try dsimp only at N'); (try k_sweep)))
  k_with "call ref" => ((with_reducible show wpAny _ _ (call (Value.ref 214) [Value.ref _, Value.bytes _ _]) _ _ _); k_dflt (refine' new_K (init_stm _ _ _ _) ?kB ?kX ?kT ?kF ?kN ?kfA ?kff ?kfK ?km ?ki ?kfn ?kA ?ku ?kH ?_; (case kF => k_asm); (case kN => k_asm); (case kB => k_asm); (case kX => k_asm); (case kT => k_asm); (case kfA => exact rfl); (case kff => exact rfl); (case kfK => exact rfl); (case km => k_is); (case ki => k_is); (case kfn => k_is); (case kA => walk_at "my num"); (case ku => walk_at "my num"); (case kH => rfl); k_whole); intro _ _ _ _ _ hP' _ _ l1 l2 _; (simp only [AllLt, and_true] at l1); clear l2; (obtain ⟨_, _, e2⟩ := hP'; subst e2); (try k_sweep))
  trivial
theorem tl_st {w : World} {A : Around} {s : Shared} {base : Heap} {outer : List Env} {p : Program} {loose : List Str} {mean : ExcName → Option Value} {mg mb : Str → Option Value}
    {R : Result → Shared → Prop} {T : List (Addr × Obj)} {sh dsh tab tr : Addr} {ot : Obj} {j1 j2 : Tok} {kvs : List (Int × Value)} {Es : List (Int × Int × Vd)} {a d h : Addr} {oct : List UInt8} {i1 i2 t : Tok} {way : Int} {l : Option Lv} {es : Array DictEntry} {ep : Nat} {kvh : List (Str × Value)}
    (S : Site A base outer p loose mean mg mb (pre.heap_1 w.params) s.heap) (hA : A.depth ≤ 510) (hu : A.units ≤ 110) (hH : A.handled = none)
    (hT : ∀ q ∈ ((sh, instObj 351 dsh) :: (dsh, shD w tab tr j1 j2) :: (tab, ot) :: T), s.heap.get? q.1 = some q.2 ∧ OwnAt base outer q.1) (hD : Obj.IsDictOf (PySem.intKind PySem.Challenge.rw_nn0135_01.row.prog w) ot kvs) (lo : (tab == sysModules) = false) (hE : EntsIs w T kvs Es) (h1 : (a, instObj 214 d) ∈ T) (h2 : (d, stmD w h oct i1 i2 t) ∈ T) (hlt : @LT.lt Nat _ d a) (hh : HdIs w T h way l) (hr : RefOK Es l) (ho9 : oct.length ≤ 10)
    (h3 : (h, ({ cls := .type "dict", data := .dict es ep } : Obj)) ∈ T) (loh : (h == sysModules) = false) (hdh : Obj.IsDictOf (PySem.strKind PySem.Challenge.rw_nn0135_01.row.prog w) ({ cls := .type "dict", data := .dict es ep } : Obj) kvh) (hkh : kvh.length ≤ 2)
    (hnew : ∀ (T' : List (Addr × Obj)) (h' : Addr) (o' : Obj) (len : Int) (t : Tok), (∀ p ∈ T, p ∈ T') → (h', o') ∈ T' → (h' == sysModules) = false → o'.IsDictOf (PySem.strKind PySem.Challenge.rw_nn0135_01.row.prog w) (stored kvh (Str.ofString "Length") (.int len t)) → HdIs w T' h' way (some (.int len)))
    (hR : ∀ v (_ : Unit) h' tk', ExtBy [] s.heap h' → (∃ T2 : List (Addr × Obj), (∀ p ∈ T2, h'.get? p.1 = some p.2 ∧ s.heap.get? p.1 = none) ∧ VdIs w (T2 ++ T) v (mend Es (.st way l oct))) → R (.ok (.ret v)) {s with heap := h', toks := tk'}) :
    codeAny (model PySem.Challenge.rw_nn0135_01.row.prog w) A (.call (.ref 490) ⟨[.ref sh, .ref a], []⟩) R s := by
  have XB := S.X
  have TB := S.T
  obtain ⟨hdl, dp, fr, gs, us⟩ := A
  have hfr := S.B.stack
  dsimp only at hfr hA hu hH
  subst hfr hH
  revert S
  k_fill
  intro S
  have hn9 : ∀ q ∈ ((sh, instObj 351 dsh) :: (dsh, shD w tab tr j1 j2) :: (tab, ot) :: T), s.heap.get? q.1 = some q.2 ∧ OwnAt base outer q.1 := by
    exact hT
  refine' enter2 (binds := [(Str.ofString "shelf", .ref sh), (Str.ofString "value", .ref a)]) ((sh, instObj 351 dsh) :: (dsh, shD w tab tr j1 j2) :: (tab, ot) :: T) S ?hn ?k6 ?k7 ?k8 ?k9 ?kB ?_ ?c2 ?c3 ?c4 ?c5
  case hn => exact hn9
  case k6 => k_is
  case k7 => k_is
  case k8 => k_room
  case k9 => exact BindsTo.of_eq rfl
  case c5 => decide
  case kB => exact locs rfl
  case c2 => exact rfl
  case c3 => exact rfl
  case c4 => exact rfl
  clear S
  intro g' L' h' F' N' B' X' T' l1 hg9
  (try simp only [AllLt, and_true] at l1)
  (try dsimp only)
  (show wpAny _ _ _ _ _ _)
  k_fold
  k_steps
  · (rename ExtBy _ _ _ => hx9; rename News _ _ _ _ => N9)
    exact hR _ () _ _ (ext_same hx9 rfl (fun q hq => (hn9 q hq).1) N9 (by walk_at "my mem")) ⟨[], (fun p hp => nomatch hp), (mend_t (way := way) (by with_reducible assumption)).symm ▸ ⟨a, d, h, i1, i2, t, rfl, hlt, h1, h2, hh⟩⟩
  · (rename ExtBy _ _ _ => hx9; rename News _ _ _ _ => N9; rename Obj.IsDictOf _ _ _ => hd8; rename (_ == sysModules) = false => lo8; rename @LT.lt Nat _ _ _ => l28; rename _ ∧ _ => l18)
    have hx5 := fun p hp => Nat.ne_of_lt (Nat.lt_trans (kst_ltOf l18.2.2.2.2 p hp) l28)
    exact hR _ () _ _ (ext_same hx9 rfl (fun q hq => (hn9 q hq).1) N9 (by walk_at "my mem")) ⟨fresh s.heap _, fresh_ok N9, (mend_f (way := way) (by with_reducible assumption)).symm ▸ ⟨_, _, _, _, _, _, rfl, by assumption, List.mem_append_left _ (fmm N9 (by k_mem) hg9 (by k_all)), List.mem_append_left _ (fmm N9 (by k_mem) hg9 (by k_all)), hnew _ _ _ _ _ (fun p hp => List.mem_append_right _ hp) (List.mem_append_left _ (fmm N9 (by k_mem) hg9 (by k_all))) lo8 hd8⟩⟩
theorem tl_two {w : World} {A : Around} {s : Shared} {base : Heap} {outer : List Env} {p : Program} {loose : List Str} {mean : ExcName → Option Value} {mg mb : Str → Option Value}
    {R : Result → Shared → Prop} {T : List (Addr × Obj)} {sh dsh tab tr : Addr} {ot : Obj} {j1 j2 : Tok} {kvs : List (Int × Value)} {Es : List (Int × Int × Vd)} {t : Tok}
    (S : Site A base outer p loose mean mg mb (pre.heap_1 w.params) s.heap) (hA : A.depth ≤ 510) (hu : A.units ≤ 110) (hH : A.handled = none)
    (hT : ∀ q ∈ ((sh, instObj 351 dsh) :: (dsh, shD w tab tr j1 j2) :: (tab, ot) :: T), s.heap.get? q.1 = some q.2 ∧ OwnAt base outer q.1) (hD : Obj.IsDictOf (PySem.intKind PySem.Challenge.rw_nn0135_01.row.prog w) ot kvs) (lo : (tab == sysModules) = false) (hE : EntsIs w T kvs Es) 
    (hR : ∀ v (_ : Unit) h' tk', ExtBy [] s.heap h' → (∃ T2 : List (Addr × Obj), (∀ p ∈ T2, h'.get? p.1 = some p.2 ∧ s.heap.get? p.1 = none) ∧ VdIs w (T2 ++ T) v (.two)) → R (.ok (.ret v)) {s with heap := h', toks := tk'}) :
    codeAny (model PySem.Challenge.rw_nn0135_01.row.prog w) A (.call (.ref 490) ⟨[.ref sh, .int 2 t], []⟩) R s := by
  have XB := S.X
  have TB := S.T
  obtain ⟨hdl, dp, fr, gs, us⟩ := A
  have hfr := S.B.stack
  dsimp only at hfr hA hu hH
  subst hfr hH
  revert S
  k_fill
  intro S
  have hn9 : ∀ q ∈ ((sh, instObj 351 dsh) :: (dsh, shD w tab tr j1 j2) :: (tab, ot) :: T), s.heap.get? q.1 = some q.2 ∧ OwnAt base outer q.1 := by
    exact hT
  refine' enter2 (binds := [(Str.ofString "shelf", .ref sh), (Str.ofString "value", .int 2 t)]) ((sh, instObj 351 dsh) :: (dsh, shD w tab tr j1 j2) :: (tab, ot) :: T) S ?hn ?k6 ?k7 ?k8 ?k9 ?kB ?_ ?c2 ?c3 ?c4 ?c5
  case hn => exact hn9
  case k6 => k_is
  case k7 => k_is
  case k8 => k_room
  case k9 => exact BindsTo.of_eq rfl
  case c5 => decide
  case kB => exact locs rfl
  case c2 => exact rfl
  case c3 => exact rfl
  case c4 => exact rfl
  clear S
  intro g' L' h' F' N' B' X' T' l1 hg9
  (try simp only [AllLt, and_true] at l1)
  (try dsimp only)
  (show wpAny _ _ _ _ _ _)
  k_fold
  k_steps
  all_goals (rename ExtBy _ _ _ => hx9; rename News _ _ _ _ => N9; exact hR _ () _ _ (ext_same hx9 rfl (fun q hq => (hn9 q hq).1) N9 (by walk_at "my mem")) ⟨[], (fun p hp => nomatch hp), ⟨_, rfl⟩⟩)
theorem tl_l {w : World} {A : Around} {s : Shared} {base : Heap} {outer : List Env} {p : Program} {loose : List Str} {mean : ExcName → Option Value} {mg mb : Str → Option Value}
    {R : Result → Shared → Prop} {T : List (Addr × Obj)} {sh dsh tab tr : Addr} {ot : Obj} {j1 j2 : Tok} {kvs : List (Int × Value)} {Es : List (Int × Int × Vd)} {a : Addr} {t : Tok} {c : Nat}
    (S : Site A base outer p loose mean mg mb (pre.heap_1 w.params) s.heap) (hA : A.depth ≤ 510) (hu : A.units ≤ 110) (hH : A.handled = none)
    (hT : ∀ q ∈ ((sh, instObj 351 dsh) :: (dsh, shD w tab tr j1 j2) :: (tab, ot) :: T), s.heap.get? q.1 = some q.2 ∧ OwnAt base outer q.1) (hD : Obj.IsDictOf (PySem.intKind PySem.Challenge.rw_nn0135_01.row.prog w) ot kvs) (lo : (tab == sysModules) = false) (hE : EntsIs w T kvs Es) (h1 : (a, listOf #[.int 2 t] c) ∈ T)
    (hR : ∀ v (_ : Unit) h' tk', ExtBy [] s.heap h' → (∃ T2 : List (Addr × Obj), (∀ p ∈ T2, h'.get? p.1 = some p.2 ∧ s.heap.get? p.1 = none) ∧ VdIs w (T2 ++ T) v (.ltwo)) → R (.ok (.ret v)) {s with heap := h', toks := tk'}) :
    codeAny (model PySem.Challenge.rw_nn0135_01.row.prog w) A (.call (.ref 490) ⟨[.ref sh, .ref a], []⟩) R s := by
  have XB := S.X
  have TB := S.T
  obtain ⟨hdl, dp, fr, gs, us⟩ := A
  have hfr := S.B.stack
  dsimp only at hfr hA hu hH
  subst hfr hH
  revert S
  k_fill
  intro S
  have hn9 : ∀ q ∈ ((sh, instObj 351 dsh) :: (dsh, shD w tab tr j1 j2) :: (tab, ot) :: T), s.heap.get? q.1 = some q.2 ∧ OwnAt base outer q.1 := by
    exact hT
  refine' enter2 (binds := [(Str.ofString "shelf", .ref sh), (Str.ofString "value", .ref a)]) ((sh, instObj 351 dsh) :: (dsh, shD w tab tr j1 j2) :: (tab, ot) :: T) S ?hn ?k6 ?k7 ?k8 ?k9 ?kB ?_ ?c2 ?c3 ?c4 ?c5
  case hn => exact hn9
  case k6 => k_is
  case k7 => k_is
  case k8 => k_room
  case k9 => exact BindsTo.of_eq rfl
  case c5 => decide
  case kB => exact locs rfl
  case c2 => exact rfl
  case c3 => exact rfl
  case c4 => exact rfl
  clear S
  intro g' L' h' F' N' B' X' T' l1 hg9
  (try simp only [AllLt, and_true] at l1)
  (try dsimp only)
  (show wpAny _ _ _ _ _ _)
  k_fold
  k_steps
  all_goals (rename ExtBy _ _ _ => hx9; rename News _ _ _ _ => N9; exact hR _ () _ _ (ext_same hx9 rfl (fun q hq => (hn9 q hq).1) N9 (by walk_at "my mem")) ⟨[], (fun p hp => nomatch hp), ⟨a, t, c, rfl, h1⟩⟩)
theorem tl_dk {w : World} {A : Around} {s : Shared} {base : Heap} {outer : List Env} {p : Program} {loose : List Str} {mean : ExcName → Option Value} {mg mb : Str → Option Value}
    {R : Result → Shared → Prop} {T : List (Addr × Obj)} {sh dsh tab tr : Addr} {ot : Obj} {j1 j2 : Tok} {kvs : List (Int × Value)} {Es : List (Int × Int × Vd)} {h : Addr} {es : Array DictEntry} {ep : Nat} {v1 : Value} {k : Str} {i : Int}
    (S : Site A base outer p loose mean mg mb (pre.heap_1 w.params) s.heap) (hA : A.depth ≤ 510) (hu : A.units ≤ 110) (hH : A.handled = none)
    (hT : ∀ q ∈ ((sh, instObj 351 dsh) :: (dsh, shD w tab tr j1 j2) :: (tab, ot) :: T), s.heap.get? q.1 = some q.2 ∧ OwnAt base outer q.1) (hD : Obj.IsDictOf (PySem.intKind PySem.Challenge.rw_nn0135_01.row.prog w) ot kvs) (lo : (tab == sysModules) = false) (hE : EntsIs w T kvs Es) (h1 : (h, ({ cls := .type "dict", data := .dict es ep } : Obj)) ∈ T) (loh : (h == sysModules) = false) (hl : LvIs w T v1 (.int i)) (hd1 : Obj.IsDictOf (PySem.strKind PySem.Challenge.rw_nn0135_01.row.prog w) ({ cls := .type "dict", data := .dict es ep } : Obj) [(k, v1)])
    (hR : ∀ v (_ : Unit) h' tk', ExtBy [] s.heap h' → (∃ T2 : List (Addr × Obj), (∀ p ∈ T2, h'.get? p.1 = some p.2 ∧ s.heap.get? p.1 = none) ∧ VdIs w (T2 ++ T) v (.dk k i)) → R (.ok (.ret v)) {s with heap := h', toks := tk'}) :
    codeAny (model PySem.Challenge.rw_nn0135_01.row.prog w) A (.call (.ref 490) ⟨[.ref sh, .ref h], []⟩) R s := by
  have XB := S.X
  have TB := S.T
  obtain ⟨hdl, dp, fr, gs, us⟩ := A
  have hfr := S.B.stack
  dsimp only at hfr hA hu hH
  subst hfr hH
  revert S
  k_fill
  intro S
  have hn9 : ∀ q ∈ ((sh, instObj 351 dsh) :: (dsh, shD w tab tr j1 j2) :: (tab, ot) :: T), s.heap.get? q.1 = some q.2 ∧ OwnAt base outer q.1 := by
    exact hT
  refine' enter2 (binds := [(Str.ofString "shelf", .ref sh), (Str.ofString "value", .ref h)]) ((sh, instObj 351 dsh) :: (dsh, shD w tab tr j1 j2) :: (tab, ot) :: T) S ?hn ?k6 ?k7 ?k8 ?k9 ?kB ?_ ?c2 ?c3 ?c4 ?c5
  case hn => exact hn9
  case k6 => k_is
  case k7 => k_is
  case k8 => k_room
  case k9 => exact BindsTo.of_eq rfl
  case c5 => decide
  case kB => exact locs rfl
  case c2 => exact rfl
  case c3 => exact rfl
  case c4 => exact rfl
  clear S
  intro g' L' h' F' N' B' X' T' l1 hg9
  (try simp only [AllLt, and_true] at l1)
  (try dsimp only)
  (show wpAny _ _ _ _ _ _)
  k_fold
  k_steps
  all_goals (rename ExtBy _ _ _ => hx9; rename News _ _ _ _ => N9; exact hR _ () _ _ (ext_same hx9 rfl (fun q hq => (hn9 q hq).1) N9 (by walk_at "my mem")) ⟨[], (fun p hp => nomatch hp), ⟨h, es, ep, v1, rfl, h1, loh, hl, hd1⟩⟩)

def VdOK (Es : List (Int × Int × Vd)) : Vd → Prop
  | .st _ l oct => RefOK Es l ∧ oct.length ≤ 10
  | _ => True
theorem tl_ok {w : World} {A : Around} {s : Shared} {base : Heap} {outer : List Env} {p : Program} {loose : List Str} {mean : ExcName → Option Value} {mg mb : Str → Option Value}
    {R : Result → Shared → Prop} {T : List (Addr × Obj)} {sh dsh tab tr : Addr} {ot : Obj} {j1 j2 : Tok} {kvs : List (Int × Value)} {Es : List (Int × Int × Vd)} {v : Value} {V : Vd}
    (S : Site A base outer p loose mean mg mb (pre.heap_1 w.params) s.heap) (hA : A.depth ≤ 510) (hu : A.units ≤ 110) (hH : A.handled = none)
    (hT : ∀ q ∈ ((sh, instObj 351 dsh) :: (dsh, shD w tab tr j1 j2) :: (tab, ot) :: T), s.heap.get? q.1 = some q.2 ∧ OwnAt base outer q.1) (hD : Obj.IsDictOf (PySem.intKind PySem.Challenge.rw_nn0135_01.row.prog w) ot kvs) (lo : (tab == sysModules) = false)
    (hE : EntsIs w T kvs Es) (hv : VdIs w T v V) (hok : VdOK Es V)
    (hR : ∀ v' (_ : Unit) h' tk', ExtBy [] s.heap h' → (∃ T2 : List (Addr × Obj), (∀ p ∈ T2, h'.get? p.1 = some p.2 ∧ s.heap.get? p.1 = none) ∧ VdIs w (T2 ++ T) v' (mend Es V)) → R (.ok (.ret v')) {s with heap := h', toks := tk'}) :
    codeAny (model PySem.Challenge.rw_nn0135_01.row.prog w) A (.call (.ref 490) ⟨[.ref sh, v], []⟩) R s := by
  cases V with
  | st way l oct =>
    obtain ⟨a, d, h, i1, i2, t, rfl, lt, h1, h2, hh⟩ := hv
    obtain ⟨es, ep, kvh, h3, loh, hdh, hkh, hnew⟩ := hd_open hh
    exact tl_st S hA hu hH hT hD lo hE h1 h2 lt hh hok.1 hok.2 h3 loh hdh hkh hnew hR
  | two => obtain ⟨t, rfl⟩ := hv; exact tl_two S hA hu hH hT hD lo hE hR
  | ltwo => obtain ⟨a, t, c, rfl, h1⟩ := hv; exact tl_l S hA hu hH hT hD lo hE h1 hR
  | dk k i => obtain ⟨h, es, ep, v1, rfl, h1, loh, hl, d⟩ := hv; exact tl_dk S hA hu hH hT hD lo hE h1 loh hl d hR
theorem tl_K {w : World} {A₀ A : Around} {s : Shared} {base h₀ : Heap} {outer : List Env} {p : Program} {loose : List Str} {mean : ExcName → Option Value} {mg mb : Str → Option Value}
    {L : Addr} {m : Str → Option Value} {env : Env} {news T : List (Addr × Obj)} {f : List (Addr × Obj) → List (Addr × Obj)} {Q : Value → Shared → Prop} {E : Value → Shared → Prop} {sh dsh tab tr : Addr} {ot : Obj} {j1 j2 : Tok} {kvs : List (Int × Value)} {Es : List (Int × Int × Vd)} {v : Value} {V : Vd}
    (B : Below A₀ base outer h₀) (X : (pre.heap_1 w.params).In base) (T₀ : Top p loose mean mg mb base) (F : Fr h₀ L s.heap m) (N : News h₀ L s.heap news) (hF : A.frames = some (env :: outer)) (hf : env.frame = some L) (hke : env.scope.kind = .function)
    (hv : VdIs w T v V) (hD : Obj.IsDictOf (PySem.intKind PySem.Challenge.rw_nn0135_01.row.prog w) ot kvs) (lo : (tab == sysModules) = false) (hE : EntsIs w T kvs Es) (hok : VdOK Es V)
    (hs : ∀ p ∈ ((sh, instObj 351 dsh) :: (dsh, shD w tab tr j1 j2) :: (tab, ot) :: T), p ∈ news) (tl : TlF news f) (hA : A.depth ≤ 510) (hu : A.units ≤ 110) (hH : A.handled = none)
    (h : ∀ v' (_ : Unit) T2 h' tk', Fr h₀ L h' m → News h₀ L h' (f T2) → OffT T2 news → VdIs w (T2 ++ T) v' (mend Es V) → Q v' {s with heap := h', toks := tk'}) :
    wpAny (model PySem.Challenge.rw_nn0135_01.row.prog w) A (call (.ref 490) [.ref sh, v]) Q E s :=
  gives_KP (P := fun _ v' T2 => VdIs w (T2 ++ T) v' (mend Es V)) F N tl (fun R' hR' => tl_ok ⟨below_g B F hF hf hke, X, T₀⟩ hA hu hH (fun q hq => ⟨(N q (hs q hq)).1, own_g B N hf q (hs q hq)⟩) hD lo hE hv hok hR') h

end
section
set_option maxRecDepth 100000
set_option linter.unusedVariables false
open PySem PySem.W PySem.Calls PyProof.Rows PySem.SeqAt
def mendE (Es : List (Int × Int × Vd)) (e : Int × Int × Vd) : Int × Int × Vd := (e.1, e.2.1, mend Es e.2.2)
section
variable {prog : Program} {w : World} {A : Around} {E : Value → Shared → Prop} {h₀ : Heap} {env : Env} {target : Expr} {body : List Stmt} {Q : Flow → Shared → Prop} {s : Shared} {I d : Addr} {od : Obj}
theorem dict_ind {kvs : List (Int × Value)} (Inv : Nat → List (Addr × Obj) → List (Str × Value) → Prop)
    (turn : ∀ i k x led kns u t h tk o, kvs[i]? = some (k, x) → Inv i led kns → o.cls = .type "dict_keyiterator" → Fr h₀ env.locals h (kn kns u) → News h₀ env.locals h ((I, o) :: led) →
      wpAny (model prog w) A (assign target env (.int k t)) (fun _ s₂ => wpAny (model prog w) A (execs body env) (UnrPostW h₀ env.locals { s with heap := h, toks := tk } [(I, o)] (fun m' n' => SubL [(d, od)] n' ∧ Stopped (Held (Inv (i + 1)) m' n')) Q) E s₂) E { s with heap := h, toks := tk })
    (fin : ∀ led kns u h tk, Inv kvs.length led kns → Fr h₀ env.locals h (kn kns u) → News h₀ env.locals h led → Q .next { s with heap := h, toks := tk }) :
    ∀ (k i : Nat), i + k = kvs.length → ∀ led kns u, Inv i led kns → ItemsRest prog w A E h₀ env target body Q s [(I, "dict_keyiterator")] [(d, od)] ((kvs.drop i).map fun p => Itm.tok (kyVal (PyData.int p.1))) (kn kns u) led
  | 0, i, hk, led, kns, u, hI => by
    have e : kvs.drop i = [] := List.drop_eq_nil_of_le (by omega)
    rw [e]
    have : i = kvs.length := by omega
    subst this
    exact fun h tk F N => fin led kns u h tk hI F N
  | k + 1, i, hk, led, kns, u, hI => by
    have hlt : i < kvs.length := by omega
    have e : kvs.drop i = kvs[i] :: kvs.drop (i + 1) := List.drop_eq_getElem_cons hlt
    rw [e, List.map_cons]
    intro v h tk hv F o hc N
    obtain ⟨t, rfl⟩ := hv
    refine wpAny_mono (turn i kvs[i].1 kvs[i].2 led kns u t h tk o (List.getElem?_eq_getElem hlt) hI hc F N) (fun _ s₂ z => wpAny_mono z (fun f s₃ y => ?_) fun _ _ x => x) fun _ _ x => x
    have q : ∀ m' n', (SubL [(d, od)] n' ∧ Stopped (Held (Inv (i + 1)) m' n')) → SubL [(d, od)] n' ∧ ItemsRest prog w A E h₀ env target body Q s [(I, "dict_keyiterator")] [(d, od)] ((kvs.drop (i + 1)).map fun p => Itm.tok (kyVal (PyData.int p.1))) m' n' := by
      rintro m' n' ⟨a, led', kns', b, c, d'⟩
      refine ⟨a, items_mono c ?_⟩
      have r := dict_ind Inv turn fin k (i + 1) (by omega) led' kns' m' b
      rw [kn_self d'] at r
      exact r
    cases f with
    | ret v => exact y
    | brk => exact y
    | next =>
      obtain ⟨h', tk, m', n', e1, e2, e3, e4, e5⟩ := y
      exact ⟨h', tk, m', n', e1, e2, e3, e4, q _ _ e5⟩
    | cont =>
      obtain ⟨h', tk, m', n', e1, e2, e3, e4, e5⟩ := y
      exact ⟨h', tk, m', n', e1, e2, e3, e4, q _ _ e5⟩
end
abbrev shD' (w : World) (tab tr : Addr) (j1 j2 : Tok) : Obj := shD w tab tr j1 j2
def InvW (w : World) (T : List (Addr × Obj)) (Es : List (Int × Int × Vd)) (sh dsh tab tr tb2 I : Addr) (ot : Obj) (j1 j2 : Tok) (i : Nat) (led : List (Addr × Obj)) (kns : List (Str × Value)) : Prop :=
  ∃ ot2 kvs2 T2, Obj.IsDictOf (PySem.intKind PySem.Challenge.rw_nn0135_01.row.prog w) ot2 kvs2 ∧ EntsIs w (T2 ++ T) kvs2 ((Es.take i).map (mendE Es)) ∧ OffT T2 ((tb2, instObj 0 0) :: (I, instObj 0 0) :: (sh, instObj 351 dsh) :: (dsh, shD w tab tr j1 j2) :: (tab, ot) :: T) ∧
    led = (tb2, ot2) :: (sh, instObj 351 dsh) :: (dsh, shD w tab tr j1 j2) :: (tab, ot) :: (T2 ++ T) ∧ kns = [(Str.ofString "shelf", .ref sh), (Str.ofString "table", .ref tb2)]
theorem key_new {w : World} {T : List (Addr × Obj)} {kvs2 : List (Int × Value)} {Es : List (Int × Int × Vd)} {i : Nat} {k g : Int} {V : Vd} (hE : EntsIs w T kvs2 ((Es.take i).map (mendE Es))) (hn : (Es.map (·.1)).Nodup) (hi : Es[i]? = some (k, g, V)) : valueAt kvs2 k = none := by
  apply valueAt_none_of_not_mem
  rw [hE.keys, List.map_map]
  intro hm
  have h1 : k ∈ (Es.take i).map (·.1) := by
    obtain ⟨e, he, rfl⟩ := List.mem_map.mp hm
    exact List.mem_map.mpr ⟨e, he, rfl⟩
  have hlt : i < Es.length := by
    rcases Nat.lt_or_ge i Es.length with h | h
    · exact h
    · rw [List.getElem?_eq_none h] at hi; cases hi
  have e1 : Es.map (·.1) = (Es.take i).map (·.1) ++ (Es.drop i).map (·.1) := by rw [← List.map_append, List.take_append_drop]
  have h2 : k ∈ (Es.drop i).map (·.1) := by
    rw [List.drop_eq_getElem_cons hlt]
    have : Es[i] = (k, g, V) := by rw [List.getElem?_eq_getElem hlt] at hi; exact Option.some.inj hi
    rw [this]; simp
  rw [e1] at hn
  exact (List.nodup_append.mp hn).2.2 k h1 k h2 rfl
theorem w_end {w : World} {s₁ : Shared} {h₀ h' : Heap} {L : Addr} {m' : Str → Option Value} {tk : Nat} {T T2 T2n : List (Addr × Obj)} {Es : List (Int × Int × Vd)} {sh dsh tab tr tb2 I tn : Addr} {ot o2 o : Obj} {j1 j2 : Tok} {i : Nat} {kvs2 : List (Int × Value)} {k g : Int} {tg : Tok} {v' : Value} {V : Vd}
    (F : Fr h₀ L h' m') (N : News h₀ L h' ((tn, tupObj [.int g tg, v'] 0) :: (I, o) :: (tb2, o2) :: (sh, instObj 351 dsh) :: (dsh, shD w tab tr j1 j2) :: (tab, ot) :: (T2n ++ (T2 ++ T))))
    (hkn : KnAll m' [(Str.ofString "shelf", .ref sh), (Str.ofString "table", .ref tb2)]) (hd : Obj.IsDictOf (PySem.intKind PySem.Challenge.rw_nn0135_01.row.prog w) o2 (stored kvs2 k (.ref tn))) (hE : EntsIs w (T2 ++ T) kvs2 ((Es.take i).map (mendE Es)))
    (hn : (Es.map (·.1)).Nodup) (hi : Es[i]? = some (k, g, V)) (hv : VdIs w (T2n ++ T) v' (mend Es V))
    (ho : OffT T2 ((tb2, instObj 0 0) :: (I, instObj 0 0) :: (sh, instObj 351 dsh) :: (dsh, shD w tab tr j1 j2) :: (tab, ot) :: T)) (hoN : OffT T2n ((I, o) :: (tb2, ot2) :: (sh, instObj 351 dsh) :: (dsh, shD w tab tr j1 j2) :: (tab, ot) :: (T2 ++ T)))
    (hTI : ∀ p ∈ (tb2, o2) :: (sh, instObj 351 dsh) :: (dsh, shD w tab tr j1 j2) :: (tab, ot) :: T, p.1 ≠ I) (hTn : ∀ p ∈ (I, o) :: (tb2, o2) :: (sh, instObj 351 dsh) :: (dsh, shD w tab tr j1 j2) :: (tab, ot) :: T, p.1 ≠ tn) :
    UnrEndW h₀ L s₁ [(I, o)] (fun m' n' => SubL [(tab, ot)] n' ∧ Stopped (Held (InvW w T Es sh dsh tab tr tb2 I ot j1 j2 (i + 1)) m' n')) { s₁ with heap := h', toks := tk } := by
  rw [stored_absent (key_new hE hn hi)] at hd
  refine ⟨h', tk, m', (tb2, o2) :: (sh, instObj 351 dsh) :: (dsh, shD w tab tr j1 j2) :: (tab, ot) :: (((tn, tupObj [.int g tg, v'] 0) :: (T2n ++ T2)) ++ T), rfl, F, fun p hp => N p ?_, fun p hp q hq => ?_, ⟨by simp, trivial⟩, _, _, ⟨o2, _, (tn, tupObj [.int g tg, v'] 0) :: (T2n ++ T2), hd, ?_, ?_, rfl, rfl⟩, fun p hp => hp, hkn⟩
  · simp only [List.mem_cons, List.mem_append, List.cons_append, List.singleton_append, List.nil_append] at hp ⊢
    rcases hp with h | h | h | h | h | h | (h | h) | h <;> simp [h]
  · rw [List.mem_singleton.mp hq]
    simp only [List.mem_cons, List.mem_append, List.cons_append] at hp
    rcases hp with h | h | h | h | h | (h | h) | h
    · exact hTI p (by simp [h])
    · exact hTI p (by simp [h])
    · exact hTI p (by simp [h])
    · exact hTI p (by simp [h])
    · subst h; exact fun e => hTn (I, o) (.head _) e.symm
    · exact hoN p h (I, o) (.head _)
    · exact ho p h (I, instObj 0 0) (.tail _ (.head _))
    · exact hTI p (by simp [h])
  · have e : Es.take (i + 1) = Es.take i ++ [(k, g, V)] := by rw [List.take_add_one, hi]; rfl
    rw [e, List.map_append]
    refine EntsIs.append (hE.mono fun p hp => ?_) (.cons (List.mem_append_left _ List.mem_cons_self) (VdIs.mono (fun p hp => ?_) hv) .nil)
    · rcases List.mem_append.mp hp with h | h <;> simp [h]
    · rcases List.mem_append.mp hp with h | h <;> simp [h]
  · intro p hp q hq
    rcases List.mem_cons.mp hp with rfl | hp
    · intro e
      simp only [List.mem_cons] at hq
      rcases hq with h | h | h | h | h | h
      · exact hTn (tb2, o2) (by simp) (by rw [h] at e; exact e.symm)
      · exact hTn (I, o) (by simp) (by rw [h] at e; exact e.symm)
      · exact hTn q (by simp [h]) e.symm
      · exact hTn q (by simp [h]) e.symm
      · exact hTn q (by simp [h]) e.symm
      · exact hTn q (by simp [h]) e.symm
    · rcases List.mem_append.mp hp with hp | hp
      · simp only [List.mem_cons] at hq
        rcases hq with h | h | h | h | h | h
        · rw [h]; exact hoN p hp (tb2, ot2) (by simp)
        · rw [h]; exact hoN p hp (I, o) (by simp)
        · exact hoN p hp q (by simp [h])
        · exact hoN p hp q (by simp [h])
        · exact hoN p hp q (by simp [h])
        · exact hoN p hp q (by simp [h])
      · exact ho p hp q hq
theorem nodup_of {prog : Program} {w : World} {o : Obj} {kvs : List (Int × Value)} (h : o.IsDictOf (intKind prog w) kvs) : (kvs.map (·.1)).Nodup := let ⟨_, _, _, _, _, _, r⟩ := h; r
theorem EntsIs.get {w : World} {T : List (Addr × Obj)} : ∀ {kvs : List (Int × Value)} {Es : List (Int × Int × Vd)} {i : Nat} {k : Int} {x : Value}, EntsIs w T kvs Es → kvs[i]? = some (k, x) → ∃ t g tg v c V, x = .ref t ∧ Es[i]? = some (k, g, V) ∧ (t, tupObj [.int g tg, v] c) ∈ T ∧ VdIs w T v V
  | _, _, _, _, _, .nil, h => by simp at h
  | _, _, 0, _, _, @EntsIs.cons _ _ k g t tg v c V kvs Es h1 h2 r, h => by
    simp at h
    obtain ⟨rfl, rfl⟩ := h
    exact ⟨t, g, tg, v, c, V, rfl, rfl, h1, h2⟩
  | _, _, i + 1, _, _, .cons h1 h2 r, h => by
    have := EntsIs.get r (i := i) (by simpa using h)
    simpa using this
section
variable {w : World} {A : Around} {E : Value → Shared → Prop} {h₀ : Heap} {env : Env} {target : Expr} {body : List Stmt} {Q : Flow → Shared → Prop} {s : Shared}
theorem wtl_ind {T : List (Addr × Obj)} {Es : List (Int × Int × Vd)} {kvs : List (Int × Value)} {sh dsh tab tr tb2 I : Addr} {ot o' : Obj} {j1 j2 : Tok} {m : Str → Option Value}
    (hi : Obj.IsDictOf (PySem.intKind PySem.Challenge.rw_nn0135_01.row.prog w) o' []) (hD : Obj.IsDictOf (PySem.intKind PySem.Challenge.rw_nn0135_01.row.prog w) ot kvs) (hE : EntsIs w T kvs Es) (hk : kvs.length ≤ 10) (hm : KnAll m [(Str.ofString "shelf", .ref sh), (Str.ofString "table", .ref tb2)])
    (turn : ∀ i k g V t t0 tg v c o T2 ot2 kvs2 u h tk, Es[i]? = some (k, g, V) → valueAt kvs k = some (.ref t0) → (t0, tupObj [.int g tg, v] c) ∈ T → VdIs w T v V → Obj.IsDictOf (PySem.intKind PySem.Challenge.rw_nn0135_01.row.prog w) ot2 kvs2 → EntsIs w (T2 ++ T) kvs2 ((Es.take i).map (mendE Es)) → kvs2.length ≤ 10 →
      OffT T2 ((tb2, instObj 0 0) :: (I, instObj 0 0) :: (sh, instObj 351 dsh) :: (dsh, shD w tab tr j1 j2) :: (tab, ot) :: T) → o.cls = .type "dict_keyiterator" → Fr h₀ env.locals h (kn [(Str.ofString "shelf", .ref sh), (Str.ofString "table", .ref tb2)] u) →
      News h₀ env.locals h ((I, o) :: (tb2, ot2) :: (sh, instObj 351 dsh) :: (dsh, shD w tab tr j1 j2) :: (tab, ot) :: (T2 ++ T)) →
      wpAny (model PySem.Challenge.rw_nn0135_01.row.prog w) A (assign target env (.int k t)) (fun _ s₂ => wpAny (model PySem.Challenge.rw_nn0135_01.row.prog w) A (execs body env) (UnrPostW h₀ env.locals { s with heap := h, toks := tk } [(I, o)] (fun m' n' => SubL [(tab, ot)] n' ∧ Stopped (Held (InvW w T Es sh dsh tab tr tb2 I ot j1 j2 (i + 1)) m' n')) Q) E s₂) E { s with heap := h, toks := tk })
    (fin : ∀ T2 ot2 kvs2 u h tk, Obj.IsDictOf (PySem.intKind PySem.Challenge.rw_nn0135_01.row.prog w) ot2 kvs2 → EntsIs w (T2 ++ T) kvs2 (Es.map (mendE Es)) → OffT T2 ((tb2, instObj 0 0) :: (I, instObj 0 0) :: (sh, instObj 351 dsh) :: (dsh, shD w tab tr j1 j2) :: (tab, ot) :: T) →
      Fr h₀ env.locals h (kn [(Str.ofString "shelf", .ref sh), (Str.ofString "table", .ref tb2)] u) → News h₀ env.locals h ((tb2, ot2) :: (sh, instObj 351 dsh) :: (dsh, shD w tab tr j1 j2) :: (tab, ot) :: (T2 ++ T)) → Q .next { s with heap := h, toks := tk }) :
    ItemsRest PySem.Challenge.rw_nn0135_01.row.prog w A E h₀ env target body Q s [(I, "dict_keyiterator")] [(tab, ot)] (kvs.map fun p => Itm.tok (kyVal (PyData.int p.1))) m ((tb2, o') :: (sh, instObj 351 dsh) :: (dsh, shD w tab tr j1 j2) :: (tab, ot) :: T) := by
  have hnod : (Es.map (·.1)).Nodup := hE.keys ▸ nodup_of hD
  have hlen : Es.length = kvs.length := by
    have := congrArg List.length hE.keys
    simpa using this.symm
  have q := dict_ind (prog := PySem.Challenge.rw_nn0135_01.row.prog) (w := w) (A := A) (E := E) (h₀ := h₀) (env := env) (target := target) (body := body) (Q := Q) (s := s) (I := I) (d := tab) (od := ot) (kvs := kvs) (InvW w T Es sh dsh tab tr tb2 I ot j1 j2) (fun i k x led kns u t h tk o hx hI hc F N => ?_) (fun led kns u h tk hI F N => ?_) kvs.length 0 (Nat.zero_add _) _ _ m ⟨o', [], [], hi, by rw [List.take_zero]; exact .nil, (fun p hp => nomatch hp), rfl, rfl⟩
  · rw [kn_self hm] at q
    exact q
  · obtain ⟨ot2, kvs2, T2, h1, h2, h3, rfl, rfl⟩ := hI
    obtain ⟨t0, g, tg, v, c, V, rfl, q1, q2, q3⟩ := hE.get hx
    have hva : valueAt kvs k = some (.ref t0) := valueAt_of_get (nodup_of hD) hx
    have hl2 : kvs2.length ≤ 10 := by
      have := congrArg List.length h2.keys
      simp only [List.length_map, List.length_take] at this
      omega
    exact turn i k g V t t0 tg v c o T2 ot2 kvs2 u h tk q1 hva q2 q3 h1 h2 hl2 h3 hc F N
  · obtain ⟨ot2, kvs2, T2, h1, h2, h3, rfl, rfl⟩ := hI
    rw [← hlen, List.take_length] at h2
    exact fin T2 ot2 kvs2 u h tk h1 h2 h3 F N
end

end
section
set_option maxRecDepth 100000
set_option maxHeartbeats 1500000
set_option linter.unusedVariables false
theorem words_Wtl_0 : True := by
  k_with_none
  trivial
open PySem PySem.W PySem.Calls PyProof.Rows
theorem words_Wtl_1 : True := by
  k_with "k_room" => ((try simp only [depth_under_make, depth_under_kw, depth_in1, depth_deeper, depth_mark]); (try dsimp only); (show (_ : Nat) < 1000); first | (refine Nat.lt_of_le_of_lt (by with_reducible assumption) ?_; decide) | (refine Nat.lt_of_le_of_lt (Nat.add_le_add_right (by with_reducible assumption) 1) ?_; decide) | (refine Nat.lt_of_le_of_lt (Nat.add_le_add_right (Nat.add_le_add_right (by with_reducible assumption) 1) 1) ?_; decide) | omega)
  k_with "LeaveC" => ((refine' leaveC_ ?k1 ?k2 ?_; (case k1 => k_asm); (case k2 => k_asm); intro _))
  k_with "my num" => ((try simp only [Around.deeper_units, depth_deeper, depth_under_make, depth_under_kw, depth_in1, depth_mark]); (try dsimp only); first | (refine Nat.le_trans (by with_reducible assumption) ?_; decide) | (refine Nat.le_trans (Nat.add_le_add_right (by with_reducible assumption) 1) ?_; decide) | (refine Nat.le_trans (Nat.add_le_add_right (Nat.add_le_add_right (by with_reducible assumption) 1) 1) ?_; decide) | omega)
  k_with "k_in" => (first | with_reducible assumption | ((refine' Frag.In.keeps ?kiX (Fr.keep ?kiF)); (case kiF => with_reducible assumption); (case kiX => with_reducible assumption)))
  k_with "my mem" => (first | exact List.forall_mem_nil _ | (refine' List.forall_mem_cons.mpr ⟨?ma, ?mb⟩; (case ma => k_mem); (case mb => walk_at "my mem")) | walk_at "my sub")
  k_with "my tail" => (first | with_reducible assumption | (refine List.mem_cons_of_mem _ ?_; walk_at "my tail") | (refine List.mem_append_right _ ?_; walk_at "my tail") | (refine List.mem_append_left _ ?_; walk_at "my tail"))
  k_with "my sub" => ((intro _ _; walk_at "my tail"))
  k_with "my tl" => (first | (refine' TlF.cons ?tlx; (case tlx => walk_at "my tl")) | exact TlF.here)
  k_with "my rm" => (first | (with_reducible refine' Rm.dI ?rmx; (case rmx => walk_at "my rm")) | (with_reducible refine' Rm.dC ?rmx; (case rmx => walk_at "my rm")) | (with_reducible refine' Rm.dD ?rmx; (case rmx => walk_at "my rm")) | (refine' Rm.keep ?rmx; (case rmx => walk_at "my rm")) | exact Rm.nil)
  k_with "my off" => (first | exact True.intro | (refine And.intro ⟨by k_ne, by k_ne, by k_ne⟩ ?_; walk_at "my off") | (refine off3_app (offT_3 (by with_reducible assumption) (by k_mem) (by k_mem) (by k_mem)) ?_; walk_at "my off") | exact LCg.Off3.of (fun p hp => LCg.Off3.mem (by with_reducible assumption) p (by walk_at "my tail")) | fail "my off")
  k_with "k_mem" => (first | with_reducible_and_instances assumption | (refine List.mem_append_right _ ?_; k_mem) | (refine List.mem_append_left _ ?_; k_mem) | fail "k_mem")
  k_with "k_all" => (first | kst_allNe | exact OffT.ne (by with_reducible assumption) (by k_mem) | fail "k_all")
  k_with "k_all" => (with_reducible assumption)
  k_with "k_ne" => (first | with_reducible assumption | (refine neN ?_; (try dsimp only); omega))
  k_with "exec For Name Attribute cons nil" => (((rename Fr _ _ _ _ => lF'); (with_unfolding_all refine' For_turns lF' ?_; k_whole)))
  k_with "exec For" => (((rename Fr _ _ _ _ => lF'); (with_unfolding_all refine' For_turns lF' ?_; k_whole)))
  k_with "pyIter ref" => (((with_reducible show wpAny _ _ (pyIter (Value.ref _)) (fun it s₂ => TurnsAt _ _ _ _ _ _ _ _ _ it s₂) _ _); (refine kta_keys (knd := PySem.intKind _ _) (enc := PyData.int) (by rfl) (by k_asm) (by k_asm) (by k_mem) (by with_reducible assumption) (by with_reducible assumption) (fun k v hk => int_is hk) rfl ?_); intro _ hI; (try k_lt hI)))
  k_with "ItemsRest" => (refine Stopped.out ?_)
  k_with "UnrEndW" => (refine Stopped.out ?_)
  k_with "subscriptTail" => (((with_reducible show wpAny _ _ (subscriptTail _ _ (Value.ref _) (Value.int _ _)) _ _ _); k_dflt (refine kdt_tail (knd := PySem.intKind _ _) (by k_asm) (by k_mem) (by with_reducible assumption) (kdt_getItem (knd := PySem.intKind _ _) (by k_asm) (by k_mem) (by with_reducible assumption) (intKind_is _ _ _ _) (by with_reducible assumption) ?_))))
  k_with "call ref" => (((with_reducible show wpAny _ _ (call (Value.ref 490) [_, _]) _ _ _); k_dflt (refine' tl_K ?kB ?kX ?kT ?kF ?kN ?kfA ?kff ?kfK ?kl ?kD ?klo ?kE ?kr ?ks ?ktl ?kA ?ku ?kH ?_; (case kF => k_asm); (case kN => k_asm); (case kB => k_asm); (case kX => k_asm); (case kT => k_asm); (case kfA => exact rfl); (case kff => exact rfl); (case kfK => exact rfl); (case kl => with_reducible assumption); (case ks => walk_at "my mem"); (case kD => with_reducible assumption); (case klo => with_reducible assumption); (case kE => with_reducible assumption); (case kr => with_reducible assumption); (case ktl => walk_at "my tl"); (case kA => walk_at "my num"); (case ku => walk_at "my num"); (case kH => rfl); k_whole); intro _ _ _ _ _ _ N' _ _; (try dsimp only at N'); (try k_sweep)))
  k_with "setItem ref int" => (((with_reducible show wpAny _ _ (setItem (Value.ref _) (Value.int _ _) (Value.ref _)) _ _ _); k_dflt (refine' kda_set (knd := PySem.intKind _ _) ?F ?N ?U ?d (intKind_is _ _ _ _) ?z ?_; (case F => k_asm); (case N => k_asm); (case U => k_updF); (case d => with_reducible assumption); (case z => rw [sizeLine_eq]; omega)); intro _ _ _ N' _; (try dsimp only at N'); (try k_sweep)))
  k_with "call ref" => ((with_reducible show wpAny _ _ (call (Value.ref 351) [Value.ref _, Value.ref _]) _ _ _); k_dflt (refine' new_K (init_sh _ _ _) ?kB ?kX ?kT ?kF ?kN ?kfA ?kff ?kfK ?km ?ki ?kfn ?kA ?ku ?kH ?_; (case kF => k_asm); (case kN => k_asm); (case kB => k_asm); (case kX => k_asm); (case kT => k_asm); (case kfA => exact rfl); (case kff => exact rfl); (case kfK => exact rfl); (case km => k_is); (case ki => k_is); (case kfn => k_is); (case kA => walk_at "my num"); (case ku => walk_at "my num"); (case kH => rfl); k_whole); intro _ _ _ _ _ hP' _ _ l1 l2 _; (simp only [AllLt, and_true] at l1); clear l2; (obtain ⟨_, _, e2⟩ := hP'; subst e2); (try k_sweep))
  trivial
theorem wtl_ok {w : World} {A : Around} {s : Shared} {base : Heap} {outer : List Env} {p : Program} {loose : List Str} {mean : ExcName → Option Value} {mg mb : Str → Option Value}
    {R : Result → Shared → Prop} {T : List (Addr × Obj)} {sh dsh tab tr : Addr} {ot : Obj} {j1 j2 : Tok} {kvs : List (Int × Value)} {Es : List (Int × Int × Vd)} 
    (S : Site A base outer p loose mean mg mb (pre.heap_1 w.params) s.heap) (hA : A.depth ≤ 500) (hu : A.units ≤ 100) (hH : A.handled = none)
    (hT : ∀ q ∈ ((sh, instObj 351 dsh) :: (dsh, shD w tab tr j1 j2) :: (tab, ot) :: T), s.heap.get? q.1 = some q.2 ∧ OwnAt base outer q.1) (hD : Obj.IsDictOf (PySem.intKind PySem.Challenge.rw_nn0135_01.row.prog w) ot kvs) (lo : (tab == sysModules) = false) (hE : EntsIs w T kvs Es) (hok : ∀ e ∈ Es, VdOK Es e.2.2) (hk : kvs.length ≤ 10)
    (hR : ∀ v (_ : Unit) h' tk', ExtBy [] s.heap h' → (∃ T2 : List (Addr × Obj), (∀ p ∈ T2, h'.get? p.1 = some p.2 ∧ s.heap.get? p.1 = none) ∧ ∃ sh2 dsh2 tb2 ot2 j1' j2' kvs2, v = .ref sh2 ∧ (sh2, instObj 351 dsh2) ∈ T2 ∧ (dsh2, shD w tb2 tr j1' j2') ∈ T2 ∧ (tb2, ot2) ∈ T2 ∧ (tb2 == sysModules) = false ∧ Obj.IsDictOf (PySem.intKind PySem.Challenge.rw_nn0135_01.row.prog w) ot2 kvs2 ∧ EntsIs w (T2 ++ T) kvs2 (Es.map (mendE Es))) → R (.ok (.ret v)) {s with heap := h', toks := tk'}) :
    codeAny (model PySem.Challenge.rw_nn0135_01.row.prog w) A (.call (.ref 497) ⟨[.ref sh], []⟩) R s := by
  have XB := S.X
  have TB := S.T
  obtain ⟨hdl, dp, fr, gs, us⟩ := A
  have hfr := S.B.stack
  dsimp only at hfr hA hu hH
  subst hfr hH
  revert S
  k_fill
  intro S
  have hn9 : ∀ q ∈ ((sh, instObj 351 dsh) :: (dsh, shD w tab tr j1 j2) :: (tab, ot) :: T), s.heap.get? q.1 = some q.2 ∧ OwnAt base outer q.1 := by
    exact hT
  refine' enter2 (binds := [(Str.ofString "shelf", .ref sh)]) ((sh, instObj 351 dsh) :: (dsh, shD w tab tr j1 j2) :: (tab, ot) :: T) S ?hn ?k6 ?k7 ?k8 ?k9 ?kB ?_ ?c2 ?c3 ?c4 ?c5
  case hn => exact hn9
  case k6 => k_is
  case k7 => k_is
  case k8 => k_room
  case k9 => exact BindsTo.of_eq rfl
  case c5 => decide
  case kB => exact locs rfl
  case c2 => exact rfl
  case c3 => exact rfl
  case c4 => exact rfl
  clear S
  intro g' L' h' F' N' B' X' T' l1 hg9
  (try simp only [AllLt, and_true] at l1)
  (try dsimp only)
  (show wpAny _ _ _ _ _ _)
  k_fold
  k_steps
  refine Stopped.intro ?_
  rename Obj.IsDictOf (PySem.intKind _ _) _ [] => hi8
  have hnod : (Es.map (·.1)).Nodup := hE.keys ▸ nodup_of hD
  refine wtl_ind hi8 hD hE hk ⟨rfl, rfl, trivial⟩ ?tu ?fi
  case tu =>
    intro i k g V t t0 tg v c o T2 ot2 kvs2 u h tk hgi hva ht8 hv8 hD2 hE2 hk2 ho8 hc8 F' N'
    have hok8 : VdOK Es V := hok _ (List.mem_of_getElem? hgi)
    dsimp only [kn] at F'
    k_steps
    refine Stopped.intro ?_
    rename Fr _ _ _ _ => F9
    rename News _ _ _ _ => N9
    rename OffT _ _ => ho9
    rename VdIs _ _ _ _ => hv9
    rename Obj.IsDictOf _ _ _ => hd9
    exact w_end F9 N9 ⟨rfl, rfl, trivial⟩ hd9 hE2 hnod hgi hv9 ho8 ho9 (by k_all) (by k_all)
  case fi =>
    intro T2 ot2 kvs2 u h tk hD2 hE2 ho8 F' N'
    dsimp only [kn] at F'
    k_steps
    rename ExtBy _ _ _ => hx9
    rename News _ _ _ _ => N9
    rename (_ == sysModules) = false => lo8
    rename @LT.lt Nat _ _ _ => l28
    rename _ ∧ _ => l18
    have hx5 := fun p hp => Nat.ne_of_lt (Nat.lt_trans (kst_ltOf l18.2.2.2.2 p (List.mem_append_right T2 hp)) l28)
    exact hR _ () _ _ (ext_same hx9 rfl (fun q hq => (hn9 q hq).1) N9 (by walk_at "my mem")) ⟨fresh s.heap _, fresh_ok N9, _, _, _, _, _, _, _, rfl, fmm N9 (by k_mem) hg9 (by k_all), fmm N9 (by k_mem) hg9 (by k_all), fmm N9 (by k_mem) hg9 (by k_all), lo8, hD2, hE2.mono fun p hp => (List.mem_append.mp hp).elim (fun h => List.mem_append_left _ (fT N9 hg9 ho8 (by walk_at "my sub") (by walk_at "my mem") p h)) (fun h => List.mem_append_right _ h)⟩

theorem wtl_K {w : World} {A₀ A : Around} {s : Shared} {base h₀ : Heap} {outer : List Env} {p : Program} {loose : List Str} {mean : ExcName → Option Value} {mg mb : Str → Option Value}
    {L : Addr} {m : Str → Option Value} {env : Env} {news T : List (Addr × Obj)} {f : List (Addr × Obj) → List (Addr × Obj)} {Q : Value → Shared → Prop} {E : Value → Shared → Prop} {sh dsh tab tr : Addr} {ot : Obj} {j1 j2 : Tok} {kvs : List (Int × Value)} {Es : List (Int × Int × Vd)}
    (B : Below A₀ base outer h₀) (X : (pre.heap_1 w.params).In base) (T₀ : Top p loose mean mg mb base) (F : Fr h₀ L s.heap m) (N : News h₀ L s.heap news) (hF : A.frames = some (env :: outer)) (hf : env.frame = some L) (hke : env.scope.kind = .function)
    (hD : Obj.IsDictOf (PySem.intKind PySem.Challenge.rw_nn0135_01.row.prog w) ot kvs) (lo : (tab == sysModules) = false) (hE : EntsIs w T kvs Es) (hok : ∀ e ∈ Es, VdOK Es e.2.2) (hk : kvs.length ≤ 10)
    (hs : ∀ p ∈ ((sh, instObj 351 dsh) :: (dsh, shD w tab tr j1 j2) :: (tab, ot) :: T), p ∈ news) (tl : TlF news f) (hA : A.depth ≤ 500) (hu : A.units ≤ 100) (hH : A.handled = none)
    (h : ∀ v (_ : Unit) T2 h' tk', Fr h₀ L h' m → News h₀ L h' (f T2) → OffT T2 news → (∃ sh2 dsh2 tb2 ot2 j1' j2' kvs2, v = .ref sh2 ∧ (sh2, instObj 351 dsh2) ∈ T2 ∧ (dsh2, shD w tb2 tr j1' j2') ∈ T2 ∧ (tb2, ot2) ∈ T2 ∧ (tb2 == sysModules) = false ∧ Obj.IsDictOf (PySem.intKind PySem.Challenge.rw_nn0135_01.row.prog w) ot2 kvs2 ∧ EntsIs w (T2 ++ T) kvs2 (Es.map (mendE Es))) → Q v {s with heap := h', toks := tk'}) :
    wpAny (model PySem.Challenge.rw_nn0135_01.row.prog w) A (call (.ref 497) [.ref sh]) Q E s :=
  gives_KP (P := fun _ v T2 => ∃ sh2 dsh2 tb2 ot2 j1' j2' kvs2, v = .ref sh2 ∧ (sh2, instObj 351 dsh2) ∈ T2 ∧ (dsh2, shD w tb2 tr j1' j2') ∈ T2 ∧ (tb2, ot2) ∈ T2 ∧ (tb2 == sysModules) = false ∧ Obj.IsDictOf (PySem.intKind PySem.Challenge.rw_nn0135_01.row.prog w) ot2 kvs2 ∧ EntsIs w (T2 ++ T) kvs2 (Es.map (mendE Es))) F N tl (fun R' hR' => wtl_ok ⟨below_g B F hF hf hke, X, T₀⟩ hA hu hH (fun q hq => ⟨(N q (hs q hq)).1, own_g B N hf q (hs q hq)⟩) hD lo hE hok hk hR') h

end
section
set_option maxRecDepth 100000
set_option linter.unusedVariables false
open PySem PySem.W PySem.Calls PyProof.Rows PySem.SeqAt
def MenuNN (k x0 x1 : Int) (nm r9 r8 r7 : Addr) (x : Value) : Prop :=
  (k = 0 ∧ ∃ t, x = .int x0 t) ∨ (k = 1 ∧ ∃ t, x = .int x1 t) ∨ (k = 3 ∧ x = .ref nm) ∨ (k = 4 ∧ x = .ref r9) ∨ (k = 5 ∧ x = .ref r8) ∨ (k = 6 ∧ x = .ref r7) ∨ (k = 7 ∧ x = .bool true)
section
variable {prog : Program} {w : World} {A : Around} {E : Value → Shared → Prop} {s : Shared} {h₀ : Heap} {L l : Addr} {m : Str → Option Value} {news : List (Addr × Obj)} {value slice : Expr} {Q : Value → Shared → Prop}
theorem sub_M8 {k x0 x1 : Int} {ku t0 t1 : Tok} {nm r9 r8 r7 : Addr} {n : Nat} (N : News h₀ L s.heap news) (hm : (l, listOf #[.int x0 t0, .int x1 t1, .none, .ref nm, .ref r9, .ref r8, .ref r7, .bool true] n) ∈ news) (h0 : 0 ≤ k) (h1 : k < 8)
    (hA : k = 2 → Q .none s) (hB : ∀ x, MenuNN k x0 x1 nm r9 r8 r7 x → Q x s)
    (hs : subscripted slice false (.ref l) (.int k ku) = operate [.ref l, .int k ku] (getItem (.ref l) (.int k ku)) := by with_unfolding_all rfl) :
    wpAny (model prog w) A (subscriptTail value slice (.ref l) (.int k ku)) Q E s := by
  have hl := PySem.IsL.isList (n := n) (N _ hm).1
  have go : ∀ v, #[Value.int x0 t0, .int x1 t1, .none, .ref nm, .ref r9, .ref r8, .ref r7, .bool true][k.toNat]? = some v → Q v s → wpAny (model prog w) A (subscriptTail value slice (.ref l) (.int k ku)) Q E s :=
    fun v e q => tail_any hl.typeIs slot_list_getitem.lookup (wpAny_getItem_list hl h0 (by omega) (x := v) e q) hs
  have c := cases8' h0 h1
  rcases c with rfl | rfl | rfl | rfl | rfl | rfl | rfl | rfl
  · exact go _ rfl (hB _ (.inl ⟨rfl, _, rfl⟩))
  · exact go _ rfl (hB _ (.inr (.inl ⟨rfl, _, rfl⟩)))
  · exact go _ rfl (hA rfl)
  · exact go _ rfl (hB _ (.inr (.inr (.inl ⟨rfl, rfl⟩))))
  · exact go _ rfl (hB _ (.inr (.inr (.inr (.inl ⟨rfl, rfl⟩)))))
  · exact go _ rfl (hB _ (.inr (.inr (.inr (.inr (.inl ⟨rfl, rfl⟩))))))
  · exact go _ rfl (hB _ (.inr (.inr (.inr (.inr (.inr (.inl ⟨rfl, rfl⟩)))))))
  · exact go _ rfl (hB _ (.inr (.inr (.inr (.inr (.inr (.inr ⟨rfl, rfl⟩)))))))
end
theorem is_menu {M : Model} {A : Around} {s : Shared} {E : Value → Shared → Prop} {Q : Value → Shared → Prop} {k x0 x1 : Int} {nm r9 r8 r7 : Addr} {x : Value} (hx : MenuNN k x0 x1 nm r9 r8 r7 x) (h : Q (.bool false) s) : wpAny M A (compareOp .Is x .none) Q E s := by
  have e : plainIs x .none = true ∧ x ≠ .none := by
    rcases hx with ⟨_, _, rfl⟩ | ⟨_, _, rfl⟩ | ⟨_, rfl⟩ | ⟨_, rfl⟩ | ⟨_, rfl⟩ | ⟨_, rfl⟩ | ⟨_, rfl⟩ <;> exact ⟨rfl, by intro h; cases h⟩
  exact wpAny_is_other e.1 e.2 h
def MenuX (k x0 x1 : Int) (nm r9 r8 r7 : Addr) (x : Value) : Prop := (k = 2 ∧ x = .none) ∨ MenuNN k x0 x1 nm r9 r8 r7 x
theorem sub_MX {prog : Program} {w : World} {A : Around} {E : Value → Shared → Prop} {s : Shared} {h₀ : Heap} {L l : Addr} {news : List (Addr × Obj)} {value slice : Expr} {Q : Value → Shared → Prop} {k x0 x1 : Int} {ku t0 t1 : Tok} {nm r9 r8 r7 : Addr} {n : Nat} (N : News h₀ L s.heap news) (hm : (l, listOf #[.int x0 t0, .int x1 t1, .none, .ref nm, .ref r9, .ref r8, .ref r7, .bool true] n) ∈ news) (h0 : 0 ≤ k) (h1 : k < 8)
    (h : ∀ x, MenuX k x0 x1 nm r9 r8 r7 x → Q x s)
    (hs : subscripted slice false (.ref l) (.int k ku) = operate [.ref l, .int k ku] (getItem (.ref l) (.int k ku)) := by with_unfolding_all rfl) :
    wpAny (model prog w) A (subscriptTail value slice (.ref l) (.int k ku)) Q E s :=
  sub_M8 N hm h0 h1 (fun hk => h _ (.inl ⟨hk, rfl⟩)) (fun x hx => h x (.inr hx)) hs
def hdK (way : Int) (t : Tok) : Value → List (Str × Value)
  | .none => [(Str.ofString "K", .int way t)]
  | x => [(Str.ofString "K", .int way t), (Str.ofString "Length", x)]
theorem hdK_nn {way k x0 x1 : Int} {nm r9 r8 r7 : Addr} {x : Value} {t : Tok} (hx : MenuNN k x0 x1 nm r9 r8 r7 x) : hdK way t x = [(Str.ofString "K", .int way t), (Str.ofString "Length", x)] := by
  rcases hx with ⟨_, _, rfl⟩ | ⟨_, _, rfl⟩ | ⟨_, rfl⟩ | ⟨_, rfl⟩ | ⟨_, rfl⟩ | ⟨_, rfl⟩ | ⟨_, rfl⟩ <;> rfl
def HdPost (w : World) (h₀ : Heap) (L : Addr) (s : Shared) (m : Str → Option Value) (news : List (Addr × Obj)) (way : Int) (x : Value) (v : Value) (s' : Shared) : Prop :=
  ∃ D o h' tk, v = .ref D ∧ s' = { s with heap := h', toks := tk } ∧ Fr h₀ L h' m ∧ News h₀ L h' ((D, o) :: news) ∧ AllLt D news ∧ (D == sysModules) = false ∧ ∃ t, o.IsDictOf (strKind PySem.Challenge.rw_nn0135_01.row.prog w) (hdK way t x)
theorem head_cut {M : Model} {w : World} {A : Around} {s : Shared} {E : Value → Shared → Prop} {Q : Value → Shared → Prop} {e : Expr} {env : Env} {h₀ : Heap} {L : Addr} {m : Str → Option Value} {news : List (Addr × Obj)} {k x0 x1 : Int} {nm r9 r8 r7 : Addr} {x : Value} (F : Fr h₀ L s.heap m) (N : News h₀ L s.heap news) (hx : MenuX k x0 x1 nm r9 r8 r7 x)
    (h1 : x = .none → wpAny M A (eval e env) (HdPost w h₀ L s m news k .none) E s) (h2 : MenuNN k x0 x1 nm r9 r8 r7 x → wpAny M A (eval e env) (HdPost w h₀ L s m news k x) E s)
    (h : ∀ D o h' tk t, Fr h₀ L h' m → News h₀ L h' ((D, o) :: news) → AllLt D news → (D == sysModules) = false → o.IsDictOf (strKind PySem.Challenge.rw_nn0135_01.row.prog w) (hdK k t x) → Q (.ref D) { s with heap := h', toks := tk }) :
    wpAny M A (eval e env) Q E s := by
  have g : wpAny M A (eval e env) (HdPost w h₀ L s m news k x) E s := by
    rcases hx with ⟨_, hn⟩ | hx
    · have := h1 hn; rw [← hn] at this; exact this
    · exact h2 hx
  refine wpAny_mono g (fun v s' z => ?_) fun _ _ z => z
  obtain ⟨D, o, h', tk, rfl, rfl, q1, q2, q3, q4, t, q5⟩ := z
  exact h D o h' tk t q1 q2 q3 q4 q5
def rightB (way size : Int) : Bool := way == 0 || (way == 4 && size == 2) || (way == 7 && size == 1)
def RightPost (way size : Int) (s : Shared) (v : Value) (s' : Shared) : Prop := ∃ tk, s' = { s with toks := tk } ∧ v = .bool (rightB way size)
theorem right_cut {M : Model} {A : Around} {s : Shared} {E : Value → Shared → Prop} {Q : Value → Shared → Prop} {e : Expr} {env : Env} {h₀ : Heap} {L : Addr} {m : Str → Option Value} {way size : Int} {t1 t2 : Tok} (F : Fr h₀ L s.heap m) (hw : m (Str.ofString "way") = some (.int way t1)) (hz : m (Str.ofString "size") = some (.int size t2))
    (h1 : wpAny M A (eval e env) (RightPost way size s) E s) (h2 : ∀ tk, Q (.bool (rightB way size)) { s with toks := tk }) : wpAny M A (eval e env) Q E s :=
  wpAny_mono h1 (fun v s' h => by obtain ⟨tk, rfl, rfl⟩ := h; exact h2 tk) fun _ _ h => h
def DueIs (b : Bool) (x : Value) (size : Int) (y : Value) : Prop := (b = true ∧ y = x) ∨ (b = false ∧ ∃ t, y = .int size t)
def DuePost (b : Bool) (x : Value) (size : Int) (s : Shared) (v : Value) (s' : Shared) : Prop := ∃ tk, s' = { s with toks := tk } ∧ DueIs b x size v
theorem due_cut {M : Model} {A : Around} {s : Shared} {E : Value → Shared → Prop} {Q : Value → Shared → Prop} {e : Expr} {env : Env} {h₀ : Heap} {L : Addr} {m : Str → Option Value} {b : Bool} {x : Value} {size : Int} {t2 : Tok} (F : Fr h₀ L s.heap m) (hb : m (Str.ofString "is_right") = some (.bool b)) (hx : m (Str.ofString "told_length") = some x) (hz : m (Str.ofString "size") = some (.int size t2))
    (h1 : wpAny M A (eval e env) (DuePost b x size s) E s) (h2 : ∀ y tk, DueIs b x size y → Q y { s with toks := tk }) : wpAny M A (eval e env) Q E s :=
  wpAny_mono h1 (fun v s' h => by obtain ⟨tk, rfl, h⟩ := h; exact h2 v tk h) fun _ _ h => h
def lOf (way size : Int) : Option Lv :=
  if way = 0 then some (.int size) else if way = 1 then some (.int (size + 1)) else if way = 2 then none else if way = 3 then some (.name (Str.ofString "x")) else if way = 4 then some (.ref 9 0) else if way = 5 then some (.ref 8 0) else if way = 6 then some (.ref 7 0) else some .tru
def dueL (way size : Int) : Option Lv := if rightB way size then lOf way size else some (.int size)
theorem menu_lv {w : World} {T : List (Addr × Obj)} {way size : Int} {nm r9 r8 r7 dn d9 d8 d7 : Addr} {x : Value} {jn tn a1 a2 a3 a4 b1 b2 b3 b4 c1 c2 c3 c4 : Tok} (hx : MenuNN way size (size + 1) nm r9 r8 r7 x)
    (n1 : (nm, instObj 171 dn) ∈ T) (n2 : (dn, strD w (Str.ofString "x") jn tn) ∈ T) (n3 : @LT.lt Nat _ dn nm) (m1 : (r9, instObj 242 d9) ∈ T) (m2 : (d9, refD w 9 0 a1 a2 a3 a4) ∈ T) (m3 : @LT.lt Nat _ d9 r9)
    (k1 : (r8, instObj 242 d8) ∈ T) (k2 : (d8, refD w 8 0 b1 b2 b3 b4) ∈ T) (k3 : @LT.lt Nat _ d8 r8) (l1 : (r7, instObj 242 d7) ∈ T) (l2 : (d7, refD w 7 0 c1 c2 c3 c4) ∈ T) (l3 : @LT.lt Nat _ d7 r7) : ∃ l, lOf way size = some l ∧ LvIs w T x l := by
  rcases hx with ⟨rfl, t, rfl⟩ | ⟨rfl, t, rfl⟩ | ⟨rfl, rfl⟩ | ⟨rfl, rfl⟩ | ⟨rfl, rfl⟩ | ⟨rfl, rfl⟩ | ⟨rfl, rfl⟩
  · exact ⟨_, rfl, t, rfl⟩
  · exact ⟨_, rfl, t, rfl⟩
  · exact ⟨_, rfl, nm, dn, jn, tn, rfl, n3, n1, n2⟩
  · exact ⟨_, rfl, r9, d9, a1, a2, a3, a4, rfl, m3, m1, m2⟩
  · exact ⟨_, rfl, r8, d8, b1, b2, b3, b4, rfl, k3, k1, k2⟩
  · exact ⟨_, rfl, r7, d7, c1, c2, c3, c4, rfl, l3, l1, l2⟩
  · exact ⟨_, rfl, rfl⟩
theorem ways {way : Int} (h0 : 0 ≤ way) (h1 : way < 8) : way = 0 ∨ way = 1 ∨ way = 2 ∨ way = 3 ∨ way = 4 ∨ way = 5 ∨ way = 6 ∨ way = 7 := by omega
theorem mend_due {Es : List (Int × Int × Vd)} {way : Int} {oct : List UInt8} (e9 : esAt Es 9 = some (0, .two)) (e8 : esAt Es 8 = some (0, .ltwo)) (e7 : 7 ∉ Es.map (·.1)) (h0 : 0 ≤ way) (h1 : way < 8) : mend Es (.st way (lOf way oct.length) oct) = .st way (dueL way oct.length) oct := by
  have e7' := esAt_none e7
  rcases ways h0 h1 with rfl | rfl | rfl | rfl | rfl | rfl | rfl | rfl
  · simp [mend, lOf, dueL, rightB, gvOf, eqG]
  · simp [mend, lOf, dueL, rightB, gvOf, eqG]
  · simp [mend, lOf, dueL, rightB, gvOf, eqG]
  · simp [mend, lOf, dueL, rightB, gvOf, eqG]
  · by_cases h : (oct.length : Int) = 2
    · simp [mend, lOf, dueL, rightB, gvOf, eqG, e9, h]
    · have : ¬ ((2 : Int) = (oct.length : Int)) := fun q => h q.symm
      simp [mend, lOf, dueL, rightB, gvOf, eqG, e9, h, this]
  · simp [mend, lOf, dueL, rightB, gvOf, eqG, e8]
  · simp [mend, lOf, dueL, rightB, gvOf, eqG, e7']
  · by_cases h : (oct.length : Int) = 1
    · simp [mend, lOf, dueL, rightB, gvOf, eqG, h]
    · have : ¬ ((1 : Int) = (oct.length : Int)) := fun q => h q.symm
      simp [mend, lOf, dueL, rightB, gvOf, eqG, h, this]
theorem refOK_l {Es : List (Int × Int × Vd)} {way size : Int} (e9 : esAt Es 9 = some (0, .two)) (e8 : esAt Es 8 = some (0, .ltwo)) (e7 : 7 ∉ Es.map (·.1)) (h0 : 0 ≤ way) (h1 : way < 8) : RefOK Es (lOf way size) := by
  rcases ways h0 h1 with rfl | rfl | rfl | rfl | rfl | rfl | rfl | rfl
  · exact trivial
  · exact trivial
  · exact trivial
  · exact trivial
  · exact ⟨rfl, .inl e9⟩
  · exact ⟨rfl, .inr (.inl e8)⟩
  · exact ⟨rfl, .inr (.inr e7)⟩
  · exact trivial
def mkE (f : Int → Int → Option Lv) : Int → List (Int × List UInt8) → List (Int × Int × Vd)
  | _, [] => []
  | k, r :: rs => (k, r.1, .st r.1 (f r.1 r.2.length) r.2) :: mkE f (k + 1) rs
theorem mkE_snoc (f : Int → Int → Option Lv) (r : Int × List UInt8) : ∀ (rs : List (Int × List UInt8)) (k : Int), mkE f k (rs ++ [r]) = mkE f k rs ++ [(k + rs.length, r.1, .st r.1 (f r.1 r.2.length) r.2)]
  | [], k => by simp [mkE]
  | q :: rs, k => by
    simp only [List.cons_append, mkE, mkE_snoc f r rs (k + 1), List.length_cons]
    congr 3
    rw [show k + 1 + (rs.length : Int) = k + ((rs.length + 1 : Nat) : Int) from by omega]
theorem mkE_keys (f : Int → Int → Option Lv) : ∀ (rs : List (Int × List UInt8)) (k n : Int), n ∈ (mkE f k rs).map (·.1) → k ≤ n ∧ n < k + rs.length
  | [], _, _, h => by simp [mkE] at h
  | q :: rs, k, n, h => by
    simp only [mkE, List.map_cons, List.mem_cons] at h
    rcases h with rfl | h
    · simp only [List.length_cons]; omega
    · have := mkE_keys f rs (k + 1) n h
      simp only [List.length_cons]; omega
theorem mkE_len (f : Int → Int → Option Lv) : ∀ (rs : List (Int × List UInt8)) (k : Int), (mkE f k rs).length = rs.length
  | [], _ => rfl
  | q :: rs, k => by simp [mkE, mkE_len f rs]

end
section
set_option maxRecDepth 100000
set_option linter.unusedVariables false
open PySem PySem.W PySem.Calls PyProof.Rows PySem.SeqAt
def RsOK (rs : List (Int × List UInt8)) : Prop := ∀ r ∈ rs, 0 ≤ r.1 ∧ r.1 < 8 ∧ r.2.length ≤ 5
def InvL (w : World) (pen cells tab due I : Addr) (ys : List Value) (sd sp0 : Int) (t2 : Tok) (i : Nat) (led : List (Addr × Obj)) (kns : List (Str × Value)) : Prop :=
  ∃ sp t1 ot od kvs1 kvs2 rs T, Obj.IsDictOf (PySem.intKind PySem.Challenge.rw_nn0135_01.row.prog w) ot kvs1 ∧ Obj.IsDictOf (PySem.intKind PySem.Challenge.rw_nn0135_01.row.prog w) od kvs2 ∧
    EntsIs w T kvs1 (mkE lOf 1 rs) ∧ EntsIs w T kvs2 (mkE dueL 1 rs) ∧ rs.length = i ∧ RsOK rs ∧ OwnOff T [pen, cells, tab, due, I] ∧ (sp0 ≤ sp ∧ sp ≤ sp0 + 1 + 2 * i) ∧
    led = (pen, penO cells sp sd t1 t2) :: (cells, LCg.lst ys) :: (tab, ot) :: (due, od) :: T ∧ kns = [(Str.ofString "pen", .ref pen), (Str.ofString "table", .ref tab), (Str.ofString "due", .ref due)]
theorem hd_mk1 {w : World} {T : List (Addr × Obj)} {h : Addr} {o : Obj} {way : Int} {t : Tok} (hm : (h, o) ∈ T) (lo : (h == sysModules) = false) (hd : Obj.IsDictOf (PySem.strKind PySem.Challenge.rw_nn0135_01.row.prog w) o [(Str.ofString "K", .int way t)]) : HdIs w T h way none := by
  obtain ⟨es, ep, rfl⟩ := dict_form hd
  exact ⟨es, ep, _, hm, lo, ⟨t, rfl⟩, hd⟩
theorem hd_mk2 {w : World} {T : List (Addr × Obj)} {h : Addr} {o : Obj} {way : Int} {t : Tok} {v : Value} {l : Lv} (hm : (h, o) ∈ T) (lo : (h == sysModules) = false) (hl : LvIs w T v l) (hd : Obj.IsDictOf (PySem.strKind PySem.Challenge.rw_nn0135_01.row.prog w) o [(Str.ofString "K", .int way t), (Str.ofString "Length", v)]) : HdIs w T h way (some l) := by
  obtain ⟨es, ep, rfl⟩ := dict_form hd
  exact ⟨es, ep, _, hm, lo, ⟨t, rfl⟩, v, hl, hd⟩
theorem entries_off {w : World} {T : List (Addr × Obj)} {f : Int → Int → Option Lv} {kvs : List (Int × Value)} {rs : List (Int × List UInt8)} {n : Int} (hE : EntsIs w T kvs (mkE f 1 rs)) (h : n < 1 ∨ 1 + (rs.length : Int) ≤ n) : valueAt kvs n = none :=
  hE.off fun hm => by have := mkE_keys f rs 1 n hm; omega
theorem invL_held {w : World} {pen cells tab due I ta tb xa xb : Addr} {ys : List Value} {sd sp0 sp : Int} {t1 t2 : Tok} {i : Nat} {n' T : List (Addr × Obj)} {m : Str → Option Value} {ot od : Obj} {kvs1 kvs2 : List (Int × Value)} {rs : List (Int × List UInt8)} {way : Int} {oct : List UInt8} {tg tg' : Tok} {c c' : Nat}
    (kn : KnAll m [(Str.ofString "pen", .ref pen), (Str.ofString "table", .ref tab), (Str.ofString "due", .ref due)])
    (hp : (pen, penO cells sp sd t1 t2) ∈ n') (hc : (cells, LCg.lst ys) ∈ n') (ht : (tab, ot) ∈ n') (hd : (due, od) ∈ n') (hT : ∀ p ∈ T, p ∈ n') (ho : OwnOff T [pen, cells, tab, due, I])
    (hE1 : EntsIs w T kvs1 (mkE lOf 1 rs)) (hE2 : EntsIs w T kvs2 (mkE dueL 1 rs)) (hl : rs.length = i) (hok : RsOK rs) (hw0 : 0 ≤ way) (hw1 : way < 8) (hoc : oct.length ≤ 5) (hs : sp0 ≤ sp ∧ sp ≤ sp0 + 1 + 2 * ((i + 1 : Nat) : Int))
    (hD1 : Obj.IsDictOf (PySem.intKind PySem.Challenge.rw_nn0135_01.row.prog w) ot (stored kvs1 (1 + (i : Int)) (.ref ta))) (hD2 : Obj.IsDictOf (PySem.intKind PySem.Challenge.rw_nn0135_01.row.prog w) od (stored kvs2 (1 + (i : Int)) (.ref tb)))
    (h1 : (ta, tupObj [.int way tg, .ref xa] c) ∈ sift [pen, cells, tab, due, I] n') (h2 : (tb, tupObj [.int way tg', .ref xb] c') ∈ sift [pen, cells, tab, due, I] n')
    (hv1 : VdIs w (sift [pen, cells, tab, due, I] n') (.ref xa) (.st way (lOf way oct.length) oct)) (hv2 : VdIs w (sift [pen, cells, tab, due, I] n') (.ref xb) (.st way (dueL way oct.length) oct)) :
    Held (InvL w pen cells tab due I ys sd sp0 t2 (i + 1)) m n' := by
  have hs' : ∀ p ∈ T, p ∈ sift [pen, cells, tab, due, I] n' := fun p hp => mem_sift (hT p hp) fun b hb => ho p hp b hb
  rw [stored_absent (entries_off hE1 (.inr (by omega)))] at hD1
  rw [stored_absent (entries_off hE2 (.inr (by omega)))] at hD2
  refine ⟨_, _, ⟨sp, t1, ot, od, _, _, rs ++ [(way, oct)], sift [pen, cells, tab, due, I] n', hD1, hD2, ?_, ?_, by simp [hl], fun r hr => ?_, sift_off, hs, rfl, rfl⟩, fun p hp' => ?_, kn⟩
  · rw [mkE_snoc, hl]
    exact EntsIs.append (hE1.mono hs') (.cons h1 hv1 .nil)
  · rw [mkE_snoc, hl]
    exact EntsIs.append (hE2.mono hs') (.cons h2 hv2 .nil)
  · rcases List.mem_append.mp hr with hr | hr
    · exact hok r hr
    · rw [List.mem_singleton.mp hr]; exact ⟨hw0, hw1, hoc⟩
  · simp only [List.mem_cons] at hp'
    rcases hp' with rfl | rfl | rfl | rfl | h
    · exact hp
    · exact hc
    · exact ht
    · exact hd
    · exact sift_sub p h
section
variable {w : World} {A : Around} {E : Value → Shared → Prop} {h₀ : Heap} {env : Env} {x : Str} {body : List Stmt} {Q : Flow → Shared → Prop} {s : Shared}
theorem str_ind {pen cells tab due I : Addr} {ys : List Value} {sd sp0 sp : Int} {t1 t2 : Tok} {n : Nat} {m : Str → Option Value} {l : List (Addr × Obj)} {o1 o2 : Obj}
    (hm : KnAll m [(Str.ofString "pen", .ref pen), (Str.ofString "table", .ref tab), (Str.ofString "due", .ref due)]) (mem : ∀ p ∈ [(pen, penO cells sp sd t1 t2), (cells, LCg.lst ys), (tab, o1), (due, o2)], p ∈ l)
    (d1 : Obj.IsDictOf (PySem.intKind PySem.Challenge.rw_nn0135_01.row.prog w) o1 []) (d2 : Obj.IsDictOf (PySem.intKind PySem.Challenge.rw_nn0135_01.row.prog w) o2 []) (hs : sp0 ≤ sp ∧ sp ≤ sp0 + 1)
    (turn : ∀ i u t h tk sp t1 ot od kvs1 kvs2 rs T, i < n → Obj.IsDictOf (PySem.intKind PySem.Challenge.rw_nn0135_01.row.prog w) ot kvs1 → Obj.IsDictOf (PySem.intKind PySem.Challenge.rw_nn0135_01.row.prog w) od kvs2 →
      EntsIs w T kvs1 (mkE lOf 1 rs) → EntsIs w T kvs2 (mkE dueL 1 rs) → rs.length = i → kvs1.length = i → kvs2.length = i → RsOK rs → OwnOff T [pen, cells, tab, due, I] → sp0 ≤ sp → sp ≤ sp0 + 1 + 2 * i →
      Fr h₀ env.locals h (fun y => if y = x then some (.int (1 + (i : Int)) t) else kn [(Str.ofString "pen", .ref pen), (Str.ofString "table", .ref tab), (Str.ofString "due", .ref due)] u y) →
      News h₀ env.locals h ((I, itR (1 + ((i + 1 : Nat) : Int)) ((n : Int) - ((i + 1 : Nat) : Int))) :: (pen, penO cells sp sd t1 t2) :: (cells, LCg.lst ys) :: (tab, ot) :: (due, od) :: T) →
      ∀ (P : Flow → Shared → Prop) (E' : Value → Shared → Prop), (∀ f s₂, UnrPost h₀ env.locals { s with heap := h, toks := tk } I (itR (1 + ((i + 1 : Nat) : Int)) ((n : Int) - ((i + 1 : Nat) : Int))) (fun m' n' => Stopped (Held (InvL w pen cells tab due I ys sd sp0 t2 (i + 1)) m' n')) Q f s₂ → P f s₂) →
      wpAny (model PySem.Challenge.rw_nn0135_01.row.prog w) A (execs body env) P E' { s with heap := h, toks := tk })
    (fin : ∀ u h tk sp t1 ot od kvs1 kvs2 rs T, Obj.IsDictOf (PySem.intKind PySem.Challenge.rw_nn0135_01.row.prog w) ot kvs1 → Obj.IsDictOf (PySem.intKind PySem.Challenge.rw_nn0135_01.row.prog w) od kvs2 →
      EntsIs w T kvs1 (mkE lOf 1 rs) → EntsIs w T kvs2 (mkE dueL 1 rs) → rs.length = n → kvs1.length = n → kvs2.length = n → RsOK rs → OwnOff T [pen, cells, tab, due, I] → sp0 ≤ sp → sp ≤ sp0 + 1 + 2 * n →
      Fr h₀ env.locals h (kn [(Str.ofString "pen", .ref pen), (Str.ofString "table", .ref tab), (Str.ofString "due", .ref due)] u) →
      News h₀ env.locals h ((pen, penO cells sp sd t1 t2) :: (cells, LCg.lst ys) :: (tab, ot) :: (due, od) :: T) → Q .next { s with heap := h, toks := tk }) :
    RangeRest PySem.Challenge.rw_nn0135_01.row.prog w A E h₀ env x body Q s I 1 n n 0 m l := by
  have len : ∀ {T : List (Addr × Obj)} {f : Int → Int → Option Lv} {kvs : List (Int × Value)} {rs : List (Int × List UInt8)}, EntsIs w T kvs (mkE f 1 rs) → kvs.length = rs.length := fun {T f kvs rs} h => by
    have := congrArg List.length h.keys
    simpa [mkE_len] using this
  refine held_start (Inv := InvL w pen cells tab due I ys sd sp0 t2 0) ⟨_, _, ⟨sp, t1, o1, o2, [], [], [], [], d1, d2, .nil, .nil, rfl, (fun r hr => nomatch hr), (fun p hp => nomatch hp), ⟨hs.1, by omega⟩, rfl, rfl⟩, mem, hm⟩ (range_ind (InvL w pen cells tab due I ys sd sp0 t2) ?_ ?_ _ _ (Nat.zero_add _))
  · rintro i _ _ u t h tk hin ⟨sp, t1, ot, od, kvs1, kvs2, rs, T, a1, a2, a3, a4, a5, a6, a7, ⟨a8, a9⟩, rfl, rfl⟩ F N
    exact turn i u t h tk sp t1 ot od kvs1 kvs2 rs T hin a1 a2 a3 a4 a5 ((len a3).trans a5) ((len a4).trans a5) a6 a7 a8 a9 F N
  · rintro _ _ u h tk ⟨sp, t1, ot, od, kvs1, kvs2, rs, T, a1, a2, a3, a4, a5, a6, a7, ⟨a8, a9⟩, rfl, rfl⟩ F N
    exact fin u h tk sp t1 ot od kvs1 kvs2 rs T a1 a2 a3 a4 a5 ((len a3).trans a5) ((len a4).trans a5) a6 a7 a8 a9 F N
end
section
variable {way size : Int} {x : Bool}
theorem rl1 (h : way = 0) : (way == 0) = (way == 0 || (way == 4 && size == 2) || (way == 7 && size == 1)) := by simp [h]
theorem rl2 (ha : way ≠ 0) (hb : way = 4) (hc : size = 2) : (size == 2) = (way == 0 || (way == 4 && size == 2) || (way == 7 && size == 1)) := by subst hb; subst hc; decide
theorem rl3 (hb : way = 4) (hd : way = 7) : x = (way == 0 || (way == 4 && size == 2) || (way == 7 && size == 1)) := by omega
theorem rl4 (ha : way ≠ 0) (hb : way = 4) (hc : size ≠ 2) : (way == 7) = (way == 0 || (way == 4 && size == 2) || (way == 7 && size == 1)) := by
  subst hb; have e : (size == 2) = false := by simpa using hc
  rw [e]; rfl
theorem rl5 (ha : way ≠ 0) (hb : way ≠ 4) (hd : way = 7) : (size == 1) = (way == 0 || (way == 4 && size == 2) || (way == 7 && size == 1)) := by subst hd; cases h : (size == 1) <;> rfl
theorem rl6 (ha : way ≠ 0) (hb : way ≠ 4) (hd : way ≠ 7) : (way == 7) = (way == 0 || (way == 4 && size == 2) || (way == 7 && size == 1)) := by
  have e1 : (way == 0) = false := by simpa using ha
  have e2 : (way == 4) = false := by simpa using hb
  have e3 : (way == 7) = false := by simpa using hd
  rw [e1, e2, e3]; rfl
theorem rl7 (h1 : way = 4) (h2 : way ≠ 4) : x = (way == 0 || (way == 4 && size == 2) || (way == 7 && size == 1)) := absurd h1 h2
end
theorem right_leaf {way size : Int} {b : Bool} {s : Shared} {tk : Nat} (h : b = (way == 0 || (way == 4 && size == 2) || (way == 7 && size == 1))) : RightPost way size s (.bool b) { s with toks := tk } := ⟨tk, rfl, congrArg Value.bool h⟩
theorem rl8 {way size : Int} {x : Bool} (h1 : way = 4) (h2 : way = 2) : x = (way == 0 || (way == 4 && size == 2) || (way == 7 && size == 1)) := by omega
section
variable {w : World} {T : List (Addr × Obj)} {way : Int} {oct : List UInt8} {nm r9 r8 r7 dn d9 d8 d7 xa da ha : Addr} {x y : Value} {o : Obj} {jn tn a1 a2 a3 a4 b1 b2 b3 b4 c1 c2 c3 c4 j1 j2 tb t : Tok}
theorem vdA_nn (hx : MenuNN way oct.length (oct.length + 1) nm r9 r8 r7 x)
    (n1 : (nm, instObj 171 dn) ∈ T) (n2 : (dn, strD w (Str.ofString "x") jn tn) ∈ T) (n3 : @LT.lt Nat _ dn nm) (m1 : (r9, instObj 242 d9) ∈ T) (m2 : (d9, refD w 9 0 a1 a2 a3 a4) ∈ T) (m3 : @LT.lt Nat _ d9 r9)
    (k1 : (r8, instObj 242 d8) ∈ T) (k2 : (d8, refD w 8 0 b1 b2 b3 b4) ∈ T) (k3 : @LT.lt Nat _ d8 r8) (l1 : (r7, instObj 242 d7) ∈ T) (l2 : (d7, refD w 7 0 c1 c2 c3 c4) ∈ T) (l3 : @LT.lt Nat _ d7 r7)
    (s1 : (xa, instObj 214 da) ∈ T) (s2 : (da, stmD w ha oct j1 j2 tb) ∈ T) (s3 : @LT.lt Nat _ da xa) (s4 : (ha, o) ∈ T) (lo : (ha == sysModules) = false) (hd : Obj.IsDictOf (PySem.strKind PySem.Challenge.rw_nn0135_01.row.prog w) o [(Str.ofString "K", .int way t), (Str.ofString "Length", x)]) :
    VdIs w T (.ref xa) (.st way (lOf way oct.length) oct) := by
  obtain ⟨l, hl, hv⟩ := menu_lv hx n1 n2 n3 m1 m2 m3 k1 k2 k3 l1 l2 l3
  rw [hl]
  exact ⟨xa, da, ha, j1, j2, tb, rfl, s3, s1, s2, hd_mk2 s4 lo hv hd⟩
theorem vdB_nn (hx : MenuNN way oct.length (oct.length + 1) nm r9 r8 r7 x) (hy : DueIs (rightB way oct.length) x oct.length y)
    (n1 : (nm, instObj 171 dn) ∈ T) (n2 : (dn, strD w (Str.ofString "x") jn tn) ∈ T) (n3 : @LT.lt Nat _ dn nm) (m1 : (r9, instObj 242 d9) ∈ T) (m2 : (d9, refD w 9 0 a1 a2 a3 a4) ∈ T) (m3 : @LT.lt Nat _ d9 r9)
    (k1 : (r8, instObj 242 d8) ∈ T) (k2 : (d8, refD w 8 0 b1 b2 b3 b4) ∈ T) (k3 : @LT.lt Nat _ d8 r8) (l1 : (r7, instObj 242 d7) ∈ T) (l2 : (d7, refD w 7 0 c1 c2 c3 c4) ∈ T) (l3 : @LT.lt Nat _ d7 r7)
    (s1 : (xa, instObj 214 da) ∈ T) (s2 : (da, stmD w ha oct j1 j2 tb) ∈ T) (s3 : @LT.lt Nat _ da xa) (s4 : (ha, o) ∈ T) (lo : (ha == sysModules) = false) (hd : Obj.IsDictOf (PySem.strKind PySem.Challenge.rw_nn0135_01.row.prog w) o [(Str.ofString "K", .int way t), (Str.ofString "Length", y)]) :
    VdIs w T (.ref xa) (.st way (dueL way oct.length) oct) := by
  obtain ⟨l, hl, hv⟩ := menu_lv hx n1 n2 n3 m1 m2 m3 k1 k2 k3 l1 l2 l3
  rcases hy with ⟨hb, rfl⟩ | ⟨hb, ty, rfl⟩
  · rw [show dueL way oct.length = some l by simp only [dueL, hb, hl, if_true]]
    exact ⟨xa, da, ha, j1, j2, tb, rfl, s3, s1, s2, hd_mk2 s4 lo hv hd⟩
  · rw [show dueL way oct.length = some (.int oct.length) by simp only [dueL, hb, Bool.false_eq_true, if_false]]
    exact ⟨xa, da, ha, j1, j2, tb, rfl, s3, s1, s2, hd_mk2 (l := .int oct.length) s4 lo ⟨ty, rfl⟩ hd⟩
theorem vdA_no (hw : way = 2) (s1 : (xa, instObj 214 da) ∈ T) (s2 : (da, stmD w ha oct j1 j2 tb) ∈ T) (s3 : @LT.lt Nat _ da xa) (s4 : (ha, o) ∈ T) (lo : (ha == sysModules) = false) (hd : Obj.IsDictOf (PySem.strKind PySem.Challenge.rw_nn0135_01.row.prog w) o [(Str.ofString "K", .int way t)]) :
    VdIs w T (.ref xa) (.st way (lOf way oct.length) oct) := by
  rw [show lOf way oct.length = none by rw [hw]; rfl]
  exact ⟨xa, da, ha, j1, j2, tb, rfl, s3, s1, s2, hd_mk1 s4 lo hd⟩
theorem vdB_no (hw : way = 2) (hy : DueIs (rightB way oct.length) .none oct.length y) (s1 : (xa, instObj 214 da) ∈ T) (s2 : (da, stmD w ha oct j1 j2 tb) ∈ T) (s3 : @LT.lt Nat _ da xa) (s4 : (ha, o) ∈ T) (lo : (ha == sysModules) = false) (hd : Obj.IsDictOf (PySem.strKind PySem.Challenge.rw_nn0135_01.row.prog w) o [(Str.ofString "K", .int way t), (Str.ofString "Length", y)]) :
    VdIs w T (.ref xa) (.st way (dueL way oct.length) oct) := by
  have hb : rightB way oct.length = false := by rw [hw]; rfl
  rw [hb] at hy
  rcases hy with ⟨h, _⟩ | ⟨_, ty, rfl⟩
  · cases h
  · rw [show dueL way oct.length = some (.int oct.length) by simp only [dueL, hb, Bool.false_eq_true, if_false]]
    exact ⟨xa, da, ha, j1, j2, tb, rfl, s3, s1, s2, hd_mk2 (l := .int oct.length) s4 lo ⟨ty, rfl⟩ hd⟩
theorem vdA_x (hx : MenuX way oct.length (oct.length + 1) nm r9 r8 r7 x)
    (n1 : (nm, instObj 171 dn) ∈ T) (n2 : (dn, strD w (Str.ofString "x") jn tn) ∈ T) (n3 : @LT.lt Nat _ dn nm) (m1 : (r9, instObj 242 d9) ∈ T) (m2 : (d9, refD w 9 0 a1 a2 a3 a4) ∈ T) (m3 : @LT.lt Nat _ d9 r9)
    (k1 : (r8, instObj 242 d8) ∈ T) (k2 : (d8, refD w 8 0 b1 b2 b3 b4) ∈ T) (k3 : @LT.lt Nat _ d8 r8) (l1 : (r7, instObj 242 d7) ∈ T) (l2 : (d7, refD w 7 0 c1 c2 c3 c4) ∈ T) (l3 : @LT.lt Nat _ d7 r7)
    (s1 : (xa, instObj 214 da) ∈ T) (s2 : (da, stmD w ha oct j1 j2 tb) ∈ T) (s3 : @LT.lt Nat _ da xa) (s4 : (ha, o) ∈ T) (lo : (ha == sysModules) = false) (hd : Obj.IsDictOf (PySem.strKind PySem.Challenge.rw_nn0135_01.row.prog w) o (hdK way t x)) :
    VdIs w T (.ref xa) (.st way (lOf way oct.length) oct) := by
  rcases hx with ⟨hk, rfl⟩ | hx
  · exact vdA_no hk s1 s2 s3 s4 lo hd
  · rw [hdK_nn hx] at hd
    exact vdA_nn hx n1 n2 n3 m1 m2 m3 k1 k2 k3 l1 l2 l3 s1 s2 s3 s4 lo hd
theorem vdB_x (hx : MenuX way oct.length (oct.length + 1) nm r9 r8 r7 x) (hy : DueIs (rightB way oct.length) x oct.length y)
    (n1 : (nm, instObj 171 dn) ∈ T) (n2 : (dn, strD w (Str.ofString "x") jn tn) ∈ T) (n3 : @LT.lt Nat _ dn nm) (m1 : (r9, instObj 242 d9) ∈ T) (m2 : (d9, refD w 9 0 a1 a2 a3 a4) ∈ T) (m3 : @LT.lt Nat _ d9 r9)
    (k1 : (r8, instObj 242 d8) ∈ T) (k2 : (d8, refD w 8 0 b1 b2 b3 b4) ∈ T) (k3 : @LT.lt Nat _ d8 r8) (l1 : (r7, instObj 242 d7) ∈ T) (l2 : (d7, refD w 7 0 c1 c2 c3 c4) ∈ T) (l3 : @LT.lt Nat _ d7 r7)
    (s1 : (xa, instObj 214 da) ∈ T) (s2 : (da, stmD w ha oct j1 j2 tb) ∈ T) (s3 : @LT.lt Nat _ da xa) (s4 : (ha, o) ∈ T) (lo : (ha == sysModules) = false) (hd : Obj.IsDictOf (PySem.strKind PySem.Challenge.rw_nn0135_01.row.prog w) o [(Str.ofString "K", .int way t), (Str.ofString "Length", y)]) :
    VdIs w T (.ref xa) (.st way (dueL way oct.length) oct) := by
  rcases hx with ⟨hk, rfl⟩ | hx
  · exact vdB_no hk hy s1 s2 s3 s4 lo hd
  · exact vdB_nn hx hy n1 n2 n3 m1 m2 m3 k1 k2 k3 l1 l2 l3 s1 s2 s3 s4 lo hd
end

end
section
set_option maxRecDepth 100000
set_option linter.unusedVariables false
open PySem PySem.W PySem.Calls PyProof.Rows PySem.SeqAt
def endE (k : Int) : List (Int × Int × Vd) := [(9, 0, .two), (8, 0, .ltwo), (20 + k, 0, .dk (Str.ofString "Length") 77)]
theorem esAt_app {A B : List (Int × Int × Vd)} {n : Int} (h : n ∉ A.map (·.1)) : esAt (A ++ B) n = esAt B n := by
  have e : A.find? (fun e => e.1 = n) = none := by
    rw [List.find?_eq_none]
    intro x hx q
    simp at q
    exact h (List.mem_map.mpr ⟨x, hx, q⟩)
  simp [esAt, List.find?_append, e]
section
variable {rs : List (Int × List UInt8)} {k : Int}
theorem eF9 (hl : rs.length ≤ 4) : esAt (mkE lOf 1 rs ++ endE k) 9 = some (0, .two) := by
  rw [esAt_app (fun h => by have := mkE_keys lOf rs 1 9 h; omega)]; rfl
theorem eF8 (hl : rs.length ≤ 4) : esAt (mkE lOf 1 rs ++ endE k) 8 = some (0, .ltwo) := by
  rw [esAt_app (fun h => by have := mkE_keys lOf rs 1 8 h; omega)]; rfl
theorem eF7 (hl : rs.length ≤ 4) (hk : 0 ≤ k) : 7 ∉ (mkE lOf 1 rs ++ endE k).map (·.1) := fun h => by
  rw [List.map_append] at h
  rcases List.mem_append.mp h with h | h
  · have := mkE_keys lOf rs 1 7 h; omega
  · simp [endE] at h; omega
theorem mapE {Es : List (Int × Int × Vd)} (e9 : esAt Es 9 = some (0, .two)) (e8 : esAt Es 8 = some (0, .ltwo)) (e7 : 7 ∉ Es.map (·.1)) : ∀ (rs : List (Int × List UInt8)) (j : Int), RsOK rs → (mkE lOf j rs).map (mendE Es) = mkE dueL j rs
  | [], _, _ => rfl
  | r :: rs, j, h => by
    have hr := h r (List.mem_cons_self)
    simp only [mkE, List.map_cons, mapE e9 e8 e7 rs (j + 1) fun q hq => h q (List.mem_cons_of_mem _ hq), mendE]
    rw [mend_due e9 e8 e7 hr.1 hr.2.1]
theorem mapF (hl : rs.length ≤ 4) (hk : 0 ≤ k) (hr : RsOK rs) : (mkE lOf 1 rs ++ endE k).map (mendE (mkE lOf 1 rs ++ endE k)) = mkE dueL 1 rs ++ endE k := by
  rw [List.map_append, mapE (eF9 hl) (eF8 hl) (eF7 hl hk) rs 1 hr]
  rfl
theorem okF (hl : rs.length ≤ 4) (hk : 0 ≤ k) (hr : RsOK rs) : ∀ e ∈ mkE lOf 1 rs ++ endE k, VdOK (mkE lOf 1 rs ++ endE k) e.2.2 := by
  have go : ∀ {Es : List (Int × Int × Vd)}, esAt Es 9 = some (0, .two) → esAt Es 8 = some (0, .ltwo) → 7 ∉ Es.map (·.1) → ∀ (rs : List (Int × List UInt8)) (j : Int), RsOK rs → ∀ e ∈ mkE lOf j rs, VdOK Es e.2.2 := by
    intro Es e9 e8 e7 rs
    induction rs with
    | nil => intro j _ e he; simp [mkE] at he
    | cons r rs ih =>
      intro j h e he
      have hr := h r (List.mem_cons_self)
      simp only [mkE, List.mem_cons] at he
      rcases he with rfl | he
      · exact ⟨refOK_l e9 e8 e7 hr.1 hr.2.1, by have := hr.2.2; show r.2.length ≤ 10; omega⟩
      · exact ih (j + 1) (fun q hq => h q (List.mem_cons_of_mem _ hq)) e he
  intro e he
  rcases List.mem_append.mp he with he | he
  · exact go (eF9 hl) (eF8 hl) (eF7 hl hk) rs 1 hr e he
  · simp only [endE, List.mem_cons, List.not_mem_nil, or_false] at he
    rcases he with rfl | rfl | rfl <;> exact trivial
theorem lenF (f : Int → Int → Option Lv) (hl : rs.length ≤ 4) : (mkE f 1 rs ++ endE k).length ≤ 10 := by
  rw [List.length_append, mkE_len]; show rs.length + 3 ≤ 10; omega
end
theorem ents_end {w : World} {T : List (Addr × Obj)} {f : Int → Int → Option Lv} {kvs : List (Int × Value)} {rs : List (Int × List UInt8)} {k : Int} {a1 a2 a3 l dc : Addr} {t1 t2 t3 u1 u2 u3 : Tok} {c1 c2 c3 cl : Nat} {od : Obj} {o : Obj}
    (hE : EntsIs w T kvs (mkE f 1 rs)) (hl : rs.length ≤ 4) (hk : 0 ≤ k) (hd : Obj.IsDictOf (PySem.intKind PySem.Challenge.rw_nn0135_01.row.prog w) o (stored (stored (stored kvs 9 (.ref a1)) 8 (.ref a2)) (20 + k) (.ref a3)))
    (m1 : (a1, tupObj [.int 0 t1, .int 2 u1] c1) ∈ T) (m2 : (a2, tupObj [.int 0 t2, .ref l] c2) ∈ T) (m3 : (a3, tupObj [.int 0 t3, .ref dc] c3) ∈ T) (ml : (l, listOf #[.int 2 u2] cl) ∈ T) (md : (dc, od) ∈ T) (lo : (dc == sysModules) = false)
    (hdd : Obj.IsDictOf (PySem.strKind PySem.Challenge.rw_nn0135_01.row.prog w) od [(Str.ofString "Length", .int 77 u3)]) :
    ∃ kvs', Obj.IsDictOf (PySem.intKind PySem.Challenge.rw_nn0135_01.row.prog w) o kvs' ∧ EntsIs w T kvs' (mkE f 1 rs ++ endE k) := by
  obtain ⟨es, ep, rfl⟩ := dict_form hdd
  have key : ∀ q : Int, 1 + (rs.length : Int) ≤ q → q ∉ kvs.map (·.1) := fun q hq h => by
    rw [hE.keys] at h
    have := mkE_keys f rs 1 q h
    omega
  have v1 : valueAt kvs 9 = none := valueAt_none_of_not_mem (key 9 (by omega))
  have v2 : ∀ x, valueAt (kvs ++ [(9, x)]) 8 = none := fun x => valueAt_none_of_not_mem (fun h => by
    rw [List.map_append] at h
    rcases List.mem_append.mp h with h | h
    · exact key 8 (by omega) h
    · simp at h)
  have v3 : ∀ x y, valueAt (kvs ++ [(9, x)] ++ [(8, y)]) (20 + k) = none := fun x y => valueAt_none_of_not_mem (fun h => by
    rw [List.map_append, List.map_append] at h
    rcases List.mem_append.mp h with h | h
    · rcases List.mem_append.mp h with h | h
      · exact key _ (by omega) h
      · simp at h; omega
    · simp at h; omega)
  rw [stored_absent v1, stored_absent (v2 _), stored_absent (v3 _ _)] at hd
  refine ⟨_, hd, ?_⟩
  rw [List.append_assoc, List.append_assoc]
  exact EntsIs.append hE (.cons m1 ⟨_, rfl⟩ (.cons m2 ⟨l, u2, cl, rfl, ml⟩ (.cons m3 ⟨dc, es, ep, _, rfl, md, lo, ⟨_, rfl⟩, hdd⟩ .nil)))
theorem vd_root {w : World} {tr : Addr} {otr : Obj} {t : Tok} (lo : (tr == sysModules) = false) (hd : Obj.IsDictOf (PySem.strKind PySem.Challenge.rw_nn0135_01.row.prog w) otr [(Str.ofString "Root", .int 1 t)]) : VdIs w [(tr, otr)] (.ref tr) (.dk (Str.ofString "Root") 1) := by
  obtain ⟨es, ep, rfl⟩ := dict_form hd
  exact ⟨tr, es, ep, _, rfl, List.mem_cons_self, lo, ⟨_, rfl⟩, hd⟩
theorem told_sh_K2 {w : World} {A₀ A : Around} {s : Shared} {base h₀ : Heap} {outer : List Env} {p : Program} {loose : List Str} {mean : ExcName → Option Value} {mg mb : Str → Option Value}
    {L : Addr} {m : Str → Option Value} {env : Env} {news T : List (Addr × Obj)} {f : List (Addr × Obj) → List (Addr × Obj)} {Q : Value → Shared → Prop} {E : Value → Shared → Prop} {sh dsh tab tr : Addr} {ot otr : Obj} {j1 j2 t : Tok} {kvs : List (Int × Value)} {Es : List (Int × Int × Vd)}
    (B : Below A₀ base outer h₀) (X : (pre.heap_1 w.params).In base) (T₀ : Top p loose mean mg mb base) (F : Fr h₀ L s.heap m) (N : News h₀ L s.heap news) (hF : A.frames = some (env :: outer)) (hf : env.frame = some L) (hke : env.scope.kind = .function)
    (m1 : (sh, instObj 351 dsh) ∈ news) (m2 : (dsh, shD w tab tr j1 j2) ∈ news) (m3 : (tab, ot) ∈ news) (m4 : (tr, otr) ∈ news) (lo : (tab == sysModules) = false) (lor : (tr == sysModules) = false)
    (hD : Obj.IsDictOf (PySem.intKind PySem.Challenge.rw_nn0135_01.row.prog w) ot kvs) (hE : EntsIs w T kvs Es) (hlE : Es.length ≤ 10) (hdr : Obj.IsDictOf (PySem.strKind PySem.Challenge.rw_nn0135_01.row.prog w) otr [(Str.ofString "Root", .int 1 t)])
    (hs : ∀ p ∈ T, p ∈ news) (tl : TlF news f) (hA : A.depth ≤ 520) (hu : A.units ≤ 120) (hH : A.handled = none)
    (h : ∀ a ns T2 h' tk', Fr h₀ L h' m → News h₀ L h' (f T2) → OffT T2 news → ns.Perm (Es.map (·.1)) → ns.Pairwise (· ≤ ·) → RdL T2 8 (.ref a) (dtSh Es ns (.dk (Str.ofString "Root") 1)) → Q (.ref a) {s with heap := h', toks := tk'}) :
    wpAny (model PySem.Challenge.rw_nn0135_01.row.prog w) A (call (.ref 348) [.ref sh]) Q E s := by
  have hk : kvs.length ≤ 20 := by
    have := congrArg List.length hE.keys
    simp only [List.length_map] at this
    omega
  refine told_sh_K (dsh := dsh) (j1 := j1) (j2 := j2) (T := [(tr, otr)] ++ T) B X T₀ F N hF hf hke hD lo hk (hE.mono fun p hp => List.mem_append_right _ hp) (VdIs.mono (fun p hp => List.mem_append_left _ hp) (vd_root lor hdr)) (fun p hp => ?_) tl hA hu hH fun v ns T2 h' tk' F' N' o' hP => ?_
  · simp only [List.mem_cons, List.mem_append, List.singleton_append] at hp
    rcases hp with rfl | rfl | rfl | rfl | hp
    · exact m1
    · exact m2
    · exact m3
    · exact m4
    · exact hs p hp
  · obtain ⟨p1, p2, ⟨a, rfl⟩, r⟩ := hP
    exact h a ns T2 h' tk' F' N' o' p1 p2 r
theorem cmp_sh {w : World} {A : Around} {s : Shared} {E : Value → Shared → Prop} {Q : Value → Shared → Prop} {g : Heap} {L a b : Addr} {news Ta Tb : List (Addr × Obj)} {E1 E2 : List (Int × Int × Vd)} {n1 n2 : List Int} {V : Vd}
    (N : News g L s.heap news) (x : RdL Ta 8 (.ref a) (dtSh E1 n1 V)) (y : RdL Tb 8 (.ref b) (dtSh E2 n2 V)) (hE : E1 = E2) (p1 : n1.Perm (E1.map (·.1))) (s1 : n1.Pairwise (· ≤ ·)) (p2 : n2.Perm (E2.map (·.1))) (s2 : n2.Pairwise (· ≤ ·))
    (ha : ∀ p ∈ Ta, p ∈ news) (hb : ∀ p ∈ Tb, p ∈ news) (hu : A.units ≤ 200) (h : Q (.bool true) s) : wpAny (model PySem.Challenge.rw_nn0135_01.row.prog w) A (compareOp .Eq (.ref a) (.ref b)) Q E s := by
  subst hE
  have e : n1 = n2 := sorted_eq (p1.trans p2.symm) s1 s2
  subst e
  exact cmp_ofEq (rc_data (n := 7) (x _ fun p hp => (N p (ha p hp)).1) (y _ fun p hp => (N p (hb p hp)).1) (by show A.units + 8 < 9900; omega) _ w E Q h)
theorem compact {g h : Heap} {L : Addr} {led : List (Addr × Obj)} {as : List Addr} (N : News g L h led) {p q : Addr × Obj} (hp : p ∈ led) (hq : q ∈ led) : News g L h (p :: q :: sift as led) := fun x hx => by
  simp only [List.mem_cons] at hx
  rcases hx with rfl | rfl | hx
  · exact N _ hp
  · exact N _ hq
  · exact N _ (sift_sub _ hx)
theorem wtl_K2 {w : World} {A₀ A : Around} {s : Shared} {base h₀ : Heap} {outer : List Env} {p : Program} {loose : List Str} {mean : ExcName → Option Value} {mg mb : Str → Option Value}
    {L : Addr} {m : Str → Option Value} {env : Env} {news T : List (Addr × Obj)} {f : List (Addr × Obj) → List (Addr × Obj)} {Q : Value → Shared → Prop} {E : Value → Shared → Prop} {sh dsh tab tr : Addr} {ot : Obj} {j1 j2 : Tok} {kvs : List (Int × Value)} {Es : List (Int × Int × Vd)}
    (B : Below A₀ base outer h₀) (X : (pre.heap_1 w.params).In base) (T₀ : Top p loose mean mg mb base) (F : Fr h₀ L s.heap m) (N : News h₀ L s.heap news) (hF : A.frames = some (env :: outer)) (hf : env.frame = some L) (hke : env.scope.kind = .function)
    (m1 : (sh, instObj 351 dsh) ∈ news) (m2 : (dsh, shD w tab tr j1 j2) ∈ news) (m3 : (tab, ot) ∈ news)
    (hD : Obj.IsDictOf (PySem.intKind PySem.Challenge.rw_nn0135_01.row.prog w) ot kvs) (lo : (tab == sysModules) = false) (hE : EntsIs w T kvs Es) (hok : ∀ e ∈ Es, VdOK Es e.2.2) (hlE : Es.length ≤ 10)
    (hs : ∀ p ∈ T, p ∈ news) (tl : TlF news f) (hA : A.depth ≤ 500) (hu : A.units ≤ 100) (hH : A.handled = none)
    (h : ∀ v (_ : Unit) T2 h' tk', Fr h₀ L h' m → News h₀ L h' (f T2) → OffT T2 news → (∃ sh2 dsh2 tb2 ot2 j1' j2' kvs2, v = .ref sh2 ∧ (sh2, instObj 351 dsh2) ∈ T2 ∧ (dsh2, shD w tb2 tr j1' j2') ∈ T2 ∧ (tb2, ot2) ∈ T2 ∧ (tb2 == sysModules) = false ∧ Obj.IsDictOf (PySem.intKind PySem.Challenge.rw_nn0135_01.row.prog w) ot2 kvs2 ∧ EntsIs w (T2 ++ T) kvs2 (Es.map (mendE Es))) → Q v {s with heap := h', toks := tk'}) :
    wpAny (model PySem.Challenge.rw_nn0135_01.row.prog w) A (call (.ref 497) [.ref sh]) Q E s := by
  have hk : kvs.length ≤ 10 := by
    have := congrArg List.length hE.keys
    simp only [List.length_map] at this
    omega
  refine wtl_K (dsh := dsh) (j1 := j1) (j2 := j2) (T := T) B X T₀ F N hF hf hke hD lo hE hok hk (fun p hp => ?_) tl hA hu hH h
  simp only [List.mem_cons] at hp
  rcases hp with rfl | rfl | rfl | hp
  · exact m1
  · exact m2
  · exact m3
  · exact hs p hp
theorem str_mid {w : World} {g h : Heap} {L pen cells tab due I a1 a2 a3 b1 b2 b3 l dc : Addr} {ys : List Value} {sd sp k : Int} {q1 q2 t1 t2 t3 u1 u2 u3 t1' t2' t3' u1' : Tok} {c1 c2 c3 d1 d2 d3 cl : Nat} {led T : List (Addr × Obj)} {ot od odc : Obj} {kvs1 kvs2 : List (Int × Value)} {rs : List (Int × List UInt8)}
    (N : News g L h led) (hT : ∀ p ∈ T, p ∈ led) (ho : OwnOff T [pen, cells, tab, due, I]) (hE1 : EntsIs w T kvs1 (mkE lOf 1 rs)) (hE2 : EntsIs w T kvs2 (mkE dueL 1 rs)) (hl : rs.length ≤ 4) (hp : (pen, penO cells sp sd q1 q2) ∈ led) (hc : (cells, LCg.lst ys) ∈ led)
    (hd1 : Obj.IsDictOf (PySem.intKind PySem.Challenge.rw_nn0135_01.row.prog w) ot (stored (stored (stored kvs1 9 (.ref a1)) 8 (.ref a2)) (20 + k) (.ref a3)))
    (hd2 : Obj.IsDictOf (PySem.intKind PySem.Challenge.rw_nn0135_01.row.prog w) od (stored (stored (stored kvs2 9 (.ref b1)) 8 (.ref b2)) (20 + k) (.ref b3))) (hk : 0 ≤ k)
    (mt : (tab, ot) ∈ sift [pen, cells] led) (md : (due, od) ∈ sift [pen, cells] led)
    (m1 : (a1, tupObj [.int 0 t1, .int 2 u1] c1) ∈ sift [pen, cells] led) (m2 : (a2, tupObj [.int 0 t2, .ref l] c2) ∈ sift [pen, cells] led) (m3 : (a3, tupObj [.int 0 t3, .ref dc] c3) ∈ sift [pen, cells] led)
    (n1 : (b1, tupObj [.int 0 t1', .int 2 u1'] d1) ∈ sift [pen, cells] led) (n2 : (b2, tupObj [.int 0 t2', .ref l] d2) ∈ sift [pen, cells] led) (n3 : (b3, tupObj [.int 0 t3', .ref dc] d3) ∈ sift [pen, cells] led)
    (ml : (l, listOf #[.int 2 u2] cl) ∈ sift [pen, cells] led) (mdc : (dc, odc) ∈ sift [pen, cells] led) (lo : (dc == sysModules) = false) (hdd : Obj.IsDictOf (PySem.strKind PySem.Challenge.rw_nn0135_01.row.prog w) odc [(Str.ofString "Length", .int 77 u3)]) :
    ∃ T9 kF kD, News g L h ((pen, penO cells sp sd q1 q2) :: (cells, LCg.lst ys) :: T9) ∧ (tab, ot) ∈ T9 ∧ (due, od) ∈ T9 ∧ Obj.IsDictOf (PySem.intKind PySem.Challenge.rw_nn0135_01.row.prog w) ot kF ∧ Obj.IsDictOf (PySem.intKind PySem.Challenge.rw_nn0135_01.row.prog w) od kD ∧
      EntsIs w T9 kF (mkE lOf 1 rs ++ endE k) ∧ EntsIs w T9 kD (mkE dueL 1 rs ++ endE k) ∧ OwnOff T9 [pen, cells] := by
  have hs : ∀ p ∈ T, p ∈ sift [pen, cells] led := fun p hp' => mem_sift (hT p hp') fun b hb => ho p hp' b (by
    simp only [List.mem_cons, List.not_mem_nil, or_false] at hb ⊢
    rcases hb with rfl | rfl <;> simp)
  obtain ⟨kF, x1, x2⟩ := ents_end (hE1.mono hs) hl hk hd1 m1 m2 m3 ml mdc lo hdd
  obtain ⟨kD, y1, y2⟩ := ents_end (hE2.mono hs) hl hk hd2 n1 n2 n3 ml mdc lo hdd
  exact ⟨sift [pen, cells] led, kF, kD, compact N hp hc, mt, md, x1, y1, x2, y2, sift_off⟩
section
variable {w : World} {T : List (Addr × Obj)} {f : Int → Int → Option Lv} {kvs : List (Int × Value)} {rs : List (Int × List UInt8)} {k : Int}
theorem lenOf (_e : EntsIs w T kvs (mkE f 1 rs ++ endE k)) (hl : rs.length ≤ 4) : (mkE f 1 rs ++ endE k).length ≤ 10 := lenF f hl
theorem okOf (_e : EntsIs w T kvs (mkE lOf 1 rs ++ endE k)) (hl : rs.length ≤ 4) (hr : RsOK rs) (hk : 0 ≤ k) : ∀ e ∈ mkE lOf 1 rs ++ endE k, VdOK (mkE lOf 1 rs ++ endE k) e.2.2 := okF hl hk hr
theorem mapOf (_e : EntsIs w T kvs (mkE lOf 1 rs ++ endE k)) (hl : rs.length ≤ 4) (hr : RsOK rs) (hk : 0 ≤ k) : (mkE lOf 1 rs ++ endE k).map (mendE (mkE lOf 1 rs ++ endE k)) = mkE dueL 1 rs ++ endE k := mapF hl hk hr
end
def Mid : Prop := True
theorem mid_ : Mid := True.intro

end
section
set_option maxRecDepth 100000
set_option maxHeartbeats 3000000
set_option linter.unusedVariables false
theorem words_Str_0 : True := by
  k_with_none
  trivial
open PySem PySem.W PySem.Calls PyProof.Rows
theorem words_Str_1 : True := by
  k_with "k_room" => ((try simp only [depth_under_make, depth_under_kw, depth_in1, depth_deeper, depth_mark]); (try dsimp only); (show (_ : Nat) < 1000); first | (refine Nat.lt_of_le_of_lt (by with_reducible assumption) ?_; decide) | (refine Nat.lt_of_le_of_lt (Nat.add_le_add_right (by with_reducible assumption) 1) ?_; decide) | (refine Nat.lt_of_le_of_lt (Nat.add_le_add_right (Nat.add_le_add_right (by with_reducible assumption) 1) 1) ?_; decide) | omega)
  k_with "LeaveC" => ((refine' leaveC_ ?k1 ?k2 ?_; (case k1 => k_asm); (case k2 => k_asm); intro _))
  k_with "my num" => ((try simp only [Around.deeper_units, depth_deeper, depth_under_make, depth_under_kw, depth_in1, depth_mark]); (try dsimp only); first | (refine Nat.le_trans (by with_reducible assumption) ?_; decide) | (refine Nat.le_trans (Nat.add_le_add_right (by with_reducible assumption) 1) ?_; decide) | (refine Nat.le_trans (Nat.add_le_add_right (Nat.add_le_add_right (by with_reducible assumption) 1) 1) ?_; decide) | omega)
  k_with "k_in" => (first | with_reducible assumption | ((refine' Frag.In.keeps ?kiX (Fr.keep ?kiF)); (case kiF => with_reducible assumption); (case kiX => with_reducible assumption)))
  k_with "my mem" => (first | exact List.forall_mem_nil _ | (refine' List.forall_mem_cons.mpr ⟨?ma, ?mb⟩; (case ma => k_mem); (case mb => walk_at "my mem")) | walk_at "my sub")
  k_with "my tail" => (first | with_reducible assumption | (refine List.mem_cons_of_mem _ ?_; walk_at "my tail") | (refine List.mem_append_right _ ?_; walk_at "my tail") | (refine List.mem_append_left _ ?_; walk_at "my tail"))
  k_with "my sub" => ((intro _ _; walk_at "my tail"))
  k_with "my tl" => (first | (refine' TlF.cons ?tlx; (case tlx => walk_at "my tl")) | exact TlF.here)
  k_with "my rm" => (first | (with_reducible refine' Rm.dI ?rmx; (case rmx => walk_at "my rm")) | (with_reducible refine' Rm.dC ?rmx; (case rmx => walk_at "my rm")) | (with_reducible refine' Rm.dD ?rmx; (case rmx => walk_at "my rm")) | (refine' Rm.keep ?rmx; (case rmx => walk_at "my rm")) | exact Rm.nil)
  k_with "my off" => (first | exact True.intro | (refine And.intro ⟨by k_ne, by k_ne, by k_ne⟩ ?_; walk_at "my off") | (refine off3_app (offT_3 (by with_reducible assumption) (by k_mem) (by k_mem) (by k_mem)) ?_; walk_at "my off") | exact LCg.Off3.of (fun p hp => LCg.Off3.mem (by with_reducible assumption) p (by walk_at "my tail")) | fail "my off")
  k_with "k_mem" => (first | with_reducible_and_instances assumption | (refine List.mem_append_right _ ?_; k_mem) | (refine List.mem_append_left _ ?_; k_mem) | fail "k_mem")
  k_with "k_all" => (first | kst_allNe | exact OffT.ne (by with_reducible assumption) (by k_mem) | fail "k_all")
  k_with "my sp" => (first | exact spA (by with_reducible assumption) | exact spB (by with_reducible assumption) | exact spC (by with_reducible assumption) | exact spD (by with_reducible assumption) | (constructor <;> omega))
  k_with "call ref" => (((with_reducible show wpAny _ _ (call (Value.ref 551) [Value.ref _, Value.int _ _]) _ _ _); k_dflt (refine' draw_K ?kB ?kX ?kT ?kF ?kN ?kU ?kc ?kne ?kI ?kl ?kzl ?kA ?ku ?kk ?ksp ?ksd ?kzs ?km ?_; (case kB => k_asm); (case kX => k_asm); (case kT => k_asm); (case kF => k_asm); (case kN => k_asm); (case kU => k_updF); (case kc => k_mem); (case kne => (first | assumption | omega)); (case kI => assumption); (case kl => assumption); (case kzl => assumption); (case kA => walk_at "my num"); (case ku => walk_at "my num"); (case kk => exact rfl); (case ksp => walk_at "my sp"); (case ksd => assumption); (case kzs => assumption); (case km => first | exact ⟨by decide, by decide⟩ | (constructor <;> omega)); k_whole); intro _ _ _ _ _ _ _ _ _; (try k_sweep)))
  k_with "my ne" => (first | exact List.forall_mem_nil _ | (refine List.forall_mem_cons.mpr ⟨by k_ne, ?_⟩; walk_at "my ne"))
  k_with "my si" => (exact mem_sift (by k_mem) (by walk_at "my ne"))
  k_with "k_lt" => (skip)
  k_with "k_ne" => (first | with_reducible assumption | kd_ltNe | (refine Ne.symm ?_; kd_ltNe) | ((try dsimp only); first | with_reducible assumption | (refine Ne.symm ?_; with_reducible assumption)) | (refine neN ?_; (try dsimp only); omega))
  k_with "pyIter ref" => (((with_reducible show wpAny _ _ (pyIter (Value.ref _)) (fun it s₂ => LoopAtV _ _ _ _ _ _ _ _ _ it s₂) _ _); refine Stopped.out ?_))
  k_with "pyIter ref" => (((with_reducible show wpAny _ _ (pyIter (Value.ref _)) (fun it s₂ => TurnsAt _ _ _ _ _ _ _ _ _ it s₂) _ _); (refine iter_tupTurns (by rfl) (by k_asm) (by k_asm) (by k_mem) rfl rfl ?_); intro _ hI; (try k_lt hI); (try dsimp only [List.map_cons, List.map_nil])))
  k_with "UnrEndW" => ((refine unr_endW1 (by k_asm) (by k_asm) (by walk_at "my rm") (by k_mem) (by k_all) ⟨⟨by k_mem, trivial⟩, ?_⟩))
  k_with "UnrEnd" => ((refine unr_end (by k_asm) (by k_asm) (by walk_at "my rm") (by k_mem) (by k_all) ?_))
  k_with "subscriptTail" => (((with_reducible show wpAny _ _ (subscriptTail _ (Expr.Slice none (some _) none _) (Value.bytes _ _) (Value.ref _)) _ _ _); (with_reducible rename Fr _ _ _ _ => F'); (with_reducible rename News _ _ _ _ => N'); (refine slice_1 (s := ⟨_, _, _, _, _⟩) F' N' (by omega) (by decide) ?_); intro _ _ _ _ _))
  k_with "subscriptTail" => (((with_reducible show wpAny _ _ (subscriptTail _ _ (Value.ref _) (Value.int _ _)) _ _ _); k_dflt (refine' sub_MX ?kN ?km ?k0 ?k1 ?_; (case kN => k_asm); (case km => k_mem); (case k0 => assumption); (case k1 => assumption)); (intro _ _)))
  k_with "call builtin:len" => (((with_reducible show wpAny _ _ (call (Value.builtin "len") [Value.bytes _ _]) _ _ _); (refine len_L (by rw [List.length_take]; exact Nat.le_trans (Nat.min_le_right _ _) (by decide)) ?_); intro _ _))
  k_with "compareOp Is" => (refine is_menu (by with_reducible assumption) ?_)
  k_with "eval BoolOp" => (((with_reducible show wpAny _ _ (eval (Expr.BoolOp BoolOp.Or _ _) _) _ _ _); (fail_if_success (with_reducible show wpAny _ _ _ (RightPost _ _ _) _ _)); (rename Fr _ _ _ _ => F8); (with_unfolding_all refine right_cut F8 rfl rfl ?_ ?_); rotate_left; intro _; rotate_right))
  k_with "RightPost" => ((refine right_leaf ?_; first | exact rl1 (by with_reducible assumption) | exact rl2 (by with_reducible assumption) (by with_reducible assumption) (by with_reducible assumption) | exact rl4 (by with_reducible assumption) (by with_reducible assumption) (by with_reducible assumption) | exact rl5 (by with_reducible assumption) (by with_reducible assumption) (by with_reducible assumption) | exact rl6 (by with_reducible assumption) (by with_reducible assumption) (by with_reducible assumption) | exact rl8 (by with_reducible assumption) (by with_reducible assumption) | exact rl3 (by with_reducible assumption) (by with_reducible assumption) | exact rl7 (by with_reducible assumption) (by with_reducible assumption) | fail "right"))
  k_with "DuePost" => (first | exact ⟨_, rfl, .inl ⟨by with_reducible assumption, rfl⟩⟩ | exact ⟨_, rfl, .inr ⟨by with_reducible assumption, _, rfl⟩⟩ | exact ⟨_, rfl, .inr ⟨Bool.eq_false_iff.mpr (by with_reducible assumption), _, rfl⟩⟩ | fail "due")
  k_with "newTuple" => ((k_dflt (refine' kup_newTuple ?F ?N ?_ ?z; (case F => k_asm); (case N => k_asm); (case z => kmk_size)); intro _ _ _ _ l1; (try k_lt l1); (try k_sweep)))
  k_with "eval IfExp" => (((with_reducible show wpAny _ _ (eval (Expr.IfExp (Expr.Name (Str.ofString "is_right") _) _ _ _) _) _ _ _); (fail_if_success (with_reducible show wpAny _ _ _ (DuePost _ _ _ _) _ _)); (rename Fr _ _ _ _ => F8); (with_unfolding_all refine due_cut F8 rfl rfl rfl ?_ ?_); rotate_left; intro _ _ _; rotate_right))
  k_with "eval IfExp" => ((with_reducible show wpAny _ _ (eval (Expr.IfExp (Expr.Compare _ _ _ _) _ _ _) _) _ _ _); (fail_if_success (with_reducible show wpAny _ _ _ (HdPost _ _ _ _ _ _ _ _) _ _)); refine Stopped.out ?_)
  k_with "HdPost" => (refine Stopped.out ?_)
  k_with "Exists" => ((k_here; (refine my_made_str (by k_asm) (by first | k_asm | exact News.nil) (Top.nolimit (by k_asm)) (by rfl) (of_decide_eq_true (by rfl)) ?_; intro _ _ _ _ l1 _ hd'; (try k_lt l1); (try simp only [strPairs] at hd'))))
  k_with "setItem ref int" => (((with_reducible show wpAny _ _ (setItem (Value.ref _) (Value.int _ _) (Value.ref _)) _ _ _); k_dflt (refine' kda_set (knd := PySem.intKind _ _) ?F ?N ?U ?d (intKind_is _ _ _ _) ?z ?_; (case F => k_asm); (case N => k_asm); (case U => k_updF); (case d => with_reducible assumption); (case z => rw [sizeLine_eq]; first | omega | exact Nat.le_trans (stored_length_le _ _ _) (by omega) | exact Nat.le_trans (stored_length_le _ _ _) (Nat.succ_le_succ (Nat.le_trans (stored_length_le _ _ _) (by omega))))); intro _ _ _ N' _; (try dsimp only at N'); (try k_sweep)))
  k_with "my sub" => ((intro _ hp9; first | walk_at "my tail" | (rcases List.mem_append.mp hp9 with hp8 | hp8 <;> walk_at "my tail")))
  k_with "call ref" => (((try dsimp only [List.cons_append, List.nil_append]); (with_reducible show wpAny _ _ (call (Value.ref 348) [Value.ref _]) _ _ _); k_dflt (refine' told_sh_K2 ?kB ?kX ?kT ?kF ?kN ?kfA ?kff ?kfK ?m1 ?m2 ?m3 ?m4 ?klo ?klr ?kD ?kE ?klE ?kdr ?ks ?ktl ?kA ?ku ?kH ?_; (case kF => k_asm); (case kN => k_asm); (case kB => k_asm); (case kX => k_asm); (case kT => k_asm); (case kfA => exact rfl); (case kff => exact rfl); (case kfK => exact rfl); (case m1 => k_mem); (case m2 => k_mem); (case m3 => k_mem); (case m4 => k_mem); (case klo => with_reducible assumption); (case klr => with_reducible assumption); (case kD => with_reducible assumption); (case kE => with_reducible assumption); (case klE => first | with_reducible assumption | (rw [List.length_map]; with_reducible assumption)); (case kdr => first | with_reducible assumption | assumption); (case ks => walk_at "my sub"); (case ktl => walk_at "my tl"); (case kA => walk_at "my num"); (case ku => walk_at "my num"); (case kH => rfl); k_whole); intro _ _ _ _ _ _ N' _ _ _ _; (try dsimp only at N'); (try k_sweep)))
  k_with "call ref" => (((with_reducible show wpAny _ _ (call (Value.ref 497) [Value.ref _]) _ _ _); k_dflt (refine' wtl_K2 ?kB ?kX ?kT ?kF ?kN ?kfA ?kff ?kfK ?m1 ?m2 ?m3 ?kD ?klo ?kE ?kok ?klE ?ks ?ktl ?kA ?ku ?kH ?_; (case kF => k_asm); (case kN => k_asm); (case kB => k_asm); (case kX => k_asm); (case kT => k_asm); (case kfA => exact rfl); (case kff => exact rfl); (case kfK => exact rfl); (case m1 => k_mem); (case m2 => k_mem); (case m3 => k_mem); (case kD => with_reducible assumption); (case klo => with_reducible assumption); (case kE => with_reducible assumption); (case kok => with_reducible assumption); (case klE => with_reducible assumption); (case ks => walk_at "my sub"); (case ktl => walk_at "my tl"); (case kA => walk_at "my num"); (case ku => walk_at "my num"); (case kH => rfl); k_whole); intro _ _ _ _ _ _ N' _ hP'; (try dsimp only at N'); (try k_sweep); (obtain ⟨sh2, dsh2, tb2, ot2, j12, j22, kvs2, e2, q1, q2, q3, lo2, hd2, hE2⟩ := hP'); subst e2))
  k_with "compareOp Eq ref ref" => (((with_reducible show wpAny _ _ (compareOp CmpOp.Eq (Value.ref _) (Value.ref _)) _ _ _); k_dflt (refine' cmp_sh ?kN ?x ?y ?hE ?p1 ?s1 ?p2 ?s2 ?ha ?hb ?hu ?_; (case kN => k_asm); (case x => with_reducible assumption); (case y => with_reducible assumption); (case hE => first | rfl | with_reducible assumption); (case p1 => with_reducible assumption); (case s1 => with_reducible assumption); (case p2 => with_reducible assumption); (case s2 => with_reducible assumption); (case ha => walk_at "my sub"); (case hb => walk_at "my sub"); (case hu => walk_at "my num"); k_whole)))
  k_with "exec Assign cons Call" => (((with_reducible show wpAny _ _ (exec (Stmt.Assign [Expr.Name (Str.ofString "shelf") _] _ _) _) _ _ _); (fail_if_success (rename Mid => hMid9)); refine Stopped.out ?_))
  k_with "call ref" => ((with_reducible show wpAny _ _ (call (Value.ref 242) [Value.int _ _, Value.int _ _]) _ _ _); k_dflt (refine' new_K (init_ref _ _ _ _ _) ?kB ?kX ?kT ?kF ?kN ?kfA ?kff ?kfK ?km ?ki ?kfn ?kA ?ku ?kH ?_; (case kF => k_asm); (case kN => k_asm); (case kB => k_asm); (case kX => k_asm); (case kT => k_asm); (case kfA => exact rfl); (case kff => exact rfl); (case kfK => exact rfl); (case km => k_is); (case ki => k_is); (case kfn => k_is); (case kA => walk_at "my num"); (case ku => walk_at "my num"); (case kH => rfl); k_whole); intro _ _ _ _ _ hP' _ _ _ _ _; (obtain ⟨_, _, e2⟩ := hP'; subst e2); (try k_sweep))
  k_with "call ref" => ((with_reducible show wpAny _ _ (call (Value.ref 171) [Value.str _ _]) _ _ _); k_dflt (refine' new_K (init_name _ _ _) ?kB ?kX ?kT ?kF ?kN ?kfA ?kff ?kfK ?km ?ki ?kfn ?kA ?ku ?kH ?_; (case kF => k_asm); (case kN => k_asm); (case kB => k_asm); (case kX => k_asm); (case kT => k_asm); (case kfA => exact rfl); (case kff => exact rfl); (case kfK => exact rfl); (case km => k_is); (case ki => k_is); (case kfn => k_is); (case kA => walk_at "my num"); (case ku => walk_at "my num"); (case kH => rfl); k_whole); intro _ _ _ _ _ hP' _ _ _ _ _; (obtain ⟨_, e2⟩ := hP'; subst e2); (try k_sweep))
  k_with "call ref" => ((with_reducible show wpAny _ _ (call (Value.ref 214) [Value.ref _, Value.bytes _ _]) _ _ _); k_dflt (refine' new_K (init_stm _ _ _ _) ?kB ?kX ?kT ?kF ?kN ?kfA ?kff ?kfK ?km ?ki ?kfn ?kA ?ku ?kH ?_; (case kF => k_asm); (case kN => k_asm); (case kB => k_asm); (case kX => k_asm); (case kT => k_asm); (case kfA => exact rfl); (case kff => exact rfl); (case kfK => exact rfl); (case km => k_is); (case ki => k_is); (case kfn => k_is); (case kA => walk_at "my num"); (case ku => walk_at "my num"); (case kH => rfl); k_whole); intro _ _ _ _ _ hP' _ _ _ _ _; (obtain ⟨_, _, e2⟩ := hP'; subst e2); (try k_sweep))
  k_with "call ref" => ((with_reducible show wpAny _ _ (call (Value.ref 351) [Value.ref _, Value.ref _]) _ _ _); k_dflt (refine' new_K (init_sh _ _ _) ?kB ?kX ?kT ?kF ?kN ?kfA ?kff ?kfK ?km ?ki ?kfn ?kA ?ku ?kH ?_; (case kF => k_asm); (case kN => k_asm); (case kB => k_asm); (case kX => k_asm); (case kT => k_asm); (case kfA => exact rfl); (case kff => exact rfl); (case kfK => exact rfl); (case km => k_is); (case ki => k_is); (case kfn => k_is); (case kA => walk_at "my num"); (case ku => walk_at "my num"); (case kH => rfl); k_whole); intro _ _ _ _ _ hP' _ _ _ _ _; (obtain ⟨_, _, e2⟩ := hP'; subst e2); (try k_sweep))
  trivial

theorem str_ok {w : World} {A : Around} {s : Shared} {base : Heap} {outer : List Env} {p : Program} {loose : List Str} {mean : ExcName → Option Value} {mg mb : Str → Option Value}
    {R : Result → Shared → Prop} {pen cells : Addr} {sp0 sd : Int} {t1 t2 : Tok} {ys : List Value} {zs : List Int}
    (S : Site A base outer p loose mean mg mb (pre.heap_1 w.params) s.heap) (hA : A.depth ≤ 490) (hu : A.units ≤ 90) (hH : A.handled = none)
    (hpen : s.heap.get? pen = some (listOf #[.ref cells, .int sp0 t1, .int sd t2] 0)) (hcells : s.heap.get? cells = some (LCg.lst ys)) (hI : IntsAre ys zs) (hl : ys.length = zs.length) (hne : @LT.lt Nat _ cells pen)
    (op : OwnAt base outer pen) (oc : OwnAt base outer cells)
    (hsp : 0 ≤ sp0 ∧ sp0 ≤ 200) (hsd : 0 ≤ sd ∧ sd < 997) (hzs : ∀ z ∈ zs, 0 ≤ z ∧ z < 1000003) (hzl : zs.length ≤ 60)
    (hR : ∀ sp' t1' h' tk', ExtBy [pen] s.heap h' → h'.get? pen = some (listOf #[.ref cells, .int sp' t1', .int sd t2] 0) → 0 ≤ sp' → sp' ≤ sp0 + 100 → R (.ok (.ret (.bool true))) {s with heap := h', toks := tk'}) :
    codeAny (model PySem.Challenge.rw_nn0135_01.row.prog w) A (.call (.ref 558) ⟨[.ref pen], []⟩) R s := by
  have XB := S.X
  have TB := S.T
  obtain ⟨hdl, dp, fr, gs, us⟩ := A
  have hfr := S.B.stack
  dsimp only at hfr hA hu hH
  subst hfr hH
  have hsp9 : 0 ≤ sp0 ∧ sp0 ≤ 900 := ⟨hsp.1, Int.le_trans hsp.2 (by decide)⟩
  obtain ⟨hsp0, hsp1⟩ := hsp
  revert S
  k_fill
  intro S
  refine' enter2 (binds := [(Str.ofString "pen", .ref pen)]) [(pen, listOf #[.ref cells, .int sp0 t1, .int sd t2] 0), (cells, LCg.lst ys)] S ?hn ?k6 ?k7 ?k8 ?k9 ?kB ?_ ?c2 ?c3 ?c4 ?c5
  case hn => intro q hq; rcases List.mem_cons.mp hq with rfl | hq; exact ⟨hpen, op⟩; rcases List.mem_cons.mp hq with rfl | hq; exact ⟨hcells, oc⟩; cases hq
  case k6 => k_is
  case k7 => k_is
  case k8 => k_room
  case k9 => exact BindsTo.of_eq rfl
  case c5 => decide
  case kB => exact locs rfl
  case c2 => exact rfl
  case c3 => exact rfl
  case c4 => exact rfl
  clear S
  intro g' L' h' F' N' B' X' T' l1 hg9
  (try dsimp only)
  (show wpAny _ _ _ _ _ _)
  k_fold
  have fin : ∀ (bb : Bool) hh tk sp' t1', bb = true → ExtBy [pen, cells] s.heap hh → hh.get? pen = some (listOf #[.ref cells, .int sp' t1', .int sd t2] 0) → hh.get? cells = some (LCg.lst ys) → 0 ≤ sp' → sp' ≤ sp0 + 100 → R (.ok (.ret (.bool bb))) {s with heap := hh, toks := tk} := by
    rintro _ hh tk sp' t1' rfl x h1 h2 q1 q2
    exact hR sp' t1' hh tk (ext_1 x hcells h2) h1 q1 q2
  k_steps
  refine Stopped.intro ?_
  rename IsRange _ _ _ _ _ _ _ _ => rgX
  rename Fr _ _ _ _ => F9
  rename News _ _ _ _ => N9
  (with_unfolding_all refine iter_rangeUnr (by rfl) rgX (small_one (by omega) (by omega) (by omega) (by omega)) (rangeSize_nat _ _) F9 N9 ?_)
  intro I hI
  (try k_lt hI)
  refine str_ind (w := w) (sp0 := sp0) ⟨rfl, rfl, rfl, trivial⟩ (by walk_at "my mem") (by assumption) (by assumption) ⟨by omega, by omega⟩ ?tu ?fi
  case tu =>
    intro i u t h tk sp t1 ot od kvs1 kvs2 rs T hin hd1 hd2 hE1 hE2 hrl hk1 hk2 hrs hof hq0 hq1 F N P9 E9 hP9
    dsimp only [kn] at F
    have hsp9 : 0 ≤ sp ∧ sp ≤ 900 := by constructor <;> omega
    k_steps
    refine Stopped.intro ?_
    rename MenuX _ _ _ _ _ _ _ _ => hx8
    rename Fr _ _ _ _ => F8
    rename News _ _ _ _ => N8
    refine head_cut (w := w) F8 N8 hx8 ?_ ?_ ?_
    · intro hx7
      subst hx7
      k_steps
      exact Stopped.intro ⟨_, _, _, _, rfl, rfl, by k_asm, by k_asm, by with_reducible assumption, by with_reducible assumption, _, by first | exact hd' | assumption⟩
    · intro hx7
      k_steps
      exact Stopped.intro ⟨_, _, _, _, rfl, rfl, by k_asm, by k_asm, by with_reducible assumption, by with_reducible assumption, _, by rw [hdK_nn hx7]; with_reducible assumption⟩
    intro D8 o8 h8 tk8 t8 F7 N7 l8 lo8 hd8
    clear F8 N8
    k_steps
    all_goals refine hP9 _ _ ?_
    all_goals k_steps
    · refine Stopped.intro ?_
      refine' invL_held (kvs1 := kvs1) (kvs2 := kvs2) (rs := rs) (T := T) ?kn ?kp ?kc ?kt ?kd ?kT hof hE1 hE2 hrl hrs ?kw0 ?kw1 ?koc ?ks ?kD1 ?kD2 ?k1 ?k2 ?kv1 ?kv2
      case kn => exact ⟨rfl, rfl, rfl, trivial⟩
      case kD1 => with_reducible assumption
      case kD2 => with_reducible assumption
      case kp => k_mem
      case kc => k_mem
      case kt => k_mem
      case kd => k_mem
      case kT => walk_at "my sub"
      case k1 => walk_at "my si"
      case k2 => walk_at "my si"
      case kv1 => exact vdA_x (by with_reducible assumption) (by walk_at "my si") (by walk_at "my si") (by with_reducible assumption) (by walk_at "my si") (by walk_at "my si") (by with_reducible assumption) (by walk_at "my si") (by walk_at "my si") (by with_reducible assumption) (by walk_at "my si") (by walk_at "my si") (by with_reducible assumption) (by walk_at "my si") (by walk_at "my si") (by with_reducible assumption) (by walk_at "my si") (by with_reducible assumption) (by with_reducible assumption)
      case kv2 => exact vdB_x (by with_reducible assumption) (by with_reducible assumption) (by walk_at "my si") (by walk_at "my si") (by with_reducible assumption) (by walk_at "my si") (by walk_at "my si") (by with_reducible assumption) (by walk_at "my si") (by walk_at "my si") (by with_reducible assumption) (by walk_at "my si") (by walk_at "my si") (by with_reducible assumption) (by walk_at "my si") (by walk_at "my si") (by with_reducible assumption) (by walk_at "my si") (by with_reducible assumption) (by first | with_reducible assumption | (rename Obj.IsDictOf (PySem.strKind _ _) _ (strPairs _) => hd7; exact hd7))
      case kw0 => assumption
      case kw1 => assumption
      case koc => rw [List.length_take]; exact Nat.min_le_right _ _
      case ks => exact ⟨by omega, by omega⟩
  case fi =>
    intro u h tk sp t1 ot od kvs1 kvs2 rs T hd1 hd2 hE1 hE2 hrl hk1 hk2 hrs hof hq0 hq1 F N
    dsimp only [kn] at F
    have hrl4 : rs.length ≤ 4 := by omega
    have hs9 : 0 ≤ sp + 1 ∧ sp + 1 ≤ sp0 + 100 := by omega
    have hsp9 : 0 ≤ sp ∧ sp ≤ 900 := by constructor <;> omega
    k_steps
    refine Stopped.intro ?_
    rename News _ _ _ _ => N9
    obtain ⟨T9, kF, kD, N10, mt9, md9, dF, dD, eF, eD, of9⟩ := str_mid N9 (by walk_at "my sub") hof hE1 hE2 hrl4 (by k_mem) (by k_mem) (by with_reducible assumption) (by with_reducible assumption) (by assumption) (by walk_at "my si") (by walk_at "my si") (by walk_at "my si") (by walk_at "my si") (by walk_at "my si") (by walk_at "my si") (by walk_at "my si") (by walk_at "my si") (by walk_at "my si") (by walk_at "my si") (by with_reducible assumption) (by first | with_reducible assumption | assumption)
    have hlF := lenOf eF hrl4
    have hlD := lenOf eD hrl4
    have hokF := okOf eF hrl4 hrs (by assumption)
    have hmapF := mapOf eF hrl4 hrs (by assumption)
    clear N9
    have midM := mid_
    k_steps
    rename ExtBy _ _ _ => hx9
    rename News _ _ _ _ => N9
    exact fin _ _ _ _ _ rfl hx9 (N9.get (by k_mem)) (N9.get (by k_mem)) hs9.1 hs9.2

end
theorem sound_pen (w : World) : PenOK w 565 100 := fun _ _ _ _ _ _ _ _ _ _ _ _ _ _ _ _ _ _ S hA hu hH a b c d e f g h i j k hR => sound_ok S (by omega) (by omega) hH a b c d e f g h i j k hR
theorem str_pen (w : World) : PenOK w 558 200 := fun _ _ _ _ _ _ _ _ _ _ _ _ _ _ _ _ _ _ S hA hu hH a b c d e f g h i j k hR => str_ok S (by omega) (by omega) hH a b c d e f g h i j k hR
theorem size_pen (w : World) : PenOK w 570 300 := fun _ _ _ _ _ _ _ _ _ _ _ _ _ _ _ _ _ _ S hA hu hH a b c d e f g h i j k hR => size_ok S (by omega) (by omega) hH a b c d e f g h i j k hR
theorem words_main_0 : True := by
  k_with_none
  k_with "call ref" => (((with_reducible show wpAny _ _ (call (Value.ref 565) [Value.ref _]) _ _ _); k_dflt (refine' pen_K (sound_pen _) ?kB ?kX ?kT ?kF ?kN ?kfA ?kff ?kfK ?kU ?kc ?kne ?kI ?kz ?kzs ?kA ?ku ?kH ?ksp ?ksd ?_; (case kF => k_asm); (case kN => k_asm); (case kB => k_asm); (case kX => k_asm); (case kT => k_asm); (case kfA => exact rfl); (case kff => exact rfl); (case kfK => exact rfl); (case kU => k_updF); (case kc => k_mem); (case kne => omega); (case kI => assumption); (case kz => (rw [List.length_map, List.length_take]; exact Nat.min_le_left _ _)); (case kzs => exact fm_all); (case kA => (simp only [depth_deeper, depth_caller]; decide)); (case ku => exact Nat.le_of_ble_eq_true rfl); (case kH => exact rfl); (case ksp => (constructor <;> omega)); (case ksd => exact fm_997 _); k_whole); intro _ _ _ _ _ _ _ N'; (try dsimp only at N'); (try k_sweep)))
  k_with "call ref" => (((with_reducible show wpAny _ _ (call (Value.ref 558) [Value.ref _]) _ _ _); k_dflt (refine' pen_K (str_pen _) ?kB ?kX ?kT ?kF ?kN ?kfA ?kff ?kfK ?kU ?kc ?kne ?kI ?kz ?kzs ?kA ?ku ?kH ?ksp ?ksd ?_; (case kF => k_asm); (case kN => k_asm); (case kB => k_asm); (case kX => k_asm); (case kT => k_asm); (case kfA => exact rfl); (case kff => exact rfl); (case kfK => exact rfl); (case kU => k_updF); (case kc => k_mem); (case kne => omega); (case kI => assumption); (case kz => (rw [List.length_map, List.length_take]; exact Nat.min_le_left _ _)); (case kzs => exact fm_all); (case kA => (simp only [depth_deeper, depth_caller]; decide)); (case ku => exact Nat.le_of_ble_eq_true rfl); (case kH => exact rfl); (case ksp => (constructor <;> omega)); (case ksd => exact fm_997 _); k_whole); intro _ _ _ _ _ _ _ N'; (try dsimp only at N'); (try k_sweep)))
  k_with "call ref" => (((with_reducible show wpAny _ _ (call (Value.ref 570) [Value.ref _]) _ _ _); k_dflt (refine' pen_K (size_pen _) ?kB ?kX ?kT ?kF ?kN ?kfA ?kff ?kfK ?kU ?kc ?kne ?kI ?kz ?kzs ?kA ?ku ?kH ?ksp ?ksd ?_; (case kF => k_asm); (case kN => k_asm); (case kB => k_asm); (case kX => k_asm); (case kT => k_asm); (case kfA => exact rfl); (case kff => exact rfl); (case kfK => exact rfl); (case kU => k_updF); (case kc => k_mem); (case kne => omega); (case kI => assumption); (case kz => (rw [List.length_map, List.length_take]; exact Nat.min_le_left _ _)); (case kzs => exact fm_all); (case kA => (simp only [depth_deeper, depth_caller]; decide)); (case ku => exact Nat.le_of_ble_eq_true rfl); (case kH => exact rfl); (case ksp => (constructor <;> omega)); (case ksd => exact fm_997 _); k_whole); intro _ _ _ _ _ _ _ N'; (try dsimp only at N'); (try k_sweep)))
  trivial
theorem main.tw12273490649430754879 : True := trivial
theorem main.tw6907636171062424033 : True := trivial
theorem main.tw9190990891756207365 : True := trivial
theorem main.tw4500915450034043215 : True := trivial
theorem main.tw5396188567872606041 : True := trivial
theorem main.tw12483276189755474720 : True := trivial
theorem main.tw4650958065196391918 : True := trivial
theorem main.tw9483120023164983764 : True := trivial
theorem main.tw1504049600530537962 : True := trivial
theorem main.tw13270728482189477470 : True := trivial
theorem main.tw1270039299266317192 : True := trivial
theorem main.tw5396361742852586263 : True := trivial
theorem main.tw6655696309031964122 : True := trivial
theorem main.tw8046773169563483271 : True := trivial
theorem main.tw10169072693733980587 : True := trivial
theorem main.tw11712081513822626495 : True := trivial
theorem main.tw17958375852430007124 : True := trivial
theorem main.tw18165044119631177899 : True := trivial
theorem main.tw11086099901593105684 : True := trivial
theorem main.tw2195194259037543316 : True := trivial
theorem main.tw7093617532817203218 : True := trivial
theorem main.tw892681787802806017 : True := trivial
theorem main.tw2700663920422101307 : True := trivial
theorem main.tw8952462522180670554 : True := trivial
theorem main.tw11544348965984651327 : True := trivial
theorem main.tw14060465935940456498 : True := trivial
theorem main.tw221909299271738847 : True := trivial
theorem main.tw5234446048077146213 : True := trivial
theorem main.tw14662554035588321541 : True := trivial
theorem main.tw2496676261509829067 : True := trivial
theorem main.tw3613476055612923068 : True := trivial
theorem main.tw10363585996791799541 : True := trivial
theorem main.tw9302470337196694018 : True := trivial
theorem main.tw4948327476702027199 : True := trivial
theorem main.tw15768048840197415361 : True := trivial
theorem main.tw6880717277089553138 : True := trivial
theorem main.tw10123989817122485451 : True := trivial
theorem main.tw1826329307503635854 : True := trivial
theorem main.tw2921621734765799159 : True := trivial
theorem main.tw17644181745481072423 : True := trivial
theorem main.tw13693970394777133609 : True := trivial
theorem main.tw9808303207383738048 : True := trivial
theorem main.tw9561784451562097942 : True := trivial
theorem main.tw1615045767204293396 : True := trivial
theorem main.tw13676971244355772609 : True := trivial
theorem main.tw11716418206903941319 : True := trivial
theorem main.tw2724176850512262202 : True := trivial
theorem main.tw13626721169425172152 : True := trivial
theorem main.tw7235775444256392728 : True := trivial
theorem main.tw2007339730380871907 : True := trivial
theorem main.tw2729793432009153956 : True := trivial
theorem main.tw4651154628705390771 : True := trivial
theorem main.tw18120430973489738927 : True := trivial
theorem main.tw302440914744352476 : True := trivial
theorem main.tw8228058824784995430 : True := trivial
theorem main.tw11461230924637031220 : True := trivial
theorem main.tw7647378279178456250 : True := trivial
theorem main.tw17864028415675338326 : True := trivial
theorem main.tw4458048076830672230 : True := trivial
theorem main.tw11487549891475536569 : True := trivial
theorem main.tw4900431672193113347 : True := trivial
theorem main.tw2190695567426971638 : True := trivial
theorem main.tw3454311308915712629 : True := trivial
theorem main.tw9656510801202774680 : True := trivial
theorem main.tw11120327062377616369 : True := trivial
theorem main.tw4139100593308808776 : True := trivial
theorem main.tw14864641218109852296 : True := trivial
theorem main.tw13110577991587790113 : True := trivial
theorem main.tw12518504611687188807 : True := trivial
theorem main.tw6449824600675878752 : True := trivial
theorem main.tw2406621943657119228 : True := trivial
theorem main.tw3864431920445960829 : True := trivial
theorem main.tw16187894506366716058 : True := trivial
theorem main.tw1289389943133740499 : True := trivial
theorem main.tw979501456738626862 : True := trivial
theorem main.tw16411370214107742406 : True := trivial
theorem main.tw13293747886898857621 : True := trivial
theorem main.tw3796207824708393856 : True := trivial
theorem main.tw14061640607465278742 : True := trivial
theorem main.tw4297412468100583042 : True := trivial
theorem main.tw16135426469972691074 : True := trivial
theorem main.tw2019394398466159022 : True := trivial
theorem main.tw1156462466702112376 : True := trivial
theorem main.tw5665406974723832613 : True := trivial
theorem main.tw13980345723018547825 : True := trivial
theorem main.tw104360540948158410 : True := trivial
theorem main.tw3626430660855392483 : True := trivial
theorem main.tw5450094653865882931 : True := trivial
theorem main.tw6981815665589151136 : True := trivial
theorem main.tw9994787619460420439 : True := trivial
theorem main.tw1027651156746619712 : True := trivial
theorem main.tw4585930131862741453 : True := trivial
theorem main.tw7691172733374981047 : True := trivial
theorem main.tw17297283025540448806 : True := trivial
theorem main.tw17236958762192778904 : True := trivial
theorem main.tw7885402756211317057 : True := trivial
theorem main.tw17298425922696826006 : True := trivial
theorem main.tw3394367416137920725 : True := trivial
theorem main.tw1429040668314091153 : True := trivial
theorem main.tw6697339332421208802 : True := trivial
theorem main.tw15465920861327815835 : True := trivial
theorem main.tw9369988214560726041 : True := trivial
theorem main.tw9360745474812902239 : True := trivial
theorem main.tw16136984950599521427 : True := trivial
theorem main.tw15079240505294077160 : True := trivial
theorem main.tw17052023290607921161 : True := trivial
theorem main.tw6657087868060814 : True := trivial
theorem main.tw13972245371655741198 : True := trivial
theorem main.tw6584820252761975732 : True := trivial
theorem main.tw1372806426800153423 : True := trivial
theorem main.tw10652863235454686790 : True := trivial
theorem main.tw14027531716089632829 : True := trivial
theorem main.tw15737690656516749961 : True := trivial
theorem main.tw10864377008497418100 : True := trivial
theorem main.tw17201416709059790184 : True := trivial
theorem main.tw10665089971535097683 : True := trivial
theorem main.tw9840939614602229412 : True := trivial
theorem main.tw5270908104458285503 : True := trivial
theorem main.tw7623511443260959870 : True := trivial
theorem main.tw33456957511925785 : True := trivial
theorem main.tw4605139254293405059 : True := trivial
theorem main.tw15514936471743626214 : True := trivial
theorem main.tw15734200111481486640 : True := trivial
theorem main.tw8260724100714396741 : True := trivial
theorem main.tw15017983477296125989 : True := trivial
theorem main.tw223528310411579522 : True := trivial
theorem main.tw13350764725976880583 : True := trivial
theorem main.tw73751810991705359 : True := trivial
theorem main.tw7439787175107056256 : True := trivial
theorem main.tw2647654807098235363 : True := trivial
theorem main.tw5309058905264134205 : True := trivial
theorem main.tw31828345220925962 : True := trivial
theorem main.tw5287059835090251167 : True := trivial
theorem main.tw3491332818749588091 : True := trivial
theorem main.tw6237627108579964202 : True := trivial
theorem main.tw11239335112260394413 : True := trivial
theorem main.tw13724616953566380437 : True := trivial
theorem main.tw6053611964639427726 : True := trivial
theorem main.tw6596593509180878263 : True := trivial
theorem main.tw5585478044538960755 : True := trivial
theorem main.tw4946776927847147119 : True := trivial
theorem main.tw12732289081945773324 : True := trivial
theorem main.tw13777938177461255882 : True := trivial
theorem main.tw16923884221124529275 : True := trivial
theorem main.tw4261964983698606537 : True := trivial
theorem main.tw8466321980469482115 : True := trivial
theorem main.tw14788915703135433725 : True := trivial
theorem main.tw7165207203227711834 : True := trivial
theorem main.tw2110754180369666209 : True := trivial
theorem main.tw1454224541498743561 : True := trivial
theorem main.tw471287901995484742 : True := trivial
theorem main.tw2852251193174398662 : True := trivial
theorem main.tw12361340156312767134 : True := trivial
theorem main.tw12992176717851604617 : True := trivial
theorem main.tw16008457594558532635 : True := trivial
theorem main.tw11752208632293872130 : True := trivial
theorem main.tw4026956272090484662 : True := trivial
theorem main.tw9406782406253462049 : True := trivial
theorem main.tw7083192437325867461 : True := trivial
theorem main.tw15955573374722617477 : True := trivial
theorem main.tw7268301785047649679 : True := trivial
theorem main.tw4996873109452691289 : True := trivial
theorem main.tw9925469786538053656 : True := trivial
theorem main.tw13116522157475607773 : True := trivial
theorem main.tw16046730324260685337 : True := trivial
theorem main.tw7699798408344515789 : True := trivial
theorem main.tw12885385263037960081 : True := trivial
theorem main.tw15643365686152983790 : True := trivial
theorem main.tw17477492558424962760 : True := trivial
theorem main.tw12205347405646519318 : True := trivial
theorem main.tw4812270449578504274 : True := trivial
theorem main.tw11646826074482590764 : True := trivial
theorem main.tw12298629886278197574 : True := trivial
theorem main.tw4126091431370883743 : True := trivial
theorem main.tw9942282790977331292 : True := trivial
theorem main.tw17425066677912873177 : True := trivial
theorem main.tw11774690029378154688 : True := trivial
theorem main.tw10642606787283503386 : True := trivial
theorem main.tw16656740534632174751 : True := trivial
theorem main.tw2287757881348798766 : True := trivial
theorem main.tw6370693359617921383 : True := trivial
theorem main.tw10609540516017602915 : True := trivial
theorem main.tw7993750564154163987 : True := trivial
theorem main.tw15303317825217679618 : True := trivial
theorem main.tw18134284020713443437 : True := trivial
theorem main.tw1678875084529416142 : True := trivial
theorem main.tw14216407083858561409 : True := trivial
theorem main.tw6855474311058116810 : True := trivial
theorem main.tw5517759331935216279 : True := trivial
theorem main.tw13590572293223372214 : True := trivial
theorem main.tw14539993770535171780 : True := trivial
theorem main.tw17708487481403421675 : True := trivial
theorem main.tw6334894449686545209 : True := trivial
theorem main.tw15558288988949320067 : True := trivial
theorem main.tw13406003279186336099 : True := trivial
theorem main.tw15806524323241146399 : True := trivial
theorem main.tw12751799325998411230 : True := trivial
theorem main.tw10047389527955405517 : True := trivial
theorem main.tw11785714552879321826 : True := trivial
theorem main.tw9069182735580402390 : True := trivial
theorem main.tw18284262389922463811 : True := trivial
theorem main.tw6801380410627298636 : True := trivial
theorem main.tw5995161000843957690 : True := trivial
theorem main.tw14504180641510445567 : True := trivial
theorem main.tw8930851030842425676 : True := trivial
theorem main.tw17871620999419790863 : True := trivial
theorem main.tw13962693860625380366 : True := trivial
theorem main.tw9730157408454304684 : True := trivial
theorem main.tw1390771862084280389 : True := trivial
theorem main.tw5871769198996169552 : True := trivial
theorem main.tw8211959896082780389 : True := trivial
theorem main.tw9484462179196469331 : True := trivial
theorem main.tw13224007501803129859 : True := trivial
theorem main.tw8118072479153026202 : True := trivial
theorem main.tw10177057350305019805 : True := trivial
theorem main.tw9189880136782149556 : True := trivial
theorem main.tw7273056430967151046 : True := trivial
theorem main.tw18190005008629794160 : True := trivial
theorem main.tw52199770228462824 : True := trivial
theorem main.tw17353955331779342651 : True := trivial
theorem main.tw6545385358150927430 : True := trivial
theorem main.tw3960113756560652017 : True := trivial
theorem main.tw962193829226610041 : True := trivial
theorem main.tw12608185968620612914 : True := trivial
theorem main.tw8436210846270712021 : True := trivial
theorem main.tw1645717771770832407 : True := trivial
theorem main.tw13348322127785295214 : True := trivial
theorem main.tw4189750870438640210 : True := trivial
theorem main.tw8905464785575363620 : True := trivial
theorem main.tw8988871441479999982 : True := trivial
theorem main.tw14907226015203709474 : True := trivial
theorem main.tw16778611742570070204 : True := trivial
theorem main.tw9470667924834194258 : True := trivial
theorem main.tw8834365191522931223 : True := trivial
theorem main.tw7186131708394509389 : True := trivial
theorem main.tw6565609875121592624 : True := trivial
theorem main.tw17510229520200029679 : True := trivial
theorem main.tw9681375758050803366 : True := trivial
theorem main.tw6886502059237256666 : True := trivial
theorem main.tw11811306283237334672 : True := trivial
theorem main.tw9508770018378322450 : True := trivial
theorem main.tw66260789543402106 : True := trivial
theorem main.tw4072190877284726289 : True := trivial
theorem main.tw13503263706703578961 : True := trivial
theorem main.tw12941917028564957548 : True := trivial
theorem main.tw12670839924663504800 : True := trivial
theorem main.tw17767330081159143506 : True := trivial
theorem main.tw9756827057097773860 : True := trivial
theorem main.tw452746233719593009 : True := trivial
theorem main.tw6635558491612396129 : True := trivial
theorem main.tw6696893160125735727 : True := trivial
theorem main.tw12093647306153771053 : True := trivial
theorem main.tw4637267157515435788 : True := trivial
theorem main.tw9155575984036265788 : True := trivial
theorem main.tw9272984997812220495 : True := trivial
theorem main.tw2334679739580974275 : True := trivial
theorem main.tw12747388180105724736 : True := trivial
theorem main.tw1886080085820668685 : True := trivial
theorem main.tw7904437144335635152 : True := trivial
theorem main.tw16721930046160240684 : True := trivial
theorem main.tw14759895335926876869 : True := trivial
theorem main.tw6519269512792494810 : True := trivial
theorem main.tw5061512775090418087 : True := trivial
theorem main.tw16251939892948500945 : True := trivial
theorem main.tw4839478117068044826 : True := trivial
theorem main.tw832900586485598795 : True := trivial
theorem main.tw9957550378297406723 : True := trivial
theorem main.tw13995172100960836882 : True := trivial
theorem main.tw4452170602077327944 : True := trivial
theorem main.tw8707812797481193996 : True := trivial
theorem main.tw5613160597433933154 : True := trivial
theorem main.tw6788530277367551627 : True := trivial
theorem main.tw15589955886551607785 : True := trivial
theorem main.tw16026485685270457870 : True := trivial
theorem main.tw1632041292262086317 : True := trivial
theorem main.tw4156125974679941130 : True := trivial
theorem main.tw11399646045708457374 : True := trivial
theorem main.tw3958507339218470045 : True := trivial
theorem main.tw16373046581243095457 : True := trivial
theorem main.tw4365514962571936147 : True := trivial
theorem main.tw5781596087445459943 : True := trivial
theorem main.tw17974016328880235120 : True := trivial
theorem main.tw17057053908230417247 : True := trivial
theorem main.tw7698036289167662538 : True := trivial
theorem main.tw16689149305811164139 : True := trivial
theorem main.tw16950194794029067938 : True := trivial
theorem main.tw17403364634526059139 : True := trivial
theorem main.tw9563168847844234846 : True := trivial
theorem main.tw834873547066669988 : True := trivial
theorem main.tw11251407683458634364 : True := trivial
theorem main.tw16826212616301561204 : True := trivial
theorem main.tw2895952525429962455 : True := trivial
theorem main.tw9512817274939609580 : True := trivial
theorem main.tw65644731488775911 : True := trivial
theorem main.tw2821470743931037460 : True := trivial
theorem main.tw16572128252103988241 : True := trivial
theorem main.tw14771111431291430275 : True := trivial
theorem main.tw13157206579259725088 : True := trivial
theorem main.tw6508729118710982530 : True := trivial
theorem main.tw7751025194823839400 : True := trivial
theorem main.tw7846812961960373227 : True := trivial
theorem main.tw11092141859048813250 : True := trivial
theorem main.tw15984706205718930553 : True := trivial
theorem main.tw10450603732522932521 : True := trivial
theorem main.tw1628013610222277130 : True := trivial
theorem main.tw7884331609784382070 : True := trivial
theorem main.tw17223442867436993403 : True := trivial
theorem main.tw451873465583785326 : True := trivial
theorem main.tw6542085627976250192 : True := trivial
theorem main.tw14009396871252706886 : True := trivial
theorem main.tw3045742163950154196 : True := trivial
theorem main.tw1496695287857109588 : True := trivial
theorem main.tw11595355409239048105 : True := trivial
theorem main.tw7173623326730630234 : True := trivial
theorem main.tw12139096438432415106 : True := trivial
theorem main.tw15365013842991253249 : True := trivial
theorem main.tw7761410557224570781 : True := trivial
theorem main.tw917386388269078853 : True := trivial
theorem main.tw2402762420636078793 : True := trivial
theorem main.tw15277975159832343749 : True := trivial
theorem main.tw6910295442248876197 : True := trivial
theorem main.tw17695171507069755227 : True := trivial
theorem main.tw11181722664286889309 : True := trivial
theorem main.tw17699438841360665129 : True := trivial
theorem main.tw10899915308481594680 : True := trivial
theorem main.tw2906824675625879941 : True := trivial
theorem main.tw6788695710022549768 : True := trivial
theorem main.tw18302796317244248524 : True := trivial
theorem main.tw8440099810896429113 : True := trivial
theorem main.tw1253437644075932092 : True := trivial
theorem main.tw7074144079889050967 : True := trivial
theorem main.tw3532412968194664532 : True := trivial
theorem main.tw3994622017586750766 : True := trivial
theorem main.tw12653679108036650311 : True := trivial
theorem main.tw6808255464447293928 : True := trivial
theorem main.tw11001617756164336837 : True := trivial
theorem main.tw5127751686995613262 : True := trivial
theorem main.tw11501822485730972192 : True := trivial
theorem main.tw17272174723667511238 : True := trivial
theorem main.tw10896356407431480244 : True := trivial
theorem main.tw16819838333489098493 : True := trivial
theorem main.tw18403998269306519403 : True := trivial
theorem main.tw3466206800631347469 : True := trivial
theorem main.tw5532463470591059822 : True := trivial
theorem main.tw12252054271945606052 : True := trivial
theorem main.tw1777545030009416734 : True := trivial
theorem main.tw16035907590883218939 : True := trivial
theorem main.tw5372645768047454471 : True := trivial
theorem main.tw6674386428176565332 : True := trivial
theorem main.tw1615956725737779560 : True := trivial
theorem main.tw5400957986263281647 : True := trivial
theorem main.tw12922898485456448571 : True := trivial
theorem main.tw7332330508316399935 : True := trivial
theorem main.tw11410963132546700228 : True := trivial
theorem main.tw10453263994017694363 : True := trivial
theorem main.tw10825838108423173272 : True := trivial
theorem main.tw15608450976537380609 : True := trivial
theorem main.tw10334261112615635914 : True := trivial
theorem main.tw10094358506670053839 : True := trivial
theorem main.tw17561526911342447988 : True := trivial
theorem main.tw4990475226369331113 : True := trivial
theorem main.tw15136431859952498927 : True := trivial
theorem main.tw16952715711813285254 : True := trivial
theorem main.tw12431561837914552411 : True := trivial
theorem main.tw17725498274588495791 : True := trivial
theorem main.tw2238316416991798583 : True := trivial
theorem main.tw6447117284088858845 : True := trivial
theorem main.tw6164561884633627433 : True := trivial
theorem main.tw8844999433837080629 : True := trivial
theorem main.tw12702744160499308131 : True := trivial
theorem main.tw10234815189450012239 : True := trivial
theorem main.tw2921958311620399285 : True := trivial
theorem main.tw17292155258170135553 : True := trivial
theorem main.tw16049902774474827687 : True := trivial
theorem main.tw10092017014551392330 : True := trivial
theorem main.tw16480584520131690045 : True := trivial
theorem main.tw1236483940969888574 : True := trivial
theorem main.tw3934531018447913466 : True := trivial
theorem main.tw10876229203375891673 : True := trivial
theorem main.tw2900998541784483753 : True := trivial
theorem main.tw14639212616227390028 : True := trivial
theorem main.tw5677329702179833609 : True := trivial
theorem main.tw16008252555379753968 : True := trivial
theorem main.tw9417822746687237092 : True := trivial
theorem main.tw14635473669698735251 : True := trivial
theorem main.tw12900284412222446716 : True := trivial
theorem main.tw13591255225166038476 : True := trivial
theorem main.tw5181119749688162637 : True := trivial
theorem main.tw9253799994812790149 : True := trivial
theorem main.tw17091655785135471103 : True := trivial
theorem main.tw15109750227778091905 : True := trivial
theorem main.tw10665469846841522134 : True := trivial
theorem main.tw1261021989165538067 : True := trivial
theorem main.tw11218778669853930896 : True := trivial
theorem main.tw1980160206288974728 : True := trivial
theorem main.tw387501639795913443 : True := trivial
theorem main.tw17118054049896295152 : True := trivial
theorem main.tw5363903885879670357 : True := trivial
theorem main.tw5638201095994319732 : True := trivial
theorem main.tw3779293765908593550 : True := trivial
theorem main.tw5084117380071580128 : True := trivial
theorem main.tw6075091234017535682 : True := trivial
theorem main.tw1850612553970854742 : True := trivial
theorem main.tw10821422270917381399 : True := trivial
theorem main.tw6162249291895867263 : True := trivial
theorem main.tw11770474507260867162 : True := trivial
theorem main.tw16153842264607907944 : True := trivial
theorem main.tw4749052000479324790 : True := trivial
theorem main.tw18431692314602308842 : True := trivial
theorem main.tw6912675738884088206 : True := trivial
theorem main.tw14562738103837258888 : True := trivial
theorem main.tw7298748307773712898 : True := trivial
theorem main.tw2744014450722944760 : True := trivial
theorem main.tw15734660467963936456 : True := trivial
theorem main.tw3929360314856885047 : True := trivial
theorem main.tw11982392923317675503 : True := trivial
theorem main.tw13180746182150919023 : True := trivial
theorem main.tw17772660856055264346 : True := trivial
theorem main.tw5518243967957118194 : True := trivial
theorem main.tw8627561154394265716 : True := trivial
theorem main.tw10652611922669240339 : True := trivial
theorem main.tw3848698983108048278 : True := trivial
theorem main.tw15131278010643852716 : True := trivial
theorem main.tw10391951854915411234 : True := trivial
theorem main.tw6389877041954997217 : True := trivial
theorem main.tw11374851513655246148 : True := trivial
theorem main.tw11409991511011244131 : True := trivial
theorem main.tw17146568849442343683 : True := trivial
theorem main.tw18332899500509843999 : True := trivial
theorem main.tw17679725944135375923 : True := trivial
theorem main.tw16806246253224384389 : True := trivial
theorem main.tw656089360051881306 : True := trivial
theorem main.tw2225956059507018244 : True := trivial
theorem main.tw3234112476842188716 : True := trivial
theorem main.tw11003572833241299968 : True := trivial
theorem main.tw15803610866087392283 : True := trivial
theorem main.tw10541821337518525447 : True := trivial
theorem main.tw10663580350406149668 : True := trivial
theorem main.tw6663778134991626487 : True := trivial
theorem main.tw14161005256144132680 : True := trivial
theorem main.tw15624239662980076321 : True := trivial
theorem main.tw14218914174604095658 : True := trivial
theorem main.tw18392154025008590481 : True := trivial
theorem main.tw11962923498438245051 : True := trivial
theorem main.tw16641786646906312760 : True := trivial
theorem main.tw16320215318167395912 : True := trivial
theorem main.tw15616401959046598769 : True := trivial
theorem main.tw2629084897520917108 : True := trivial
theorem main.tw11221353774195762014 : True := trivial
theorem main.tw9392487213469676918 : True := trivial
theorem main.tw10924716458440934090 : True := trivial
theorem main.tw16959884160788844718 : True := trivial
theorem main.tw8557395850702784662 : True := trivial
theorem main.tw14722489848711283861 : True := trivial
theorem main.tw12915833801598196605 : True := trivial
theorem main.tw13547569757486424058 : True := trivial
theorem main.tw7237411587787531456 : True := trivial
theorem main.tw5665735395497279834 : True := trivial
theorem main.tw10149618387772673413 : True := trivial
theorem main.tw15928290008803537013 : True := trivial
theorem main.tw9381277316556691805 : True := trivial
theorem main.tw5797031442667253490 : True := trivial
theorem main.tw11710404883906591787 : True := trivial
theorem main.tw1714950047550659301 : True := trivial
theorem main.tw9682133043923132273 : True := trivial
theorem main.tw1054321117371714560 : True := trivial
theorem main.tw18325589031809861271 : True := trivial
theorem main.tw16629339528299215175 : True := trivial
theorem main.tw1178595665728414349 : True := trivial
theorem main.tw6877560268529008848 : True := trivial
theorem main.tw12450111651097656602 : True := trivial
theorem main.tw2524017781993486291 : True := trivial
theorem main.tw1319676515408343850 : True := trivial
theorem main.tw18315214858253571532 : True := trivial
theorem main.tw11156056980113079860 : True := trivial
theorem main.tw11101190512080308003 : True := trivial
theorem main.tw9515011664573035354 : True := trivial
theorem main.tw14091239562226147355 : True := trivial
theorem main.tw12909650291622432550 : True := trivial
theorem main.tw14080665800827857628 : True := trivial
theorem main.tw5473700226181020891 : True := trivial
theorem main.tw13132915859168520264 : True := trivial
theorem main.tw14313897822631088780 : True := trivial
theorem main.tw6418098437765475518 : True := trivial
theorem main.tw16519101796099990279 : True := trivial
theorem main.tw1264294196387467257 : True := trivial
theorem main.tw16218864148678617972 : True := trivial
theorem main.tw5790326737455844299 : True := trivial
theorem main.tw10455743928339290457 : True := trivial
theorem main.tw14496423897433622717 : True := trivial
theorem main.tw13260870731297125680 : True := trivial
theorem main.tw1277820614484962519 : True := trivial
theorem main.tw799486724532869496 : True := trivial
theorem main.tw12431731261707249289 : True := trivial
theorem main.tw14793117695081215449 : True := trivial
theorem main.tw11349898740250378076 : True := trivial
theorem main.tw1439166485080882 : True := trivial
theorem main.tw5240536507193477226 : True := trivial
theorem main.tw17438294365789470252 : True := trivial
theorem main.tw1410759432943718018 : True := trivial
theorem main.tw12885673836220544336 : True := trivial
theorem main.tw12564604832814323664 : True := trivial
theorem main.tw11554813239044494598 : True := trivial
theorem main.tw18238007617527299592 : True := trivial
theorem main.tw1453356044741674121 : True := trivial
theorem main.tw8079908401900000222 : True := trivial
theorem main.tw7514964652732493775 : True := trivial
theorem main.tw2544328076492683441 : True := trivial
theorem main.tw16756631487020416482 : True := trivial
theorem main.tw6862492499505807319 : True := trivial
theorem main.tw8478376212529829071 : True := trivial
theorem main.tw6915769261274880522 : True := trivial
theorem main.tw16965079339398995527 : True := trivial
theorem main.tw10204856939554784155 : True := trivial
theorem main.tw5102693214775723256 : True := trivial
theorem main.tw12935999375733525521 : True := trivial
theorem main.tw1545906260438175962 : True := trivial
theorem main.tw2702614204127132176 : True := trivial
theorem main.tw11261727412033496967 : True := trivial
theorem main.tw1677766988990989824 : True := trivial
theorem main.tw6183352029847204284 : True := trivial
theorem main.tw10877679251791092727 : True := trivial
theorem main.tw10625486282989778954 : True := trivial
theorem main.tw13355152605343272895 : True := trivial
theorem main.tw7293298908176781663 : True := trivial
theorem main.tw6785657489111691699 : True := trivial
theorem main.tw12470004780890421668 : True := trivial
theorem main.tw14492832472218066102 : True := trivial
theorem main.tw3331782747112856122 : True := trivial
theorem main.tw716429049611869786 : True := trivial
theorem main.tw18031918436515192882 : True := trivial
theorem main.tw15510692781650021527 : True := trivial
theorem main.tw14168887731352723522 : True := trivial
theorem main.tw11135027115929721415 : True := trivial
theorem main.tw16452447596832230105 : True := trivial
theorem main.tw750237026923860459 : True := trivial
theorem main.tw1099256609624015869 : True := trivial
theorem main.tw10114013102757674387 : True := trivial
theorem main.tw2714283472998740243 : True := trivial
theorem main.tw8809968196449919288 : True := trivial
theorem main.tw7153082081811710619 : True := trivial
theorem main.tw5378808338967829844 : True := trivial
theorem main.tw8127475511531132179 : True := trivial
theorem main.tw5436791530062809996 : True := trivial
theorem main.tw6112859857366181021 : True := trivial
theorem main.tw17268439761433841065 : True := trivial
theorem main.tw6044114016751833949 : True := trivial
theorem main.tw13313126695403321540 : True := trivial
theorem main.tw6690441779611380620 : True := trivial
theorem main.tw13803360072150633466 : True := trivial
theorem main.tw7308723440029596264 : True := trivial
theorem main.tw16922381011570985944 : True := trivial
theorem main.tw2566753976717531306 : True := trivial
theorem main.tw10463206416058312583 : True := trivial
theorem main.tw10750994468655217958 : True := trivial
theorem main.tw6385024630547198690 : True := trivial
theorem main.tw1306636233014830658 : True := trivial
theorem main.tw2456247091588846565 : True := trivial
theorem main.tw12077450504624328385 : True := trivial
theorem main.tw9274054859765456524 : True := trivial
theorem main.tw5401703158475992631 : True := trivial
theorem main.tw16193401482309157537 : True := trivial
theorem main.tw7411558596216406370 : True := trivial
theorem main.tw4573282807186111410 : True := trivial
theorem main.tw17737603089517620647 : True := trivial
theorem main.tw3027586509356016917 : True := trivial
theorem main.tw12927740378394474205 : True := trivial
theorem main.tw1118068078248606362 : True := trivial
theorem main.tw13154001654789283132 : True := trivial
theorem main.tw13667920496262714385 : True := trivial
theorem main.tw7875838824674609581 : True := trivial
theorem main.tw10876375607700338302 : True := trivial
theorem main.tw9848185148710128376 : True := trivial
theorem main.tw9670510015898674028 : True := trivial
theorem main.tw12222963475772708484 : True := trivial
theorem main.tw14457758005677747962 : True := trivial
theorem main.tw1157997071576566072 : True := trivial
theorem main.tw12800608258095302798 : True := trivial
theorem main.tw6702130215012162313 : True := trivial
theorem main.tw10707853282979444102 : True := trivial
theorem main.tw15580989882048331800 : True := trivial
theorem main.tw17336282652733537790 : True := trivial
theorem main.tw6660377722381337597 : True := trivial
theorem main.tw10140136200207757160 : True := trivial
theorem main.tw18178676814319149831 : True := trivial
theorem main.tw453184122279072053 : True := trivial
theorem main.tw3299218664060906527 : True := trivial
theorem main.tw2759098988195820126 : True := trivial
theorem main.tw3829396358689915599 : True := trivial
theorem main.tw14439473939278146460 : True := trivial
theorem main.tw1469836325065767749 : True := trivial
theorem main.tw4333880214566435006 : True := trivial
theorem main.tw9498315638749924794 : True := trivial
theorem main.tw12872379398031375081 : True := trivial
theorem main.tw6511744376749373798 : True := trivial
theorem main.tw1098248734344127483 : True := trivial
theorem main.tw16798622893749714585 : True := trivial
theorem main.tw8207831470162742035 : True := trivial
theorem main.tw15225127925928830808 : True := trivial
theorem main.tw7212175060617461999 : True := trivial
theorem main.tw9121559901702372667 : True := trivial
theorem main.tw13642826006792871662 : True := trivial
theorem main.tw5160751907100791332 : True := trivial
theorem main.tw16102231251864390963 : True := trivial
theorem main.tw12543713266681445118 : True := trivial
theorem main.tw3557749057250611081 : True := trivial
theorem main.tw4044139247061151142 : True := trivial
theorem main.tw5243159528196176124 : True := trivial
theorem main.tw7221758910455160077 : True := trivial
theorem main.tw4775608329324902142 : True := trivial
theorem main.tw3905226178654972811 : True := trivial
theorem main.tw3706830351922483016 : True := trivial
theorem main.tw12057704586751987240 : True := trivial
theorem main.tw14672674291997333471 : True := trivial
theorem main.tw1587290215689348708 : True := trivial
theorem main.tw5649967823195072380 : True := trivial
set_option maxHeartbeats 8000000 in
set_option Elab.async true in
theorem main : PySem.Challenge.rw_nn0135_01.Holds := by
  (w_on; o_law; k_head; (case hw => w_witness2); w_strict (k_go0))
  all_goals (try k_fold)
  k_steps
end Mine
theorem PySem.Challenge.cw_nn0135_01_holds : PySem.Challenge.rw_nn0135_01.Holds :=
  Mine.main
