import PyProof.Rows.All
import Wide.All
import OpenK.AllK
import Wide.FinOn
import PySem.Challenge.RW_xm0577_01
open PySem PySem.W PyProof.Rows
set_option Elab.async false
set_option maxRecDepth 100000
set_option maxHeartbeats 100000000
namespace Mine
noncomputable def stmts : List Stmt := by
  refine (fun (b : List Stmt) (_ : b = (((PySem.Challenge.pw_xm0577_01.main.body.eraseIdx 8).eraseIdx 3).eraseIdx 0)) => b) ?b ?e
  case e =>
    unfold PySem.Challenge.pw_xm0577_01
    dsimp only [List.eraseIdx]
    exact rfl
noncomputable def view : Program := { PySem.Challenge.rw_xm0577_01.row.toRowW.prog with main := { PySem.Challenge.rw_xm0577_01.row.toRowW.prog.main with body := stmts } }
theorem said : PySem.Challenge.rw_xm0577_01.wellSaid = true := by
  rw [PySem.W.Fast.te9446332074065402090]
  decide +kernel
local macro_rules | `(tactic| o_law) => `(tactic| refine holds_law said fun said => ?_)
local macro_rules | `(tactic| o_head $H) => `(tactic| refine holds_open (q := view) (loose := [Str.ofString "LendError"]) (Xt := fun s => xlAt view [] s && recOk (RowW.records PySem.Challenge.rw_xm0577_01.row.toRowW) s) (XP := XL view []) (Yf := Hook.obs $H) (Ya := Hook.val $H) (YP := Hook.says $H) (N := 1848) (fun w => by
  unfold openEnds fencedOpening topFrom openGood
  rw [PySem.W.Fast.te14364793385576792824, PySem.W.Fast.te4187177175401517315, PySem.W.Fast.te5923862056798008813, PySem.W.Fast.te14082659384304107361, PySem.W.Fast.te8920871248978507458, PySem.W.Fast.te821141287760084731, PySem.W.Fast.te3247288618530077131, PySem.W.Fast.te1435165496053646825, PySem.W.Fast.te10274390034422433532]
  kernel_rfl) (Hook.of $H) (Hook.keeps $H) (fun s e => xl_of s (Bool.and_eq_true_iff.mp e).1) XL.keeps (by rfl) (by rfl) (by rfl) (fun s e => recFacts_of (Bool.and_eq_true_iff.mp e).2) (by rfl) (by assumption) (by decide +kernel) ⟨rfl, rfl, rfl, rfl, rfl, by decide +kernel⟩ ?$(Lean.mkIdent `hw) ?$(Lean.mkIdent `hc))
open_top hd for PySem.Challenge.rw_xm0577_01
local macro_rules | `(tactic| tb_start) => `(tactic| k_extra "tb_start")
local macro_rules | `(tactic| tb_rel) => `(tactic| k_extra "tb_rel")
local macro_rules | `(tactic| kst_mem) => `(tactic| k_extra "kst_mem")
local macro_rules | `(tactic| k_mem) => `(tactic| k_extra "k_mem")
local macro_rules | `(tactic| k_all) => `(tactic| k_extra "k_all")
local macro_rules | `(tactic| kqd_sub) => `(tactic| k_extra "kqd_sub")
local macro_rules | `(tactic| ktr_enter) => `(tactic| k_extra "ktr_enter")
local macro_rules | `(tactic| ktn_lt) => `(tactic| k_extra "ktn_lt")
local macro_rules | `(tactic| ktn_ord) => `(tactic| k_extra "ktn_ord")
local macro_rules | `(tactic| ktn_open) => `(tactic| k_extra "ktn_open")
local macro_rules | `(tactic| ked_reads) => `(tactic| k_extra "ked_reads")
local macro_rules | `(tactic| k_ne) => `(tactic| k_extra "k_ne")
local macro_rules | `(tactic| lcg_off) => `(tactic| k_extra "lcg_off")
local macro_rules | `(tactic| lcg_sub) => `(tactic| k_extra "lcg_sub")
local macro_rules | `(tactic| k_subL) => `(tactic| k_extra "k_subL")
local macro_rules | `(tactic| ktr_step) => `(tactic| k_extra "ktr_step")
local macro_rules | `(tactic| lcg_src) => `(tactic| k_extra "lcg_src")
local macro_rules | `(tactic| kc_close) => `(tactic| k_extra "kc_close")
local macro_rules | `(tactic| kwd_rel) => `(tactic| k_extra "kwd_rel")
local macro_rules | `(tactic| kwd_inv) => `(tactic| k_extra "kwd_inv")
local macro_rules | `(tactic| ktr_rel) => `(tactic| k_extra "ktr_rel")
local macro_rules | `(tactic| walk_at $s:str) => `(tactic| k_extra $(Lean.Syntax.mkStrLit ("m " ++ s.getString)))
local macro_rules | `(tactic| k_lt $h) => `(tactic| skip)
theorem words_1 : True := by
  w_top off
  k_with_none
  trivial
def Spec (w : World) (mean : ExcName → Option Value) (mg mb : Str → Option Value) (f : Addr) (du uu : Nat) (vs : List Value) (N : List (Addr × Obj)) (Post : Value → List (Addr × Obj) → Prop) : Prop :=
  ∀ (dp un : Nat) (gd : Option (List Code)) (cn : Str) (cs : Scope) (a : Addr) (ccd : Value) (cl : List (Str × Addr)) (outer : List Env) (A₀ : Around) (base h₀ : Heap) (L : Addr) (m : Str → Option Value) (s : Shared) (Q E : Value → Shared → Prop),
    Below A₀ base outer h₀ → Fr h₀ L s.heap m → (hd.heap_1 w.params).In h₀ → News h₀ L s.heap N → Top topProg (looseW view [Str.ofString "LendError"] ++ (recsOf view).map (·.name) ++ (litsOf view).map (·.1) ++ (clssOf view (looseW view [Str.ofString "LendError"])).map (·.name)) mean mg mb h₀ → cs.kind = .function → dp + du < recursionLimit → un + uu < cLine →
    (∀ r N' h' tk', Fr h₀ L h' m → News h₀ L h' N' → Post r N' → Q r { s with heap := h', toks := tk' }) →
    wpAny (model PySem.Challenge.rw_xm0577_01.row.prog w) (ktrTop dp un gd cn cs L a ccd cl outer) (call (.ref f) vs) Q E s
def srcObj (a b : Int) (ta tb : Tok) (n : Nat) : Obj := listOf [Value.int a ta, Value.int b tb].toArray n
theorem News.sub {h₀ h : Heap} {L : Addr} {N N' : List (Addr × Obj)} (X : News h₀ L h N) (k : ∀ p ∈ N', p ∈ N) : News h₀ L h N' := fun p hp => X p (k p hp)
theorem allLt_all {d : Addr} : ∀ {l : List (Addr × Obj)}, AllLt d l → ∀ p ∈ l, p.1 < d
  | [], _, _, hp => (nomatch hp)
  | q :: r, h, p, hp => by
    rcases List.mem_cons.mp hp with rfl | hp
    · exact h.1
    · exact allLt_all h.2 p hp
theorem less_lt {l : List (Addr × Obj)} {x d : Addr} {o : Obj} (h : ∀ p ∈ l, @LT.lt Nat _ p.1 d) (m : (x, o) ∈ l) : @LT.lt Nat _ x d := h _ m
theorem less_ne {l : List (Addr × Obj)} {x d : Addr} {o : Obj} (h : ∀ p ∈ l, @LT.lt Nat _ p.1 d) (m : (x, o) ∈ l) : x ≠ d := Nat.ne_of_lt (h _ m)
theorem less_en {l : List (Addr × Obj)} {x d : Addr} {o : Obj} (h : ∀ p ∈ l, @LT.lt Nat _ p.1 d) (m : (x, o) ∈ l) : d ≠ x := Nat.ne_of_gt (h _ m)
theorem less_ne1 {l : List (Addr × Obj)} {x d : Nat} {o : Obj} (h : ∀ p ∈ l, @LT.lt Nat _ p.1 d) (m : ((x : Addr), o) ∈ l) : x ≠ d + 1 := Nat.ne_of_lt (Nat.lt_succ_of_lt (h _ m))
theorem less_en1 {l : List (Addr × Obj)} {x d : Nat} {o : Obj} (h : ∀ p ∈ l, @LT.lt Nat _ p.1 d) (m : ((x : Addr), o) ∈ l) : d + 1 ≠ x := Nat.ne_of_gt (Nat.lt_succ_of_lt (h _ m))
theorem less_sub1 {l R : List (Addr × Obj)} {d : Nat} (h : ∀ p ∈ l, @LT.lt Nat _ p.1 d) (s : ∀ p ∈ R, p ∈ l) : ∀ p ∈ R, p.1 ≠ d + 1 := fun p hp => Nat.ne_of_lt (Nat.lt_succ_of_lt (h p (s p hp)))
theorem less_ne2 {l : List (Addr × Obj)} {x d : Nat} {o : Obj} (h : ∀ p ∈ l, @LT.lt Nat _ p.1 d) (m : ((x : Addr), o) ∈ l) : x ≠ d + 1 + 1 := Nat.ne_of_lt (Nat.lt_succ_of_lt (Nat.lt_succ_of_lt (h _ m)))
theorem less_en2 {l : List (Addr × Obj)} {x d : Nat} {o : Obj} (h : ∀ p ∈ l, @LT.lt Nat _ p.1 d) (m : ((x : Addr), o) ∈ l) : d + 1 + 1 ≠ x := Nat.ne_of_gt (Nat.lt_succ_of_lt (Nat.lt_succ_of_lt (h _ m)))
theorem less_sub2 {l R : List (Addr × Obj)} {d : Nat} (h : ∀ p ∈ l, @LT.lt Nat _ p.1 d) (s : ∀ p ∈ R, p ∈ l) : ∀ p ∈ R, p.1 ≠ d + 1 + 1 := fun p hp => Nat.ne_of_lt (Nat.lt_succ_of_lt (Nat.lt_succ_of_lt (h p (s p hp))))
theorem less_ne3 {l : List (Addr × Obj)} {x d : Nat} {o : Obj} (h : ∀ p ∈ l, @LT.lt Nat _ p.1 d) (m : ((x : Addr), o) ∈ l) : x ≠ d + 1 + 1 + 1 := Nat.ne_of_lt (Nat.lt_succ_of_lt (Nat.lt_succ_of_lt (Nat.lt_succ_of_lt (h _ m))))
theorem less_en3 {l : List (Addr × Obj)} {x d : Nat} {o : Obj} (h : ∀ p ∈ l, @LT.lt Nat _ p.1 d) (m : ((x : Addr), o) ∈ l) : d + 1 + 1 + 1 ≠ x := Nat.ne_of_gt (Nat.lt_succ_of_lt (Nat.lt_succ_of_lt (Nat.lt_succ_of_lt (h _ m))))
theorem less_sub3 {l R : List (Addr × Obj)} {d : Nat} (h : ∀ p ∈ l, @LT.lt Nat _ p.1 d) (s : ∀ p ∈ R, p ∈ l) : ∀ p ∈ R, p.1 ≠ d + 1 + 1 + 1 := fun p hp => Nat.ne_of_lt (Nat.lt_succ_of_lt (Nat.lt_succ_of_lt (Nat.lt_succ_of_lt (h p (s p hp)))))
theorem less_ne4 {l : List (Addr × Obj)} {x d : Nat} {o : Obj} (h : ∀ p ∈ l, @LT.lt Nat _ p.1 d) (m : ((x : Addr), o) ∈ l) : x ≠ d + 1 + 1 + 1 + 1 := Nat.ne_of_lt (Nat.lt_succ_of_lt (Nat.lt_succ_of_lt (Nat.lt_succ_of_lt (Nat.lt_succ_of_lt (h _ m)))))
theorem less_en4 {l : List (Addr × Obj)} {x d : Nat} {o : Obj} (h : ∀ p ∈ l, @LT.lt Nat _ p.1 d) (m : ((x : Addr), o) ∈ l) : d + 1 + 1 + 1 + 1 ≠ x := Nat.ne_of_gt (Nat.lt_succ_of_lt (Nat.lt_succ_of_lt (Nat.lt_succ_of_lt (Nat.lt_succ_of_lt (h _ m)))))
theorem less_sub4 {l R : List (Addr × Obj)} {d : Nat} (h : ∀ p ∈ l, @LT.lt Nat _ p.1 d) (s : ∀ p ∈ R, p ∈ l) : ∀ p ∈ R, p.1 ≠ d + 1 + 1 + 1 + 1 := fun p hp => Nat.ne_of_lt (Nat.lt_succ_of_lt (Nat.lt_succ_of_lt (Nat.lt_succ_of_lt (Nat.lt_succ_of_lt (h p (s p hp))))))
theorem less_ne5 {l : List (Addr × Obj)} {x d : Nat} {o : Obj} (h : ∀ p ∈ l, @LT.lt Nat _ p.1 d) (m : ((x : Addr), o) ∈ l) : x ≠ d + 1 + 1 + 1 + 1 + 1 := Nat.ne_of_lt (Nat.lt_succ_of_lt (Nat.lt_succ_of_lt (Nat.lt_succ_of_lt (Nat.lt_succ_of_lt (Nat.lt_succ_of_lt (h _ m))))))
theorem less_en5 {l : List (Addr × Obj)} {x d : Nat} {o : Obj} (h : ∀ p ∈ l, @LT.lt Nat _ p.1 d) (m : ((x : Addr), o) ∈ l) : d + 1 + 1 + 1 + 1 + 1 ≠ x := Nat.ne_of_gt (Nat.lt_succ_of_lt (Nat.lt_succ_of_lt (Nat.lt_succ_of_lt (Nat.lt_succ_of_lt (Nat.lt_succ_of_lt (h _ m))))))
theorem less_sub5 {l R : List (Addr × Obj)} {d : Nat} (h : ∀ p ∈ l, @LT.lt Nat _ p.1 d) (s : ∀ p ∈ R, p ∈ l) : ∀ p ∈ R, p.1 ≠ d + 1 + 1 + 1 + 1 + 1 := fun p hp => Nat.ne_of_lt (Nat.lt_succ_of_lt (Nat.lt_succ_of_lt (Nat.lt_succ_of_lt (Nat.lt_succ_of_lt (Nat.lt_succ_of_lt (h p (s p hp)))))))
theorem less_sub {l R : List (Addr × Obj)} {d : Addr} (h : ∀ p ∈ l, @LT.lt Nat _ p.1 d) (s : ∀ p ∈ R, p ∈ l) : ∀ p ∈ R, p.1 ≠ d := fun p hp => Nat.ne_of_lt (h p (s p hp))
theorem less_allLt {l R : List (Addr × Obj)} {d : Addr} (h : ∀ p ∈ l, @LT.lt Nat _ p.1 d) (s : ∀ p ∈ R, p ∈ l) : AllLt d R := allLt_of fun p hp => h p (s p hp)
theorem less_all {l R : List (Addr × Obj)} {d : Addr} (h : ∀ p ∈ l, @LT.lt Nat _ p.1 d) (s : ∀ p ∈ R, p ∈ l) : ∀ p ∈ R, @LT.lt Nat _ p.1 d := fun p hp => h p (s p hp)
theorem lt_ne2 {l : List (Addr × Obj)} {x d r : Nat} {o : Obj} (k : @LT.lt Nat _ d r) (h : ∀ p ∈ l, @LT.lt Nat _ p.1 d) (m : ((x : Addr), o) ∈ l) : r ≠ x := Nat.ne_of_gt (Nat.lt_trans (h _ m) k)
theorem lt_en2 {l : List (Addr × Obj)} {x d r : Nat} {o : Obj} (k : @LT.lt Nat _ d r) (h : ∀ p ∈ l, @LT.lt Nat _ p.1 d) (m : ((x : Addr), o) ∈ l) : x ≠ r := Nat.ne_of_lt (Nat.lt_trans (h _ m) k)
theorem succ_ne1 {d : Nat} : d + 1 ≠ d := by omega
theorem succ_ne2 {d : Nat} : d ≠ d + 1 := by omega
theorem succ_ne3 {d e : Nat} (h : d ≠ e) : d + 1 ≠ e + 1 := by omega
theorem allLt_ne {d : Addr} {l : List (Addr × Obj)} (h : AllLt d l) : ∀ p ∈ l, p.1 ≠ d := fun p hp => Nat.ne_of_lt (allLt_all h p hp)
theorem fresh_ne {l tl : List (Addr × Obj)} {d : Addr} {o : Obj} (hf : ∀ q ∈ l, ∀ p ∈ tl, q.1 < p.1) (hm : (d, o) ∈ l) : ∀ p ∈ tl, p.1 ≠ d := fun p hp => Nat.ne_of_gt (hf _ hm p hp)
theorem rearr {α : Type} {pre post : List α} {x y : α} : (∀ p ∈ x :: (pre ++ post), p ∈ pre ++ x :: post) ∧ (∀ p ∈ pre ++ x :: post, p ∈ x :: (pre ++ post)) := by
  constructor
  · intro p hp
    simp only [List.mem_cons, List.mem_append] at hp ⊢
    rcases hp with h | h | h
    · exact .inr (.inl h)
    · exact .inl h
    · exact .inr (.inr h)
  · intro p hp
    simp only [List.mem_cons, List.mem_append] at hp ⊢
    rcases hp with h | h | h
    · exact .inr (.inl h)
    · exact .inl h
    · exact .inr (.inr h)
theorem UpdF.out {d : Addr} {o : Obj} {l : List (Addr × Obj)} {g : Obj → List (Addr × Obj)} (U : UpdF d o l g) : ∃ R, (∀ p ∈ R, p.1 ≠ d) ∧ (∀ o' p, p ∈ g o' ↔ p ∈ (d, o') :: R) ∧ (∀ p, p ∈ l ↔ p ∈ (d, o) :: R) := by
  obtain ⟨pre, post, rfl, hg, h1, h2⟩ := U.split
  refine ⟨pre ++ post, fun p hp => (List.mem_append.mp hp).elim (h1 p) (h2 p), fun o' p => ?_, fun p => ?_⟩
  · rw [hg]; exact ⟨(rearr (y := p)).2 p, (rearr (y := p)).1 p⟩
  · exact ⟨(rearr (y := p)).2 p, (rearr (y := p)).1 p⟩
/-- two addresses are not the same; folded, so that omega does not split on it -/
def Apart (a b : Nat) : Prop := a ≠ b
theorem Apart.ne {a b : Nat} (h : Apart a b) : a ≠ b := h
theorem Apart.en {a b : Nat} (h : Apart b a) : a ≠ b := Ne.symm h
section
theorem words_2 : True := by
  w_top off
  k_with_none
  k_with "kst_mem" => first
    | (first
      | with_reducible assumption
      | with_reducible exact List.mem_cons_self
      | (with_reducible refine List.mem_cons_of_mem _ ?_; kst_mem)
      | (with_reducible refine List.mem_append.mpr (Or.inl ?_); kst_mem)
      | (with_reducible refine List.mem_append.mpr (Or.inr ?_); kst_mem)
      | fail "kst_mem")
    | fail
  k_with "k_mem" => first
    | (kst_mem)
    | fail
  k_with "k_all" => first
    | (first
      | with_reducible assumption
      | exact List.forall_mem_nil _
      | (with_reducible refine' Mine.less_sub ?h_2 ?m_2; (case h_2 => with_reducible assumption); (case m_2 => (intro p9 h9; kst_mem)))
      | (with_reducible refine' Mine.less_sub1 ?h_2 ?m_2; (case h_2 => with_reducible assumption); (case m_2 => (intro p9 h9; kst_mem)))
      | (with_reducible refine' Mine.less_sub2 ?h_2 ?m_2; (case h_2 => with_reducible assumption); (case m_2 => (intro p9 h9; kst_mem)))
      | (with_reducible refine' Mine.less_sub3 ?h_2 ?m_2; (case h_2 => with_reducible assumption); (case m_2 => (intro p9 h9; kst_mem)))
      | (with_reducible refine' Mine.less_sub4 ?h_2 ?m_2; (case h_2 => with_reducible assumption); (case m_2 => (intro p9 h9; kst_mem)))
      | (with_reducible refine' Mine.less_sub5 ?h_2 ?m_2; (case h_2 => with_reducible assumption); (case m_2 => (intro p9 h9; kst_mem)))
      | (refine' List.forall_mem_cons.mpr ⟨?a_2, ?b_2⟩; (case a_2 => k_ne); (case b_2 => k_all))
      | exact Mine.allLt_ne (by with_reducible assumption)
      | exact Mine.fresh_ne (by with_reducible assumption) (by k_mem)
      | (refine' List.forall_mem_append.mpr ⟨?_, ?_⟩ <;> k_all))
    | fail
  k_with "kqd_sub" => first
    | (first
      | exact fun _ h => h
      | exact List.forall_mem_nil _
      | (refine' List.forall_mem_cons.mpr ⟨?kqa_3, ?kqb_3⟩; (case kqa_3 => k_mem); (case kqb_3 => kqd_sub))
      | (refine' List.forall_mem_append.mpr ⟨?_, ?_⟩ <;> kqd_sub)
      | (intro p9 h9; k_mem))
    | fail
  k_with "ktr_enter" => first
    | (refine' code_defC ?k1_4 ?k2_4 ?k3_4 ?k4_4 ?k5_4 ?kA_4 ?kF_4 ?kK_4 ?k6_4 ?k7_4 ?k8_4 ?k9_4 ?kB_4 ?kD_4 ?_ ?c2_4 ?c3_4 ?c4_4; (case kA_4 => exact rfl); (case kF_4 => exact rfl); (case kK_4 => assumption); (case k1_4 => k_asm); (case k2_4 => k_asm); (case k3_4 => k_asm); (case k4_4 => k_asm); (case k5_4 => k_asm); (case k6_4 => k_is); (case k7_4 => k_is); (case k8_4 => ktr_room); (case k9_4 => exact BindsTo.of_eq rfl); (case kB_4 => exact rfl); (case kD_4 => decide +kernel); (case c2_4 => exact rfl); (case c3_4 => exact rfl); (case c4_4 => exact rfl); k_whole; intro g' L' h' tk' cells' FG' F' N' Y' B' X' T' l1; (try k_lt l1); k_cells Y'; (try simp only [List.cons_append, List.nil_append] at N'); (try dsimp only); (try k_fold))
    | fail
  k_with "tb_start" => first
    | (first
      | with_reducible exact Mine.Apart.ne (by with_reducible assumption)
      | with_reducible exact Mine.Apart.en (by with_reducible assumption)
      | with_reducible exact Mine.succ_ne1
      | with_reducible exact Mine.succ_ne2
      | (with_reducible refine' Mine.less_ne ?h_5 ?m_5; (case h_5 => with_reducible assumption); (case m_5 => kst_mem))
      | (with_reducible refine' Mine.less_en ?h_5 ?m_5; (case h_5 => with_reducible assumption); (case m_5 => kst_mem))
      | (with_reducible refine' Mine.less_ne1 ?h_5 ?m_5; (case h_5 => with_reducible assumption); (case m_5 => kst_mem))
      | (with_reducible refine' Mine.less_en1 ?h_5 ?m_5; (case h_5 => with_reducible assumption); (case m_5 => kst_mem))
      | (with_reducible refine' Mine.less_ne2 ?h_5 ?m_5; (case h_5 => with_reducible assumption); (case m_5 => kst_mem))
      | (with_reducible refine' Mine.less_en2 ?h_5 ?m_5; (case h_5 => with_reducible assumption); (case m_5 => kst_mem))
      | (with_reducible refine' Mine.less_ne3 ?h_5 ?m_5; (case h_5 => with_reducible assumption); (case m_5 => kst_mem))
      | (with_reducible refine' Mine.less_en3 ?h_5 ?m_5; (case h_5 => with_reducible assumption); (case m_5 => kst_mem))
      | (with_reducible refine' Mine.less_ne4 ?h_5 ?m_5; (case h_5 => with_reducible assumption); (case m_5 => kst_mem))
      | (with_reducible refine' Mine.less_en4 ?h_5 ?m_5; (case h_5 => with_reducible assumption); (case m_5 => kst_mem))
      | (with_reducible refine' Mine.less_ne5 ?h_5 ?m_5; (case h_5 => with_reducible assumption); (case m_5 => kst_mem))
      | (with_reducible refine' Mine.less_en5 ?h_5 ?m_5; (case h_5 => with_reducible assumption); (case m_5 => kst_mem))
      | (with_reducible refine' Mine.lt_ne2 ?k_5 ?h_5 ?m_5; (case k_5 => with_reducible assumption); (case h_5 => with_reducible assumption); (case m_5 => kst_mem))
      | (with_reducible refine' Mine.lt_en2 ?k_5 ?h_5 ?m_5; (case k_5 => with_reducible assumption); (case h_5 => with_reducible assumption); (case m_5 => kst_mem)))
    | fail
  k_with "k_ne" => first
    | (first | tb_start | ((try dsimp only); (refine neN ?_); first | tb_start | omega))
    | fail
  trivial
theorem gd0 {α : Type} {a b c : α} : [a, b].getD (Int.toNat 0) c = a := rfl
theorem gd1 {α : Type} {a b c : α} : [a, b].getD (Int.toNat 1) c = b := rfl
theorem take_spec {w : World} {mean : ExcName → Option Value} {mg mb : Str → Option Value} (src : Addr) (a b top : Int) (ta tb tt : Tok) (n : Nat) (R : List (Addr × Obj)) (hR : ∀ p ∈ R, p.1 ≠ src) (ha : 0 ≤ a) (hb : 0 ≤ b) (hb2 : b < 2147483647) (ht : 0 < top) (ht2 : top < 1000) :
    Spec w mean mg mb 87 1 20 [.ref src, .int top tt] ((src, srcObj a b ta tb n) :: R) (fun r N' => ∃ k a' b' t ta' tb', r = .int k t ∧ 0 ≤ k ∧ k < top ∧ 0 ≤ a' ∧ 0 ≤ b' ∧ b' < 2147483647 ∧ N' = (src, srcObj a' b' ta' tb' n) :: R) := by
  unfold Spec
  intro dp un gd cn cs ca ccd cl outer A₀ base h₀ L m s Q E B F X N T hk hd hu hret
  unfold srcObj at N
  refine wpAny_call ?_
  k_dflt ktr_enter
  k_steps
  all_goals (try simp only [gd0, gd1] at *)
  all_goals k_steps
  all_goals (refine hret _ _ _ _ (by k_asm) (by k_asm) ?_)
  · exact ⟨_, _, _, _, _, _, rfl, fmod_lo _ (by omega), fmod_hi _ (by omega), Int.fdiv_nonneg (by omega) (by omega), by omega, by omega, rfl⟩
  · exact ⟨_, _, _, _, _, _, rfl, fmod_lo _ (by omega), fmod_hi _ (by omega), by omega, fmod_lo _ (by omega), fmod_hi _ (by omega), rfl⟩
theorem take_use {w : World} {mean : ExcName → Option Value} {mg mb : Str → Option Value} {dp un : Nat} {gd : Option (List Code)} {cn : Str} {cs : Scope} {ca : Addr} {ccd : Value} {cl : List (Str × Addr)} {outer : List Env} {A₀ : Around} {base h₀ : Heap} {L : Addr} {m : Str → Option Value} {s : Shared} {Q E : Value → Shared → Prop}
    {src : Addr} {a b top : Int} {ta tb tt : Tok} {n : Nat} {l : List (Addr × Obj)} {g : Obj → List (Addr × Obj)}
    (B : Below A₀ base outer h₀) (F : Fr h₀ L s.heap m) (X : (hd.heap_1 w.params).In h₀) (N : News h₀ L s.heap l) (T : Top topProg (looseW view [Str.ofString "LendError"] ++ (recsOf view).map (·.name) ++ (litsOf view).map (·.1) ++ (clssOf view (looseW view [Str.ofString "LendError"])).map (·.name)) mean mg mb h₀) (hk : cs.kind = .function)
    (U : UpdF src (srcObj a b ta tb n) l g) (ha : 0 ≤ a) (hb : 0 ≤ b) (hb2 : b < 2147483647) (ht : 0 < top) (ht2 : top < 1000) (hd : dp + 1 < recursionLimit) (hu : un + 20 < cLine)
    (ret : ∀ k a' b' t ta' tb' h' tk', Fr h₀ L h' m → News h₀ L h' (g (srcObj a' b' ta' tb' n)) → 0 ≤ k → k < top → 0 ≤ a' → 0 ≤ b' → b' < 2147483647 → Q (.int k t) { s with heap := h', toks := tk' }) :
    wpAny (model PySem.Challenge.rw_xm0577_01.row.prog w) (ktrTop dp un gd cn cs L ca ccd cl outer) (call (.ref 87) [.ref src, .int top tt]) Q E s := by
  obtain ⟨R, hR, hg, hl⟩ := UpdF.out U
  refine take_spec src a b top ta tb tt n R hR ha hb hb2 ht ht2 _ _ _ _ _ _ _ _ _ _ _ _ _ _ _ _ _ B F X (News.sub N fun p hp => (hl p).mpr hp) T hk hd hu ?_
  rintro r N' h' tk' F' N'' ⟨k, a', b', t, ta', tb', rfl, x1, x2, x3, x4, x5, rfl⟩
  exact ret k a' b' t ta' tb' h' tk' F' (News.sub N'' fun p hp => (hg _ p).mp hp) x1 x2 x3 x4 x5
end
section
theorem words_3 : True := by
  w_top off
  k_with_none
  k_with "kst_mem" => first
    | (first
      | with_reducible assumption
      | with_reducible exact List.mem_cons_self
      | (with_reducible refine List.mem_cons_of_mem _ ?_; kst_mem)
      | (with_reducible refine List.mem_append.mpr (Or.inl ?_); kst_mem)
      | (with_reducible refine List.mem_append.mpr (Or.inr ?_); kst_mem)
      | fail "kst_mem")
    | fail
  k_with "k_mem" => first
    | (kst_mem)
    | fail
  k_with "k_all" => first
    | (first
      | with_reducible assumption
      | exact List.forall_mem_nil _
      | (with_reducible refine' Mine.less_sub ?h_2 ?m_2; (case h_2 => with_reducible assumption); (case m_2 => (intro p9 h9; kst_mem)))
      | (with_reducible refine' Mine.less_sub1 ?h_2 ?m_2; (case h_2 => with_reducible assumption); (case m_2 => (intro p9 h9; kst_mem)))
      | (with_reducible refine' Mine.less_sub2 ?h_2 ?m_2; (case h_2 => with_reducible assumption); (case m_2 => (intro p9 h9; kst_mem)))
      | (with_reducible refine' Mine.less_sub3 ?h_2 ?m_2; (case h_2 => with_reducible assumption); (case m_2 => (intro p9 h9; kst_mem)))
      | (with_reducible refine' Mine.less_sub4 ?h_2 ?m_2; (case h_2 => with_reducible assumption); (case m_2 => (intro p9 h9; kst_mem)))
      | (with_reducible refine' Mine.less_sub5 ?h_2 ?m_2; (case h_2 => with_reducible assumption); (case m_2 => (intro p9 h9; kst_mem)))
      | (refine' List.forall_mem_cons.mpr ⟨?a_2, ?b_2⟩; (case a_2 => k_ne); (case b_2 => k_all))
      | exact Mine.allLt_ne (by with_reducible assumption)
      | exact Mine.fresh_ne (by with_reducible assumption) (by k_mem)
      | (refine' List.forall_mem_append.mpr ⟨?_, ?_⟩ <;> k_all))
    | fail
  k_with "kqd_sub" => first
    | (first
      | exact fun _ h => h
      | exact List.forall_mem_nil _
      | (refine' List.forall_mem_cons.mpr ⟨?kqa_3, ?kqb_3⟩; (case kqa_3 => k_mem); (case kqb_3 => kqd_sub))
      | (refine' List.forall_mem_append.mpr ⟨?_, ?_⟩ <;> kqd_sub)
      | (intro p9 h9; k_mem))
    | fail
  k_with "ktr_enter" => first
    | (refine' code_defC ?k1_4 ?k2_4 ?k3_4 ?k4_4 ?k5_4 ?kA_4 ?kF_4 ?kK_4 ?k6_4 ?k7_4 ?k8_4 ?k9_4 ?kB_4 ?kD_4 ?_ ?c2_4 ?c3_4 ?c4_4; (case kA_4 => exact rfl); (case kF_4 => exact rfl); (case kK_4 => assumption); (case k1_4 => k_asm); (case k2_4 => k_asm); (case k3_4 => k_asm); (case k4_4 => k_asm); (case k5_4 => k_asm); (case k6_4 => k_is); (case k7_4 => k_is); (case k8_4 => ktr_room); (case k9_4 => exact BindsTo.of_eq rfl); (case kB_4 => exact rfl); (case kD_4 => decide +kernel); (case c2_4 => exact rfl); (case c3_4 => exact rfl); (case c4_4 => exact rfl); k_whole; intro g' L' h' tk' cells' FG' F' N' Y' B' X' T' l1; (try k_lt l1); k_cells Y'; (try simp only [List.cons_append, List.nil_append] at N'); (try dsimp only); (try k_fold))
    | fail
  k_with "tb_start" => first
    | (first
      | with_reducible exact Mine.Apart.ne (by with_reducible assumption)
      | with_reducible exact Mine.Apart.en (by with_reducible assumption)
      | with_reducible exact Mine.succ_ne1
      | with_reducible exact Mine.succ_ne2
      | (with_reducible refine' Mine.less_ne ?h_5 ?m_5; (case h_5 => with_reducible assumption); (case m_5 => kst_mem))
      | (with_reducible refine' Mine.less_en ?h_5 ?m_5; (case h_5 => with_reducible assumption); (case m_5 => kst_mem))
      | (with_reducible refine' Mine.less_ne1 ?h_5 ?m_5; (case h_5 => with_reducible assumption); (case m_5 => kst_mem))
      | (with_reducible refine' Mine.less_en1 ?h_5 ?m_5; (case h_5 => with_reducible assumption); (case m_5 => kst_mem))
      | (with_reducible refine' Mine.less_ne2 ?h_5 ?m_5; (case h_5 => with_reducible assumption); (case m_5 => kst_mem))
      | (with_reducible refine' Mine.less_en2 ?h_5 ?m_5; (case h_5 => with_reducible assumption); (case m_5 => kst_mem))
      | (with_reducible refine' Mine.less_ne3 ?h_5 ?m_5; (case h_5 => with_reducible assumption); (case m_5 => kst_mem))
      | (with_reducible refine' Mine.less_en3 ?h_5 ?m_5; (case h_5 => with_reducible assumption); (case m_5 => kst_mem))
      | (with_reducible refine' Mine.less_ne4 ?h_5 ?m_5; (case h_5 => with_reducible assumption); (case m_5 => kst_mem))
      | (with_reducible refine' Mine.less_en4 ?h_5 ?m_5; (case h_5 => with_reducible assumption); (case m_5 => kst_mem))
      | (with_reducible refine' Mine.less_ne5 ?h_5 ?m_5; (case h_5 => with_reducible assumption); (case m_5 => kst_mem))
      | (with_reducible refine' Mine.less_en5 ?h_5 ?m_5; (case h_5 => with_reducible assumption); (case m_5 => kst_mem))
      | (with_reducible refine' Mine.lt_ne2 ?k_5 ?h_5 ?m_5; (case k_5 => with_reducible assumption); (case h_5 => with_reducible assumption); (case m_5 => kst_mem))
      | (with_reducible refine' Mine.lt_en2 ?k_5 ?h_5 ?m_5; (case k_5 => with_reducible assumption); (case h_5 => with_reducible assumption); (case m_5 => kst_mem)))
    | fail
  k_with "k_ne" => first
    | (first | tb_start | ((try dsimp only); (refine neN ?_); first | tb_start | omega))
    | fail
  k_with "m call ref" => first
    | (k_here; (with_reducible show wpAny _ _ (call (Value.ref 87) _) _ _ _); k_dflt (refine' Mine.take_use ?k1_7 ?k2_7 ?k3_7 ?k4_7 ?k5_7 ?k6_7 ?k7_7 ?k8_7 ?k9_7 ?k10_7 ?k11_7 ?k12_7 ?k13_7 ?k14_7 ?_; (case k1_7 => k_asm); (case k2_7 => k_asm); (case k3_7 => k_asm); (case k4_7 => k_asm); (case k5_7 => k_asm); (case k6_7 => first | exact rfl | assumption); (case k7_7 => k_updF); (case k8_7 => assumption); (case k9_7 => assumption); (case k10_7 => assumption); (case k11_7 => omega); (case k12_7 => omega); (case k13_7 => ktr_room); (case k14_7 => ktr_units); k_whole); intro k9 a9 b9 t9 ta9 tb9 h9 tk9 F9 N9 x19 x29 x39 x49 x59; (try dsimp only at N9); (try k_sweep); (try k_fold))
    | fail
  trivial
section
variable {prog : Program} {w : World} {A : Around} {E : Value → Shared → Prop} {s : Shared} {h₀ : Heap} {L th : Addr} {news : List (Addr × Obj)} {vs : List Value} {n : Nat}
theorem len_at {Q : Value → Shared → Prop} (N : News h₀ L s.heap news) (hm : (th, listOf vs.toArray n) ∈ news) (hs : vs.length < 1000)
    (h : Q (.int (vs.length : Nat) (s.toks + 1)) { s with toks := s.toks + 1 + 1 }) : wpAny (model prog w) A (call (.builtin "len") [.ref th]) Q E s := by
  have e : vs.toArray.size = vs.length := by simp
  refine Calls.call_len_list (PySem.IsL.isList (n := n) (N _ hm).1) (by omega) ?_
  rw [e]
  exact h
theorem item_at {value slice : PySem.Expr} {k : Int} {u : Tok} {Q : Value → Shared → Prop} (N : News h₀ L s.heap news) (hm : (th, listOf vs.toArray n) ∈ news) (hs : vs.length < 1000) (h0 : 0 ≤ k) (h1 : k < (vs.length : Nat))
    (h : ∀ v, vs[k.toNat]? = some v → v ∈ vs → Q v s)
    (hs : subscripted slice false (.ref th) (.int k u) = operate [.ref th, .int k u] (getItem (.ref th) (.int k u)) := by with_unfolding_all rfl) :
    wpAny (model prog w) A (subscriptTail value slice (.ref th) (.int k u)) Q E s := by
  have hk : k.toNat < vs.length := by omega
  exact item_litK (PySem.IsL.isList (n := n) (N _ hm).1) h0 (by omega) (List.getElem?_eq_getElem hk) (h _ (List.getElem?_eq_getElem hk) (List.getElem_mem hk)) hs
end
section
theorem words_4 : True := by
  k_with "m call builtin:len" => first
    | (k_here; (with_reducible show wpAny _ _ (call (Value.builtin "len") [Value.ref _]) _ _ _); k_dflt (refine' Mine.len_at ?k1_8 ?k2_8 ?k3_8 ?_; (case k1_8 => k_asm); (case k2_8 => k_mem); (case k3_8 => with_reducible assumption); k_whole))
    | fail
  k_with "m subscriptTail" => first
    | (k_here; (with_reducible show wpAny _ _ (subscriptTail _ _ (Value.ref _) (Value.int _ _)) _ _ _); k_dflt (refine' Mine.item_at ?k1_9 ?k2_9 ?k3_9 ?k4_9 ?k5_9 ?_ ?k6_9; (case k1_9 => k_asm); (case k2_9 => k_mem); (case k3_9 => with_reducible assumption); (case k4_9 => with_reducible assumption); (case k5_9 => with_reducible assumption); (case k6_9 => with_unfolding_all rfl); k_whole); intro v9 hg9 hv9)
    | fail
  trivial
theorem one_spec {w : World} {mean : ExcName → Option Value} {mg mb : Str → Option Value} (src th : Addr) (a b : Int) (ta tb : Tok) (n nn : Nat) (vs : List Value) (R : List (Addr × Obj)) (hR : ∀ p ∈ R, p.1 ≠ src) (hth : (th, listOf vs.toArray nn) ∈ R) (hv0 : 0 < vs.length) (hv : vs.length < 1000) (ha : 0 ≤ a) (hb : 0 ≤ b) (hb2 : b < 2147483647) :
    Spec w mean mg mb 94 2 60 [.ref src, .ref th] ((src, srcObj a b ta tb n) :: R) (fun r N' => ∃ (k : Nat) (a' b' : Int) (ta' tb' : Tok), r ∈ vs ∧ vs[k]? = some r ∧ 0 ≤ a' ∧ 0 ≤ b' ∧ b' < 2147483647 ∧ N' = (src, srcObj a' b' ta' tb' n) :: R) := by
  unfold Spec
  intro dp un gd cn cs ca ccd cl outer A₀ base h₀ L m s Q E B F X N T hk hd hu hret
  refine wpAny_call ?_
  k_dflt ktr_enter
  k_steps
  refine hret _ _ _ _ (by k_asm) (by k_asm) ⟨_, _, _, _, _, by assumption, by assumption, by assumption, by assumption, by assumption, rfl⟩
end
theorem words_5 : True := by
  w_top off
  k_with_none
  k_with "kst_mem" => first
    | (first
      | with_reducible assumption
      | with_reducible exact List.mem_cons_self
      | (with_reducible refine List.mem_cons_of_mem _ ?_; kst_mem)
      | (with_reducible refine List.mem_append.mpr (Or.inl ?_); kst_mem)
      | (with_reducible refine List.mem_append.mpr (Or.inr ?_); kst_mem)
      | fail "kst_mem")
    | fail
  k_with "k_mem" => first
    | (kst_mem)
    | fail
  k_with "k_all" => first
    | (first
      | with_reducible assumption
      | exact List.forall_mem_nil _
      | (with_reducible refine' Mine.less_sub ?h_2 ?m_2; (case h_2 => with_reducible assumption); (case m_2 => (intro p9 h9; kst_mem)))
      | (with_reducible refine' Mine.less_sub1 ?h_2 ?m_2; (case h_2 => with_reducible assumption); (case m_2 => (intro p9 h9; kst_mem)))
      | (with_reducible refine' Mine.less_sub2 ?h_2 ?m_2; (case h_2 => with_reducible assumption); (case m_2 => (intro p9 h9; kst_mem)))
      | (with_reducible refine' Mine.less_sub3 ?h_2 ?m_2; (case h_2 => with_reducible assumption); (case m_2 => (intro p9 h9; kst_mem)))
      | (with_reducible refine' Mine.less_sub4 ?h_2 ?m_2; (case h_2 => with_reducible assumption); (case m_2 => (intro p9 h9; kst_mem)))
      | (with_reducible refine' Mine.less_sub5 ?h_2 ?m_2; (case h_2 => with_reducible assumption); (case m_2 => (intro p9 h9; kst_mem)))
      | (refine' List.forall_mem_cons.mpr ⟨?a_2, ?b_2⟩; (case a_2 => k_ne); (case b_2 => k_all))
      | exact Mine.allLt_ne (by with_reducible assumption)
      | exact Mine.fresh_ne (by with_reducible assumption) (by k_mem)
      | (refine' List.forall_mem_append.mpr ⟨?_, ?_⟩ <;> k_all))
    | fail
  k_with "kqd_sub" => first
    | (first
      | exact fun _ h => h
      | exact List.forall_mem_nil _
      | (refine' List.forall_mem_cons.mpr ⟨?kqa_3, ?kqb_3⟩; (case kqa_3 => k_mem); (case kqb_3 => kqd_sub))
      | (refine' List.forall_mem_append.mpr ⟨?_, ?_⟩ <;> kqd_sub)
      | (intro p9 h9; k_mem))
    | fail
  k_with "ktr_enter" => first
    | (refine' code_defC ?k1_4 ?k2_4 ?k3_4 ?k4_4 ?k5_4 ?kA_4 ?kF_4 ?kK_4 ?k6_4 ?k7_4 ?k8_4 ?k9_4 ?kB_4 ?kD_4 ?_ ?c2_4 ?c3_4 ?c4_4; (case kA_4 => exact rfl); (case kF_4 => exact rfl); (case kK_4 => assumption); (case k1_4 => k_asm); (case k2_4 => k_asm); (case k3_4 => k_asm); (case k4_4 => k_asm); (case k5_4 => k_asm); (case k6_4 => k_is); (case k7_4 => k_is); (case k8_4 => ktr_room); (case k9_4 => exact BindsTo.of_eq rfl); (case kB_4 => exact rfl); (case kD_4 => decide +kernel); (case c2_4 => exact rfl); (case c3_4 => exact rfl); (case c4_4 => exact rfl); k_whole; intro g' L' h' tk' cells' FG' F' N' Y' B' X' T' l1; (try k_lt l1); k_cells Y'; (try simp only [List.cons_append, List.nil_append] at N'); (try dsimp only); (try k_fold))
    | fail
  k_with "tb_start" => first
    | (first
      | with_reducible exact Mine.Apart.ne (by with_reducible assumption)
      | with_reducible exact Mine.Apart.en (by with_reducible assumption)
      | with_reducible exact Mine.succ_ne1
      | with_reducible exact Mine.succ_ne2
      | (with_reducible refine' Mine.less_ne ?h_5 ?m_5; (case h_5 => with_reducible assumption); (case m_5 => kst_mem))
      | (with_reducible refine' Mine.less_en ?h_5 ?m_5; (case h_5 => with_reducible assumption); (case m_5 => kst_mem))
      | (with_reducible refine' Mine.less_ne1 ?h_5 ?m_5; (case h_5 => with_reducible assumption); (case m_5 => kst_mem))
      | (with_reducible refine' Mine.less_en1 ?h_5 ?m_5; (case h_5 => with_reducible assumption); (case m_5 => kst_mem))
      | (with_reducible refine' Mine.less_ne2 ?h_5 ?m_5; (case h_5 => with_reducible assumption); (case m_5 => kst_mem))
      | (with_reducible refine' Mine.less_en2 ?h_5 ?m_5; (case h_5 => with_reducible assumption); (case m_5 => kst_mem))
      | (with_reducible refine' Mine.less_ne3 ?h_5 ?m_5; (case h_5 => with_reducible assumption); (case m_5 => kst_mem))
      | (with_reducible refine' Mine.less_en3 ?h_5 ?m_5; (case h_5 => with_reducible assumption); (case m_5 => kst_mem))
      | (with_reducible refine' Mine.less_ne4 ?h_5 ?m_5; (case h_5 => with_reducible assumption); (case m_5 => kst_mem))
      | (with_reducible refine' Mine.less_en4 ?h_5 ?m_5; (case h_5 => with_reducible assumption); (case m_5 => kst_mem))
      | (with_reducible refine' Mine.less_ne5 ?h_5 ?m_5; (case h_5 => with_reducible assumption); (case m_5 => kst_mem))
      | (with_reducible refine' Mine.less_en5 ?h_5 ?m_5; (case h_5 => with_reducible assumption); (case m_5 => kst_mem))
      | (with_reducible refine' Mine.lt_ne2 ?k_5 ?h_5 ?m_5; (case k_5 => with_reducible assumption); (case h_5 => with_reducible assumption); (case m_5 => kst_mem))
      | (with_reducible refine' Mine.lt_en2 ?k_5 ?h_5 ?m_5; (case k_5 => with_reducible assumption); (case h_5 => with_reducible assumption); (case m_5 => kst_mem)))
    | fail
  k_with "k_ne" => first
    | (first | tb_start | ((try dsimp only); (refine neN ?_); first | tb_start | omega))
    | fail
  k_with "m call ref" => first
    | (k_here; (with_reducible show wpAny _ _ (call (Value.ref 87) _) _ _ _); k_dflt (refine' Mine.take_use ?k1_7 ?k2_7 ?k3_7 ?k4_7 ?k5_7 ?k6_7 ?k7_7 ?k8_7 ?k9_7 ?k10_7 ?k11_7 ?k12_7 ?k13_7 ?k14_7 ?_; (case k1_7 => k_asm); (case k2_7 => k_asm); (case k3_7 => k_asm); (case k4_7 => k_asm); (case k5_7 => k_asm); (case k6_7 => first | exact rfl | assumption); (case k7_7 => k_updF); (case k8_7 => assumption); (case k9_7 => assumption); (case k10_7 => assumption); (case k11_7 => omega); (case k12_7 => omega); (case k13_7 => ktr_room); (case k14_7 => ktr_units); k_whole); intro k9 a9 b9 t9 ta9 tb9 h9 tk9 F9 N9 x19 x29 x39 x49 x59; (try dsimp only at N9); (try k_sweep); (try k_fold))
    | fail
  trivial
theorem one_use {w : World} {mean : ExcName → Option Value} {mg mb : Str → Option Value} {dp un : Nat} {gd : Option (List Code)} {cn : Str} {cs : Scope} {ca : Addr} {ccd : Value} {cl : List (Str × Addr)} {outer : List Env} {A₀ : Around} {base h₀ : Heap} {L : Addr} {m : Str → Option Value} {s : Shared} {Q E : Value → Shared → Prop}
    {src th : Addr} {a b : Int} {ta tb : Tok} {n nn : Nat} {vs : List Value} {l : List (Addr × Obj)} {g : Obj → List (Addr × Obj)}
    (B : Below A₀ base outer h₀) (F : Fr h₀ L s.heap m) (X : (hd.heap_1 w.params).In h₀) (N : News h₀ L s.heap l) (T : Top topProg (looseW view [Str.ofString "LendError"] ++ (recsOf view).map (·.name) ++ (litsOf view).map (·.1) ++ (clssOf view (looseW view [Str.ofString "LendError"])).map (·.name)) mean mg mb h₀) (hk : cs.kind = .function)
    (U : UpdF src (srcObj a b ta tb n) l g) (hth : (th, listOf vs.toArray nn) ∈ l) (hne : th ≠ src) (hv0 : 0 < vs.length) (hv : vs.length < 1000) (ha : 0 ≤ a) (hb : 0 ≤ b) (hb2 : b < 2147483647) (hd : dp + 2 < recursionLimit) (hu : un + 60 < cLine)
    (ret : ∀ r (k : Nat) a' b' ta' tb' h' tk', Fr h₀ L h' m → News h₀ L h' (g (srcObj a' b' ta' tb' n)) → r ∈ vs → vs[k]? = some r → 0 ≤ a' → 0 ≤ b' → b' < 2147483647 → Q r { s with heap := h', toks := tk' }) :
    wpAny (model PySem.Challenge.rw_xm0577_01.row.prog w) (ktrTop dp un gd cn cs L ca ccd cl outer) (call (.ref 94) [.ref src, .ref th]) Q E s := by
  obtain ⟨R, hR, hg, hl⟩ := UpdF.out U
  have hth' : (th, listOf vs.toArray nn) ∈ R := (List.mem_cons.mp ((hl _).mp hth)).resolve_left fun h => hne (congrArg Prod.fst h)
  refine one_spec src th a b ta tb n nn vs R hR hth' hv0 hv ha hb hb2 _ _ _ _ _ _ _ _ _ _ _ _ _ _ _ _ _ B F X (News.sub N fun p hp => (hl p).mpr hp) T hk hd hu ?_
  rintro r N' h' tk' F' N'' ⟨k, a', b', ta', tb', x1, x2, x3, x4, x5, rfl⟩
  exact ret r k a' b' ta' tb' h' tk' F' (News.sub N'' fun p hp => (hg _ p).mp hp) x1 x2 x3 x4 x5
end
section
theorem words_6 : True := by
  w_top off
  k_with_none
  k_with "kst_mem" => first
    | (first
      | with_reducible assumption
      | with_reducible exact List.mem_cons_self
      | (with_reducible refine List.mem_cons_of_mem _ ?_; kst_mem)
      | (with_reducible refine List.mem_append.mpr (Or.inl ?_); kst_mem)
      | (with_reducible refine List.mem_append.mpr (Or.inr ?_); kst_mem)
      | fail "kst_mem")
    | fail
  k_with "k_mem" => first
    | (kst_mem)
    | fail
  k_with "k_all" => first
    | (first
      | with_reducible assumption
      | exact List.forall_mem_nil _
      | (with_reducible refine' Mine.less_sub ?h_2 ?m_2; (case h_2 => with_reducible assumption); (case m_2 => (intro p9 h9; kst_mem)))
      | (with_reducible refine' Mine.less_sub1 ?h_2 ?m_2; (case h_2 => with_reducible assumption); (case m_2 => (intro p9 h9; kst_mem)))
      | (with_reducible refine' Mine.less_sub2 ?h_2 ?m_2; (case h_2 => with_reducible assumption); (case m_2 => (intro p9 h9; kst_mem)))
      | (with_reducible refine' Mine.less_sub3 ?h_2 ?m_2; (case h_2 => with_reducible assumption); (case m_2 => (intro p9 h9; kst_mem)))
      | (with_reducible refine' Mine.less_sub4 ?h_2 ?m_2; (case h_2 => with_reducible assumption); (case m_2 => (intro p9 h9; kst_mem)))
      | (with_reducible refine' Mine.less_sub5 ?h_2 ?m_2; (case h_2 => with_reducible assumption); (case m_2 => (intro p9 h9; kst_mem)))
      | (refine' List.forall_mem_cons.mpr ⟨?a_2, ?b_2⟩; (case a_2 => k_ne); (case b_2 => k_all))
      | exact Mine.allLt_ne (by with_reducible assumption)
      | exact Mine.fresh_ne (by with_reducible assumption) (by k_mem)
      | (refine' List.forall_mem_append.mpr ⟨?_, ?_⟩ <;> k_all))
    | fail
  k_with "kqd_sub" => first
    | (first
      | exact fun _ h => h
      | exact List.forall_mem_nil _
      | (refine' List.forall_mem_cons.mpr ⟨?kqa_3, ?kqb_3⟩; (case kqa_3 => k_mem); (case kqb_3 => kqd_sub))
      | (refine' List.forall_mem_append.mpr ⟨?_, ?_⟩ <;> kqd_sub)
      | (intro p9 h9; k_mem))
    | fail
  k_with "ktr_enter" => first
    | (refine' code_defC ?k1_4 ?k2_4 ?k3_4 ?k4_4 ?k5_4 ?kA_4 ?kF_4 ?kK_4 ?k6_4 ?k7_4 ?k8_4 ?k9_4 ?kB_4 ?kD_4 ?_ ?c2_4 ?c3_4 ?c4_4; (case kA_4 => exact rfl); (case kF_4 => exact rfl); (case kK_4 => assumption); (case k1_4 => k_asm); (case k2_4 => k_asm); (case k3_4 => k_asm); (case k4_4 => k_asm); (case k5_4 => k_asm); (case k6_4 => k_is); (case k7_4 => k_is); (case k8_4 => ktr_room); (case k9_4 => exact BindsTo.of_eq rfl); (case kB_4 => exact rfl); (case kD_4 => decide +kernel); (case c2_4 => exact rfl); (case c3_4 => exact rfl); (case c4_4 => exact rfl); k_whole; intro g' L' h' tk' cells' FG' F' N' Y' B' X' T' l1; (try k_lt l1); k_cells Y'; (try simp only [List.cons_append, List.nil_append] at N'); (try dsimp only); (try k_fold))
    | fail
  k_with "tb_start" => first
    | (first
      | with_reducible exact Mine.Apart.ne (by with_reducible assumption)
      | with_reducible exact Mine.Apart.en (by with_reducible assumption)
      | with_reducible exact Mine.succ_ne1
      | with_reducible exact Mine.succ_ne2
      | (with_reducible refine' Mine.less_ne ?h_5 ?m_5; (case h_5 => with_reducible assumption); (case m_5 => kst_mem))
      | (with_reducible refine' Mine.less_en ?h_5 ?m_5; (case h_5 => with_reducible assumption); (case m_5 => kst_mem))
      | (with_reducible refine' Mine.less_ne1 ?h_5 ?m_5; (case h_5 => with_reducible assumption); (case m_5 => kst_mem))
      | (with_reducible refine' Mine.less_en1 ?h_5 ?m_5; (case h_5 => with_reducible assumption); (case m_5 => kst_mem))
      | (with_reducible refine' Mine.less_ne2 ?h_5 ?m_5; (case h_5 => with_reducible assumption); (case m_5 => kst_mem))
      | (with_reducible refine' Mine.less_en2 ?h_5 ?m_5; (case h_5 => with_reducible assumption); (case m_5 => kst_mem))
      | (with_reducible refine' Mine.less_ne3 ?h_5 ?m_5; (case h_5 => with_reducible assumption); (case m_5 => kst_mem))
      | (with_reducible refine' Mine.less_en3 ?h_5 ?m_5; (case h_5 => with_reducible assumption); (case m_5 => kst_mem))
      | (with_reducible refine' Mine.less_ne4 ?h_5 ?m_5; (case h_5 => with_reducible assumption); (case m_5 => kst_mem))
      | (with_reducible refine' Mine.less_en4 ?h_5 ?m_5; (case h_5 => with_reducible assumption); (case m_5 => kst_mem))
      | (with_reducible refine' Mine.less_ne5 ?h_5 ?m_5; (case h_5 => with_reducible assumption); (case m_5 => kst_mem))
      | (with_reducible refine' Mine.less_en5 ?h_5 ?m_5; (case h_5 => with_reducible assumption); (case m_5 => kst_mem))
      | (with_reducible refine' Mine.lt_ne2 ?k_5 ?h_5 ?m_5; (case k_5 => with_reducible assumption); (case h_5 => with_reducible assumption); (case m_5 => kst_mem))
      | (with_reducible refine' Mine.lt_en2 ?k_5 ?h_5 ?m_5; (case k_5 => with_reducible assumption); (case h_5 => with_reducible assumption); (case m_5 => kst_mem)))
    | fail
  k_with "k_ne" => first
    | (first | tb_start | ((try dsimp only); (refine neN ?_); first | tb_start | omega))
    | fail
  k_with "m call ref" => first
    | (k_here; (with_reducible show wpAny _ _ (call (Value.ref 87) _) _ _ _); k_dflt (refine' Mine.take_use ?k1_7 ?k2_7 ?k3_7 ?k4_7 ?k5_7 ?k6_7 ?k7_7 ?k8_7 ?k9_7 ?k10_7 ?k11_7 ?k12_7 ?k13_7 ?k14_7 ?_; (case k1_7 => k_asm); (case k2_7 => k_asm); (case k3_7 => k_asm); (case k4_7 => k_asm); (case k5_7 => k_asm); (case k6_7 => first | exact rfl | assumption); (case k7_7 => k_updF); (case k8_7 => assumption); (case k9_7 => assumption); (case k10_7 => assumption); (case k11_7 => omega); (case k12_7 => omega); (case k13_7 => ktr_room); (case k14_7 => ktr_units); k_whole); intro k9 a9 b9 t9 ta9 tb9 h9 tk9 F9 N9 x19 x29 x39 x49 x59; (try dsimp only at N9); (try k_sweep); (try k_fold))
    | fail
  k_with "m call ref" => first
    | (k_here; (with_reducible show wpAny _ _ (call (Value.ref 94) _) _ _ _); k_dflt (refine' Mine.one_use ?k1_10 ?k2_10 ?k3_10 ?k4_10 ?k5_10 ?k6_10 ?k7_10 ?kth_10 ?kne_10 ?kv0_10 ?kv1_10 ?k8_10 ?k9_10 ?k10_10 ?k13_10 ?k14_10 ?_; (case k1_10 => k_asm); (case k2_10 => k_asm); (case k3_10 => k_asm); (case k4_10 => k_asm); (case k5_10 => k_asm); (case k6_10 => first | exact rfl | assumption); (case k7_10 => k_updF); (case kth_10 => k_mem); (case kne_10 => first | assumption | k_ne); (case kv0_10 => first | assumption | (simp only [List.length_cons, List.length_nil]; omega)); (case kv1_10 => first | assumption | (simp only [List.length_cons, List.length_nil]; omega)); (case k8_10 => assumption); (case k9_10 => assumption); (case k10_10 => assumption); (case k13_10 => ktr_room); (case k14_10 => ktr_units); k_whole); intro r9 k9 a9 b9 ta9 tb9 h9 tk9 F9 N9 hv9 hg9 x39 x49 x59; (try dsimp only at N9); (try k_sweep); (try k_fold))
    | fail
  trivial
inductive Rv where
  | none
  | str (x : Str)
  | int (i : Int)
inductive RV : Value → Rv → Prop where
  | none : RV Value.none Rv.none
  | str (x : Str) (t : Tok) : PyData.strOk x = true → RV (Value.str x t) (Rv.str x)
  | int (i : Int) (t : Tok) : RV (Value.int i t) (Rv.int i)
inductive RVs : List Value → List Rv → Prop where
  | nil : RVs [] []
  | cons {v : Value} {vs : List Value} {r : Rv} {rs : List Rv} : RV v r → RVs vs rs → RVs (v :: vs) (r :: rs)
inductive Tr where
  | b | i | p | nv | inf
  | ref (r : Rv) (m : Bool) (t : Tr)
  | box (t : Tr)
  | arr (t : Tr) (n : Int)
  | tup0
  | tup1 (x : Tr)
  | tup2 (x y : Tr)
  | adt0 (rs : List Rv)
  | adt1 (rs : List Rv) (x : Tr)
  | adt2 (rs : List Rv) (x y : Tr)
abbrev tupO (vs : List Value) (n : Nat) : Obj := { cls := .type "tuple", data := .seq vs.toArray n }
inductive TrIn (N : List (Addr × Obj)) : Value → Tr → Prop where
  | b {a : Addr} {n : Nat} {t : Tok} : (a, tupO [.str (Str.ofString "bool") t] n) ∈ N → TrIn N (.ref a) .b
  | i {a : Addr} {n : Nat} {t t' : Tok} : (a, tupO [.str (Str.ofString "int") t, .str (Str.ofString "u8") t'] n) ∈ N → TrIn N (.ref a) .i
  | p {a : Addr} {n : Nat} {t t' : Tok} : (a, tupO [.str (Str.ofString "param") t, .str (Str.ofString "T") t'] n) ∈ N → TrIn N (.ref a) .p
  | nv {a : Addr} {n : Nat} {t : Tok} : (a, tupO [.str (Str.ofString "never") t] n) ∈ N → TrIn N (.ref a) .nv
  | inf {a : Addr} {n : Nat} {t : Tok} : (a, tupO [.str (Str.ofString "infer") t] n) ∈ N → TrIn N (.ref a) .inf
  | ref {a : Addr} {n : Nat} {t : Tok} {rv v : Value} {r : Rv} {m : Bool} {x : Tr} : (a, tupO [.str (Str.ofString "ref") t, rv, .bool m, v] n) ∈ N → RV rv r → TrIn N v x → TrIn N (.ref a) (.ref r m x)
  | box {a : Addr} {n : Nat} {t : Tok} {v : Value} {x : Tr} : (a, tupO [.str (Str.ofString "box") t, v] n) ∈ N → TrIn N v x → TrIn N (.ref a) (.box x)
  | arr {a : Addr} {n : Nat} {t t' : Tok} {v : Value} {x : Tr} {k : Int} : (a, tupO [.str (Str.ofString "array") t, v, .int k t'] n) ∈ N → TrIn N v x → TrIn N (.ref a) (.arr x k)
  | tup0 {a b : Addr} {n n' : Nat} {t : Tok} : (a, tupO [.str (Str.ofString "tuple") t, .ref b] n) ∈ N → (b, tupO [] n') ∈ N → TrIn N (.ref a) .tup0
  | tup1 {a b : Addr} {n n' : Nat} {t : Tok} {v : Value} {x : Tr} : (a, tupO [.str (Str.ofString "tuple") t, .ref b] n) ∈ N → (b, tupO [v] n') ∈ N → TrIn N v x → TrIn N (.ref a) (.tup1 x)
  | tup2 {a b : Addr} {n n' : Nat} {t : Tok} {v v' : Value} {x y : Tr} : (a, tupO [.str (Str.ofString "tuple") t, .ref b] n) ∈ N → (b, tupO [v, v'] n') ∈ N → TrIn N v x → TrIn N v' y → TrIn N (.ref a) (.tup2 x y)
  | adt0 {a b c : Addr} {n n' n2 : Nat} {t t' : Tok} {rvs : List Value} {rs : List Rv} : (a, tupO [.str (Str.ofString "adt") t, .str (Str.ofString "S") t', .ref c, .ref b] n) ∈ N → (c, tupO rvs n2) ∈ N → RVs rvs rs → rs.length ≤ 2 → (b, tupO [] n') ∈ N → TrIn N (.ref a) (.adt0 rs)
  | adt1 {a b c : Addr} {n n' n2 : Nat} {t t' : Tok} {rvs : List Value} {rs : List Rv} {v : Value} {x : Tr} : (a, tupO [.str (Str.ofString "adt") t, .str (Str.ofString "S") t', .ref c, .ref b] n) ∈ N → (c, tupO rvs n2) ∈ N → RVs rvs rs → rs.length ≤ 2 → (b, tupO [v] n') ∈ N → TrIn N v x → TrIn N (.ref a) (.adt1 rs x)
  | adt2 {a b c : Addr} {n n' n2 : Nat} {t t' : Tok} {rvs : List Value} {rs : List Rv} {v v' : Value} {x y : Tr} : (a, tupO [.str (Str.ofString "adt") t, .str (Str.ofString "S") t', .ref c, .ref b] n) ∈ N → (c, tupO rvs n2) ∈ N → RVs rvs rs → rs.length ≤ 2 → (b, tupO [v, v'] n') ∈ N → TrIn N v x → TrIn N v' y → TrIn N (.ref a) (.adt2 rs x y)
theorem TrIn.mono {N N' : List (Addr × Obj)} (h : ∀ p ∈ N, p ∈ N') {v : Value} {t : Tr} (x : TrIn N v t) : TrIn N' v t := by
  induction x with
  | b q => exact .b (h _ q)
  | i q => exact .i (h _ q)
  | p q => exact .p (h _ q)
  | nv q => exact .nv (h _ q)
  | inf q => exact .inf (h _ q)
  | ref q r _ ih => exact .ref (h _ q) r ih
  | box q _ ih => exact .box (h _ q) ih
  | arr q _ ih => exact .arr (h _ q) ih
  | tup0 q q' => exact .tup0 (h _ q) (h _ q')
  | tup1 q q' _ i1 => exact .tup1 (h _ q) (h _ q') i1
  | tup2 q q' _ _ i1 i2 => exact .tup2 (h _ q) (h _ q') i1 i2
  | adt0 q q' r l q2 => exact .adt0 (h _ q) (h _ q') r l (h _ q2)
  | adt1 q q' r l q2 _ i1 => exact .adt1 (h _ q) (h _ q') r l (h _ q2) i1
  | adt2 q q' r l q2 _ _ i1 i2 => exact .adt2 (h _ q) (h _ q') r l (h _ q2) i1 i2
/-- the regions of a tree, in the order in which they stand -/
def Tr.regs : Tr → List Rv
  | .b => [] | .i => [] | .p => [] | .nv => [] | .inf => []
  | .ref r _ t => r :: t.regs
  | .box t => t.regs
  | .arr t _ => t.regs
  | .tup0 => []
  | .tup1 x => x.regs
  | .tup2 x y => x.regs ++ y.regs
  | .adt0 rs => rs
  | .adt1 rs x => rs ++ x.regs
  | .adt2 rs x y => rs ++ (x.regs ++ y.regs)
def numsFrom (n : Nat) : List Rv → List Rv
  | [] => []
  | _ :: r => .int ((n + 1 : Nat) : Int) :: numsFrom (n + 1) r
def Tr.num (n : Nat) : Tr → Tr
  | .b => .b | .i => .i | .p => .p | .nv => .nv | .inf => .inf
  | .ref _ m t => .ref (.int ((n + 1 : Nat) : Int)) m (t.num (n + 1))
  | .box t => .box (t.num n)
  | .arr t k => .arr (t.num n) k
  | .tup0 => .tup0
  | .tup1 x => .tup1 (x.num n)
  | .tup2 x y => .tup2 (x.num n) (y.num (n + x.regs.length))
  | .adt0 rs => .adt0 (numsFrom n rs)
  | .adt1 rs x => .adt1 (numsFrom n rs) (x.num (n + rs.length))
  | .adt2 rs x y => .adt2 (numsFrom n rs) (x.num (n + rs.length)) (y.num (n + rs.length + x.regs.length))
def Tr.ht : Tr → Nat
  | .b => 0 | .i => 0 | .p => 0 | .nv => 0 | .inf => 0
  | .ref _ _ t => t.ht + 1
  | .box t => t.ht + 1
  | .arr t _ => t.ht + 1
  | .tup0 => 1
  | .tup1 x => x.ht + 1
  | .tup2 x y => max x.ht y.ht + 1
  | .adt0 _ => 1
  | .adt1 _ x => x.ht + 1
  | .adt2 _ x y => max x.ht y.ht + 1
theorem RVs.append {vs ws : List Value} {rs qs : List Rv} (h : RVs vs rs) (k : RVs ws qs) : RVs (vs ++ ws) (rs ++ qs) := by
  induction h with
  | nil => exact k
  | cons a _ ih => exact .cons a ih
theorem RVs.length {vs : List Value} {rs : List Rv} (h : RVs vs rs) : vs.length = rs.length := by
  induction h with
  | nil => rfl
  | cons a _ ih => simp [ih]
theorem allLt_left {d : Addr} : ∀ {l r : List (Addr × Obj)}, AllLt d (l ++ r) → AllLt d l
  | [], _, _ => trivial
  | _ :: _, _, h => ⟨h.1, allLt_left h.2⟩
def Fresh3 (src ask : Addr) (R tl : List (Addr × Obj)) : Prop := (∀ q ∈ R, ∀ p ∈ tl, q.1 < p.1) ∧ (∀ p ∈ tl, src < p.1) ∧ (∀ p ∈ tl, ask < p.1)
theorem Fresh3.of {src ask : Addr} {R l tl : List (Addr × Obj)} {o o' : Obj} (hf : ∀ q ∈ l, ∀ p ∈ tl, q.1 < p.1) (h1 : (src, o) ∈ l) (h2 : (ask, o') ∈ l) (hs : ∀ q ∈ R, q ∈ l) : Fresh3 src ask R tl :=
  ⟨fun q hq p hp => hf q (hs q hq) p hp, fun p hp => hf _ h1 p hp, fun p hp => hf _ h2 p hp⟩
theorem Fresh3.app {src ask : Addr} {R tl tl' : List (Addr × Obj)} (h : Fresh3 src ask R tl) (h' : Fresh3 src ask R tl') : Fresh3 src ask R (tl ++ tl') :=
  ⟨fun q hq p hp => (List.mem_append.mp hp).elim (h.1 q hq p) (h'.1 q hq p), fun p hp => (List.mem_append.mp hp).elim (h.2.1 p) (h'.2.1 p), fun p hp => (List.mem_append.mp hp).elim (h.2.2 p) (h'.2.2 p)⟩
/-- what of a ledger stands above R, src and ask (whatever else stands in it is let go) -/
inductive Rest (src ask : Addr) (R : List (Addr × Obj)) : List (Addr × Obj) → List (Addr × Obj) → Prop where
  | nil : Rest src ask R R []
  | app (tl : List (Addr × Obj)) : Fresh3 src ask R tl → Rest src ask R (R ++ tl) tl
  | keep {p : Addr × Obj} {l tl : List (Addr × Obj)} : Rest src ask R l tl → AllLt p.1 R → @LT.lt Nat _ src p.1 → @LT.lt Nat _ ask p.1 → Rest src ask R (p :: l) (p :: tl)
  | drop {p : Addr × Obj} {l tl : List (Addr × Obj)} : Rest src ask R l tl → Rest src ask R (p :: l) tl
theorem Rest.sub {src ask : Addr} {R l tl : List (Addr × Obj)} (h : Rest src ask R l tl) : ∀ p ∈ R ++ tl, p ∈ l := by
  induction h with
  | nil => intro p hp; simpa using hp
  | app => exact fun _ h => h
  | keep _ _ _ _ ih =>
    intro p hp
    rcases List.mem_append.mp hp with hp | hp
    · exact .tail _ (ih p (List.mem_append.mpr (.inl hp)))
    · rcases List.mem_cons.mp hp with rfl | hp
      · exact .head _
      · exact .tail _ (ih p (List.mem_append.mpr (.inr hp)))
  | drop _ ih => exact fun p hp => .tail _ (ih p hp)
theorem Rest.fresh {src ask : Addr} {R l tl : List (Addr × Obj)} (h : Rest src ask R l tl) : (∀ q ∈ R, ∀ p ∈ tl, q.1 < p.1) ∧ (∀ p ∈ tl, src < p.1) ∧ (∀ p ∈ tl, ask < p.1) := by
  induction h with
  | nil => exact ⟨fun _ _ _ h => (nomatch h), fun _ h => (nomatch h), fun _ h => (nomatch h)⟩
  | app tl hf => exact hf
  | keep _ h1 h2 h3 ih =>
    refine ⟨fun q hq p hp => ?_, fun p hp => ?_, fun p hp => ?_⟩
    · rcases List.mem_cons.mp hp with rfl | hp
      · exact allLt_all h1 q hq
      · exact ih.1 q hq p hp
    · rcases List.mem_cons.mp hp with rfl | hp
      · exact h2
      · exact ih.2.1 p hp
    · rcases List.mem_cons.mp hp with rfl | hp
      · exact h3
      · exact ih.2.2 p hp
  | drop _ ih => exact ih
theorem RVs.mem {vs : List Value} {rs : List Rv} (h : RVs vs rs) {v : Value} (hv : v ∈ vs) : ∃ r, RV v r := by
  induction h with
  | nil => nomatch hv
  | cons a _ ih =>
    rcases List.mem_cons.mp hv with rfl | hv
    · exact ⟨_, a⟩
    · exact ih hv
theorem RV.int' {i j : Int} {t : Tok} (h : i = j) : RV (Value.int i t) (Rv.int j) := h ▸ RV.int i t
theorem trIn_due {N tl : List (Addr × Obj)} {v : Value} {t : Tr} {x k : Nat} (h : ∀ k, k = x → TrIn N v (t.num k)) (e : k = x) (s : ∀ p ∈ N, p ∈ tl) : TrIn tl v (t.num k) := (h k e).mono s
theorem oneR_use {w : World} {mean : ExcName → Option Value} {mg mb : Str → Option Value} {dp un : Nat} {gd : Option (List Code)} {cn : Str} {cs : Scope} {ca : Addr} {ccd : Value} {cl : List (Str × Addr)} {outer : List Env} {A₀ : Around} {base h₀ : Heap} {L : Addr} {m : Str → Option Value} {s : Shared} {Q E : Value → Shared → Prop}
    {src th : Addr} {a b : Int} {ta tb : Tok} {n nn : Nat} {vs : List Value} {rgs : List Rv} {l : List (Addr × Obj)} {g : Obj → List (Addr × Obj)}
    (B : Below A₀ base outer h₀) (F : Fr h₀ L s.heap m) (X : (hd.heap_1 w.params).In h₀) (N : News h₀ L s.heap l) (T : Top topProg (looseW view [Str.ofString "LendError"] ++ (recsOf view).map (·.name) ++ (litsOf view).map (·.1) ++ (clssOf view (looseW view [Str.ofString "LendError"])).map (·.name)) mean mg mb h₀) (hk : cs.kind = .function)
    (U : UpdF src (srcObj a b ta tb n) l g) (hth : (th, listOf vs.toArray nn) ∈ l) (hne : @Ne Nat th src) (hrv : RVs vs rgs) (hv0 : 0 < vs.length) (hv : vs.length < 1000) (ha : 0 ≤ a) (hb : 0 ≤ b) (hb2 : b < 2147483647) (hd : dp + 2 < recursionLimit) (hu : un + 60 < cLine)
    (ret : ∀ r q a' b' ta' tb' h' tk', RV r q → Fr h₀ L h' m → News h₀ L h' (g (srcObj a' b' ta' tb' n)) → 0 ≤ a' → 0 ≤ b' → b' < 2147483647 → Q r { s with heap := h', toks := tk' }) :
    wpAny (model PySem.Challenge.rw_xm0577_01.row.prog w) (ktrTop dp un gd cn cs L ca ccd cl outer) (call (.ref 94) [.ref src, .ref th]) Q E s :=
  one_use B F X N T hk U hth hne hv0 hv ha hb hb2 hd hu fun r k a' b' ta' tb' h' tk' F' N' hm _ x1 x2 x3 =>
    let ⟨q, hq⟩ := hrv.mem hm
    ret r q a' b' ta' tb' h' tk' hq F' N' x1 x2 x3
theorem e2nil {vs : List Value} {n : Nat} : listOf vs.toArray n = listOf (vs ++ []).toArray n := by rw [List.append_nil]
end
section
theorem words_7 : True := by
  w_top off
  k_with_none
  k_with "kst_mem" => first
    | (first
      | with_reducible assumption
      | with_reducible exact List.mem_cons_self
      | (with_reducible refine List.mem_cons_of_mem _ ?_; kst_mem)
      | (with_reducible refine List.mem_append.mpr (Or.inl ?_); kst_mem)
      | (with_reducible refine List.mem_append.mpr (Or.inr ?_); kst_mem)
      | fail "kst_mem")
    | fail
  k_with "k_mem" => first
    | (kst_mem)
    | fail
  k_with "k_all" => first
    | (first
      | with_reducible assumption
      | exact List.forall_mem_nil _
      | (with_reducible refine' Mine.less_sub ?h_2 ?m_2; (case h_2 => with_reducible assumption); (case m_2 => (intro p9 h9; kst_mem)))
      | (with_reducible refine' Mine.less_sub1 ?h_2 ?m_2; (case h_2 => with_reducible assumption); (case m_2 => (intro p9 h9; kst_mem)))
      | (with_reducible refine' Mine.less_sub2 ?h_2 ?m_2; (case h_2 => with_reducible assumption); (case m_2 => (intro p9 h9; kst_mem)))
      | (with_reducible refine' Mine.less_sub3 ?h_2 ?m_2; (case h_2 => with_reducible assumption); (case m_2 => (intro p9 h9; kst_mem)))
      | (with_reducible refine' Mine.less_sub4 ?h_2 ?m_2; (case h_2 => with_reducible assumption); (case m_2 => (intro p9 h9; kst_mem)))
      | (with_reducible refine' Mine.less_sub5 ?h_2 ?m_2; (case h_2 => with_reducible assumption); (case m_2 => (intro p9 h9; kst_mem)))
      | (refine' List.forall_mem_cons.mpr ⟨?a_2, ?b_2⟩; (case a_2 => k_ne); (case b_2 => k_all))
      | exact Mine.allLt_ne (by with_reducible assumption)
      | exact Mine.fresh_ne (by with_reducible assumption) (by k_mem)
      | (refine' List.forall_mem_append.mpr ⟨?_, ?_⟩ <;> k_all))
    | fail
  k_with "kqd_sub" => first
    | (first
      | exact fun _ h => h
      | exact List.forall_mem_nil _
      | (refine' List.forall_mem_cons.mpr ⟨?kqa_3, ?kqb_3⟩; (case kqa_3 => k_mem); (case kqb_3 => kqd_sub))
      | (refine' List.forall_mem_append.mpr ⟨?_, ?_⟩ <;> kqd_sub)
      | (intro p9 h9; k_mem))
    | fail
  k_with "ktr_enter" => first
    | (refine' code_defC ?k1_4 ?k2_4 ?k3_4 ?k4_4 ?k5_4 ?kA_4 ?kF_4 ?kK_4 ?k6_4 ?k7_4 ?k8_4 ?k9_4 ?kB_4 ?kD_4 ?_ ?c2_4 ?c3_4 ?c4_4; (case kA_4 => exact rfl); (case kF_4 => exact rfl); (case kK_4 => assumption); (case k1_4 => k_asm); (case k2_4 => k_asm); (case k3_4 => k_asm); (case k4_4 => k_asm); (case k5_4 => k_asm); (case k6_4 => k_is); (case k7_4 => k_is); (case k8_4 => ktr_room); (case k9_4 => exact BindsTo.of_eq rfl); (case kB_4 => exact rfl); (case kD_4 => decide +kernel); (case c2_4 => exact rfl); (case c3_4 => exact rfl); (case c4_4 => exact rfl); k_whole; intro g' L' h' tk' cells' FG' F' N' Y' B' X' T' l1; (try k_lt l1); k_cells Y'; (try simp only [List.cons_append, List.nil_append] at N'); (try dsimp only); (try k_fold))
    | fail
  k_with "tb_start" => first
    | (first
      | with_reducible exact Mine.Apart.ne (by with_reducible assumption)
      | with_reducible exact Mine.Apart.en (by with_reducible assumption)
      | with_reducible exact Mine.succ_ne1
      | with_reducible exact Mine.succ_ne2
      | (with_reducible refine' Mine.less_ne ?h_5 ?m_5; (case h_5 => with_reducible assumption); (case m_5 => kst_mem))
      | (with_reducible refine' Mine.less_en ?h_5 ?m_5; (case h_5 => with_reducible assumption); (case m_5 => kst_mem))
      | (with_reducible refine' Mine.less_ne1 ?h_5 ?m_5; (case h_5 => with_reducible assumption); (case m_5 => kst_mem))
      | (with_reducible refine' Mine.less_en1 ?h_5 ?m_5; (case h_5 => with_reducible assumption); (case m_5 => kst_mem))
      | (with_reducible refine' Mine.less_ne2 ?h_5 ?m_5; (case h_5 => with_reducible assumption); (case m_5 => kst_mem))
      | (with_reducible refine' Mine.less_en2 ?h_5 ?m_5; (case h_5 => with_reducible assumption); (case m_5 => kst_mem))
      | (with_reducible refine' Mine.less_ne3 ?h_5 ?m_5; (case h_5 => with_reducible assumption); (case m_5 => kst_mem))
      | (with_reducible refine' Mine.less_en3 ?h_5 ?m_5; (case h_5 => with_reducible assumption); (case m_5 => kst_mem))
      | (with_reducible refine' Mine.less_ne4 ?h_5 ?m_5; (case h_5 => with_reducible assumption); (case m_5 => kst_mem))
      | (with_reducible refine' Mine.less_en4 ?h_5 ?m_5; (case h_5 => with_reducible assumption); (case m_5 => kst_mem))
      | (with_reducible refine' Mine.less_ne5 ?h_5 ?m_5; (case h_5 => with_reducible assumption); (case m_5 => kst_mem))
      | (with_reducible refine' Mine.less_en5 ?h_5 ?m_5; (case h_5 => with_reducible assumption); (case m_5 => kst_mem))
      | (with_reducible refine' Mine.lt_ne2 ?k_5 ?h_5 ?m_5; (case k_5 => with_reducible assumption); (case h_5 => with_reducible assumption); (case m_5 => kst_mem))
      | (with_reducible refine' Mine.lt_en2 ?k_5 ?h_5 ?m_5; (case k_5 => with_reducible assumption); (case h_5 => with_reducible assumption); (case m_5 => kst_mem)))
    | fail
  k_with "k_ne" => first
    | (first | tb_start | ((try dsimp only); (refine neN ?_); first | tb_start | omega))
    | fail
  k_with "m call ref" => first
    | (k_here; (with_reducible show wpAny _ _ (call (Value.ref 87) _) _ _ _); k_dflt (refine' Mine.take_use ?k1_7 ?k2_7 ?k3_7 ?k4_7 ?k5_7 ?k6_7 ?k7_7 ?k8_7 ?k9_7 ?k10_7 ?k11_7 ?k12_7 ?k13_7 ?k14_7 ?_; (case k1_7 => k_asm); (case k2_7 => k_asm); (case k3_7 => k_asm); (case k4_7 => k_asm); (case k5_7 => k_asm); (case k6_7 => first | exact rfl | assumption); (case k7_7 => k_updF); (case k8_7 => assumption); (case k9_7 => assumption); (case k10_7 => assumption); (case k11_7 => omega); (case k12_7 => omega); (case k13_7 => ktr_room); (case k14_7 => ktr_units); k_whole); intro k9 a9 b9 t9 ta9 tb9 h9 tk9 F9 N9 x19 x29 x39 x49 x59; (try dsimp only at N9); (try k_sweep); (try k_fold))
    | fail
  k_with "m call ref" => first
    | (k_here; (with_reducible show wpAny _ _ (call (Value.ref 94) _) _ _ _); k_dflt (refine' Mine.one_use ?k1_10 ?k2_10 ?k3_10 ?k4_10 ?k5_10 ?k6_10 ?k7_10 ?kth_10 ?kne_10 ?kv0_10 ?kv1_10 ?k8_10 ?k9_10 ?k10_10 ?k13_10 ?k14_10 ?_; (case k1_10 => k_asm); (case k2_10 => k_asm); (case k3_10 => k_asm); (case k4_10 => k_asm); (case k5_10 => k_asm); (case k6_10 => first | exact rfl | assumption); (case k7_10 => k_updF); (case kth_10 => k_mem); (case kne_10 => first | assumption | k_ne); (case kv0_10 => first | assumption | (simp only [List.length_cons, List.length_nil]; omega)); (case kv1_10 => first | assumption | (simp only [List.length_cons, List.length_nil]; omega)); (case k8_10 => assumption); (case k9_10 => assumption); (case k10_10 => assumption); (case k13_10 => ktr_room); (case k14_10 => ktr_units); k_whole); intro r9 k9 a9 b9 ta9 tb9 h9 tk9 F9 N9 hv9 hg9 x39 x49 x59; (try dsimp only at N9); (try k_sweep); (try k_fold))
    | fail
  k_with "ktn_lt" => first
    | (first
      | (refine' Mine.Fresh3.of ?f_11 ?a_11 ?b_11 ?c_11; (case f_11 => assumption); (case a_11 => k_mem); (case b_11 => k_mem); (case c_11 => (intro p9 h9; k_mem)))
      | (refine' Mine.Fresh3.app ?_ ?_ <;> ktn_lt))
    | fail
  k_with "ktn_ord" => first
    | (first
      | exact Mine.Rest.nil
      | (refine' Mine.Rest.app _ ?z_12; (case z_12 => ktn_lt))
      | (refine' Mine.Rest.keep ?z_12 ?a_12 ?b_12 ?c_12; (case a_12 => first | (with_reducible refine' Mine.less_allLt ?h_12 ?m_12; (case h_12 => with_reducible assumption); (case m_12 => (intro p9 h9; kst_mem))) | assumption | exact Mine.allLt_left (by assumption)); (case b_12 => first | (with_reducible refine' Mine.less_lt ?h_12 ?m_12; (case h_12 => with_reducible assumption); (case m_12 => kst_mem)) | ((try dsimp only); omega)); (case c_12 => first | (with_reducible refine' Mine.less_lt ?h_12 ?m_12; (case h_12 => with_reducible assumption); (case m_12 => kst_mem)) | ((try dsimp only); omega)); (case z_12 => ktn_ord))
      | (refine' Mine.Rest.drop ?z_12; (case z_12 => ktn_ord)))
    | fail
  k_with "m call ref" => first
    | (k_here; (with_reducible show wpAny _ _ (call (Value.ref 94) _) _ _ _); k_dflt (refine' Mine.oneR_use ?k1_13 ?k2_13 ?k3_13 ?k4_13 ?k5_13 ?k6_13 ?k7_13 ?kth_13 ?kne_13 ?krv_13 ?kv0_13 ?kv1_13 ?k8_13 ?k9_13 ?k10_13 ?k13_13 ?k14_13 ?_; (case k1_13 => k_asm); (case k2_13 => k_asm); (case k3_13 => k_asm); (case k4_13 => k_asm); (case k5_13 => k_asm); (case k6_13 => first | exact rfl | assumption); (case k7_13 => k_updF); (case kth_13 => k_mem); (case kne_13 => first | with_reducible exact Mine.Apart.ne (by with_reducible assumption) | with_reducible assumption | k_ne); (case krv_13 => with_reducible assumption); (case kv0_13 => assumption); (case kv1_13 => assumption); (case k8_13 => assumption); (case k9_13 => assumption); (case k10_13 => assumption); (case k13_13 => ktr_room); (case k14_13 => ktr_units); k_whole); intro r9 q9 a9 b9 ta9 tb9 h9 tk9 hq9 F9 N9 x39 x49 x59; (try dsimp only at N9); (try k_sweep); (try k_fold))
    | fail
  k_with "ktn_open" => first
    | (first
      | (refine' Mine.trIn_due ?h_14 ?e_14 ?s_14; (case h_14 => with_reducible assumption); (case e_14 => first | with_reducible rfl | ((simp only [List.length_append, List.length_cons, List.length_nil, Nat.zero_add]); done) | ((simp only [List.length_append, List.length_cons, List.length_nil, Nat.zero_add]); omega) | omega); (case s_14 => kqd_sub))
      | (refine' Mine.TrIn.mono ?s_14 ?h_14; (case h_14 => with_reducible assumption); (case s_14 => kqd_sub))
      | (with_reducible refine' Mine.TrIn.b ?a0_14; (case a0_14 => kst_mem))
      | (with_reducible refine' Mine.TrIn.i ?a0_14; (case a0_14 => kst_mem))
      | (with_reducible refine' Mine.TrIn.p ?a0_14; (case a0_14 => kst_mem))
      | (with_reducible refine' Mine.TrIn.nv ?a0_14; (case a0_14 => kst_mem))
      | (with_reducible refine' Mine.TrIn.inf ?a0_14; (case a0_14 => kst_mem))
      | (with_reducible refine' Mine.TrIn.ref ?a0_14 ?a1_14 ?a2_14; (case a0_14 => kst_mem); (case a1_14 => ked_reads); (case a2_14 => ktn_open))
      | (with_reducible refine' Mine.TrIn.box ?a0_14 ?a1_14; (case a0_14 => kst_mem); (case a1_14 => ktn_open))
      | (with_reducible refine' Mine.TrIn.arr ?a0_14 ?a1_14; (case a0_14 => kst_mem); (case a1_14 => ktn_open))
      | (with_reducible refine' Mine.TrIn.tup0 ?a0_14 ?a1_14; (case a0_14 => kst_mem); (case a1_14 => kst_mem))
      | (with_reducible refine' Mine.TrIn.tup1 ?a0_14 ?a1_14 ?a2_14; (case a0_14 => kst_mem); (case a1_14 => kst_mem); (case a2_14 => ktn_open))
      | (with_reducible refine' Mine.TrIn.tup2 ?a0_14 ?a1_14 ?_ ?_; (case a0_14 => kst_mem); (case a1_14 => kst_mem); all_goals ktn_open)
      | (with_reducible refine' Mine.TrIn.adt0 ?a0_14 ?a1_14 ?a2_14 ?a3_14 ?a4_14; (case a0_14 => kst_mem); (case a1_14 => kst_mem); (case a2_14 => ked_reads); (case a3_14 => exact Nat.le_of_ble_eq_true rfl); (case a4_14 => kst_mem))
      | (with_reducible refine' Mine.TrIn.adt1 ?a0_14 ?a1_14 ?a2_14 ?a3_14 ?a4_14 ?a5_14; (case a0_14 => kst_mem); (case a1_14 => kst_mem); (case a2_14 => ked_reads); (case a3_14 => exact Nat.le_of_ble_eq_true rfl); (case a4_14 => kst_mem); (case a5_14 => ktn_open))
      | (with_reducible refine' Mine.TrIn.adt2 ?a0_14 ?a1_14 ?a2_14 ?a3_14 ?a4_14 ?_ ?_; (case a0_14 => kst_mem); (case a1_14 => kst_mem); (case a2_14 => ked_reads); (case a3_14 => exact Nat.le_of_ble_eq_true rfl); (case a4_14 => kst_mem); all_goals ktn_open))
    | fail
  k_with "ked_reads" => first
    | (first
      | with_reducible exact Mine.RV.none
      | (with_reducible refine' Mine.RV.str _ _ ?e_15; (case e_15 => decide +kernel))
      | with_reducible exact Mine.RVs.nil
      | (with_reducible refine' Mine.RVs.cons ?ca_15 ?cb_15; (case ca_15 => ked_reads); (case cb_15 => ked_reads))
      | with_reducible assumption
      | (with_reducible refine' Mine.RVs.append ?pa_15 ?pb_15; (case pa_15 => ked_reads); (case pb_15 => ked_reads))
      | (with_reducible refine' Mine.RV.int' ?e_15; (case e_15 => first | with_reducible rfl | ((simp only [List.length_append, List.length_cons, List.length_nil, Nat.zero_add]); done) | ((simp only [List.length_append, List.length_cons, List.length_nil, Nat.zero_add]); omega) | omega)))
    | fail
  trivial
def TwinPost (src ask : Addr) (n : Nat) (R : List (Addr × Obj)) (vs : List Value) (d : Nat) (r : Value) (N' : List (Addr × Obj)) : Prop :=
  ∃ (p : Addr) (told due : Value) (t : Tr) (a' b' : Int) (ta' tb' : Tok) (tl : List (Addr × Obj)) (xs : List Value) (nk' np : Nat),
    r = .ref p ∧ N' = (src, srcObj a' b' ta' tb' n) :: (ask, listOf (vs ++ xs).toArray nk') :: (R ++ tl) ∧ 0 ≤ a' ∧ 0 ≤ b' ∧ b' < 2147483647 ∧ (p, tupO [told, due] np) ∈ tl ∧
    TrIn tl told t ∧ TrIn tl due (t.num vs.length) ∧ RVs xs t.regs ∧ t.ht ≤ d ∧ t.regs.length + 2 ≤ 2 * 2 ^ d ∧ (∀ q ∈ R, ∀ p ∈ tl, q.1 < p.1) ∧ (∀ p ∈ tl, src < p.1) ∧ (∀ p ∈ tl, ask < p.1)
def TwSpec (w : World) (mean : ExcName → Option Value) (mg mb : Str → Option Value) (d : Nat) : Prop :=
  ∀ (src reg ask : Addr) (a b dv : Int) (ta tb td : Tok) (n nr nk : Nat) (rvs vs : List Value) (rgs as : List Rv) (R : List (Addr × Obj)), (∀ p ∈ R, p.1 ≠ src) → (∀ p ∈ R, p.1 ≠ ask) → @Ne Nat src ask → (reg, listOf rvs.toArray nr) ∈ R → @Ne Nat reg src → RVs rvs rgs → 0 < rvs.length → rvs.length < 1000 →
    0 ≤ a → 0 ≤ b → b < 2147483647 → RVs vs as → vs.length + 2 * 2 ^ d ≤ 1000 → dv = (d : Int) →
    Spec w mean mg mb 99 (d + 4) (80 + 30 * d) [.ref src, .ref reg, .ref ask, .int dv td] ((src, srcObj a b ta tb n) :: (ask, listOf vs.toArray nk) :: R) (TwinPost src ask n R vs d)
theorem tw_end {src ask p : Addr} {n nk' np d : Nat} {R l tl : List (Addr × Obj)} {vs xs : List Value} {oa : Obj} {told due : Value} {t : Tr} {a' b' : Int} {ta' tb' : Tok} {h₀ h' : Heap} {L : Addr} {m : Str → Option Value} {s : Shared} {tk' : Nat} {Q : Value → Shared → Prop}
    (hret : ∀ r N' h' tk', Fr h₀ L h' m → News h₀ L h' N' → TwinPost src ask n R vs d r N' → Q r { s with heap := h', toks := tk' })
    (F : Fr h₀ L h' m) (N : News h₀ L h' l) (h1 : (src, srcObj a' b' ta' tb' n) ∈ l) (h2 : (ask, oa) ∈ l) (e2 : oa = listOf (vs ++ xs).toArray nk') (z : Rest src ask R l tl) (ha : 0 ≤ a') (hb : 0 ≤ b') (hb2 : b' < 2147483647)
    (hp : (p, tupO [told, due] np) ∈ tl) (ht : TrIn tl told t) (hd : TrIn tl due (t.num vs.length)) (hx : RVs xs t.regs) (hh : t.ht ≤ d) (hl : t.regs.length + 2 ≤ 2 * 2 ^ d) : Q (.ref p) { s with heap := h', toks := tk' } := by
  subst e2
  refine hret _ ((src, srcObj a' b' ta' tb' n) :: (ask, listOf (vs ++ xs).toArray nk') :: (R ++ tl)) _ _ F (News.sub N ?_) ⟨p, told, due, t, a', b', ta', tb', tl, xs, nk', np, rfl, rfl, ha, hb, hb2, hp, ht, hd, hx, hh, hl, z.fresh.1, z.fresh.2.1, z.fresh.2.2⟩
  intro q hq
  rcases List.mem_cons.mp hq with rfl | hq
  · exact h1
  rcases List.mem_cons.mp hq with rfl | hq
  · exact h2
  exact z.sub q hq
theorem tw_zero {w : World} {mean : ExcName → Option Value} {mg mb : Str → Option Value} : TwSpec w mean mg mb 0 := by
  unfold TwSpec
  intro src reg ask a b dv ta tb td n nr nk rvs vs rgs as R hR1 hR2 hsa hreg hrs hrv hr0 hr1 ha hb hb2 hvs hlen hdv
  unfold Spec
  intro dp un gd cn cs ca ccd cl outer A₀ base h₀ L m s Q E B F X N T hk hd hu hret
  refine wpAny_call ?_
  k_dflt ktr_enter
  k_steps
  rename (_ ∈ List.cons _ _) => hv
  simp only [List.mem_cons, List.not_mem_nil, or_false] at hv
  rcases hv with hv | hv | hv | hv | hv
  all_goals subst hv
  all_goals (
    refine' tw_end (xs := []) hret ?F ?N ?h1 ?h2 ?e2 ?z ?ha ?hb ?hb2 ?hp ?ht ?hd ?hx ?hh ?hl
    (case F => k_asm)
    (case N => k_asm)
    (case z => ktn_ord)
    (case h1 => k_mem)
    (case h2 => k_mem)
    (case e2 => simp only [List.append_nil]; rfl)
    (case ha => assumption)
    (case hb => assumption)
    (case hb2 => assumption)
    (case hp => k_mem)
    (case ht => ktn_open)
    (case hd => simp only [Tr.num]; ktn_open)
    (case hx => simp only [Tr.regs]; ked_reads)
    (case hh => decide)
    (case hl => decide))
theorem tw_use {w : World} {mean : ExcName → Option Value} {mg mb : Str → Option Value} {dp un : Nat} {gd : Option (List Code)} {cn : Str} {cs : Scope} {ca : Addr} {ccd : Value} {cl : List (Str × Addr)} {outer : List Env} {A₀ : Around} {base h₀ : Heap} {L : Addr} {m : Str → Option Value} {s : Shared} {Q E : Value → Shared → Prop}
    {d : Nat} {src reg ask : Addr} {a b dv : Int} {ta tb td : Tok} {n nr nk : Nat} {rvs vs : List Value} {rgs as : List Rv} {l : List (Addr × Obj)} {g : Obj → List (Addr × Obj)} {g2 : Obj → Obj → List (Addr × Obj)}
    (C : TwSpec w mean mg mb d)
    (B : Below A₀ base outer h₀) (F : Fr h₀ L s.heap m) (X : (hd.heap_1 w.params).In h₀) (N : News h₀ L s.heap l) (T : Top topProg (looseW view [Str.ofString "LendError"] ++ (recsOf view).map (·.name) ++ (litsOf view).map (·.1) ++ (clssOf view (looseW view [Str.ofString "LendError"])).map (·.name)) mean mg mb h₀) (hk : cs.kind = .function)
    (U : UpdF src (srcObj a b ta tb n) l g) (U2 : ∀ o, UpdF ask (listOf vs.toArray nk) (g o) (g2 o)) (hsa : @Ne Nat src ask) (hth : (reg, listOf rvs.toArray nr) ∈ l) (hne : @Ne Nat reg src) (hne2 : @Ne Nat reg ask) (hrv : RVs rvs rgs) (hv0 : 0 < rvs.length) (hv : rvs.length < 1000) (ha : 0 ≤ a) (hb : 0 ≤ b) (hb2 : b < 2147483647)
    (hvs : RVs vs as) (hlen : vs.length + 2 * 2 ^ d ≤ 1000) (hdv : dv = (d : Int)) (hd : dp + (d + 4) < recursionLimit) (hu : un + (80 + 30 * d) < cLine)
    (ret : ∀ p told due t a' b' ta' tb' tl xs nk' np h' tk', Fr h₀ L h' m → News h₀ L h' (g2 (srcObj a' b' ta' tb' n) (listOf (vs ++ xs).toArray nk') ++ tl) → 0 ≤ a' → 0 ≤ b' → b' < 2147483647 → (p, tupO [told, due] np) ∈ tl →
      TrIn tl told t → (∀ k, k = vs.length → TrIn tl due (t.num k)) → RVs xs t.regs → RVs (vs ++ xs) (as ++ t.regs) → xs.length = t.regs.length → t.ht ≤ d → t.regs.length + 2 ≤ 2 * 2 ^ d → (∀ q ∈ l, ∀ p ∈ tl, q.1 < p.1) → Q (.ref p) { s with heap := h', toks := tk' }) :
    wpAny (model PySem.Challenge.rw_xm0577_01.row.prog w) (ktrTop dp un gd cn cs L ca ccd cl outer) (call (.ref 99) [.ref src, .ref reg, .ref ask, .int dv td]) Q E s := by
  obtain ⟨R0, hR, hg, hl⟩ := UpdF.out U
  obtain ⟨pre, post, e1, e2, h1, h2⟩ := (U2 (srcObj a b ta tb n)).split
  -- the ledger without src and ask
  let R := R0.filter (fun p => decide (p.1 ≠ ask))
  have hRs : ∀ p ∈ R, p.1 ≠ src := fun p hp => hR p (List.mem_filter.mp hp).1
  have hRa : ∀ p ∈ R, p.1 ≠ ask := fun p hp => of_decide_eq_true (List.mem_filter.mp hp).2
  have hask : (ask, listOf vs.toArray nk) ∈ R0 := by
    have : (ask, listOf vs.toArray nk) ∈ g (srcObj a b ta tb n) := by rw [e1]; exact List.mem_append.mpr (.inr (.head _))
    exact (List.mem_cons.mp ((hg _ _).mp this)).resolve_left fun h => hsa (congrArg Prod.fst h).symm
  have hl1 : ∀ p ∈ (src, srcObj a b ta tb n) :: (ask, listOf vs.toArray nk) :: R, p ∈ l := by
    intro p hp
    refine (hl p).mpr ?_
    rcases List.mem_cons.mp hp with rfl | hp
    · exact .head _
    rcases List.mem_cons.mp hp with rfl | hp
    · exact .tail _ hask
    exact .tail _ (List.mem_filter.mp hp).1
  have hreg : (reg, listOf rvs.toArray nr) ∈ R := by
    have := (List.mem_cons.mp ((hl _).mp hth)).resolve_left fun h => hne (congrArg Prod.fst h)
    exact List.mem_filter.mpr ⟨this, decide_eq_true hne2⟩
  refine C src reg ask a b dv ta tb td n nr nk rvs vs rgs as R hRs hRa hsa hreg hne hrv hv0 hv ha hb hb2 hvs hlen hdv _ _ _ _ _ _ _ _ _ _ _ _ _ _ _ _ _ B F X (News.sub N hl1) T hk hd hu ?_
  rintro r N' h' tk' F' N'' ⟨p, told, due, t, a', b', ta', tb', tl, xs, nk', np, rfl, rfl, x1, x2, x3, x4, x5, x6, x7, x8, x9, x10, x11, x12⟩
  refine ret p told due t a' b' ta' tb' tl xs nk' np h' tk' F' (News.sub N'' ?_) x1 x2 x3 x4 x5 (fun k hk => hk ▸ x6) x7 (hvs.append x7) x7.length x8 x9 ?_
  · obtain ⟨pre', post', f1, f2, k1, k2⟩ := (U2 (srcObj a' b' ta' tb' n)).split
    intro q hq
    rcases List.mem_append.mp hq with hq | hq
    · rw [f2] at hq
      by_cases hqa : q.1 = ask
      · rcases List.mem_append.mp hq with hq | hq
        · exact absurd hqa (k1 q hq)
        rcases List.mem_cons.mp hq with rfl | hq
        · exact .tail _ (.head _)
        · exact absurd hqa (k2 q hq)
      · have hq1 : q ∈ g (srcObj a' b' ta' tb' n) := by
          rw [f1]
          rcases List.mem_append.mp hq with hq | hq
          · exact List.mem_append.mpr (.inl hq)
          rcases List.mem_cons.mp hq with rfl | hq
          · exact absurd rfl hqa
          · exact List.mem_append.mpr (.inr (.tail _ hq))
        rcases List.mem_cons.mp ((hg _ q).mp hq1) with rfl | hq1
        · exact .head _
        · exact .tail _ (.tail _ (List.mem_append.mpr (.inl (List.mem_filter.mpr ⟨hq1, decide_eq_true hqa⟩))))
    · exact .tail _ (.tail _ (List.mem_append.mpr (.inr hq)))
  · intro q hq p hp
    rcases List.mem_cons.mp ((hl q).mp hq) with rfl | hq
    · exact x11 p hp
    by_cases hqa : q.1 = ask
    · rw [hqa]; exact x12 p hp
    · exact x10 q (List.mem_filter.mpr ⟨hq, decide_eq_true hqa⟩) p hp
end
section
theorem words_8 : True := by
  w_top off
  k_with_none
  k_with "kst_mem" => first
    | (first
      | with_reducible assumption
      | with_reducible exact List.mem_cons_self
      | (with_reducible refine List.mem_cons_of_mem _ ?_; kst_mem)
      | (with_reducible refine List.mem_append.mpr (Or.inl ?_); kst_mem)
      | (with_reducible refine List.mem_append.mpr (Or.inr ?_); kst_mem)
      | fail "kst_mem")
    | fail
  k_with "k_mem" => first
    | (kst_mem)
    | fail
  k_with "k_all" => first
    | (first
      | with_reducible assumption
      | exact List.forall_mem_nil _
      | (with_reducible refine' Mine.less_sub ?h_2 ?m_2; (case h_2 => with_reducible assumption); (case m_2 => (intro p9 h9; kst_mem)))
      | (with_reducible refine' Mine.less_sub1 ?h_2 ?m_2; (case h_2 => with_reducible assumption); (case m_2 => (intro p9 h9; kst_mem)))
      | (with_reducible refine' Mine.less_sub2 ?h_2 ?m_2; (case h_2 => with_reducible assumption); (case m_2 => (intro p9 h9; kst_mem)))
      | (with_reducible refine' Mine.less_sub3 ?h_2 ?m_2; (case h_2 => with_reducible assumption); (case m_2 => (intro p9 h9; kst_mem)))
      | (with_reducible refine' Mine.less_sub4 ?h_2 ?m_2; (case h_2 => with_reducible assumption); (case m_2 => (intro p9 h9; kst_mem)))
      | (with_reducible refine' Mine.less_sub5 ?h_2 ?m_2; (case h_2 => with_reducible assumption); (case m_2 => (intro p9 h9; kst_mem)))
      | (refine' List.forall_mem_cons.mpr ⟨?a_2, ?b_2⟩; (case a_2 => k_ne); (case b_2 => k_all))
      | exact Mine.allLt_ne (by with_reducible assumption)
      | exact Mine.fresh_ne (by with_reducible assumption) (by k_mem)
      | (refine' List.forall_mem_append.mpr ⟨?_, ?_⟩ <;> k_all))
    | fail
  k_with "kqd_sub" => first
    | (first
      | exact fun _ h => h
      | exact List.forall_mem_nil _
      | (refine' List.forall_mem_cons.mpr ⟨?kqa_3, ?kqb_3⟩; (case kqa_3 => k_mem); (case kqb_3 => kqd_sub))
      | (refine' List.forall_mem_append.mpr ⟨?_, ?_⟩ <;> kqd_sub)
      | (intro p9 h9; k_mem))
    | fail
  k_with "ktr_enter" => first
    | (refine' code_defC ?k1_4 ?k2_4 ?k3_4 ?k4_4 ?k5_4 ?kA_4 ?kF_4 ?kK_4 ?k6_4 ?k7_4 ?k8_4 ?k9_4 ?kB_4 ?kD_4 ?_ ?c2_4 ?c3_4 ?c4_4; (case kA_4 => exact rfl); (case kF_4 => exact rfl); (case kK_4 => assumption); (case k1_4 => k_asm); (case k2_4 => k_asm); (case k3_4 => k_asm); (case k4_4 => k_asm); (case k5_4 => k_asm); (case k6_4 => k_is); (case k7_4 => k_is); (case k8_4 => ktr_room); (case k9_4 => exact BindsTo.of_eq rfl); (case kB_4 => exact rfl); (case kD_4 => decide +kernel); (case c2_4 => exact rfl); (case c3_4 => exact rfl); (case c4_4 => exact rfl); k_whole; intro g' L' h' tk' cells' FG' F' N' Y' B' X' T' l1; (try k_lt l1); k_cells Y'; (try simp only [List.cons_append, List.nil_append] at N'); (try dsimp only); (try k_fold))
    | fail
  k_with "tb_start" => first
    | (first
      | with_reducible exact Mine.Apart.ne (by with_reducible assumption)
      | with_reducible exact Mine.Apart.en (by with_reducible assumption)
      | with_reducible exact Mine.succ_ne1
      | with_reducible exact Mine.succ_ne2
      | (with_reducible refine' Mine.less_ne ?h_5 ?m_5; (case h_5 => with_reducible assumption); (case m_5 => kst_mem))
      | (with_reducible refine' Mine.less_en ?h_5 ?m_5; (case h_5 => with_reducible assumption); (case m_5 => kst_mem))
      | (with_reducible refine' Mine.less_ne1 ?h_5 ?m_5; (case h_5 => with_reducible assumption); (case m_5 => kst_mem))
      | (with_reducible refine' Mine.less_en1 ?h_5 ?m_5; (case h_5 => with_reducible assumption); (case m_5 => kst_mem))
      | (with_reducible refine' Mine.less_ne2 ?h_5 ?m_5; (case h_5 => with_reducible assumption); (case m_5 => kst_mem))
      | (with_reducible refine' Mine.less_en2 ?h_5 ?m_5; (case h_5 => with_reducible assumption); (case m_5 => kst_mem))
      | (with_reducible refine' Mine.less_ne3 ?h_5 ?m_5; (case h_5 => with_reducible assumption); (case m_5 => kst_mem))
      | (with_reducible refine' Mine.less_en3 ?h_5 ?m_5; (case h_5 => with_reducible assumption); (case m_5 => kst_mem))
      | (with_reducible refine' Mine.less_ne4 ?h_5 ?m_5; (case h_5 => with_reducible assumption); (case m_5 => kst_mem))
      | (with_reducible refine' Mine.less_en4 ?h_5 ?m_5; (case h_5 => with_reducible assumption); (case m_5 => kst_mem))
      | (with_reducible refine' Mine.less_ne5 ?h_5 ?m_5; (case h_5 => with_reducible assumption); (case m_5 => kst_mem))
      | (with_reducible refine' Mine.less_en5 ?h_5 ?m_5; (case h_5 => with_reducible assumption); (case m_5 => kst_mem))
      | (with_reducible refine' Mine.lt_ne2 ?k_5 ?h_5 ?m_5; (case k_5 => with_reducible assumption); (case h_5 => with_reducible assumption); (case m_5 => kst_mem))
      | (with_reducible refine' Mine.lt_en2 ?k_5 ?h_5 ?m_5; (case k_5 => with_reducible assumption); (case h_5 => with_reducible assumption); (case m_5 => kst_mem)))
    | fail
  k_with "k_ne" => first
    | (first | tb_start | ((try dsimp only); (refine neN ?_); first | tb_start | omega))
    | fail
  k_with "m call ref" => first
    | (k_here; (with_reducible show wpAny _ _ (call (Value.ref 87) _) _ _ _); k_dflt (refine' Mine.take_use ?k1_7 ?k2_7 ?k3_7 ?k4_7 ?k5_7 ?k6_7 ?k7_7 ?k8_7 ?k9_7 ?k10_7 ?k11_7 ?k12_7 ?k13_7 ?k14_7 ?_; (case k1_7 => k_asm); (case k2_7 => k_asm); (case k3_7 => k_asm); (case k4_7 => k_asm); (case k5_7 => k_asm); (case k6_7 => first | exact rfl | assumption); (case k7_7 => k_updF); (case k8_7 => assumption); (case k9_7 => assumption); (case k10_7 => assumption); (case k11_7 => omega); (case k12_7 => omega); (case k13_7 => ktr_room); (case k14_7 => ktr_units); k_whole); intro k9 a9 b9 t9 ta9 tb9 h9 tk9 F9 N9 x19 x29 x39 x49 x59; (try dsimp only at N9); (try k_sweep); (try k_fold))
    | fail
  k_with "m call ref" => first
    | (k_here; (with_reducible show wpAny _ _ (call (Value.ref 94) _) _ _ _); k_dflt (refine' Mine.one_use ?k1_10 ?k2_10 ?k3_10 ?k4_10 ?k5_10 ?k6_10 ?k7_10 ?kth_10 ?kne_10 ?kv0_10 ?kv1_10 ?k8_10 ?k9_10 ?k10_10 ?k13_10 ?k14_10 ?_; (case k1_10 => k_asm); (case k2_10 => k_asm); (case k3_10 => k_asm); (case k4_10 => k_asm); (case k5_10 => k_asm); (case k6_10 => first | exact rfl | assumption); (case k7_10 => k_updF); (case kth_10 => k_mem); (case kne_10 => first | assumption | k_ne); (case kv0_10 => first | assumption | (simp only [List.length_cons, List.length_nil]; omega)); (case kv1_10 => first | assumption | (simp only [List.length_cons, List.length_nil]; omega)); (case k8_10 => assumption); (case k9_10 => assumption); (case k10_10 => assumption); (case k13_10 => ktr_room); (case k14_10 => ktr_units); k_whole); intro r9 k9 a9 b9 ta9 tb9 h9 tk9 F9 N9 hv9 hg9 x39 x49 x59; (try dsimp only at N9); (try k_sweep); (try k_fold))
    | fail
  k_with "ktn_lt" => first
    | (first
      | (refine' Mine.Fresh3.of ?f_11 ?a_11 ?b_11 ?c_11; (case f_11 => assumption); (case a_11 => k_mem); (case b_11 => k_mem); (case c_11 => (intro p9 h9; k_mem)))
      | (refine' Mine.Fresh3.app ?_ ?_ <;> ktn_lt))
    | fail
  k_with "ktn_ord" => first
    | (first
      | exact Mine.Rest.nil
      | (refine' Mine.Rest.app _ ?z_12; (case z_12 => ktn_lt))
      | (refine' Mine.Rest.keep ?z_12 ?a_12 ?b_12 ?c_12; (case a_12 => first | (with_reducible refine' Mine.less_allLt ?h_12 ?m_12; (case h_12 => with_reducible assumption); (case m_12 => (intro p9 h9; kst_mem))) | assumption | exact Mine.allLt_left (by assumption)); (case b_12 => first | (with_reducible refine' Mine.less_lt ?h_12 ?m_12; (case h_12 => with_reducible assumption); (case m_12 => kst_mem)) | ((try dsimp only); omega)); (case c_12 => first | (with_reducible refine' Mine.less_lt ?h_12 ?m_12; (case h_12 => with_reducible assumption); (case m_12 => kst_mem)) | ((try dsimp only); omega)); (case z_12 => ktn_ord))
      | (refine' Mine.Rest.drop ?z_12; (case z_12 => ktn_ord)))
    | fail
  k_with "m call ref" => first
    | (k_here; (with_reducible show wpAny _ _ (call (Value.ref 94) _) _ _ _); k_dflt (refine' Mine.oneR_use ?k1_13 ?k2_13 ?k3_13 ?k4_13 ?k5_13 ?k6_13 ?k7_13 ?kth_13 ?kne_13 ?krv_13 ?kv0_13 ?kv1_13 ?k8_13 ?k9_13 ?k10_13 ?k13_13 ?k14_13 ?_; (case k1_13 => k_asm); (case k2_13 => k_asm); (case k3_13 => k_asm); (case k4_13 => k_asm); (case k5_13 => k_asm); (case k6_13 => first | exact rfl | assumption); (case k7_13 => k_updF); (case kth_13 => k_mem); (case kne_13 => first | with_reducible exact Mine.Apart.ne (by with_reducible assumption) | with_reducible assumption | k_ne); (case krv_13 => with_reducible assumption); (case kv0_13 => assumption); (case kv1_13 => assumption); (case k8_13 => assumption); (case k9_13 => assumption); (case k10_13 => assumption); (case k13_13 => ktr_room); (case k14_13 => ktr_units); k_whole); intro r9 q9 a9 b9 ta9 tb9 h9 tk9 hq9 F9 N9 x39 x49 x59; (try dsimp only at N9); (try k_sweep); (try k_fold))
    | fail
  k_with "ktn_open" => first
    | (first
      | (refine' Mine.trIn_due ?h_14 ?e_14 ?s_14; (case h_14 => with_reducible assumption); (case e_14 => first | with_reducible rfl | ((simp only [List.length_append, List.length_cons, List.length_nil, Nat.zero_add]); done) | ((simp only [List.length_append, List.length_cons, List.length_nil, Nat.zero_add]); omega) | omega); (case s_14 => kqd_sub))
      | (refine' Mine.TrIn.mono ?s_14 ?h_14; (case h_14 => with_reducible assumption); (case s_14 => kqd_sub))
      | (with_reducible refine' Mine.TrIn.b ?a0_14; (case a0_14 => kst_mem))
      | (with_reducible refine' Mine.TrIn.i ?a0_14; (case a0_14 => kst_mem))
      | (with_reducible refine' Mine.TrIn.p ?a0_14; (case a0_14 => kst_mem))
      | (with_reducible refine' Mine.TrIn.nv ?a0_14; (case a0_14 => kst_mem))
      | (with_reducible refine' Mine.TrIn.inf ?a0_14; (case a0_14 => kst_mem))
      | (with_reducible refine' Mine.TrIn.ref ?a0_14 ?a1_14 ?a2_14; (case a0_14 => kst_mem); (case a1_14 => ked_reads); (case a2_14 => ktn_open))
      | (with_reducible refine' Mine.TrIn.box ?a0_14 ?a1_14; (case a0_14 => kst_mem); (case a1_14 => ktn_open))
      | (with_reducible refine' Mine.TrIn.arr ?a0_14 ?a1_14; (case a0_14 => kst_mem); (case a1_14 => ktn_open))
      | (with_reducible refine' Mine.TrIn.tup0 ?a0_14 ?a1_14; (case a0_14 => kst_mem); (case a1_14 => kst_mem))
      | (with_reducible refine' Mine.TrIn.tup1 ?a0_14 ?a1_14 ?a2_14; (case a0_14 => kst_mem); (case a1_14 => kst_mem); (case a2_14 => ktn_open))
      | (with_reducible refine' Mine.TrIn.tup2 ?a0_14 ?a1_14 ?_ ?_; (case a0_14 => kst_mem); (case a1_14 => kst_mem); all_goals ktn_open)
      | (with_reducible refine' Mine.TrIn.adt0 ?a0_14 ?a1_14 ?a2_14 ?a3_14 ?a4_14; (case a0_14 => kst_mem); (case a1_14 => kst_mem); (case a2_14 => ked_reads); (case a3_14 => exact Nat.le_of_ble_eq_true rfl); (case a4_14 => kst_mem))
      | (with_reducible refine' Mine.TrIn.adt1 ?a0_14 ?a1_14 ?a2_14 ?a3_14 ?a4_14 ?a5_14; (case a0_14 => kst_mem); (case a1_14 => kst_mem); (case a2_14 => ked_reads); (case a3_14 => exact Nat.le_of_ble_eq_true rfl); (case a4_14 => kst_mem); (case a5_14 => ktn_open))
      | (with_reducible refine' Mine.TrIn.adt2 ?a0_14 ?a1_14 ?a2_14 ?a3_14 ?a4_14 ?_ ?_; (case a0_14 => kst_mem); (case a1_14 => kst_mem); (case a2_14 => ked_reads); (case a3_14 => exact Nat.le_of_ble_eq_true rfl); (case a4_14 => kst_mem); all_goals ktn_open))
    | fail
  k_with "ked_reads" => first
    | (first
      | with_reducible exact Mine.RV.none
      | (with_reducible refine' Mine.RV.str _ _ ?e_15; (case e_15 => decide +kernel))
      | with_reducible exact Mine.RVs.nil
      | (with_reducible refine' Mine.RVs.cons ?ca_15 ?cb_15; (case ca_15 => ked_reads); (case cb_15 => ked_reads))
      | with_reducible assumption
      | (with_reducible refine' Mine.RVs.append ?pa_15 ?pb_15; (case pa_15 => ked_reads); (case pb_15 => ked_reads))
      | (with_reducible refine' Mine.RV.int' ?e_15; (case e_15 => first | with_reducible rfl | ((simp only [List.length_append, List.length_cons, List.length_nil, Nat.zero_add]); done) | ((simp only [List.length_append, List.length_cons, List.length_nil, Nat.zero_add]); omega) | omega)))
    | fail
  k_with "m call ref" => first
    | (k_here; (with_reducible show wpAny _ _ (call (Value.ref 99) _) _ _ _); k_dflt (refine' Mine.tw_use ?kC_16 ?k1_16 ?k2_16 ?k3_16 ?k4_16 ?k5_16 ?k6_16 ?k7_16 ?kU2_16 ?ksa_16 ?kth_16 ?kne_16 ?kne2_16 ?krv_16 ?kv0_16 ?kv1_16 ?k8_16 ?k9_16 ?k10_16 ?kvs_16 ?klen_16 ?kdv_16 ?k13_16 ?k14_16 ?_; (case kC_16 => with_reducible assumption); (case k1_16 => k_asm); (case k2_16 => k_asm); (case k3_16 => k_asm); (case k4_16 => k_asm); (case k5_16 => k_asm); (case k6_16 => first | exact rfl | assumption); (case k7_16 => k_updF); (case kU2_16 => intro o9; k_updF); (case ksa_16 => first | with_reducible exact Mine.Apart.ne (by with_reducible assumption) | with_reducible assumption | k_ne); (case kth_16 => k_mem); (case kne_16 => first | with_reducible exact Mine.Apart.ne (by with_reducible assumption) | with_reducible assumption | k_ne); (case kne2_16 => first | with_reducible exact Mine.Apart.ne (by with_reducible assumption) | with_reducible assumption | k_ne); (case krv_16 => first | with_reducible assumption | ked_reads); (case kv0_16 => first | assumption | exact Nat.le_of_ble_eq_true rfl); (case kv1_16 => first | assumption | exact Nat.le_of_ble_eq_true rfl); (case k8_16 => assumption); (case k9_16 => assumption); (case k10_16 => assumption); (case kvs_16 => ked_reads); (case klen_16 => first | decide | ((try simp only [List.length_append, List.length_cons, List.length_nil, Nat.pow_succ] at *); omega)); (case kdv_16 => omega); (case k13_16 => ktr_room); (case k14_16 => ktr_units); k_whole); intro p9 told9 due9 t9 a9 b9 ta9 tb9 tl9 xs9 nk9 np9 h9 tk9 F9 N9 x19 x29 x39 hp9 ht9 hd9 hx9 hvx9 hxl9 hh9 hl9 hf9; (try dsimp only at N9); (try simp only [List.cons_append, List.nil_append, List.append_assoc] at N9); (try simp only [List.append_assoc] at hvx9); (try k_sweep); (try k_fold))
    | fail
  trivial
theorem append_L {prog : Program} {w : World} {A : Around} {E : Value → Shared → Prop} {s : Shared} {h₀ : Heap} {L D : Addr} {m : Str → Option Value} {news : List (Addr × Obj)} {g : Obj → List (Addr × Obj)} {its : List Value} {n : Nat} {x : Value} {Q : Value → Shared → Prop} (F : Fr h₀ L s.heap m) (N : News h₀ L s.heap news) (U : UpdF D (listOf its.toArray n) news g) (hsz : its.length < 1000)
    (h : ∀ h', Fr h₀ L h' m → News h₀ L h' (g (listOf (its ++ [x]).toArray (n + 1))) → Q .none { s with heap := h' }) : wpAny (model prog w) A (call (.builtin "list.append") [.ref D, x]) Q E s := by
  obtain ⟨pre, post, rfl, hg, a, b⟩ := U.split
  have z := N (D, listOf its.toArray n) (List.mem_append.mpr (.inr (.head _)))
  have hz : its.toArray.size ≤ sizeLine := by rw [List.size_toArray, sizeLine_eq]; omega
  refine append_at (hsz := hz) z.1 fun h' hs ho' => h h' (F.change hs z.2.1 z.2.2) ?_
  rw [hg]
  refine news_set N a b hs (ho'.trans ?_)
  show some (listOf (its.toArray.push x) (n + 1)) = some (listOf (its ++ [x]).toArray (n + 1))
  rw [List.push_toArray]
inductive Out3 (I C D : Addr) : List (Addr × Obj) → List (Addr × Obj) → Prop where
  | nil : Out3 I C D [] []
  | tail (R : List (Addr × Obj)) : LCg.Off3 I C D R → Out3 I C D R R
  | outI {o : Obj} {l n : List (Addr × Obj)} : Out3 I C D l n → Out3 I C D ((I, o) :: l) n
  | outC {o : Obj} {l n : List (Addr × Obj)} : Out3 I C D l n → Out3 I C D ((C, o) :: l) n
  | outD {o : Obj} {l n : List (Addr × Obj)} : Out3 I C D l n → Out3 I C D ((D, o) :: l) n
  | keep {p : Addr × Obj} {l n : List (Addr × Obj)} : @Ne Nat p.1 I → @Ne Nat p.1 C → @Ne Nat p.1 D → Out3 I C D l n → Out3 I C D (p :: l) (p :: n)
theorem Out3.sub {I C D : Addr} {l n : List (Addr × Obj)} (h : Out3 I C D l n) : ∀ p ∈ n, p ∈ l := by
  induction h with
  | nil => exact fun _ h => h
  | tail => exact fun _ h => h
  | outI _ ih => exact fun p hp => .tail _ (ih p hp)
  | outC _ ih => exact fun p hp => .tail _ (ih p hp)
  | outD _ ih => exact fun p hp => .tail _ (ih p hp)
  | keep _ _ _ _ ih =>
    intro p hp
    rcases List.mem_cons.mp hp with rfl | hp
    · exact .head _
    · exact .tail _ (ih p hp)
theorem Out3.off {I C D : Addr} {l n : List (Addr × Obj)} (h : Out3 I C D l n) : LCg.Off3 I C D n := by
  induction h with
  | nil => trivial
  | tail _ h => exact h
  | outI _ ih => exact ih
  | outC _ ih => exact ih
  | outD _ ih => exact ih
  | keep h1 h2 h3 _ ih => exact ⟨⟨h1, h2, h3⟩, ih⟩
theorem off3_fresh {I C D : Addr} {l tl : List (Addr × Obj)} {o1 o2 o3 : Obj} (hf : ∀ q ∈ l, ∀ p ∈ tl, q.1 < p.1) (m1 : (I, o1) ∈ l) (m2 : (C, o2) ∈ l) (m3 : (D, o3) ∈ l) : LCg.Off3 I C D tl :=
  LCg.Off3.of fun p hp => ⟨Nat.ne_of_gt (hf _ m1 p hp), Nat.ne_of_gt (hf _ m2 p hp), Nat.ne_of_gt (hf _ m3 p hp)⟩
theorem off3_app {I C D : Addr} {a b : List (Addr × Obj)} (h : LCg.Off3 I C D a) (h' : LCg.Off3 I C D b) : LCg.Off3 I C D (a ++ b) :=
  LCg.Off3.of fun p hp => (List.mem_append.mp hp).elim (h.mem p) (h'.mem p)
theorem comp_end {h₀ : Heap} {L I C D : Addr} {m : Str → Option Value} {s₁ : Shared} {oI oC oD : Obj} {S : List (Addr × Obj) → Prop} {rest : Value → List (Addr × Obj) → Prop} {y : Value} {h' : Heap} {tk : Nat} {all news' : List (Addr × Obj)}
    (F : Fr h₀ L h' m) (N : News h₀ L h' all) (m1 : (I, oI) ∈ all) (m2 : (C, oC) ∈ all) (m3 : (D, oD) ∈ all) (o : Out3 I C D all news') (hS : S news') (r : rest y news') :
    LCg.CompEnd h₀ L m s₁ I oI C oC D oD S rest y { s₁ with heap := h', toks := tk } :=
  LCg.CompEnd.intro F N news' (fun p hp => by
    rcases List.mem_cons.mp hp with rfl | hp
    · exact m1
    rcases List.mem_cons.mp hp with rfl | hp
    · exact m2
    rcases List.mem_cons.mp hp with rfl | hp
    · exact m3
    exact o.sub p hp) o.off hS r
theorem off3_sub {I C D : Addr} {l r : List (Addr × Obj)} (h : LCg.Off3 I C D l) (hs : ∀ p ∈ r, p ∈ l) : LCg.Off3 I C D r := LCg.Off3.of fun p hp => h.mem p (hs p hp)
theorem off_I {I C D x : Addr} {o : Obj} {l : List (Addr × Obj)} (h : LCg.Off3 I C D l) (m : (x, o) ∈ l) : @Ne Nat x I := (h.mem _ m).1
theorem off_C {I C D x : Addr} {o : Obj} {l : List (Addr × Obj)} (h : LCg.Off3 I C D l) (m : (x, o) ∈ l) : @Ne Nat x C := (h.mem _ m).2.1
theorem off_D {I C D x : Addr} {o : Obj} {l : List (Addr × Obj)} (h : LCg.Off3 I C D l) (m : (x, o) ∈ l) : @Ne Nat x D := (h.mem _ m).2.2
theorem of_I {I C D x : Addr} {o : Obj} {l : List (Addr × Obj)} (h : LCg.Off3 I C D l) (m : (x, o) ∈ l) : @Ne Nat I x := Ne.symm (h.mem _ m).1
theorem of_C {I C D x : Addr} {o : Obj} {l : List (Addr × Obj)} (h : LCg.Off3 I C D l) (m : (x, o) ∈ l) : @Ne Nat C x := Ne.symm (h.mem _ m).2.1
theorem of_D {I C D x : Addr} {o : Obj} {l : List (Addr × Obj)} (h : LCg.Off3 I C D l) (m : (x, o) ∈ l) : @Ne Nat D x := Ne.symm (h.mem _ m).2.2
inductive Out1 (I : Addr) : List (Addr × Obj) → List (Addr × Obj) → Prop where
  | nil : Out1 I [] []
  | tail (R : List (Addr × Obj)) : (∀ p ∈ R, p.1 ≠ I) → Out1 I R R
  | out {o : Obj} {l n : List (Addr × Obj)} : Out1 I l n → Out1 I ((I, o) :: l) n
  | keep {p : Addr × Obj} {l n : List (Addr × Obj)} : @Ne Nat p.1 I → Out1 I l n → Out1 I (p :: l) (p :: n)
theorem Out1.sub {I : Addr} {l n : List (Addr × Obj)} (h : Out1 I l n) : ∀ p ∈ n, p ∈ l := by
  induction h with
  | nil => exact fun _ h => h
  | tail => exact fun _ h => h
  | out _ ih => exact fun p hp => .tail _ (ih p hp)
  | keep _ _ ih =>
    intro p hp
    rcases List.mem_cons.mp hp with rfl | hp
    · exact .head _
    · exact .tail _ (ih p hp)
theorem Out1.off {I : Addr} {l n : List (Addr × Obj)} (h : Out1 I l n) : ∀ p ∈ n, p.1 ≠ I := by
  induction h with
  | nil => exact fun _ h => nomatch h
  | tail _ h => exact h
  | out _ ih => exact ih
  | keep h1 _ ih =>
    intro p hp
    rcases List.mem_cons.mp hp with rfl | hp
    · exact h1
    · exact ih p hp
theorem unr_end {h₀ : Heap} {L I : Addr} {it : Obj} {rest : (Str → Option Value) → List (Addr × Obj) → Prop} {s₁ : Shared} {h' : Heap} {tk : Nat} {m' : Str → Option Value} {all news' : List (Addr × Obj)} (F : Fr h₀ L h' m') (N : News h₀ L h' all)
    (mI : (I, it) ∈ all) (o : Out1 I all news') (r : rest m' news') : UnrEnd h₀ L s₁ I it rest { s₁ with heap := h', toks := tk } :=
  UnrEnd.intro F N news' (fun p hp => by
    rcases List.mem_cons.mp hp with rfl | hp
    · exact mI
    exact o.sub p hp) o.off r
end
section
theorem words_9 : True := by
  w_top off
  k_with_none
  k_with "kst_mem" => first
    | (first
      | with_reducible assumption
      | with_reducible exact List.mem_cons_self
      | (with_reducible refine List.mem_cons_of_mem _ ?_; kst_mem)
      | (with_reducible refine List.mem_append.mpr (Or.inl ?_); kst_mem)
      | (with_reducible refine List.mem_append.mpr (Or.inr ?_); kst_mem)
      | fail "kst_mem")
    | fail
  k_with "k_mem" => first
    | (kst_mem)
    | fail
  k_with "k_all" => first
    | (first
      | with_reducible assumption
      | exact List.forall_mem_nil _
      | (with_reducible refine' Mine.less_sub ?h_2 ?m_2; (case h_2 => with_reducible assumption); (case m_2 => (intro p9 h9; kst_mem)))
      | (with_reducible refine' Mine.less_sub1 ?h_2 ?m_2; (case h_2 => with_reducible assumption); (case m_2 => (intro p9 h9; kst_mem)))
      | (with_reducible refine' Mine.less_sub2 ?h_2 ?m_2; (case h_2 => with_reducible assumption); (case m_2 => (intro p9 h9; kst_mem)))
      | (with_reducible refine' Mine.less_sub3 ?h_2 ?m_2; (case h_2 => with_reducible assumption); (case m_2 => (intro p9 h9; kst_mem)))
      | (with_reducible refine' Mine.less_sub4 ?h_2 ?m_2; (case h_2 => with_reducible assumption); (case m_2 => (intro p9 h9; kst_mem)))
      | (with_reducible refine' Mine.less_sub5 ?h_2 ?m_2; (case h_2 => with_reducible assumption); (case m_2 => (intro p9 h9; kst_mem)))
      | (refine' List.forall_mem_cons.mpr ⟨?a_2, ?b_2⟩; (case a_2 => k_ne); (case b_2 => k_all))
      | exact Mine.allLt_ne (by with_reducible assumption)
      | exact Mine.fresh_ne (by with_reducible assumption) (by k_mem)
      | (refine' List.forall_mem_append.mpr ⟨?_, ?_⟩ <;> k_all))
    | fail
  k_with "kqd_sub" => first
    | (first
      | exact fun _ h => h
      | exact List.forall_mem_nil _
      | (refine' List.forall_mem_cons.mpr ⟨?kqa_3, ?kqb_3⟩; (case kqa_3 => k_mem); (case kqb_3 => kqd_sub))
      | (refine' List.forall_mem_append.mpr ⟨?_, ?_⟩ <;> kqd_sub)
      | (intro p9 h9; k_mem))
    | fail
  k_with "ktr_enter" => first
    | (refine' code_defC ?k1_4 ?k2_4 ?k3_4 ?k4_4 ?k5_4 ?kA_4 ?kF_4 ?kK_4 ?k6_4 ?k7_4 ?k8_4 ?k9_4 ?kB_4 ?kD_4 ?_ ?c2_4 ?c3_4 ?c4_4; (case kA_4 => exact rfl); (case kF_4 => exact rfl); (case kK_4 => assumption); (case k1_4 => k_asm); (case k2_4 => k_asm); (case k3_4 => k_asm); (case k4_4 => k_asm); (case k5_4 => k_asm); (case k6_4 => k_is); (case k7_4 => k_is); (case k8_4 => ktr_room); (case k9_4 => exact BindsTo.of_eq rfl); (case kB_4 => exact rfl); (case kD_4 => decide +kernel); (case c2_4 => exact rfl); (case c3_4 => exact rfl); (case c4_4 => exact rfl); k_whole; intro g' L' h' tk' cells' FG' F' N' Y' B' X' T' l1; (try k_lt l1); k_cells Y'; (try simp only [List.cons_append, List.nil_append] at N'); (try dsimp only); (try k_fold))
    | fail
  k_with "tb_start" => first
    | (first
      | with_reducible exact Mine.Apart.ne (by with_reducible assumption)
      | with_reducible exact Mine.Apart.en (by with_reducible assumption)
      | with_reducible exact Mine.succ_ne1
      | with_reducible exact Mine.succ_ne2
      | (with_reducible refine' Mine.less_ne ?h_5 ?m_5; (case h_5 => with_reducible assumption); (case m_5 => kst_mem))
      | (with_reducible refine' Mine.less_en ?h_5 ?m_5; (case h_5 => with_reducible assumption); (case m_5 => kst_mem))
      | (with_reducible refine' Mine.less_ne1 ?h_5 ?m_5; (case h_5 => with_reducible assumption); (case m_5 => kst_mem))
      | (with_reducible refine' Mine.less_en1 ?h_5 ?m_5; (case h_5 => with_reducible assumption); (case m_5 => kst_mem))
      | (with_reducible refine' Mine.less_ne2 ?h_5 ?m_5; (case h_5 => with_reducible assumption); (case m_5 => kst_mem))
      | (with_reducible refine' Mine.less_en2 ?h_5 ?m_5; (case h_5 => with_reducible assumption); (case m_5 => kst_mem))
      | (with_reducible refine' Mine.less_ne3 ?h_5 ?m_5; (case h_5 => with_reducible assumption); (case m_5 => kst_mem))
      | (with_reducible refine' Mine.less_en3 ?h_5 ?m_5; (case h_5 => with_reducible assumption); (case m_5 => kst_mem))
      | (with_reducible refine' Mine.less_ne4 ?h_5 ?m_5; (case h_5 => with_reducible assumption); (case m_5 => kst_mem))
      | (with_reducible refine' Mine.less_en4 ?h_5 ?m_5; (case h_5 => with_reducible assumption); (case m_5 => kst_mem))
      | (with_reducible refine' Mine.less_ne5 ?h_5 ?m_5; (case h_5 => with_reducible assumption); (case m_5 => kst_mem))
      | (with_reducible refine' Mine.less_en5 ?h_5 ?m_5; (case h_5 => with_reducible assumption); (case m_5 => kst_mem))
      | (with_reducible refine' Mine.lt_ne2 ?k_5 ?h_5 ?m_5; (case k_5 => with_reducible assumption); (case h_5 => with_reducible assumption); (case m_5 => kst_mem))
      | (with_reducible refine' Mine.lt_en2 ?k_5 ?h_5 ?m_5; (case k_5 => with_reducible assumption); (case h_5 => with_reducible assumption); (case m_5 => kst_mem)))
    | fail
  k_with "k_ne" => first
    | (first | tb_start | ((try dsimp only); (refine neN ?_); first | tb_start | omega))
    | fail
  trivial
/-- a written list of names and constants, read at once -/
inductive Sim (m : Str → Option Value) (ko : Str → Option NameKind) (cl : List (Str × Addr)) (news : List (Addr × Obj)) : List PySem.Expr → Nat → List Value → Nat → Prop where
  | nil {tk : Nat} : Sim m ko cl news [] tk [] tk
  | loc {x : Str} {pos : Pos} {v : Value} {es : List PySem.Expr} {tk tk' : Nat} {vs : List Value} : m x = some v → ko x = some .local → (x == ("__debug__" : Str)) = false → Sim m ko cl news es tk vs tk' → Sim m ko cl news (.Name x pos :: es) tk (v :: vs) tk'
  | cell {x : Str} {pos : Pos} {c : Addr} {o : Obj} {v : Value} {es : List PySem.Expr} {tk tk' : Nat} {vs : List Value} : cl.lookup x = some c → (c, o) ∈ news → o.data = .cell (some v) → ko x = some .cell → (x == ("__debug__" : Str)) = false → Sim m ko cl news es tk vs tk' → Sim m ko cl news (.Name x pos :: es) tk (v :: vs) tk'
  | str {x : Str} {k : Nat} {pos : Pos} {es : List PySem.Expr} {tk tk' : Nat} {vs : List Value} : Sim m ko cl news es (tk + 1) vs tk' → Sim m ko cl news (.Constant (.str x) k pos :: es) tk (.str x tk :: vs) tk'
  | int {i : Int} {k : Nat} {pos : Pos} {es : List PySem.Expr} {tk tk' : Nat} {vs : List Value} : Sim m ko cl news es (tk + 1) vs tk' → Sim m ko cl news (.Constant (.int i) k pos :: es) tk (.int i tk :: vs) tk'
section
variable {prog : Program} {w : World} {A : Around} {E : Value → Shared → Prop} {s : Shared} {K : Frag} {h₀ : Heap} {L a : Addr} {m mg mb : Str → Option Value} {cn : Str} {cs : Scope} {ccd : Value} {cl : List (Str × Addr)} {news : List (Addr × Obj)} {p : Program} {loose : List Str}
theorem args_sim {es : List PySem.Expr} {pos : Pos} {vs : List Value} {tk' : Nat} {Q : List Value → Shared → Prop} (F : Fr h₀ L s.heap m) (N : News h₀ L s.heap news) (hk : cs.kind = .function)
    (S : Sim m (envX cn cs L a ccd cl).kindOf cl news es s.toks vs tk') (h : Q vs { s with toks := tk' }) : wpAny (model prog w) A (spliced (backTo pos (starEach es (envX cn cs L a ccd cl)))) Q E s := by
  generalize e : s.toks = tk at S
  induction S generalizing s Q with
  | nil => subst e; exact args_nil h
  | loc h1 h2 h3 _ ih => exact args_cons (nameX_L F h1 (ih F N h e) hk h2 h3)
  | cell h1 h2 h3 h4 h5 _ ih => exact args_cons (nameX_C N h1 h2 h3 (ih F N h e) hk h4 h5)
  | str _ ih => subst e; exact args_cons (Calls.Constant_str (ih (s := { s with toks := s.toks + 1 }) F N h rfl))
  | int _ ih => subst e; exact args_cons (wpAny_Constant_int (ih (s := { s with toks := s.toks + 1 }) F N h rfl))
theorem sim_plain {env : Env} {ko : Str → Option NameKind} {es : List PySem.Expr} {pos : Pos} {vs : List Value} {tk tk' : Nat} (S : Sim m ko cl news es tk vs tk') : (backTo pos (starEach es env)).any (·.1) = false := by
  induction S with
  | nil => rfl
  | loc _ _ _ _ ih => exact ih
  | cell _ _ _ _ _ _ ih => exact ih
  | str _ ih => exact ih
  | int _ ih => exact ih
theorem sim_head {env : Env} {ko : Str → Option NameKind} {e : PySem.Expr} {es : List PySem.Expr} {vs : List Value} {tk tk' : Nat} (S : Sim m ko cl news (e :: es) tk vs tk') : starEach (e :: es) env = (false, eval e env) :: starEach es env := by
  cases S <;> rfl
theorem sim_rest {env : Env} {ko : Str → Option NameKind} {e : PySem.Expr} {es : List PySem.Expr} {pos : Pos} {vs : List Value} {tk tk' : Nat} (S : Sim m ko cl news (e :: es) tk vs tk') : (backTo pos (starEach es env)).any (·.1) = false := by
  cases S with
  | loc _ _ _ h => exact sim_plain h
  | cell _ _ _ _ _ h => exact sim_plain h
  | str h => exact sim_plain h
  | int h => exact sim_plain h
/-- f(a, 1, "x") of a def of the text -/
theorem call_sim {f : Str} {fp pos : Pos} {e : PySem.Expr} {es : List PySem.Expr} {q : Addr} {vs : List Value} {hp : Heap} {gn : Array GenState} {dr : Drawn} {tk tk' : Nat} {os : OsState} {Q : Value → Shared → Prop} (F : Fr h₀ L hp m) (N : News h₀ L hp news) (X : K.In h₀) (T : TopRead p loose mg mb h₀)
    (hk : cs.kind = .function) (hx : (envX cn cs L a ccd cl).kindOf f = some .globalImplicit) (hd : (f == ("__debug__" : Str)) = false) (en : nsIn K mainGlobals f = some (some (.ref q))) (kp : keepIn K (.ref q) = true)
    (S : Sim m (envX cn cs L a ccd cl).kindOf cl news (e :: es) tk vs tk') (h : wpAny (model prog w) A (call (.ref q) vs) Q E ⟨hp, gn, dr, tk', os⟩) :
    wpAny (model prog w) A (eval (.Call (.Name f fp) (e :: es) [] pos) (envX cn cs L a ccd cl)) Q E ⟨hp, gn, dr, tk, os⟩ :=
  Call_ (nameX_K (s := ⟨hp, gn, dr, tk, os⟩) F X T en (callWith_K X kp (args_sim (s := ⟨hp, gn, dr, tk, os⟩) F N hk S ⟨X.keeps F.keep, h⟩) (sim_head S) (sim_rest S)) hk hx hd)
theorem tuple_sim {es : List PySem.Expr} {k : Nat} {pos : Pos} {vs : List Value} {hp : Heap} {gn : Array GenState} {dr : Drawn} {tk tk' : Nat} {os : OsState} {Q : Value → Shared → Prop} (F : Fr h₀ L hp m) (N : News h₀ L hp news) (hk : cs.kind = .function)
    (S : Sim m (envX cn cs L a ccd cl).kindOf cl news es tk vs tk') (hz : vs.length ≤ 1000)
    (h : ∀ D h', Fr h₀ L h' m → News h₀ L h' ((D, ({ cls := .type "tuple", data := .seq vs.toArray } : Obj)) :: news) → (∀ p ∈ news, p.1 < D) → Q (.ref D) ⟨h', gn, dr, tk', os⟩) :
    wpAny (model prog w) A (eval (.Tuple es k pos) (envX cn cs L a ccd cl)) Q E ⟨hp, gn, dr, tk, os⟩ :=
  Tuple_ (args_sim (s := ⟨hp, gn, dr, tk, os⟩) F N hk S (kup_newTuple (s := ⟨hp, gn, dr, tk', os⟩) F N h (by rw [sizeLine_eq]; omega)))
theorem args_simS {es : List PySem.Expr} {pos : Pos} {vs : List Value} {hp : Heap} {gn : Array GenState} {dr : Drawn} {tk tk' : Nat} {os : OsState} {Q : List Value → Shared → Prop} (F : Fr h₀ L hp m) (N : News h₀ L hp news) (hk : cs.kind = .function)
    (S : Sim m (envX cn cs L a ccd cl).kindOf cl news es tk vs tk') (h : Q vs ⟨hp, gn, dr, tk', os⟩) : wpAny (model prog w) A (spliced (backTo pos (starEach es (envX cn cs L a ccd cl)))) Q E ⟨hp, gn, dr, tk, os⟩ :=
  args_sim (s := ⟨hp, gn, dr, tk, os⟩) F N hk S h
theorem sub_sim {x : Str} {px pc pos : Pos} {t : Addr} {vs : List Value} {n kk j : Nat} {i : Int} {v : Value} {hp : Heap} {gn : Array GenState} {dr : Drawn} {tk : Nat} {os : OsState} {Q : Value → Shared → Prop} (F : Fr h₀ L hp m) (N : News h₀ L hp news) (hk : cs.kind = .function) (hx : (envX cn cs L a ccd cl).kindOf x = some .local) (hd : (x == ("__debug__" : Str)) = false) (hm : m x = some (.ref t))
    (ht : (t, tupO vs n) ∈ news) (hi : i = (j : Int)) (hj : vs[j]? = some v) (h : Q v ⟨hp, gn, dr, tk + 1, os⟩) (hlen : j < 1000) :
    wpAny (model prog w) A (eval (.Subscript (.Name x px) (.Constant (.int i) kk pc) pos) (envX cn cs L a ccd cl)) Q E ⟨hp, gn, dr, tk, os⟩ := by
  subst hi
  refine Subscript_ (nameX_L (s := ⟨hp, gn, dr, tk, os⟩) F hm (wpAny_Constant_int (item_tupleT (j := j) (News.isTup (h := hp) N ht) (by omega) (by omega) ?_ hj h)) hk hx hd)
  have hl : j < vs.length := by
    rcases Nat.lt_or_ge j vs.length with q | q
    · exact q
    · rw [List.getElem?_eq_none q] at hj; exact absurd hj (by simp)
  unfold seqIndex?
  have e1 : ¬ ((j : Int) < 0) := by omega
  simp [e1, hl]
theorem skip_if {x c v : Str} {t : Tok} {px pc pp pif : Pos} {kk : Nat} {body rest : List Stmt} {hp : Heap} {gn : Array GenState} {dr : Drawn} {tk : Nat} {os : OsState} {Q : Flow → Shared → Prop} (F : Fr h₀ L hp m) (hk : cs.kind = .function) (hx : (envX cn cs L a ccd cl).kindOf x = some .local) (hd : (x == ("__debug__" : Str)) = false) (hm : m x = some (.str v t))
    (hc : (v == c) = false) (h : wpAny (model prog w) A (execs rest (envX cn cs L a ccd cl)) Q E ⟨hp, gn, dr, tk + 1, os⟩) :
    wpAny (model prog w) A (execs (.If (.Compare (.Name x px) [.Eq] [.Constant (.str c) kk pc] pp) body [] pif :: rest) (envX cn cs L a ccd cl)) Q E ⟨hp, gn, dr, tk, os⟩ :=
  wpAny_execs_cons (wpAny_If (wpAny_isTrue_Compare1 (nameX_L (s := ⟨hp, gn, dr, tk, os⟩) F hm (Calls.Constant_str (eq_str (wpAny_truthy_bool (by rw [hc]; exact wpAny_execs_nil h)))) hk hx hd)))
theorem take_if {x c v : Str} {t : Tok} {px pc pp pif : Pos} {kk : Nat} {body orelse rest : List Stmt} {hp : Heap} {gn : Array GenState} {dr : Drawn} {tk : Nat} {os : OsState} {Q : Flow → Shared → Prop} (F : Fr h₀ L hp m) (hk : cs.kind = .function) (hx : (envX cn cs L a ccd cl).kindOf x = some .local) (hd : (x == ("__debug__" : Str)) = false) (hm : m x = some (.str v t))
    (hc : (v == c) = true) (h : wpAny (model prog w) A (execs body (envX cn cs L a ccd cl)) (fun f s' => match f with | .next => wpAny (model prog w) A (execs rest (envX cn cs L a ccd cl)) Q E s' | f => Q f s') E ⟨hp, gn, dr, tk + 1, os⟩) :
    wpAny (model prog w) A (execs (.If (.Compare (.Name x px) [.Eq] [.Constant (.str c) kk pc] pp) body orelse pif :: rest) (envX cn cs L a ccd cl)) Q E ⟨hp, gn, dr, tk, os⟩ :=
  wpAny_execs_cons (wpAny_If (wpAny_isTrue_Compare1 (nameX_L (s := ⟨hp, gn, dr, tk, os⟩) F hm (Calls.Constant_str (eq_str (wpAny_truthy_bool (by rw [hc]; exact h)))) hk hx hd)))
theorem assign_one {x : Str} {px pos : Pos} {e : PySem.Expr} {rest : List Stmt} {env : Env} {Q : Flow → Shared → Prop}
    (h : wpAny (model prog w) A (eval e env) (fun v s₁ => wpAny (model prog w) A (storeName env x v) (fun _ s₂ => wpAny (model prog w) A (execs rest env) Q E s₂) E s₁) E s)
    (hs : swapsWith e (some (.Name x px)) pos.line env = pure false := by rfl) :
    wpAny (model prog w) A (execs (.Assign [.Name x px] e pos :: rest) env) Q E s :=
  wpAny_execs_cons (wpAny_Assign_Name h hs)
end
end
section
theorem words_10 : True := by
  w_top off
  k_with_none
  k_with "kst_mem" => first
    | (first
      | with_reducible assumption
      | with_reducible exact List.mem_cons_self
      | (with_reducible refine List.mem_cons_of_mem _ ?_; kst_mem)
      | (with_reducible refine List.mem_append.mpr (Or.inl ?_); kst_mem)
      | (with_reducible refine List.mem_append.mpr (Or.inr ?_); kst_mem)
      | fail "kst_mem")
    | fail
  k_with "k_mem" => first
    | (kst_mem)
    | fail
  k_with "k_all" => first
    | (first
      | with_reducible assumption
      | exact List.forall_mem_nil _
      | (with_reducible refine' Mine.less_sub ?h_2 ?m_2; (case h_2 => with_reducible assumption); (case m_2 => (intro p9 h9; kst_mem)))
      | (with_reducible refine' Mine.less_sub1 ?h_2 ?m_2; (case h_2 => with_reducible assumption); (case m_2 => (intro p9 h9; kst_mem)))
      | (with_reducible refine' Mine.less_sub2 ?h_2 ?m_2; (case h_2 => with_reducible assumption); (case m_2 => (intro p9 h9; kst_mem)))
      | (with_reducible refine' Mine.less_sub3 ?h_2 ?m_2; (case h_2 => with_reducible assumption); (case m_2 => (intro p9 h9; kst_mem)))
      | (with_reducible refine' Mine.less_sub4 ?h_2 ?m_2; (case h_2 => with_reducible assumption); (case m_2 => (intro p9 h9; kst_mem)))
      | (with_reducible refine' Mine.less_sub5 ?h_2 ?m_2; (case h_2 => with_reducible assumption); (case m_2 => (intro p9 h9; kst_mem)))
      | (refine' List.forall_mem_cons.mpr ⟨?a_2, ?b_2⟩; (case a_2 => k_ne); (case b_2 => k_all))
      | exact Mine.allLt_ne (by with_reducible assumption)
      | exact Mine.fresh_ne (by with_reducible assumption) (by k_mem)
      | (refine' List.forall_mem_append.mpr ⟨?_, ?_⟩ <;> k_all))
    | fail
  k_with "kqd_sub" => first
    | (first
      | exact fun _ h => h
      | exact List.forall_mem_nil _
      | (refine' List.forall_mem_cons.mpr ⟨?kqa_3, ?kqb_3⟩; (case kqa_3 => k_mem); (case kqb_3 => kqd_sub))
      | (refine' List.forall_mem_append.mpr ⟨?_, ?_⟩ <;> kqd_sub)
      | (intro p9 h9; k_mem))
    | fail
  k_with "ktr_enter" => first
    | (refine' code_defC ?k1_4 ?k2_4 ?k3_4 ?k4_4 ?k5_4 ?kA_4 ?kF_4 ?kK_4 ?k6_4 ?k7_4 ?k8_4 ?k9_4 ?kB_4 ?kD_4 ?_ ?c2_4 ?c3_4 ?c4_4; (case kA_4 => exact rfl); (case kF_4 => exact rfl); (case kK_4 => assumption); (case k1_4 => k_asm); (case k2_4 => k_asm); (case k3_4 => k_asm); (case k4_4 => k_asm); (case k5_4 => k_asm); (case k6_4 => k_is); (case k7_4 => k_is); (case k8_4 => ktr_room); (case k9_4 => exact BindsTo.of_eq rfl); (case kB_4 => exact rfl); (case kD_4 => decide +kernel); (case c2_4 => exact rfl); (case c3_4 => exact rfl); (case c4_4 => exact rfl); k_whole; intro g' L' h' tk' cells' FG' F' N' Y' B' X' T' l1; (try k_lt l1); k_cells Y'; (try simp only [List.cons_append, List.nil_append] at N'); (try dsimp only); (try k_fold))
    | fail
  k_with "tb_start" => first
    | (first
      | with_reducible exact Mine.Apart.ne (by with_reducible assumption)
      | with_reducible exact Mine.Apart.en (by with_reducible assumption)
      | with_reducible exact Mine.succ_ne1
      | with_reducible exact Mine.succ_ne2
      | (with_reducible refine' Mine.less_ne ?h_5 ?m_5; (case h_5 => with_reducible assumption); (case m_5 => kst_mem))
      | (with_reducible refine' Mine.less_en ?h_5 ?m_5; (case h_5 => with_reducible assumption); (case m_5 => kst_mem))
      | (with_reducible refine' Mine.less_ne1 ?h_5 ?m_5; (case h_5 => with_reducible assumption); (case m_5 => kst_mem))
      | (with_reducible refine' Mine.less_en1 ?h_5 ?m_5; (case h_5 => with_reducible assumption); (case m_5 => kst_mem))
      | (with_reducible refine' Mine.less_ne2 ?h_5 ?m_5; (case h_5 => with_reducible assumption); (case m_5 => kst_mem))
      | (with_reducible refine' Mine.less_en2 ?h_5 ?m_5; (case h_5 => with_reducible assumption); (case m_5 => kst_mem))
      | (with_reducible refine' Mine.less_ne3 ?h_5 ?m_5; (case h_5 => with_reducible assumption); (case m_5 => kst_mem))
      | (with_reducible refine' Mine.less_en3 ?h_5 ?m_5; (case h_5 => with_reducible assumption); (case m_5 => kst_mem))
      | (with_reducible refine' Mine.less_ne4 ?h_5 ?m_5; (case h_5 => with_reducible assumption); (case m_5 => kst_mem))
      | (with_reducible refine' Mine.less_en4 ?h_5 ?m_5; (case h_5 => with_reducible assumption); (case m_5 => kst_mem))
      | (with_reducible refine' Mine.less_ne5 ?h_5 ?m_5; (case h_5 => with_reducible assumption); (case m_5 => kst_mem))
      | (with_reducible refine' Mine.less_en5 ?h_5 ?m_5; (case h_5 => with_reducible assumption); (case m_5 => kst_mem))
      | (with_reducible refine' Mine.lt_ne2 ?k_5 ?h_5 ?m_5; (case k_5 => with_reducible assumption); (case h_5 => with_reducible assumption); (case m_5 => kst_mem))
      | (with_reducible refine' Mine.lt_en2 ?k_5 ?h_5 ?m_5; (case k_5 => with_reducible assumption); (case h_5 => with_reducible assumption); (case m_5 => kst_mem)))
    | fail
  k_with "k_ne" => first
    | (first | tb_start | ((try dsimp only); (refine neN ?_); first | tb_start | omega))
    | fail
  trivial
def TurnG {st : Type} (h₀ : Heap) (L : Addr) (m₀ : Str → Option Value) (x : Str) (I : Addr) (oI : Obj) (led : st → List (Addr × Obj)) (ok : st → Prop) (s₁ : Shared) (f : Flow) (s₂ : Shared) : Prop :=
  f = .next ∧ ∃ h' tk' m' σ, s₂ = { s₁ with heap := h', toks := tk' } ∧ Fr h₀ L h' m' ∧ (∀ z, z ≠ x → m' z = m₀ z) ∧ News h₀ L h' ((I, oI) :: led σ) ∧ ok σ
theorem TurnG.intro {st : Type} {h₀ : Heap} {L : Addr} {m₀ m' : Str → Option Value} {x : Str} {I : Addr} {oI : Obj} {led : st → List (Addr × Obj)} {ok : st → Prop} {s₁ : Shared} {h' : Heap} {tk' : Nat} {l : List (Addr × Obj)} (σ : st)
    (F : Fr h₀ L h' m') (hm : ∀ z, z ≠ x → m' z = m₀ z) (N : News h₀ L h' l) (hs : ∀ p ∈ (I, oI) :: led σ, p ∈ l) (hk : ok σ) : TurnG h₀ L m₀ x I oI led ok s₁ .next { s₁ with heap := h', toks := tk' } :=
  ⟨rfl, h', tk', m', σ, rfl, F, hm, News.sub N hs, hk⟩
section
variable {prog : Program} {w : World} {A : Around} {E : Value → Shared → Prop} {s : Shared} {env : Env} {h₀ : Heap} {x : Str} {body : List Stmt} {Q : Flow → Shared → Prop}
theorem name_here {m₀ m : Str → Option Value} (hm : ∀ z, z ≠ x → m z = m₀ z) : (fun y => if y = x then m y else m₀ y) = m := by
  funext y
  by_cases h1 : y = x
  · simp [h1]
  · simp only [if_neg h1]; exact (hm y h1).symm
/-- `for x in range(k)`: the loop by an invariant over states -/
theorem loop_G {st : Type} {led : st → List (Addr × Obj)} {ok : Nat → st → Prop} (σ0 : st) {r : Addr} {k : Int} {t₀ u₀ v₀ : Tok} {m₀ : Str → Option Value} {l : List (Addr × Obj)}
    (hh : A.handled = none) (hr : IsRange s.heap r 0 k 1 t₀ u₀ v₀) (hk0 : 0 ≤ k) (hk1 : k < 1000) (F : Fr h₀ env.locals s.heap m₀) (N : News h₀ env.locals s.heap l) (hl : ∀ p ∈ led σ0, p ∈ l) (h0 : ok 0 σ0) (addrs : ∀ σ, ∀ p ∈ led σ, ∃ o, (p.1, o) ∈ led σ0)
    (turn : ∀ (i : Nat) σ v t I oI h tk, (i : Int) < k → ok i σ → Fr h₀ env.locals h (fun y => if y = x then some (.int v t) else m₀ y) → News h₀ env.locals h ((I, oI) :: led σ) → (∀ p ∈ led σ, @LT.lt Nat _ p.1 I) →
      wpAny (model prog w) A (execs body env) (TurnG h₀ env.locals m₀ x I oI led (ok (i + 1)) { s with heap := h, toks := tk }) E { s with heap := h, toks := tk })
    (done : ∀ σ h tk (u : Str → Option Value), ok k.toNat σ → Fr h₀ env.locals h (fun y => if y = x then u y else m₀ y) → News h₀ env.locals h (led σ) → Q .next { s with heap := h, toks := tk }) :
    wpAny (model prog w) A (pyIter (.ref r)) (fun it s₂ => LoopAtV prog w A h₀ env x body Q E it s₂) E s := by
  have N0 : News h₀ env.locals s.heap (led σ0) := News.sub N hl
  have hsmall : Builtin.Range.small 0 k 1 = true := small_one (by decide) (by decide) (by omega) (by omega)
  have hn : Builtin.Range.rangeSize 0 k 1 = (k.toNat : Int) := by rw [rangeSize_nat]; simp
  refine wpAny_pyIter_range hr hsmall ?_
  have W : Walks prog w A s.heap.objs.size [s.heap.objs.size] [s.heap.objs.size] k.toNat (fun i v => i < k.toNat ∧ ∃ t, v = .int (0 + i * 1) t)
      (fun i h => IsRangeIter h s.heap.objs.size (0 + (i : Nat) * 1) ((k.toNat : Int) - (i : Nat)) 1) := (Walks.range hh _ 0 1 k.toNat).bound
  have hnew := next_is_new F
  have ltg : ∀ σ, ∀ p ∈ led σ, @LT.lt Nat _ p.1 s.heap.objs.size := fun σ p hp => let ⟨o, ho⟩ := addrs σ p hp; Heap.lt_size (N0 _ ho).1
  let J : Nat → (Str → Option Value) → List (Addr × Obj) → Prop := fun i m nx => ∃ σ, ok i σ ∧ nx = led σ ∧ ∀ z, z ≠ x → m z = m₀ z
  refine ⟨_, _, _, k.toNat, _, _, m₀, led σ0, J, rfl, W, ?_, ?_, ?_, (by show IsRangeIter _ _ _ _ _; rw [hn]; simpa using Heap.get?_push_size _ rfl), F.push _, (fun p hp => ⟨Heap.get?_push_of_some _ (N0 p hp).1, (N0 p hp).2⟩), ⟨σ0, h0, rfl, fun _ _ => rfl⟩, ?_, ?_⟩
  · intro hm
    exact absurd F.ns.lt ((List.mem_singleton.mp hm) ▸ Nat.lt_irrefl _)
  · intro b hb
    rw [List.mem_singleton.mp hb]
    exact hnew
  · intro p hp hI
    exact absurd (Heap.lt_size (N0 p hp).1) ((List.mem_singleton.mp hI) ▸ Nat.lt_irrefl _)
  · rintro i v m₁ nx s₁ own ⟨hh', tk', rfl⟩ hin ⟨hi, t, rfl⟩ ⟨σ, hok, rfl, hm⟩ hoff hown hget hall hst F₁ N₁
    obtain ⟨oI, hoI⟩ : ∃ o, hh'.get? s.heap.objs.size = some o := ⟨_, hst⟩
    have mI : (s.heap.objs.size, oI) ∈ own := hall _ (List.mem_singleton.mpr rfl) hnew oI hoI
    have ownIn : ∀ p ∈ own, p = (s.heap.objs.size, oI) := fun p hp => by
      obtain ⟨a, o⟩ := p
      have e1 : a = s.heap.objs.size := List.mem_singleton.mp (hown _ hp)
      subst e1
      have e2 : oI = o := Option.some.inj (hoI.symm.trans (hget _ hp))
      rw [e2]
    have eF : (fun y => if y = x then some (Value.int (0 + (i : Int) * 1) t) else m₁ y) = fun y => if y = x then some (Value.int (0 + (i : Int) * 1) t) else m₀ y := by
      funext y
      by_cases h1 : y = x
      · simp [h1]
      · simp only [if_neg h1]; exact hm y h1
    rw [eF] at F₁
    have N₂ : News h₀ env.locals hh' ((s.heap.objs.size, oI) :: led σ) := fun p hp => N₁ p (by
      rcases List.mem_cons.mp hp with rfl | hp
      · exact List.mem_append.mpr (.inl mI)
      · exact List.mem_append.mpr (.inr hp))
    refine wpAny_mono (turn i σ _ t _ oI hh' tk' (by omega) hok F₁ N₂ (ltg σ)) (fun f s₂ q => ?_) fun _ _ e => e
    obtain ⟨rfl, h', tk, m', σ', e, F', hm', N', hok'⟩ := q
    refine .next ⟨rfl, h', tk, m', led σ', e, F', fun p hp => ?_, fun p hp hq => ?_, ⟨σ', hok', rfl, hm'⟩⟩
    · rcases List.mem_append.mp hp with hp | hp
      · exact (ownIn p hp) ▸ N' _ (.head _)
      · exact N' _ (.tail _ hp)
    · have e1 : p.1 = s.heap.objs.size := List.mem_singleton.mp hq
      exact absurd (ltg σ' p hp) (e1 ▸ Nat.lt_irrefl _)
  · rintro h' tk m' nx F' N' _ ⟨σ, hok, rfl, hm⟩
    refine done σ h' tk m' hok ?_ N'
    rw [name_here hm]; exact F'
/-- `for x in <a list of the ledger>`: the loop by an invariant over states -/
theorem loop_GL {st : Type} {led : st → List (Addr × Obj)} {ok : Nat → st → Prop} (σ0 : st) {ax : Addr} {vs : List Value} {n : Nat} {m₀ : Str → Option Value} {l : List (Addr × Obj)}
    (hh : A.handled = none) (F : Fr h₀ env.locals s.heap m₀) (N : News h₀ env.locals s.heap l) (hl : ∀ p ∈ led σ0, p ∈ l) (hax : ∀ σ, (ax, listOf vs.toArray n) ∈ led σ) (h0 : ok 0 σ0) (addrs : ∀ σ, ∀ p ∈ led σ, ∃ o, (p.1, o) ∈ led σ0)
    (turn : ∀ i σ v I oI h tk, v ∈ vs → vs[i]? = some v → ok i σ → Fr h₀ env.locals h (fun y => if y = x then some v else m₀ y) → News h₀ env.locals h ((I, oI) :: led σ) → (∀ p ∈ led σ, @LT.lt Nat _ p.1 I) →
      wpAny (model prog w) A (execs body env) (TurnG h₀ env.locals m₀ x I oI led (ok (i + 1)) { s with heap := h, toks := tk }) E { s with heap := h, toks := tk })
    (done : ∀ σ h tk (u : Str → Option Value), ok vs.length σ → Fr h₀ env.locals h (fun y => if y = x then u y else m₀ y) → News h₀ env.locals h (led σ) → Q .next { s with heap := h, toks := tk }) :
    wpAny (model prog w) A (pyIter (.ref ax)) (fun it s₂ => LoopAtV prog w A h₀ env x body Q E it s₂) E s := by
  have N0 : News h₀ env.locals s.heap (led σ0) := News.sub N hl
  have hls : s.heap.IsList ax vs.toArray := PySem.IsL.isList (n := n) (N0 _ (hax σ0)).1
  have hlt : ax < s.heap.objs.size := Heap.lt_size (N0 _ (hax σ0)).1
  have hne : ax ≠ s.heap.objs.size := Nat.ne_of_lt hlt
  refine wpAny_pyIter_list hls ?_
  have W := Walks.list (prog := prog) (w := w) hh s.heap.objs.size ax hne vs.toArray
  have hsz : vs.toArray.size = vs.length := by simp
  rw [hsz] at W
  have hnew := next_is_new F
  have ltg : ∀ σ, ∀ p ∈ led σ, @LT.lt Nat _ p.1 s.heap.objs.size := fun σ p hp => let ⟨o, ho⟩ := addrs σ p hp; Heap.lt_size (N0 _ ho).1
  let J : Nat → (Str → Option Value) → List (Addr × Obj) → Prop := fun i m nx => ∃ σ, ok i σ ∧ nx = led σ ∧ ∀ z, z ≠ x → m z = m₀ z
  refine ⟨_, _, _, vs.length, _, _, m₀, led σ0, J, rfl, W, ?_, ?_, ?_, ⟨⟨_, Heap.get?_push_size _ rfl, rfl, rfl⟩, hls.at fun o e => Heap.get?_push_of_some _ e⟩, F.push _, (fun p hp => ⟨Heap.get?_push_of_some _ (N0 p hp).1, (N0 p hp).2⟩), ⟨σ0, h0, rfl, fun _ _ => rfl⟩, ?_, ?_⟩
  · intro hm
    rcases List.mem_cons.mp hm with e | hm
    · exact absurd F.ns.lt (e ▸ Nat.lt_irrefl _)
    · exact absurd (List.mem_singleton.mp hm).symm (N0 _ (hax σ0)).2.1
  · intro b hb
    rw [List.mem_singleton.mp hb]
    exact hnew
  · intro p hp hI
    exact absurd (Heap.lt_size (N0 p hp).1) ((List.mem_singleton.mp hI) ▸ Nat.lt_irrefl _)
  · rintro i v m₁ nx s₁ own ⟨hh', tk', rfl⟩ hin hP ⟨σ, hok, rfl, hm⟩ hoff hown hget hall hst F₁ N₁
    have hvi : vs[i]? = some v := by
      have hP' : vs.toArray[i]? = some v := hP
      simpa using hP'
    obtain ⟨oI, hoI⟩ : ∃ o, hh'.get? s.heap.objs.size = some o := by
      obtain ⟨⟨o, e, _⟩, _⟩ := hst
      exact ⟨o, e⟩
    have mI : (s.heap.objs.size, oI) ∈ own := hall _ (.head _) hnew oI hoI
    have eF : (fun y => if y = x then some v else m₁ y) = fun y => if y = x then some v else m₀ y := by
      funext y
      by_cases h1 : y = x
      · simp [h1]
      · simp only [if_neg h1]; exact hm y h1
    rw [eF] at F₁
    have N₂ : News h₀ env.locals hh' ((s.heap.objs.size, oI) :: led σ) := fun p hp => N₁ p (by
      rcases List.mem_cons.mp hp with rfl | hp
      · exact List.mem_append.mpr (.inl mI)
      · exact List.mem_append.mpr (.inr hp))
    have ownIn : ∀ p ∈ own, p = (s.heap.objs.size, oI) ∨ p = (ax, listOf vs.toArray n) := fun p hp => by
      obtain ⟨a, o⟩ := p
      rcases List.mem_cons.mp (hown _ hp) with e | e
      · have e1 : a = s.heap.objs.size := e
        subst e1
        have e2 : oI = o := Option.some.inj (hoI.symm.trans (hget _ hp))
        exact .inl (by rw [e2])
      · have e1 : a = ax := List.mem_singleton.mp e
        subst e1
        have e2 : listOf vs.toArray n = o := Option.some.inj ((N₁ _ (List.mem_append.mpr (.inr (hax σ)))).1.symm.trans (hget _ hp))
        exact .inr (by rw [e2])
    refine wpAny_mono (turn i σ v _ oI hh' tk' (List.mem_of_getElem? hvi) hvi hok F₁ N₂ (ltg σ)) (fun f s₂ q => ?_) fun _ _ e => e
    obtain ⟨rfl, h', tk, m', σ', e, F', hm', N', hok'⟩ := q
    refine .next ⟨rfl, h', tk, m', led σ', e, F', fun p hp => ?_, fun p hp hq => ?_, ⟨σ', hok', rfl, hm'⟩⟩
    · rcases List.mem_append.mp hp with hp | hp
      · rcases ownIn p hp with e | e
        · exact e ▸ N' _ (.head _)
        · exact e ▸ N' _ (.tail _ (hax σ'))
      · exact N' _ (.tail _ hp)
    · have e1 : p.1 = s.heap.objs.size := List.mem_singleton.mp hq
      exact absurd (ltg σ' p hp) (e1 ▸ Nat.lt_irrefl _)
  · rintro h' tk m' nx F' N' _ ⟨σ, hok, rfl, hm⟩
    refine done σ h' tk m' hok ?_ N'
    rw [name_here hm]; exact F'
end
def TurnH {st : Type} (h₀ : Heap) (L : Addr) (m₀ : Str → Option Value) (x : Str) (I : Addr) (oI : Obj) (led : st → List (Addr × Obj)) (ok : st → Prop) (s₁ : Shared) (f : Flow) (s₂ : Shared) : Prop :=
  f = .next ∧ ∃ h' tk' m' σ, s₂ = { s₁ with heap := h', toks := tk' } ∧ Fr h₀ L h' m' ∧ (∀ z, z ≠ x → m' z = m₀ z) ∧ News h₀ L h' ((I, oI) :: led σ) ∧ (∀ p ∈ led σ, @Ne Nat p.1 I) ∧ ok σ
theorem TurnH.intro {st : Type} {h₀ : Heap} {L : Addr} {m₀ m' : Str → Option Value} {x : Str} {I : Addr} {oI : Obj} {led : st → List (Addr × Obj)} {ok : st → Prop} {s₁ : Shared} {h' : Heap} {tk' : Nat} {l : List (Addr × Obj)} (σ : st)
    (F : Fr h₀ L h' m') (hm : ∀ z, z ≠ x → m' z = m₀ z) (N : News h₀ L h' l) (hs : ∀ p ∈ (I, oI) :: led σ, p ∈ l) (hne : ∀ p ∈ led σ, @Ne Nat p.1 I) (hk : ok σ) : TurnH h₀ L m₀ x I oI led ok s₁ .next { s₁ with heap := h', toks := tk' } :=
  ⟨rfl, h', tk', m', σ, rfl, F, hm, News.sub N hs, hne, hk⟩
section
variable {prog : Program} {w : World} {A : Around} {E : Value → Shared → Prop} {s : Shared} {env : Env} {h₀ : Heap} {x : Str} {body : List Stmt} {Q : Flow → Shared → Prop}
/-- `for x in range(k)`, where a turn may leave new objects behind -/
theorem loop_H {st : Type} {led : st → List (Addr × Obj)} {ok : st → Prop} (σ0 : st) {r : Addr} {k : Int} {t₀ u₀ v₀ : Tok} {m₀ : Str → Option Value} {l : List (Addr × Obj)}
    (hh : A.handled = none) (hr : IsRange s.heap r 0 k 1 t₀ u₀ v₀) (hk0 : 0 ≤ k) (hk1 : k < 1000) (F : Fr h₀ env.locals s.heap m₀) (N : News h₀ env.locals s.heap l) (hl : ∀ p ∈ led σ0, p ∈ l) (h0 : ok σ0)
    (turn : ∀ σ v t I oI h tk, ok σ → Fr h₀ env.locals h (fun y => if y = x then some (.int v t) else m₀ y) → News h₀ env.locals h ((I, oI) :: led σ) → (∀ p ∈ l, @LT.lt Nat _ p.1 I) → (∀ p ∈ led σ, @Ne Nat p.1 I) →
      wpAny (model prog w) A (execs body env) (TurnH h₀ env.locals m₀ x I oI led ok { s with heap := h, toks := tk }) E { s with heap := h, toks := tk })
    (done : ∀ σ h tk (u : Str → Option Value), ok σ → Fr h₀ env.locals h (fun y => if y = x then u y else m₀ y) → News h₀ env.locals h (led σ) → Q .next { s with heap := h, toks := tk }) :
    wpAny (model prog w) A (pyIter (.ref r)) (fun it s₂ => LoopAtV prog w A h₀ env x body Q E it s₂) E s := by
  have N0 : News h₀ env.locals s.heap (led σ0) := News.sub N hl
  have hsmall : Builtin.Range.small 0 k 1 = true := small_one (by decide) (by decide) (by omega) (by omega)
  have hn : Builtin.Range.rangeSize 0 k 1 = (k.toNat : Int) := by rw [rangeSize_nat]; simp
  refine wpAny_pyIter_range hr hsmall ?_
  have W : Walks prog w A s.heap.objs.size [s.heap.objs.size] [s.heap.objs.size] k.toNat (fun i v => i < k.toNat ∧ ∃ t, v = .int (0 + i * 1) t)
      (fun i h => IsRangeIter h s.heap.objs.size (0 + (i : Nat) * 1) ((k.toNat : Int) - (i : Nat)) 1) := (Walks.range hh _ 0 1 k.toNat).bound
  have hnew := next_is_new F
  have ltl : ∀ p ∈ l, @LT.lt Nat _ p.1 s.heap.objs.size := fun p hp => Heap.lt_size (N p hp).1
  let J : Nat → (Str → Option Value) → List (Addr × Obj) → Prop := fun _ m nx => ∃ σ, ok σ ∧ nx = led σ ∧ ∀ z, z ≠ x → m z = m₀ z
  refine ⟨_, _, _, k.toNat, _, _, m₀, led σ0, J, rfl, W, ?_, ?_, ?_, (by show IsRangeIter _ _ _ _ _; rw [hn]; simpa using Heap.get?_push_size _ rfl), F.push _, (fun p hp => ⟨Heap.get?_push_of_some _ (N0 p hp).1, (N0 p hp).2⟩), ⟨σ0, h0, rfl, fun _ _ => rfl⟩, ?_, ?_⟩
  · intro hm
    exact absurd F.ns.lt ((List.mem_singleton.mp hm) ▸ Nat.lt_irrefl _)
  · intro b hb
    rw [List.mem_singleton.mp hb]
    exact hnew
  · intro p hp hI
    exact absurd (Heap.lt_size (N0 p hp).1) ((List.mem_singleton.mp hI) ▸ Nat.lt_irrefl _)
  · rintro i v m₁ nx s₁ own ⟨hh', tk', rfl⟩ hin ⟨hi, t, rfl⟩ ⟨σ, hok, rfl, hm⟩ hoff hown hget hall hst F₁ N₁
    obtain ⟨oI, hoI⟩ : ∃ o, hh'.get? s.heap.objs.size = some o := ⟨_, hst⟩
    have mI : (s.heap.objs.size, oI) ∈ own := hall _ (List.mem_singleton.mpr rfl) hnew oI hoI
    have ownIn : ∀ p ∈ own, p = (s.heap.objs.size, oI) := fun p hp => by
      obtain ⟨a, o⟩ := p
      have e1 : a = s.heap.objs.size := List.mem_singleton.mp (hown _ hp)
      subst e1
      have e2 : oI = o := Option.some.inj (hoI.symm.trans (hget _ hp))
      rw [e2]
    have eF : (fun y => if y = x then some (Value.int (0 + (i : Int) * 1) t) else m₁ y) = fun y => if y = x then some (Value.int (0 + (i : Int) * 1) t) else m₀ y := by
      funext y
      by_cases h1 : y = x
      · simp [h1]
      · simp only [if_neg h1]; exact hm y h1
    rw [eF] at F₁
    have N₂ : News h₀ env.locals hh' ((s.heap.objs.size, oI) :: led σ) := fun p hp => N₁ p (by
      rcases List.mem_cons.mp hp with rfl | hp
      · exact List.mem_append.mpr (.inl mI)
      · exact List.mem_append.mpr (.inr hp))
    refine wpAny_mono (turn σ _ t _ oI hh' tk' hok F₁ N₂ ltl (fun p hp e => hoff p hp (List.mem_singleton.mpr e))) (fun f s₂ q => ?_) fun _ _ e => e
    obtain ⟨rfl, h', tk, m', σ', e, F', hm', N', hne', hok'⟩ := q
    refine .next ⟨rfl, h', tk, m', led σ', e, F', fun p hp => ?_, fun p hp hq => ?_, ⟨σ', hok', rfl, hm'⟩⟩
    · rcases List.mem_append.mp hp with hp | hp
      · exact (ownIn p hp) ▸ N' _ (.head _)
      · exact N' _ (.tail _ hp)
    · exact hne' p hp (List.mem_singleton.mp hq)
  · rintro h' tk m' nx F' N' _ ⟨σ, hok, rfl, hm⟩
    refine done σ h' tk m' hok ?_ N'
    rw [name_here hm]; exact F'
end
section
variable {prog : Program} {w : World} {A : Around} {h₀ : Heap} {L : Addr} {m : Str → Option Value} {env : Env} {s : Shared}
theorem CompEnd.mono {I C D : Addr} {s₁ : Shared} {oI oC oD : Obj} {S : List (Addr × Obj) → Prop} {rest rest' : Value → List (Addr × Obj) → Prop} {y : Value} {s₂ : Shared}
    (h : LCg.CompEnd h₀ L m s₁ I oI C oC D oD S rest y s₂) (k : ∀ l, rest y l → rest' y l) : LCg.CompEnd h₀ L m s₁ I oI C oC D oD S rest' y s₂ :=
  let ⟨h', tk, news', a, b, c, d, e, f⟩ := h
  ⟨h', tk, news', a, b, c, d, e, k _ f⟩
/-- a comprehension by an invariant -/
theorem comp_inv {elt : PySem.Expr} {x : Str} {scope : Scope} {cl : List (Str × Addr)} {S : List (Addr × Obj) → Prop} {P : Nat → Value → Prop} {Fin : List Value → List (Addr × Obj) → Prop} {n : Nat} (Inv : Nat → List Value → List (Addr × Obj) → Prop)
    (turn : ∀ i ys news v I oI C oC D m₂ h tk (E' : Value → Shared → Prop), i < n → Inv i ys news → P i v → LCg.NsObj oC m₂ → m₂ x = some v → Fr h₀ L h m → News h₀ L h ((I, oI) :: (C, oC) :: (D, LCg.lst ys) :: news) → LCg.Off3 I C D news → ((@Ne Nat I C) ∧ (@Ne Nat I D) ∧ (@Ne Nat C D)) →
      wpAny (model prog w) A (eval elt (compEnvC scope cl C env)) (LCg.CompEnd h₀ L m { s with heap := h, toks := tk } I oI C oC D (LCg.lst ys) S (fun y news' => Inv (i + 1) (ys ++ [y]) news')) E' { s with heap := h, toks := tk })
    (done : ∀ ys news, Inv n ys news → Fin ys news) : ∀ (j i : Nat) (ys : List Value) (news : List (Addr × Obj)), j + i = n → Inv i ys news → LCg.CompRest prog w A h₀ L m env elt x scope cl s S P Fin j i ys news
  | 0, i, ys, news, e, hi => LCg.CompRest.zero (done ys news ((show i = n by omega) ▸ hi))
  | j + 1, i, ys, news, e, hi => LCg.CompRest.succ fun v I oI C oC D m₂ h tk E' hP hC hx F N off ne =>
      wpAny_mono (turn i ys news v I oI C oC D m₂ h tk E' (by omega) hi hP hC hx F N off ne) (fun y s₂ q => CompEnd.mono q fun l hl => comp_inv Inv turn done j (i + 1) _ l (by omega) hl) fun _ _ e => e
end
end
section
theorem words_11 : True := by
  w_top off
  k_with_none
  k_with "kst_mem" => first
    | (first
      | with_reducible assumption
      | with_reducible exact List.mem_cons_self
      | (with_reducible refine List.mem_cons_of_mem _ ?_; kst_mem)
      | (with_reducible refine List.mem_append.mpr (Or.inl ?_); kst_mem)
      | (with_reducible refine List.mem_append.mpr (Or.inr ?_); kst_mem)
      | fail "kst_mem")
    | fail
  k_with "k_mem" => first
    | (kst_mem)
    | fail
  k_with "k_all" => first
    | (first
      | with_reducible assumption
      | exact List.forall_mem_nil _
      | (with_reducible refine' Mine.less_sub ?h_2 ?m_2; (case h_2 => with_reducible assumption); (case m_2 => (intro p9 h9; kst_mem)))
      | (with_reducible refine' Mine.less_sub1 ?h_2 ?m_2; (case h_2 => with_reducible assumption); (case m_2 => (intro p9 h9; kst_mem)))
      | (with_reducible refine' Mine.less_sub2 ?h_2 ?m_2; (case h_2 => with_reducible assumption); (case m_2 => (intro p9 h9; kst_mem)))
      | (with_reducible refine' Mine.less_sub3 ?h_2 ?m_2; (case h_2 => with_reducible assumption); (case m_2 => (intro p9 h9; kst_mem)))
      | (with_reducible refine' Mine.less_sub4 ?h_2 ?m_2; (case h_2 => with_reducible assumption); (case m_2 => (intro p9 h9; kst_mem)))
      | (with_reducible refine' Mine.less_sub5 ?h_2 ?m_2; (case h_2 => with_reducible assumption); (case m_2 => (intro p9 h9; kst_mem)))
      | (refine' List.forall_mem_cons.mpr ⟨?a_2, ?b_2⟩; (case a_2 => k_ne); (case b_2 => k_all))
      | exact Mine.allLt_ne (by with_reducible assumption)
      | exact Mine.fresh_ne (by with_reducible assumption) (by k_mem)
      | (refine' List.forall_mem_append.mpr ⟨?_, ?_⟩ <;> k_all))
    | fail
  k_with "kqd_sub" => first
    | (first
      | exact fun _ h => h
      | exact List.forall_mem_nil _
      | (refine' List.forall_mem_cons.mpr ⟨?kqa_3, ?kqb_3⟩; (case kqa_3 => k_mem); (case kqb_3 => kqd_sub))
      | (refine' List.forall_mem_append.mpr ⟨?_, ?_⟩ <;> kqd_sub)
      | (intro p9 h9; k_mem))
    | fail
  k_with "ktr_enter" => first
    | (refine' code_defC ?k1_4 ?k2_4 ?k3_4 ?k4_4 ?k5_4 ?kA_4 ?kF_4 ?kK_4 ?k6_4 ?k7_4 ?k8_4 ?k9_4 ?kB_4 ?kD_4 ?_ ?c2_4 ?c3_4 ?c4_4; (case kA_4 => exact rfl); (case kF_4 => exact rfl); (case kK_4 => assumption); (case k1_4 => k_asm); (case k2_4 => k_asm); (case k3_4 => k_asm); (case k4_4 => k_asm); (case k5_4 => k_asm); (case k6_4 => k_is); (case k7_4 => k_is); (case k8_4 => ktr_room); (case k9_4 => exact BindsTo.of_eq rfl); (case kB_4 => exact rfl); (case kD_4 => decide +kernel); (case c2_4 => exact rfl); (case c3_4 => exact rfl); (case c4_4 => exact rfl); k_whole; intro g' L' h' tk' cells' FG' F' N' Y' B' X' T' l1; (try k_lt l1); k_cells Y'; (try simp only [List.cons_append, List.nil_append] at N'); (try dsimp only); (try k_fold))
    | fail
  k_with "tb_start" => first
    | (first
      | with_reducible exact Mine.Apart.ne (by with_reducible assumption)
      | with_reducible exact Mine.Apart.en (by with_reducible assumption)
      | with_reducible exact Mine.succ_ne1
      | with_reducible exact Mine.succ_ne2
      | (with_reducible refine' Mine.less_ne ?h_5 ?m_5; (case h_5 => with_reducible assumption); (case m_5 => kst_mem))
      | (with_reducible refine' Mine.less_en ?h_5 ?m_5; (case h_5 => with_reducible assumption); (case m_5 => kst_mem))
      | (with_reducible refine' Mine.less_ne1 ?h_5 ?m_5; (case h_5 => with_reducible assumption); (case m_5 => kst_mem))
      | (with_reducible refine' Mine.less_en1 ?h_5 ?m_5; (case h_5 => with_reducible assumption); (case m_5 => kst_mem))
      | (with_reducible refine' Mine.less_ne2 ?h_5 ?m_5; (case h_5 => with_reducible assumption); (case m_5 => kst_mem))
      | (with_reducible refine' Mine.less_en2 ?h_5 ?m_5; (case h_5 => with_reducible assumption); (case m_5 => kst_mem))
      | (with_reducible refine' Mine.less_ne3 ?h_5 ?m_5; (case h_5 => with_reducible assumption); (case m_5 => kst_mem))
      | (with_reducible refine' Mine.less_en3 ?h_5 ?m_5; (case h_5 => with_reducible assumption); (case m_5 => kst_mem))
      | (with_reducible refine' Mine.less_ne4 ?h_5 ?m_5; (case h_5 => with_reducible assumption); (case m_5 => kst_mem))
      | (with_reducible refine' Mine.less_en4 ?h_5 ?m_5; (case h_5 => with_reducible assumption); (case m_5 => kst_mem))
      | (with_reducible refine' Mine.less_ne5 ?h_5 ?m_5; (case h_5 => with_reducible assumption); (case m_5 => kst_mem))
      | (with_reducible refine' Mine.less_en5 ?h_5 ?m_5; (case h_5 => with_reducible assumption); (case m_5 => kst_mem))
      | (with_reducible refine' Mine.lt_ne2 ?k_5 ?h_5 ?m_5; (case k_5 => with_reducible assumption); (case h_5 => with_reducible assumption); (case m_5 => kst_mem))
      | (with_reducible refine' Mine.lt_en2 ?k_5 ?h_5 ?m_5; (case k_5 => with_reducible assumption); (case h_5 => with_reducible assumption); (case m_5 => kst_mem)))
    | fail
  k_with "k_ne" => first
    | (first | tb_start | ((try dsimp only); (refine neN ?_); first | tb_start | omega))
    | fail
  trivial
theorem UpdF.same {d : Addr} {o : Obj} {l : List (Addr × Obj)} {g : Obj → List (Addr × Obj)} (U : UpdF d o l g) : g o = l := by
  obtain ⟨pre, post, e, hg, _, _⟩ := U.split
  rw [hg, e]
theorem UpdF.addr {d : Addr} {o : Obj} {l : List (Addr × Obj)} {g : Obj → List (Addr × Obj)} (U : UpdF d o l g) : ∀ {o' : Obj} {p : Addr × Obj}, p ∈ g o' → ∃ q, (p.1, q) ∈ l := by
  obtain ⟨pre, post, e, hg, _, _⟩ := U.split
  intro o' p hp
  rw [hg] at hp
  rw [e]
  rcases List.mem_append.mp hp with h | h
  · exact ⟨p.2, List.mem_append.mpr (.inl h)⟩
  rcases List.mem_cons.mp h with h | h
  · exact ⟨o, by rw [h]; exact List.mem_append.mpr (.inr (.head _))⟩
  · exact ⟨p.2, List.mem_append.mpr (.inr (.tail _ h))⟩
theorem numsFrom_snoc (q : Rv) : ∀ (rs : List Rv) (n : Nat), numsFrom n (rs ++ [q]) = numsFrom n rs ++ [Rv.int ((n + rs.length + 1 : Nat) : Int)]
  | [], n => by simp [numsFrom]
  | r :: rs, n => by
    simp only [List.cons_append, numsFrom, numsFrom_snoc q rs (n + 1), List.length_cons]
    have e : n + 1 + rs.length + 1 = n + (rs.length + 1) + 1 := by omega
    rw [e]
theorem nums_snoc {ns : List Value} {n : Nat} {rs : List Rv} {q : Rv} {i : Int} {t : Tok} (h : RVs ns (numsFrom n rs)) (e : i = ((n + rs.length + 1 : Nat) : Int)) : RVs (ns ++ [Value.int i t]) (numsFrom n (rs ++ [q])) := by
  rw [numsFrom_snoc]
  exact h.append (.cons (RV.int' e) .nil)
theorem item_last {prog : Program} {w : World} {A : Around} {E : Value → Shared → Prop} {s : Shared} {h₀ : Heap} {L : Addr} {news : List (Addr × Obj)} {th : Addr} {os : List Value} {x : Value} {n : Nat} {value slice : PySem.Expr} {u : Tok} {Q : Value → Shared → Prop} (N : News h₀ L s.heap news) (hm : (th, listOf (os ++ [x]).toArray n) ∈ news) (hs : os.length < 1000)
    (h : Q x s)
    (hs : subscripted slice false (.ref th) (.int (-1) u) = operate [.ref th, .int (-1) u] (getItem (.ref th) (.int (-1) u)) := by with_unfolding_all rfl) :
    wpAny (model prog w) A (subscriptTail value slice (.ref th) (.int (-1) u)) Q E s := by
  have hl : s.heap.IsList th (os ++ [x]).toArray := PySem.IsL.isList (n := n) (N _ hm).1
  have hsz : (os ++ [x]).toArray.size = os.length + 1 := by simp
  refine tail_any hl.typeIs slot_list_getitem.lookup (wpAny_getItem_list_neg hl (by omega) (by rw [hsz]; omega) (by omega) (x := x) ?_ h) hs
  rw [hsz]
  have : ((-1 : Int) + ((os.length + 1 : Nat) : Int)).toNat = os.length := by omega
  rw [this]
  simp
def KFor (way k : Int) : Prop := 0 ≤ k ∧ k < 3 ∧ (way ≠ 6 → k = 0)
theorem own_nil {way k : Int} {os : List Value} (h5 : way = 5) (h6 : KFor way k) (hl : os.length = k.toNat) : os = [] := by
  have h0 : k = 0 := h6.2.2 (by omega)
  rw [h0] at hl
  exact List.eq_nil_of_length_eq_zero hl
theorem numsFrom_len : ∀ (rs : List Rv) (n : Nat), (numsFrom n rs).length = rs.length
  | [], _ => rfl
  | _ :: rs, n => by simp [numsFrom, numsFrom_len rs (n + 1)]
structure OwnS where
  os : List Value
  ns : List Value
  a : Int
  b : Int
  ta : Tok
  tb : Tok
  ka : Nat
  kn : Nat
  ko : Nat
def ownLed (n : Nat) (vs : List Value) (g4 : Obj → Obj → Obj → Obj → List (Addr × Obj)) (σ : OwnS) : List (Addr × Obj) :=
  g4 (srcObj σ.a σ.b σ.ta σ.tb n) (listOf (vs ++ σ.os).toArray σ.ka) (listOf σ.ns.toArray σ.kn) (listOf σ.os.toArray σ.ko)
def ownOk (nv : Nat) (i : Nat) (σ : OwnS) : Prop :=
  0 ≤ σ.a ∧ 0 ≤ σ.b ∧ σ.b < 2147483647 ∧ ∃ rs, RVs σ.os rs ∧ RVs σ.ns (numsFrom nv rs) ∧ σ.os.length = i
theorem turnO_end {h₀ : Heap} {L : Addr} {m₀ m' : Str → Option Value} {x : Str} {I : Addr} {oI : Obj} {n i : Nat} {vs : List Value} {g4 : Obj → Obj → Obj → Obj → List (Addr × Obj)} {s₁ : Shared} {h' : Heap} {tk' : Nat} {l : List (Addr × Obj)}
    {os ns : List Value} {a b : Int} {ta tb : Tok} {ka kn ko : Nat} {rs : List Rv}
    (F : Fr h₀ L h' m') (hm : ∀ z, z ≠ x → m' z = m₀ z) (N : News h₀ L h' l) (hs : ∀ p ∈ (I, oI) :: g4 (srcObj a b ta tb n) (listOf (vs ++ os).toArray ka) (listOf ns.toArray kn) (listOf os.toArray ko), p ∈ l)
    (ha : 0 ≤ a) (hb : 0 ≤ b) (hb2 : b < 2147483647) (h1 : RVs os rs) (h2 : RVs ns (numsFrom vs.length rs)) (hi : os.length = i) : TurnG h₀ L m₀ x I oI (ownLed n vs g4) (ownOk vs.length i) s₁ .next { s₁ with heap := h', toks := tk' } :=
  TurnG.intro ⟨os, ns, a, b, ta, tb, ka, kn, ko⟩ F hm N hs ⟨ha, hb, hb2, rs, h1, h2, hi⟩
section
variable {prog : Program} {w : World} {A : Around} {E : Value → Shared → Prop} {s : Shared} {env : Env} {h₀ : Heap} {x : Str} {body : List Stmt} {Q : Flow → Shared → Prop}
theorem loop_O {src ask nu ow reg : Addr} {vs : List Value} {a b : Int} {ta tb : Tok} {n nk kn ko : Nat} {r : Addr} {k way : Int} {t₀ u₀ v₀ : Tok} {m₀ : Str → Option Value} {l : List (Addr × Obj)} {g1 : Obj → List (Addr × Obj)} {g2 : Obj → Obj → List (Addr × Obj)} {g3 : Obj → Obj → Obj → List (Addr × Obj)} {g4 : Obj → Obj → Obj → Obj → List (Addr × Obj)}
    (hh : A.handled = none) (hr : IsRange s.heap r 0 k 1 t₀ u₀ v₀) (hkf : KFor way k) (_p1 : Apart reg src) (_p2 : Apart src ask) (F : Fr h₀ env.locals s.heap m₀) (_hnu : m₀ (Str.ofString "numbers") = some (.ref nu)) (_how : m₀ (Str.ofString "own") = some (.ref ow)) (N : News h₀ env.locals s.heap l) (U1 : UpdF src (srcObj a b ta tb n) l g1) (U2 : ∀ o, UpdF ask (listOf vs.toArray nk) (g1 o) (g2 o)) (U3 : ∀ o o2, UpdF nu (listOf [].toArray kn) (g2 o o2) (g3 o o2)) (U4 : ∀ o o2 o3, UpdF ow (listOf [].toArray ko) (g3 o o2 o3) (g4 o o2 o3))
    (ha : 0 ≤ a) (hb : 0 ≤ b) (hb2 : b < 2147483647)
    (turn : ∀ os rs ns a b ta tb ka kn ko v t I oI h tk, ((os.length : Nat) : Int) < 2 → os.length = rs.length → ns.length = os.length → RVs os rs → RVs ns (numsFrom vs.length rs) → 0 ≤ a → 0 ≤ b → b < 2147483647 → Fr h₀ env.locals h (fun y => if y = x then some (.int v t) else m₀ y) → News h₀ env.locals h ((I, oI) :: g4 (srcObj a b ta tb n) (listOf (vs ++ os).toArray ka) (listOf ns.toArray kn) (listOf os.toArray ko)) → (∀ p ∈ g4 (srcObj a b ta tb n) (listOf (vs ++ os).toArray ka) (listOf ns.toArray kn) (listOf os.toArray ko), @LT.lt Nat _ p.1 I) →
      wpAny (model prog w) A (execs body env) (TurnG h₀ env.locals m₀ x I oI (ownLed n vs g4) (ownOk vs.length (os.length + 1)) { s with heap := h, toks := tk }) E { s with heap := h, toks := tk })
    (done : ∀ os rs ns a b ta tb ka kn ko h tk (u : Str → Option Value) vs2, vs2 = vs ++ os → vs2.length = vs.length + os.length → os.length = k.toNat → os.length = rs.length → ns.length = os.length → os.length ≤ 2 → RVs os rs → RVs ns (numsFrom vs.length rs) → 0 ≤ a → 0 ≤ b → b < 2147483647 → Fr h₀ env.locals h (fun y => if y = x then u y else m₀ y) → News h₀ env.locals h (g4 (srcObj a b ta tb n) (listOf vs2.toArray ka) (listOf ns.toArray kn) (listOf os.toArray ko)) → Q .next { s with heap := h, toks := tk }) :
    wpAny (model prog w) A (pyIter (.ref r)) (fun it s₂ => LoopAtV prog w A h₀ env x body Q E it s₂) E s := by
  have hk0 : 0 ≤ k := hkf.1
  have hk1 : k < 3 := hkf.2.1
  have e0 : ownLed n vs g4 ⟨[], [], a, b, ta, tb, nk, kn, ko⟩ = l := by
    show g4 (srcObj a b ta tb n) (listOf (vs ++ []).toArray nk) (listOf [].toArray kn) (listOf [].toArray ko) = l
    rw [List.append_nil, UpdF.same (U4 _ _ _), UpdF.same (U3 _ _), UpdF.same (U2 _), UpdF.same U1]
  refine loop_G (led := ownLed n vs g4) (ok := fun i σ => ownOk vs.length i σ) ⟨[], [], a, b, ta, tb, nk, kn, ko⟩ hh hr hk0 (by omega) F N (by rw [e0]; exact fun _ h => h) ⟨ha, hb, hb2, [], .nil, .nil, rfl⟩ (fun σ p hp => ?_) ?_ ?_
  · rw [e0]
    obtain ⟨q, hq⟩ := UpdF.addr (U4 _ _ _) hp
    obtain ⟨q, hq⟩ := UpdF.addr (U3 _ _) hq
    obtain ⟨q, hq⟩ := UpdF.addr (U2 _) hq
    exact UpdF.addr (p := (p.1, q)) U1 hq
  · rintro i ⟨os, ns, a, b, ta, tb, ka, kn, ko⟩ v t I oI h tk hi ⟨x1, x2, x3, rs, r1, r2, hl⟩ F' N' lt
    have hl : os.length = i := hl
    subst hl
    exact turn os rs ns a b ta tb ka kn ko v t I oI h tk (by omega) r1.length (by rw [r2.length, numsFrom_len, r1.length]) r1 r2 x1 x2 x3 F' N' lt
  · rintro ⟨os, ns, a, b, ta, tb, ka, kn, ko⟩ h tk u ⟨x1, x2, x3, rs, r1, r2, hl⟩ F' N'
    have hl : os.length = k.toNat := hl
    exact done os rs ns a b ta tb ka kn ko h tk u _ rfl List.length_append hl r1.length (by rw [r2.length, numsFrom_len, r1.length]) (by omega) r1 r2 x1 x2 x3 F' N'
def IfPost (h₀ : Heap) (L : Addr) (m : Str → Option Value) (g : Obj → List (Addr × Obj)) (n : Nat) (way : Int) (s : Shared) (v : Value) (s' : Shared) : Prop :=
  ∃ k a' b' t ta' tb' h' tk', v = .int k t ∧ s' = { s with heap := h', toks := tk' } ∧ Fr h₀ L h' m ∧ News h₀ L h' (g (srcObj a' b' ta' tb' n)) ∧ KFor way k ∧ 0 ≤ a' ∧ 0 ≤ b' ∧ b' < 2147483647
theorem ifPost_end {L : Addr} {m : Str → Option Value} {g : Obj → List (Addr × Obj)} {n : Nat} {way k a b : Int} {t ta tb : Tok} {h' : Heap} {tk' : Nat} (F : Fr h₀ L h' m) (N : News h₀ L h' (g (srcObj a b ta tb n))) (hk : KFor way k) (ha : 0 ≤ a) (hb : 0 ≤ b) (hb2 : b < 2147483647) :
    IfPost h₀ L m g n way s (.int k t) { s with heap := h', toks := tk' } := ⟨k, a, b, t, ta, tb, h', tk', rfl, rfl, F, N, hk, ha, hb, hb2⟩
theorem ifexp_take {A : Around} {env : Env} {test e1 e2 : PySem.Expr} {pos : Pos} {L : Addr} {m : Str → Option Value} {l : List (Addr × Obj)} {g : Obj → List (Addr × Obj)} {src reg : Addr} {a b way : Int} {ta tb : Tok} {n : Nat} {Q : Value → Shared → Prop}
    (_p1 : Apart reg src) (_F : Fr h₀ L s.heap m) (_N : News h₀ L s.heap l) (_U : UpdF src (srcObj a b ta tb n) l g) (_hw : way ≠ 4)
    (walk : wpAny (model prog w) A (isTrue test env (eval test env)) (fun b s₁ => if b then wpAny (model prog w) A (eval e1 env) (IfPost h₀ L m g n way s) E s₁ else wpAny (model prog w) A (eval e2 env) (IfPost h₀ L m g n way s) E s₁) E s)
    (cont : ∀ k a' b' t ta' tb' h' tk', Fr h₀ L h' m → News h₀ L h' (g (srcObj a' b' ta' tb' n)) → KFor way k → 0 ≤ a' → 0 ≤ b' → b' < 2147483647 → Q (.int k t) { s with heap := h', toks := tk' }) :
    wpAny (model prog w) A (eval (.IfExp test e1 e2 pos) env) Q E s := by
  have key : ∀ v s', IfPost h₀ L m g n way s v s' → Q v s' := by
    rintro v s' ⟨k, a', b', t, ta', tb', h', tk', rfl, rfl, x1, x2, x3, x4, x5, x6⟩
    exact cont k a' b' t ta' tb' h' tk' x1 x2 x3 x4 x5 x6
  refine wpAny_IfExp (wpAny_mono walk (fun b s₁ h => ?_) fun _ _ e => e)
  cases b
  · exact wpAny_mono h key fun _ _ e => e
  · exact wpAny_mono h key fun _ _ e => e
end
theorem toArr_list (vs : List Value) : vs.toArray.toList = vs := rfl
theorem with_nil {way k : Int} {os : List Value} {P : Prop} (h5 : way = 5) (h6 : KFor way k) (hl : os.length = k.toNat) (p : os = [] → P) : P := p (own_nil h5 h6 hl)
end
section
theorem words_12 : True := by
  w_top off
  k_with_none
  k_with "kst_mem" => first
    | (first
      | with_reducible assumption
      | with_reducible exact List.mem_cons_self
      | (with_reducible refine List.mem_cons_of_mem _ ?_; kst_mem)
      | (with_reducible refine List.mem_append.mpr (Or.inl ?_); kst_mem)
      | (with_reducible refine List.mem_append.mpr (Or.inr ?_); kst_mem)
      | fail "kst_mem")
    | fail
  k_with "k_mem" => first
    | (kst_mem)
    | fail
  k_with "k_all" => first
    | (first
      | with_reducible assumption
      | exact List.forall_mem_nil _
      | (with_reducible refine' Mine.less_sub ?h_2 ?m_2; (case h_2 => with_reducible assumption); (case m_2 => (intro p9 h9; kst_mem)))
      | (with_reducible refine' Mine.less_sub1 ?h_2 ?m_2; (case h_2 => with_reducible assumption); (case m_2 => (intro p9 h9; kst_mem)))
      | (with_reducible refine' Mine.less_sub2 ?h_2 ?m_2; (case h_2 => with_reducible assumption); (case m_2 => (intro p9 h9; kst_mem)))
      | (with_reducible refine' Mine.less_sub3 ?h_2 ?m_2; (case h_2 => with_reducible assumption); (case m_2 => (intro p9 h9; kst_mem)))
      | (with_reducible refine' Mine.less_sub4 ?h_2 ?m_2; (case h_2 => with_reducible assumption); (case m_2 => (intro p9 h9; kst_mem)))
      | (with_reducible refine' Mine.less_sub5 ?h_2 ?m_2; (case h_2 => with_reducible assumption); (case m_2 => (intro p9 h9; kst_mem)))
      | (refine' List.forall_mem_cons.mpr ⟨?a_2, ?b_2⟩; (case a_2 => k_ne); (case b_2 => k_all))
      | exact Mine.allLt_ne (by with_reducible assumption)
      | exact Mine.fresh_ne (by with_reducible assumption) (by k_mem)
      | (refine' List.forall_mem_append.mpr ⟨?_, ?_⟩ <;> k_all))
    | fail
  k_with "kqd_sub" => first
    | (first
      | exact fun _ h => h
      | exact List.forall_mem_nil _
      | (refine' List.forall_mem_cons.mpr ⟨?kqa_3, ?kqb_3⟩; (case kqa_3 => k_mem); (case kqb_3 => kqd_sub))
      | (refine' List.forall_mem_append.mpr ⟨?_, ?_⟩ <;> kqd_sub)
      | (intro p9 h9; k_mem))
    | fail
  k_with "ktr_enter" => first
    | (refine' code_defC ?k1_4 ?k2_4 ?k3_4 ?k4_4 ?k5_4 ?kA_4 ?kF_4 ?kK_4 ?k6_4 ?k7_4 ?k8_4 ?k9_4 ?kB_4 ?kD_4 ?_ ?c2_4 ?c3_4 ?c4_4; (case kA_4 => exact rfl); (case kF_4 => exact rfl); (case kK_4 => assumption); (case k1_4 => k_asm); (case k2_4 => k_asm); (case k3_4 => k_asm); (case k4_4 => k_asm); (case k5_4 => k_asm); (case k6_4 => k_is); (case k7_4 => k_is); (case k8_4 => ktr_room); (case k9_4 => exact BindsTo.of_eq rfl); (case kB_4 => exact rfl); (case kD_4 => decide +kernel); (case c2_4 => exact rfl); (case c3_4 => exact rfl); (case c4_4 => exact rfl); k_whole; intro g' L' h' tk' cells' FG' F' N' Y' B' X' T' l1; (try k_lt l1); k_cells Y'; (try simp only [List.cons_append, List.nil_append] at N'); (try dsimp only); (try k_fold))
    | fail
  k_with "tb_start" => first
    | (first
      | with_reducible exact Mine.Apart.ne (by with_reducible assumption)
      | with_reducible exact Mine.Apart.en (by with_reducible assumption)
      | with_reducible exact Mine.succ_ne1
      | with_reducible exact Mine.succ_ne2
      | (with_reducible refine' Mine.less_ne ?h_5 ?m_5; (case h_5 => with_reducible assumption); (case m_5 => kst_mem))
      | (with_reducible refine' Mine.less_en ?h_5 ?m_5; (case h_5 => with_reducible assumption); (case m_5 => kst_mem))
      | (with_reducible refine' Mine.less_ne1 ?h_5 ?m_5; (case h_5 => with_reducible assumption); (case m_5 => kst_mem))
      | (with_reducible refine' Mine.less_en1 ?h_5 ?m_5; (case h_5 => with_reducible assumption); (case m_5 => kst_mem))
      | (with_reducible refine' Mine.less_ne2 ?h_5 ?m_5; (case h_5 => with_reducible assumption); (case m_5 => kst_mem))
      | (with_reducible refine' Mine.less_en2 ?h_5 ?m_5; (case h_5 => with_reducible assumption); (case m_5 => kst_mem))
      | (with_reducible refine' Mine.less_ne3 ?h_5 ?m_5; (case h_5 => with_reducible assumption); (case m_5 => kst_mem))
      | (with_reducible refine' Mine.less_en3 ?h_5 ?m_5; (case h_5 => with_reducible assumption); (case m_5 => kst_mem))
      | (with_reducible refine' Mine.less_ne4 ?h_5 ?m_5; (case h_5 => with_reducible assumption); (case m_5 => kst_mem))
      | (with_reducible refine' Mine.less_en4 ?h_5 ?m_5; (case h_5 => with_reducible assumption); (case m_5 => kst_mem))
      | (with_reducible refine' Mine.less_ne5 ?h_5 ?m_5; (case h_5 => with_reducible assumption); (case m_5 => kst_mem))
      | (with_reducible refine' Mine.less_en5 ?h_5 ?m_5; (case h_5 => with_reducible assumption); (case m_5 => kst_mem))
      | (with_reducible refine' Mine.lt_ne2 ?k_5 ?h_5 ?m_5; (case k_5 => with_reducible assumption); (case h_5 => with_reducible assumption); (case m_5 => kst_mem))
      | (with_reducible refine' Mine.lt_en2 ?k_5 ?h_5 ?m_5; (case k_5 => with_reducible assumption); (case h_5 => with_reducible assumption); (case m_5 => kst_mem)))
    | fail
  k_with "k_ne" => first
    | (first | tb_start | ((try dsimp only); (refine neN ?_); first | tb_start | omega))
    | fail
  k_with "m call ref" => first
    | (k_here; (with_reducible show wpAny _ _ (call (Value.ref 87) _) _ _ _); k_dflt (refine' Mine.take_use ?k1_7 ?k2_7 ?k3_7 ?k4_7 ?k5_7 ?k6_7 ?k7_7 ?k8_7 ?k9_7 ?k10_7 ?k11_7 ?k12_7 ?k13_7 ?k14_7 ?_; (case k1_7 => k_asm); (case k2_7 => k_asm); (case k3_7 => k_asm); (case k4_7 => k_asm); (case k5_7 => k_asm); (case k6_7 => first | exact rfl | assumption); (case k7_7 => k_updF); (case k8_7 => assumption); (case k9_7 => assumption); (case k10_7 => assumption); (case k11_7 => omega); (case k12_7 => omega); (case k13_7 => ktr_room); (case k14_7 => ktr_units); k_whole); intro k9 a9 b9 t9 ta9 tb9 h9 tk9 F9 N9 x19 x29 x39 x49 x59; (try dsimp only at N9); (try k_sweep); (try k_fold))
    | fail
  k_with "m call ref" => first
    | (k_here; (with_reducible show wpAny _ _ (call (Value.ref 94) _) _ _ _); k_dflt (refine' Mine.one_use ?k1_10 ?k2_10 ?k3_10 ?k4_10 ?k5_10 ?k6_10 ?k7_10 ?kth_10 ?kne_10 ?kv0_10 ?kv1_10 ?k8_10 ?k9_10 ?k10_10 ?k13_10 ?k14_10 ?_; (case k1_10 => k_asm); (case k2_10 => k_asm); (case k3_10 => k_asm); (case k4_10 => k_asm); (case k5_10 => k_asm); (case k6_10 => first | exact rfl | assumption); (case k7_10 => k_updF); (case kth_10 => k_mem); (case kne_10 => first | assumption | k_ne); (case kv0_10 => first | assumption | (simp only [List.length_cons, List.length_nil]; omega)); (case kv1_10 => first | assumption | (simp only [List.length_cons, List.length_nil]; omega)); (case k8_10 => assumption); (case k9_10 => assumption); (case k10_10 => assumption); (case k13_10 => ktr_room); (case k14_10 => ktr_units); k_whole); intro r9 k9 a9 b9 ta9 tb9 h9 tk9 F9 N9 hv9 hg9 x39 x49 x59; (try dsimp only at N9); (try k_sweep); (try k_fold))
    | fail
  k_with "ktn_lt" => first
    | (first
      | (refine' Mine.Fresh3.of ?f_11 ?a_11 ?b_11 ?c_11; (case f_11 => assumption); (case a_11 => k_mem); (case b_11 => k_mem); (case c_11 => (intro p9 h9; k_mem)))
      | (refine' Mine.Fresh3.app ?_ ?_ <;> ktn_lt))
    | fail
  k_with "ktn_ord" => first
    | (first
      | exact Mine.Rest.nil
      | (refine' Mine.Rest.app _ ?z_12; (case z_12 => ktn_lt))
      | (refine' Mine.Rest.keep ?z_12 ?a_12 ?b_12 ?c_12; (case a_12 => first | (with_reducible refine' Mine.less_allLt ?h_12 ?m_12; (case h_12 => with_reducible assumption); (case m_12 => (intro p9 h9; kst_mem))) | assumption | exact Mine.allLt_left (by assumption)); (case b_12 => first | (with_reducible refine' Mine.less_lt ?h_12 ?m_12; (case h_12 => with_reducible assumption); (case m_12 => kst_mem)) | ((try dsimp only); omega)); (case c_12 => first | (with_reducible refine' Mine.less_lt ?h_12 ?m_12; (case h_12 => with_reducible assumption); (case m_12 => kst_mem)) | ((try dsimp only); omega)); (case z_12 => ktn_ord))
      | (refine' Mine.Rest.drop ?z_12; (case z_12 => ktn_ord)))
    | fail
  k_with "m call ref" => first
    | (k_here; (with_reducible show wpAny _ _ (call (Value.ref 94) _) _ _ _); k_dflt (refine' Mine.oneR_use ?k1_13 ?k2_13 ?k3_13 ?k4_13 ?k5_13 ?k6_13 ?k7_13 ?kth_13 ?kne_13 ?krv_13 ?kv0_13 ?kv1_13 ?k8_13 ?k9_13 ?k10_13 ?k13_13 ?k14_13 ?_; (case k1_13 => k_asm); (case k2_13 => k_asm); (case k3_13 => k_asm); (case k4_13 => k_asm); (case k5_13 => k_asm); (case k6_13 => first | exact rfl | assumption); (case k7_13 => k_updF); (case kth_13 => k_mem); (case kne_13 => first | with_reducible exact Mine.Apart.ne (by with_reducible assumption) | with_reducible assumption | k_ne); (case krv_13 => with_reducible assumption); (case kv0_13 => assumption); (case kv1_13 => assumption); (case k8_13 => assumption); (case k9_13 => assumption); (case k10_13 => assumption); (case k13_13 => ktr_room); (case k14_13 => ktr_units); k_whole); intro r9 q9 a9 b9 ta9 tb9 h9 tk9 hq9 F9 N9 x39 x49 x59; (try dsimp only at N9); (try k_sweep); (try k_fold))
    | fail
  k_with "ktn_open" => first
    | (first
      | (refine' Mine.trIn_due ?h_14 ?e_14 ?s_14; (case h_14 => with_reducible assumption); (case e_14 => first | with_reducible rfl | ((simp only [List.length_append, List.length_cons, List.length_nil, Nat.zero_add]); done) | ((simp only [List.length_append, List.length_cons, List.length_nil, Nat.zero_add]); omega) | omega); (case s_14 => kqd_sub))
      | (refine' Mine.TrIn.mono ?s_14 ?h_14; (case h_14 => with_reducible assumption); (case s_14 => kqd_sub))
      | (with_reducible refine' Mine.TrIn.b ?a0_14; (case a0_14 => kst_mem))
      | (with_reducible refine' Mine.TrIn.i ?a0_14; (case a0_14 => kst_mem))
      | (with_reducible refine' Mine.TrIn.p ?a0_14; (case a0_14 => kst_mem))
      | (with_reducible refine' Mine.TrIn.nv ?a0_14; (case a0_14 => kst_mem))
      | (with_reducible refine' Mine.TrIn.inf ?a0_14; (case a0_14 => kst_mem))
      | (with_reducible refine' Mine.TrIn.ref ?a0_14 ?a1_14 ?a2_14; (case a0_14 => kst_mem); (case a1_14 => ked_reads); (case a2_14 => ktn_open))
      | (with_reducible refine' Mine.TrIn.box ?a0_14 ?a1_14; (case a0_14 => kst_mem); (case a1_14 => ktn_open))
      | (with_reducible refine' Mine.TrIn.arr ?a0_14 ?a1_14; (case a0_14 => kst_mem); (case a1_14 => ktn_open))
      | (with_reducible refine' Mine.TrIn.tup0 ?a0_14 ?a1_14; (case a0_14 => kst_mem); (case a1_14 => kst_mem))
      | (with_reducible refine' Mine.TrIn.tup1 ?a0_14 ?a1_14 ?a2_14; (case a0_14 => kst_mem); (case a1_14 => kst_mem); (case a2_14 => ktn_open))
      | (with_reducible refine' Mine.TrIn.tup2 ?a0_14 ?a1_14 ?_ ?_; (case a0_14 => kst_mem); (case a1_14 => kst_mem); all_goals ktn_open)
      | (with_reducible refine' Mine.TrIn.adt0 ?a0_14 ?a1_14 ?a2_14 ?a3_14 ?a4_14; (case a0_14 => kst_mem); (case a1_14 => kst_mem); (case a2_14 => ked_reads); (case a3_14 => exact Nat.le_of_ble_eq_true rfl); (case a4_14 => kst_mem))
      | (with_reducible refine' Mine.TrIn.adt1 ?a0_14 ?a1_14 ?a2_14 ?a3_14 ?a4_14 ?a5_14; (case a0_14 => kst_mem); (case a1_14 => kst_mem); (case a2_14 => ked_reads); (case a3_14 => exact Nat.le_of_ble_eq_true rfl); (case a4_14 => kst_mem); (case a5_14 => ktn_open))
      | (with_reducible refine' Mine.TrIn.adt2 ?a0_14 ?a1_14 ?a2_14 ?a3_14 ?a4_14 ?_ ?_; (case a0_14 => kst_mem); (case a1_14 => kst_mem); (case a2_14 => ked_reads); (case a3_14 => exact Nat.le_of_ble_eq_true rfl); (case a4_14 => kst_mem); all_goals ktn_open))
    | fail
  k_with "ked_reads" => first
    | (first
      | with_reducible exact Mine.RV.none
      | (with_reducible refine' Mine.RV.str _ _ ?e_15; (case e_15 => decide +kernel))
      | with_reducible exact Mine.RVs.nil
      | (with_reducible refine' Mine.RVs.cons ?ca_15 ?cb_15; (case ca_15 => ked_reads); (case cb_15 => ked_reads))
      | with_reducible assumption
      | (with_reducible refine' Mine.RVs.append ?pa_15 ?pb_15; (case pa_15 => ked_reads); (case pb_15 => ked_reads))
      | (with_reducible refine' Mine.RV.int' ?e_15; (case e_15 => first | with_reducible rfl | ((simp only [List.length_append, List.length_cons, List.length_nil, Nat.zero_add]); done) | ((simp only [List.length_append, List.length_cons, List.length_nil, Nat.zero_add]); omega) | omega)))
    | fail
  k_with "m call ref" => first
    | (k_here; (with_reducible show wpAny _ _ (call (Value.ref 99) _) _ _ _); k_dflt (refine' Mine.tw_use ?kC_16 ?k1_16 ?k2_16 ?k3_16 ?k4_16 ?k5_16 ?k6_16 ?k7_16 ?kU2_16 ?ksa_16 ?kth_16 ?kne_16 ?kne2_16 ?krv_16 ?kv0_16 ?kv1_16 ?k8_16 ?k9_16 ?k10_16 ?kvs_16 ?klen_16 ?kdv_16 ?k13_16 ?k14_16 ?_; (case kC_16 => with_reducible assumption); (case k1_16 => k_asm); (case k2_16 => k_asm); (case k3_16 => k_asm); (case k4_16 => k_asm); (case k5_16 => k_asm); (case k6_16 => first | exact rfl | assumption); (case k7_16 => k_updF); (case kU2_16 => intro o9; k_updF); (case ksa_16 => first | with_reducible exact Mine.Apart.ne (by with_reducible assumption) | with_reducible assumption | k_ne); (case kth_16 => k_mem); (case kne_16 => first | with_reducible exact Mine.Apart.ne (by with_reducible assumption) | with_reducible assumption | k_ne); (case kne2_16 => first | with_reducible exact Mine.Apart.ne (by with_reducible assumption) | with_reducible assumption | k_ne); (case krv_16 => first | with_reducible assumption | ked_reads); (case kv0_16 => first | assumption | exact Nat.le_of_ble_eq_true rfl); (case kv1_16 => first | assumption | exact Nat.le_of_ble_eq_true rfl); (case k8_16 => assumption); (case k9_16 => assumption); (case k10_16 => assumption); (case kvs_16 => ked_reads); (case klen_16 => first | decide | ((try simp only [List.length_append, List.length_cons, List.length_nil, Nat.pow_succ] at *); omega)); (case kdv_16 => omega); (case k13_16 => ktr_room); (case k14_16 => ktr_units); k_whole); intro p9 told9 due9 t9 a9 b9 ta9 tb9 tl9 xs9 nk9 np9 h9 tk9 F9 N9 x19 x29 x39 hp9 ht9 hd9 hx9 hvx9 hxl9 hh9 hl9 hf9; (try dsimp only at N9); (try simp only [List.cons_append, List.nil_append, List.append_assoc] at N9); (try simp only [List.append_assoc] at hvx9); (try k_sweep); (try k_fold))
    | fail
  k_with "tb_start" => first
    | (first
      | (with_reducible refine' Mine.off_I ?h_17 ?m_17; (case h_17 => with_reducible assumption); (case m_17 => kst_mem))
      | (with_reducible refine' Mine.off_C ?h_17 ?m_17; (case h_17 => with_reducible assumption); (case m_17 => kst_mem))
      | (with_reducible refine' Mine.off_D ?h_17 ?m_17; (case h_17 => with_reducible assumption); (case m_17 => kst_mem))
      | (with_reducible refine' Mine.of_I ?h_17 ?m_17; (case h_17 => with_reducible assumption); (case m_17 => kst_mem))
      | (with_reducible refine' Mine.of_C ?h_17 ?m_17; (case h_17 => with_reducible assumption); (case m_17 => kst_mem))
      | (with_reducible refine' Mine.of_D ?h_17 ?m_17; (case h_17 => with_reducible assumption); (case m_17 => kst_mem)))
    | fail
  k_with "m call builtin:list.append" => first
    | (k_here; (with_reducible show wpAny _ _ (call (Value.builtin _) [Value.ref _, _]) _ _ _); k_dflt (refine' Mine.append_L ?k1_18 ?k2_18 ?k3_18 ?z_18 ?_; (case k1_18 => k_asm); (case k2_18 => k_asm); (case k3_18 => k_updF); (case z_18 => ((try simp only [List.length_append, List.length_cons, List.length_nil]); omega)); k_whole); intro h' F' N'; (try dsimp only at N'); (try simp only [List.append_assoc, List.cons_append, List.nil_append] at N'); (try k_sweep))
    | fail
  k_with "m call builtin:len" => first
    | (k_here; (with_reducible show wpAny _ _ (call (Value.builtin "len") [Value.ref _]) _ _ _); k_dflt (refine' Mine.len_at ?k1_19 ?k2_19 ?k3_19 ?_; (case k1_19 => k_asm); (case k2_19 => kst_mem); (case k3_19 => ((try simp only [List.length_append, List.length_cons, List.length_nil]); omega)); k_whole))
    | fail
  k_with "lcg_off" => first
    | (first
      | assumption
      | (refine' Mine.off3_fresh ?f_20 ?a_20 ?b_20 ?c_20; (case f_20 => assumption); (case a_20 => kst_mem); (case b_20 => kst_mem); (case c_20 => kst_mem))
      | (refine' Mine.off3_app ?_ ?_ <;> lcg_off)
      | (refine' Mine.off3_sub ?a_20 ?b_20; (case a_20 => assumption); (case b_20 => (intro p9 h9; kst_mem))))
    | fail
  k_with "lcg_sub" => first
    | (first
      | (with_reducible refine' Mine.Out3.outI ?z_21; (case z_21 => lcg_sub))
      | (with_reducible refine' Mine.Out3.outC ?z_21; (case z_21 => lcg_sub))
      | (with_reducible refine' Mine.Out3.outD ?z_21; (case z_21 => lcg_sub))
      | (with_reducible refine' Mine.Out3.keep ?a_21 ?b_21 ?c_21 ?z_21; (case a_21 => k_ne); (case b_21 => k_ne); (case c_21 => k_ne); (case z_21 => lcg_sub))
      | (with_reducible refine' Mine.Out3.tail _ ?z_21; (case z_21 => lcg_off)))
    | fail
  k_with "m CompEnd" => first
    | (k_here; k_dflt (refine' Mine.comp_end ?F_22 ?N_22 ?m1_22 ?m2_22 ?m3_22 ?o_22 ?s_22 ?_; (case F_22 => k_asm); (case N_22 => k_asm); (case m1_22 => kst_mem); (case m2_22 => kst_mem); (case m3_22 => kst_mem); (case o_22 => lcg_sub); (case s_22 => lcg_src); k_whole))
    | fail
  k_with "m CompRest" => first
    | ((try simp only [List.nil_append, List.cons_append]); with_unfolding_all first
      | (refine LCg.CompRest.succ ?_; intro v' I' oI' C' oC' D' m' h' tk' E' hv' hC' hx' F' N' off' ne'; (first | lcg_open hv' | (obtain ⟨t9', hv9'⟩ := hv'; subst hv9')); have n19 : Mine.Apart _ _ := ne'.1; have n29 : Mine.Apart _ _ := ne'.2.1; have n39 : Mine.Apart _ _ := ne'.2.2; clear ne')
      | refine LCg.CompRest.zero ?_)
    | fail
  k_with "m eval ListComp" => first
    | (k_here; k_dflt (refine LCg.ListComp_U (F₀ := by k_asm) (by rfl) (by decide) (by rfl) (by decide) (by rfl) ?_))
    | fail
  k_with "m exec Assign cons ListComp" => first
    | (k_here; k_dflt (refine LCg.Assign_ListComp_U (F₀ := by k_asm) (by rfl) (by with_unfolding_all rfl) (by rfl) (by decide) (by rfl) (by decide) (by rfl) (by rfl) (by rfl) ?_))
    | fail
  k_with "m CompSrc" => first
    | (k_here; k_dflt (first
      | (refine LCg.CompSrc.ledger (by rfl) (by k_asm) (by k_asm) (by kst_mem) (by first | size_fits | exact Nat.le_of_ble_eq_true rfl) ?_; intro g'; lcg_lit)
      | (refine LCg.CompSrc.range (by rfl) (by k_asm) (by k_asm) (by assumption) (by first | decide | rfl) (by first | rfl | decide) (by first | size_fits | exact Nat.le_of_ble_eq_true rfl) ?_; intro g'; lcg_lit)))
    | fail
  k_with "k_subL" => first
    | (first
      | (with_reducible refine' Mine.Out1.out ?z_27; (case z_27 => k_subL))
      | (with_reducible refine' Mine.Out1.keep ?a_27 ?z_27; (case a_27 => k_ne); (case z_27 => k_subL))
      | (with_reducible refine' Mine.Out1.tail _ ?z_27; (case z_27 => k_all)))
    | fail
  k_with "m UnrEnd" => first
    | (k_here; k_dflt (refine' Mine.unr_end ?F_28 ?N_28 ?m1_28 ?o_28 ?_; (case F_28 => k_asm); (case N_28 => k_asm); (case m1_28 => kst_mem); (case o_28 => k_subL); k_whole))
    | fail
  k_with "m subscriptTail" => first
    | (k_here; (with_reducible show wpAny _ _ (subscriptTail _ _ (Value.ref _) (Value.int _ _)) _ _ _); k_dflt (refine' item_tupleT ?t_29 ?a_29 ?b_29 ?c_29 ?d_29 ?_; (case t_29 => refine' News.isTup ?N_29 ?m_29; (case N_29 => k_asm); (case m_29 => kst_mem)); (case a_29 => decide); (case b_29 => decide); (case c_29 => rfl); (case d_29 => rfl); k_whole))
    | fail
  k_with "m subscriptTail Name Constant ref int" => first
    | (k_here; (with_reducible show wpAny _ _ (subscriptTail _ _ (Value.ref _) (Value.int _ _)) _ _ _); k_dflt (refine' item_tupleT ?t_30 ?a_30 ?b_30 ?c_30 ?d_30 ?_; (case t_30 => refine' News.isTup ?N_30 ?m_30; (case N_30 => k_asm); (case m_30 => kst_mem)); (case a_30 => decide); (case b_30 => decide); (case c_30 => rfl); (case d_30 => rfl); k_whole))
    | fail
  trivial
def TupAt (ax : Addr) (its : Array Value) (news : List (Addr × Obj)) : Prop := ∃ o, (ax, o) ∈ news ∧ o.cls = .type "tuple" ∧ ∃ n, o.data = .seq its n
def SrcT (prog : Program) (w : World) (A : Around) (h₀ : Heap) (L : Addr) (m : Str → Option Value) (env : Env) (elt : PySem.Expr) (x : Str) (scope : Scope) (cl : List (Str × Addr)) (Fin : Shared → List Value → List (Addr × Obj) → Prop) (xv : Value) (s₁ : Shared) : Prop :=
  ∃ ax its news, xv = .ref ax ∧ A.handled = none ∧ Fr h₀ L s₁.heap m ∧ News h₀ L s₁.heap news ∧ TupAt ax its news ∧ its.size ≤ sizeLine ∧
    ∀ s₂ : Shared, (∃ h, s₂ = { s₁ with heap := h }) → LCg.CompRest prog w A h₀ L m env elt x scope cl s₂ (TupAt ax its) (fun i v => its[i]? = some v) (Fin s₂) its.size 0 [] news
section
variable {prog : Program} {w : World} {A : Around} {E : Value → Shared → Prop} {s : Shared} {h₀ : Heap} {L : Addr} {m : Str → Option Value} {env : Env}
theorem SrcT.intro {elt : PySem.Expr} {x : Str} {scope : Scope} {cl : List (Str × Addr)} {Fin : Shared → List Value → List (Addr × Obj) → Prop} {ax : Addr} {its : List Value} {k : Nat} {news : List (Addr × Obj)} {s₁ : Shared}
    (hh : A.handled = none) (F : Fr h₀ L s₁.heap m) (N : News h₀ L s₁.heap news) (hm : (ax, tupO its k) ∈ news) (hsz : its.length < 1000)
    (h : ∀ g, LCg.CompRest prog w A h₀ L m env elt x scope cl { s₁ with heap := g } (TupAt ax its.toArray) (fun i v => its.toArray[i]? = some v) (Fin { s₁ with heap := g }) its.length 0 [] news) :
    SrcT prog w A h₀ L m env elt x scope cl Fin (.ref ax) s₁ :=
  ⟨ax, its.toArray, news, rfl, hh, F, N, ⟨_, hm, rfl, _, rfl⟩, by rw [List.size_toArray, sizeLine_eq]; omega, fun _ ⟨g, e⟩ => e ▸ by rw [List.size_toArray]; exact h g⟩
theorem ListComp_T {elt iter : PySem.Expr} {x : Str} {px : Pos} {scope : Scope} {cl : List (Str × Addr)} {pos : Pos} {Q : Value → Shared → Prop} (F₀ : Fr h₀ L s.heap m)
    (hclos : closureFor scope env = pure cl) (hcell : ∀ y ∈ scope.names, y.2 ≠ .cell) (hkind : scope.kind = .function)
    (hnames : ∀ y ∈ scope.names, y.2 = .local → scope.names.lookup y.1 = some .local) (hx : scope.names.lookup x = some .local)
    (h : wpAny (model prog w) A (eval iter env) (SrcT prog w A h₀ L m env elt x scope cl (fun s₂ => LCg.FinE h₀ L m s₂ Q)) E s)
    (hs : ∀ x, foldedSetIterable iter env x = pure x := by intro _; rfl) :
    wpAny (model prog w) A (eval (.ListComp elt [⟨.Name x px, iter, [], 0⟩] scope pos) env) Q E s := by
  rw [eval_ListComp]
  refine wpAny_comprehension_free (use := none) rfl hs hclos hkind hnames (wpAny_mono h (fun xv s₁ h₁ => ?_) fun _ _ e => e)
  obtain ⟨ax, its, news, rfl, hh, F, N, S, hsz, R⟩ := h₁
  have hax : ∃ o, (ax, o) ∈ news ∧ o.cls = .type "tuple" ∧ ∃ n, o.data = .seq its n := S
  obtain ⟨oT, hmT, hcT, nT, hdT⟩ := hax
  have hl : s₁.heap.IsTuple ax its := ⟨oT, (N _ hmT).1, hcT, nT, hdT⟩
  have hlt : ax < s₁.heap.objs.size := Heap.lt_size (N _ hmT).1
  refine wpAny_pyIter_tuple hl ?_
  have up : ∀ b o, s₁.heap.get? b = some o → (s₁.heap.push { cls := .type "tuple_iterator", data := .fields #[.ref ax, .int 0 0] }).get? b = some o := fun b o e => Heap.get?_push_of_some _ e
  refine LCg.block_U (Walks.tuple hh s₁.heap.objs.size ax (Nat.ne_of_lt hlt) its) hsz (fun i h st => by obtain ⟨o, e, _⟩ := st.1; exact ⟨o, e⟩)
    (fun i h h' o nw st e e' k N S => ⟨by obtain ⟨o', q, r⟩ := st.1; rw [e] at q; cases q; exact ⟨o, e', r⟩, by obtain ⟨o2, hm2, r2⟩ := S; exact ⟨o2, (N _ hm2).1, r2⟩⟩)
    hcell hkind hx ⟨⟨_, Heap.get?_push_size _ rfl, rfl, rfl⟩, hl.at fun o e => Heap.get?_push_of_some _ e⟩ (fun b hb => ?_)
    (F.keeps up) (N.grown up) (Nat.ne_of_lt F.ns.lt) (next_is_new F) (fun p hp => Nat.ne_of_lt (Heap.lt_size (N p hp).1)) S (R _ ⟨_, rfl⟩) ?_
  · show b < (s₁.heap.push _).objs.size
    rw [Heap.size_push]
    rcases List.mem_cons.mp hb with rfl | hb
    · exact Nat.lt_succ_self _
    · rw [List.mem_singleton.mp hb]; exact Nat.lt_succ_of_lt hlt
  · intro D C h tk m' ys news' F' N' o1 hn hC₀ hD₀ hCL hDL hCD offC fin
    refine ⟨m', hn, fun h'' hs'' => fin D h'' tk (F'.change hs'' hCL hC₀) (fun p hp => ?_) o1⟩
    refine ⟨hs''.extBut _ _ ?_ (N' p hp).1, (N' p hp).2⟩
    rcases List.mem_cons.mp hp with rfl | hp
    · exact Ne.symm hCD
    · exact offC p hp
end
theorem TupAt.of {ax : Addr} {its : List Value} {k : Nat} {news : List (Addr × Obj)} (m : (ax, tupO its k) ∈ news) : TupAt ax its.toArray news := ⟨_, m, rfl, _, rfl⟩
end
section
theorem words_13 : True := by
  w_top off
  k_with_none
  k_with "kst_mem" => first
    | (first
      | with_reducible assumption
      | with_reducible exact List.mem_cons_self
      | (with_reducible refine List.mem_cons_of_mem _ ?_; kst_mem)
      | (with_reducible refine List.mem_append.mpr (Or.inl ?_); kst_mem)
      | (with_reducible refine List.mem_append.mpr (Or.inr ?_); kst_mem)
      | fail "kst_mem")
    | fail
  k_with "k_mem" => first
    | (kst_mem)
    | fail
  k_with "k_all" => first
    | (first
      | with_reducible assumption
      | exact List.forall_mem_nil _
      | (with_reducible refine' Mine.less_sub ?h_2 ?m_2; (case h_2 => with_reducible assumption); (case m_2 => (intro p9 h9; kst_mem)))
      | (with_reducible refine' Mine.less_sub1 ?h_2 ?m_2; (case h_2 => with_reducible assumption); (case m_2 => (intro p9 h9; kst_mem)))
      | (with_reducible refine' Mine.less_sub2 ?h_2 ?m_2; (case h_2 => with_reducible assumption); (case m_2 => (intro p9 h9; kst_mem)))
      | (with_reducible refine' Mine.less_sub3 ?h_2 ?m_2; (case h_2 => with_reducible assumption); (case m_2 => (intro p9 h9; kst_mem)))
      | (with_reducible refine' Mine.less_sub4 ?h_2 ?m_2; (case h_2 => with_reducible assumption); (case m_2 => (intro p9 h9; kst_mem)))
      | (with_reducible refine' Mine.less_sub5 ?h_2 ?m_2; (case h_2 => with_reducible assumption); (case m_2 => (intro p9 h9; kst_mem)))
      | (refine' List.forall_mem_cons.mpr ⟨?a_2, ?b_2⟩; (case a_2 => k_ne); (case b_2 => k_all))
      | exact Mine.allLt_ne (by with_reducible assumption)
      | exact Mine.fresh_ne (by with_reducible assumption) (by k_mem)
      | (refine' List.forall_mem_append.mpr ⟨?_, ?_⟩ <;> k_all))
    | fail
  k_with "kqd_sub" => first
    | (first
      | exact fun _ h => h
      | exact List.forall_mem_nil _
      | (refine' List.forall_mem_cons.mpr ⟨?kqa_3, ?kqb_3⟩; (case kqa_3 => k_mem); (case kqb_3 => kqd_sub))
      | (refine' List.forall_mem_append.mpr ⟨?_, ?_⟩ <;> kqd_sub)
      | (intro p9 h9; k_mem))
    | fail
  k_with "ktr_enter" => first
    | (refine' code_defC ?k1_4 ?k2_4 ?k3_4 ?k4_4 ?k5_4 ?kA_4 ?kF_4 ?kK_4 ?k6_4 ?k7_4 ?k8_4 ?k9_4 ?kB_4 ?kD_4 ?_ ?c2_4 ?c3_4 ?c4_4; (case kA_4 => exact rfl); (case kF_4 => exact rfl); (case kK_4 => assumption); (case k1_4 => k_asm); (case k2_4 => k_asm); (case k3_4 => k_asm); (case k4_4 => k_asm); (case k5_4 => k_asm); (case k6_4 => k_is); (case k7_4 => k_is); (case k8_4 => ktr_room); (case k9_4 => exact BindsTo.of_eq rfl); (case kB_4 => exact rfl); (case kD_4 => decide +kernel); (case c2_4 => exact rfl); (case c3_4 => exact rfl); (case c4_4 => exact rfl); k_whole; intro g' L' h' tk' cells' FG' F' N' Y' B' X' T' l1; (try k_lt l1); k_cells Y'; (try simp only [List.cons_append, List.nil_append] at N'); (try dsimp only); (try k_fold))
    | fail
  k_with "tb_start" => first
    | (first
      | with_reducible exact Mine.Apart.ne (by with_reducible assumption)
      | with_reducible exact Mine.Apart.en (by with_reducible assumption)
      | with_reducible exact Mine.succ_ne1
      | with_reducible exact Mine.succ_ne2
      | (with_reducible refine' Mine.less_ne ?h_5 ?m_5; (case h_5 => with_reducible assumption); (case m_5 => kst_mem))
      | (with_reducible refine' Mine.less_en ?h_5 ?m_5; (case h_5 => with_reducible assumption); (case m_5 => kst_mem))
      | (with_reducible refine' Mine.less_ne1 ?h_5 ?m_5; (case h_5 => with_reducible assumption); (case m_5 => kst_mem))
      | (with_reducible refine' Mine.less_en1 ?h_5 ?m_5; (case h_5 => with_reducible assumption); (case m_5 => kst_mem))
      | (with_reducible refine' Mine.less_ne2 ?h_5 ?m_5; (case h_5 => with_reducible assumption); (case m_5 => kst_mem))
      | (with_reducible refine' Mine.less_en2 ?h_5 ?m_5; (case h_5 => with_reducible assumption); (case m_5 => kst_mem))
      | (with_reducible refine' Mine.less_ne3 ?h_5 ?m_5; (case h_5 => with_reducible assumption); (case m_5 => kst_mem))
      | (with_reducible refine' Mine.less_en3 ?h_5 ?m_5; (case h_5 => with_reducible assumption); (case m_5 => kst_mem))
      | (with_reducible refine' Mine.less_ne4 ?h_5 ?m_5; (case h_5 => with_reducible assumption); (case m_5 => kst_mem))
      | (with_reducible refine' Mine.less_en4 ?h_5 ?m_5; (case h_5 => with_reducible assumption); (case m_5 => kst_mem))
      | (with_reducible refine' Mine.less_ne5 ?h_5 ?m_5; (case h_5 => with_reducible assumption); (case m_5 => kst_mem))
      | (with_reducible refine' Mine.less_en5 ?h_5 ?m_5; (case h_5 => with_reducible assumption); (case m_5 => kst_mem))
      | (with_reducible refine' Mine.lt_ne2 ?k_5 ?h_5 ?m_5; (case k_5 => with_reducible assumption); (case h_5 => with_reducible assumption); (case m_5 => kst_mem))
      | (with_reducible refine' Mine.lt_en2 ?k_5 ?h_5 ?m_5; (case k_5 => with_reducible assumption); (case h_5 => with_reducible assumption); (case m_5 => kst_mem)))
    | fail
  k_with "k_ne" => first
    | (first | tb_start | ((try dsimp only); (refine neN ?_); first | tb_start | omega))
    | fail
  k_with "m call ref" => first
    | (k_here; (with_reducible show wpAny _ _ (call (Value.ref 87) _) _ _ _); k_dflt (refine' Mine.take_use ?k1_7 ?k2_7 ?k3_7 ?k4_7 ?k5_7 ?k6_7 ?k7_7 ?k8_7 ?k9_7 ?k10_7 ?k11_7 ?k12_7 ?k13_7 ?k14_7 ?_; (case k1_7 => k_asm); (case k2_7 => k_asm); (case k3_7 => k_asm); (case k4_7 => k_asm); (case k5_7 => k_asm); (case k6_7 => first | exact rfl | assumption); (case k7_7 => k_updF); (case k8_7 => assumption); (case k9_7 => assumption); (case k10_7 => assumption); (case k11_7 => omega); (case k12_7 => omega); (case k13_7 => ktr_room); (case k14_7 => ktr_units); k_whole); intro k9 a9 b9 t9 ta9 tb9 h9 tk9 F9 N9 x19 x29 x39 x49 x59; (try dsimp only at N9); (try k_sweep); (try k_fold))
    | fail
  k_with "m call ref" => first
    | (k_here; (with_reducible show wpAny _ _ (call (Value.ref 94) _) _ _ _); k_dflt (refine' Mine.one_use ?k1_10 ?k2_10 ?k3_10 ?k4_10 ?k5_10 ?k6_10 ?k7_10 ?kth_10 ?kne_10 ?kv0_10 ?kv1_10 ?k8_10 ?k9_10 ?k10_10 ?k13_10 ?k14_10 ?_; (case k1_10 => k_asm); (case k2_10 => k_asm); (case k3_10 => k_asm); (case k4_10 => k_asm); (case k5_10 => k_asm); (case k6_10 => first | exact rfl | assumption); (case k7_10 => k_updF); (case kth_10 => k_mem); (case kne_10 => first | assumption | k_ne); (case kv0_10 => first | assumption | (simp only [List.length_cons, List.length_nil]; omega)); (case kv1_10 => first | assumption | (simp only [List.length_cons, List.length_nil]; omega)); (case k8_10 => assumption); (case k9_10 => assumption); (case k10_10 => assumption); (case k13_10 => ktr_room); (case k14_10 => ktr_units); k_whole); intro r9 k9 a9 b9 ta9 tb9 h9 tk9 F9 N9 hv9 hg9 x39 x49 x59; (try dsimp only at N9); (try k_sweep); (try k_fold))
    | fail
  k_with "ktn_lt" => first
    | (first
      | (refine' Mine.Fresh3.of ?f_11 ?a_11 ?b_11 ?c_11; (case f_11 => assumption); (case a_11 => k_mem); (case b_11 => k_mem); (case c_11 => (intro p9 h9; k_mem)))
      | (refine' Mine.Fresh3.app ?_ ?_ <;> ktn_lt))
    | fail
  k_with "ktn_ord" => first
    | (first
      | exact Mine.Rest.nil
      | (refine' Mine.Rest.app _ ?z_12; (case z_12 => ktn_lt))
      | (refine' Mine.Rest.keep ?z_12 ?a_12 ?b_12 ?c_12; (case a_12 => first | (with_reducible refine' Mine.less_allLt ?h_12 ?m_12; (case h_12 => with_reducible assumption); (case m_12 => (intro p9 h9; kst_mem))) | assumption | exact Mine.allLt_left (by assumption)); (case b_12 => first | (with_reducible refine' Mine.less_lt ?h_12 ?m_12; (case h_12 => with_reducible assumption); (case m_12 => kst_mem)) | ((try dsimp only); omega)); (case c_12 => first | (with_reducible refine' Mine.less_lt ?h_12 ?m_12; (case h_12 => with_reducible assumption); (case m_12 => kst_mem)) | ((try dsimp only); omega)); (case z_12 => ktn_ord))
      | (refine' Mine.Rest.drop ?z_12; (case z_12 => ktn_ord)))
    | fail
  k_with "m call ref" => first
    | (k_here; (with_reducible show wpAny _ _ (call (Value.ref 94) _) _ _ _); k_dflt (refine' Mine.oneR_use ?k1_13 ?k2_13 ?k3_13 ?k4_13 ?k5_13 ?k6_13 ?k7_13 ?kth_13 ?kne_13 ?krv_13 ?kv0_13 ?kv1_13 ?k8_13 ?k9_13 ?k10_13 ?k13_13 ?k14_13 ?_; (case k1_13 => k_asm); (case k2_13 => k_asm); (case k3_13 => k_asm); (case k4_13 => k_asm); (case k5_13 => k_asm); (case k6_13 => first | exact rfl | assumption); (case k7_13 => k_updF); (case kth_13 => k_mem); (case kne_13 => first | with_reducible exact Mine.Apart.ne (by with_reducible assumption) | with_reducible assumption | k_ne); (case krv_13 => with_reducible assumption); (case kv0_13 => assumption); (case kv1_13 => assumption); (case k8_13 => assumption); (case k9_13 => assumption); (case k10_13 => assumption); (case k13_13 => ktr_room); (case k14_13 => ktr_units); k_whole); intro r9 q9 a9 b9 ta9 tb9 h9 tk9 hq9 F9 N9 x39 x49 x59; (try dsimp only at N9); (try k_sweep); (try k_fold))
    | fail
  k_with "ktn_open" => first
    | (first
      | (refine' Mine.trIn_due ?h_14 ?e_14 ?s_14; (case h_14 => with_reducible assumption); (case e_14 => first | with_reducible rfl | ((simp only [List.length_append, List.length_cons, List.length_nil, Nat.zero_add]); done) | ((simp only [List.length_append, List.length_cons, List.length_nil, Nat.zero_add]); omega) | omega); (case s_14 => kqd_sub))
      | (refine' Mine.TrIn.mono ?s_14 ?h_14; (case h_14 => with_reducible assumption); (case s_14 => kqd_sub))
      | (with_reducible refine' Mine.TrIn.b ?a0_14; (case a0_14 => kst_mem))
      | (with_reducible refine' Mine.TrIn.i ?a0_14; (case a0_14 => kst_mem))
      | (with_reducible refine' Mine.TrIn.p ?a0_14; (case a0_14 => kst_mem))
      | (with_reducible refine' Mine.TrIn.nv ?a0_14; (case a0_14 => kst_mem))
      | (with_reducible refine' Mine.TrIn.inf ?a0_14; (case a0_14 => kst_mem))
      | (with_reducible refine' Mine.TrIn.ref ?a0_14 ?a1_14 ?a2_14; (case a0_14 => kst_mem); (case a1_14 => ked_reads); (case a2_14 => ktn_open))
      | (with_reducible refine' Mine.TrIn.box ?a0_14 ?a1_14; (case a0_14 => kst_mem); (case a1_14 => ktn_open))
      | (with_reducible refine' Mine.TrIn.arr ?a0_14 ?a1_14; (case a0_14 => kst_mem); (case a1_14 => ktn_open))
      | (with_reducible refine' Mine.TrIn.tup0 ?a0_14 ?a1_14; (case a0_14 => kst_mem); (case a1_14 => kst_mem))
      | (with_reducible refine' Mine.TrIn.tup1 ?a0_14 ?a1_14 ?a2_14; (case a0_14 => kst_mem); (case a1_14 => kst_mem); (case a2_14 => ktn_open))
      | (with_reducible refine' Mine.TrIn.tup2 ?a0_14 ?a1_14 ?_ ?_; (case a0_14 => kst_mem); (case a1_14 => kst_mem); all_goals ktn_open)
      | (with_reducible refine' Mine.TrIn.adt0 ?a0_14 ?a1_14 ?a2_14 ?a3_14 ?a4_14; (case a0_14 => kst_mem); (case a1_14 => kst_mem); (case a2_14 => ked_reads); (case a3_14 => exact Nat.le_of_ble_eq_true rfl); (case a4_14 => kst_mem))
      | (with_reducible refine' Mine.TrIn.adt1 ?a0_14 ?a1_14 ?a2_14 ?a3_14 ?a4_14 ?a5_14; (case a0_14 => kst_mem); (case a1_14 => kst_mem); (case a2_14 => ked_reads); (case a3_14 => exact Nat.le_of_ble_eq_true rfl); (case a4_14 => kst_mem); (case a5_14 => ktn_open))
      | (with_reducible refine' Mine.TrIn.adt2 ?a0_14 ?a1_14 ?a2_14 ?a3_14 ?a4_14 ?_ ?_; (case a0_14 => kst_mem); (case a1_14 => kst_mem); (case a2_14 => ked_reads); (case a3_14 => exact Nat.le_of_ble_eq_true rfl); (case a4_14 => kst_mem); all_goals ktn_open))
    | fail
  k_with "ked_reads" => first
    | (first
      | with_reducible exact Mine.RV.none
      | (with_reducible refine' Mine.RV.str _ _ ?e_15; (case e_15 => decide +kernel))
      | with_reducible exact Mine.RVs.nil
      | (with_reducible refine' Mine.RVs.cons ?ca_15 ?cb_15; (case ca_15 => ked_reads); (case cb_15 => ked_reads))
      | with_reducible assumption
      | (with_reducible refine' Mine.RVs.append ?pa_15 ?pb_15; (case pa_15 => ked_reads); (case pb_15 => ked_reads))
      | (with_reducible refine' Mine.RV.int' ?e_15; (case e_15 => first | with_reducible rfl | ((simp only [List.length_append, List.length_cons, List.length_nil, Nat.zero_add]); done) | ((simp only [List.length_append, List.length_cons, List.length_nil, Nat.zero_add]); omega) | omega)))
    | fail
  k_with "m call ref" => first
    | (k_here; (with_reducible show wpAny _ _ (call (Value.ref 99) _) _ _ _); k_dflt (refine' Mine.tw_use ?kC_16 ?k1_16 ?k2_16 ?k3_16 ?k4_16 ?k5_16 ?k6_16 ?k7_16 ?kU2_16 ?ksa_16 ?kth_16 ?kne_16 ?kne2_16 ?krv_16 ?kv0_16 ?kv1_16 ?k8_16 ?k9_16 ?k10_16 ?kvs_16 ?klen_16 ?kdv_16 ?k13_16 ?k14_16 ?_; (case kC_16 => with_reducible assumption); (case k1_16 => k_asm); (case k2_16 => k_asm); (case k3_16 => k_asm); (case k4_16 => k_asm); (case k5_16 => k_asm); (case k6_16 => first | exact rfl | assumption); (case k7_16 => k_updF); (case kU2_16 => intro o9; k_updF); (case ksa_16 => first | with_reducible exact Mine.Apart.ne (by with_reducible assumption) | with_reducible assumption | k_ne); (case kth_16 => k_mem); (case kne_16 => first | with_reducible exact Mine.Apart.ne (by with_reducible assumption) | with_reducible assumption | k_ne); (case kne2_16 => first | with_reducible exact Mine.Apart.ne (by with_reducible assumption) | with_reducible assumption | k_ne); (case krv_16 => first | with_reducible assumption | ked_reads); (case kv0_16 => first | assumption | exact Nat.le_of_ble_eq_true rfl); (case kv1_16 => first | assumption | exact Nat.le_of_ble_eq_true rfl); (case k8_16 => assumption); (case k9_16 => assumption); (case k10_16 => assumption); (case kvs_16 => ked_reads); (case klen_16 => first | decide | ((try simp only [List.length_append, List.length_cons, List.length_nil, Nat.pow_succ] at *); omega)); (case kdv_16 => omega); (case k13_16 => ktr_room); (case k14_16 => ktr_units); k_whole); intro p9 told9 due9 t9 a9 b9 ta9 tb9 tl9 xs9 nk9 np9 h9 tk9 F9 N9 x19 x29 x39 hp9 ht9 hd9 hx9 hvx9 hxl9 hh9 hl9 hf9; (try dsimp only at N9); (try simp only [List.cons_append, List.nil_append, List.append_assoc] at N9); (try simp only [List.append_assoc] at hvx9); (try k_sweep); (try k_fold))
    | fail
  k_with "tb_start" => first
    | (first
      | (with_reducible refine' Mine.off_I ?h_17 ?m_17; (case h_17 => with_reducible assumption); (case m_17 => kst_mem))
      | (with_reducible refine' Mine.off_C ?h_17 ?m_17; (case h_17 => with_reducible assumption); (case m_17 => kst_mem))
      | (with_reducible refine' Mine.off_D ?h_17 ?m_17; (case h_17 => with_reducible assumption); (case m_17 => kst_mem))
      | (with_reducible refine' Mine.of_I ?h_17 ?m_17; (case h_17 => with_reducible assumption); (case m_17 => kst_mem))
      | (with_reducible refine' Mine.of_C ?h_17 ?m_17; (case h_17 => with_reducible assumption); (case m_17 => kst_mem))
      | (with_reducible refine' Mine.of_D ?h_17 ?m_17; (case h_17 => with_reducible assumption); (case m_17 => kst_mem)))
    | fail
  k_with "m call builtin:list.append" => first
    | (k_here; (with_reducible show wpAny _ _ (call (Value.builtin _) [Value.ref _, _]) _ _ _); k_dflt (refine' Mine.append_L ?k1_18 ?k2_18 ?k3_18 ?z_18 ?_; (case k1_18 => k_asm); (case k2_18 => k_asm); (case k3_18 => k_updF); (case z_18 => ((try simp only [List.length_append, List.length_cons, List.length_nil]); omega)); k_whole); intro h' F' N'; (try dsimp only at N'); (try simp only [List.append_assoc, List.cons_append, List.nil_append] at N'); (try k_sweep))
    | fail
  k_with "m call builtin:len" => first
    | (k_here; (with_reducible show wpAny _ _ (call (Value.builtin "len") [Value.ref _]) _ _ _); k_dflt (refine' Mine.len_at ?k1_19 ?k2_19 ?k3_19 ?_; (case k1_19 => k_asm); (case k2_19 => kst_mem); (case k3_19 => ((try simp only [List.length_append, List.length_cons, List.length_nil]); omega)); k_whole))
    | fail
  k_with "lcg_off" => first
    | (first
      | assumption
      | (refine' Mine.off3_fresh ?f_20 ?a_20 ?b_20 ?c_20; (case f_20 => assumption); (case a_20 => kst_mem); (case b_20 => kst_mem); (case c_20 => kst_mem))
      | (refine' Mine.off3_app ?_ ?_ <;> lcg_off)
      | (refine' Mine.off3_sub ?a_20 ?b_20; (case a_20 => assumption); (case b_20 => (intro p9 h9; kst_mem))))
    | fail
  k_with "lcg_sub" => first
    | (first
      | (with_reducible refine' Mine.Out3.outI ?z_21; (case z_21 => lcg_sub))
      | (with_reducible refine' Mine.Out3.outC ?z_21; (case z_21 => lcg_sub))
      | (with_reducible refine' Mine.Out3.outD ?z_21; (case z_21 => lcg_sub))
      | (with_reducible refine' Mine.Out3.keep ?a_21 ?b_21 ?c_21 ?z_21; (case a_21 => k_ne); (case b_21 => k_ne); (case c_21 => k_ne); (case z_21 => lcg_sub))
      | (with_reducible refine' Mine.Out3.tail _ ?z_21; (case z_21 => lcg_off)))
    | fail
  k_with "m CompEnd" => first
    | (k_here; k_dflt (refine' Mine.comp_end ?F_22 ?N_22 ?m1_22 ?m2_22 ?m3_22 ?o_22 ?s_22 ?_; (case F_22 => k_asm); (case N_22 => k_asm); (case m1_22 => kst_mem); (case m2_22 => kst_mem); (case m3_22 => kst_mem); (case o_22 => lcg_sub); (case s_22 => lcg_src); k_whole))
    | fail
  k_with "m CompRest" => first
    | ((try simp only [List.nil_append, List.cons_append]); with_unfolding_all first
      | (refine LCg.CompRest.succ ?_; intro v' I' oI' C' oC' D' m' h' tk' E' hv' hC' hx' F' N' off' ne'; (first | lcg_open hv' | (obtain ⟨t9', hv9'⟩ := hv'; subst hv9')); have n19 : Mine.Apart _ _ := ne'.1; have n29 : Mine.Apart _ _ := ne'.2.1; have n39 : Mine.Apart _ _ := ne'.2.2; clear ne')
      | refine LCg.CompRest.zero ?_)
    | fail
  k_with "m eval ListComp" => first
    | (k_here; k_dflt (refine LCg.ListComp_U (F₀ := by k_asm) (by rfl) (by decide) (by rfl) (by decide) (by rfl) ?_))
    | fail
  k_with "m exec Assign cons ListComp" => first
    | (k_here; k_dflt (refine LCg.Assign_ListComp_U (F₀ := by k_asm) (by rfl) (by with_unfolding_all rfl) (by rfl) (by decide) (by rfl) (by decide) (by rfl) (by rfl) (by rfl) ?_))
    | fail
  k_with "m CompSrc" => first
    | (k_here; k_dflt (first
      | (refine LCg.CompSrc.ledger (by rfl) (by k_asm) (by k_asm) (by kst_mem) (by first | size_fits | exact Nat.le_of_ble_eq_true rfl) ?_; intro g'; lcg_lit)
      | (refine LCg.CompSrc.range (by rfl) (by k_asm) (by k_asm) (by assumption) (by first | decide | rfl) (by first | rfl | decide) (by first | size_fits | exact Nat.le_of_ble_eq_true rfl) ?_; intro g'; lcg_lit)))
    | fail
  k_with "k_subL" => first
    | (first
      | (with_reducible refine' Mine.Out1.out ?z_27; (case z_27 => k_subL))
      | (with_reducible refine' Mine.Out1.keep ?a_27 ?z_27; (case a_27 => k_ne); (case z_27 => k_subL))
      | (with_reducible refine' Mine.Out1.tail _ ?z_27; (case z_27 => k_all)))
    | fail
  k_with "m UnrEnd" => first
    | (k_here; k_dflt (refine' Mine.unr_end ?F_28 ?N_28 ?m1_28 ?o_28 ?_; (case F_28 => k_asm); (case N_28 => k_asm); (case m1_28 => kst_mem); (case o_28 => k_subL); k_whole))
    | fail
  k_with "m subscriptTail" => first
    | (k_here; (with_reducible show wpAny _ _ (subscriptTail _ _ (Value.ref _) (Value.int _ _)) _ _ _); k_dflt (refine' item_tupleT ?t_29 ?a_29 ?b_29 ?c_29 ?d_29 ?_; (case t_29 => refine' News.isTup ?N_29 ?m_29; (case N_29 => k_asm); (case m_29 => kst_mem)); (case a_29 => decide); (case b_29 => decide); (case c_29 => rfl); (case d_29 => rfl); k_whole))
    | fail
  k_with "m subscriptTail Name Constant ref int" => first
    | (k_here; (with_reducible show wpAny _ _ (subscriptTail _ _ (Value.ref _) (Value.int _ _)) _ _ _); k_dflt (refine' item_tupleT ?t_30 ?a_30 ?b_30 ?c_30 ?d_30 ?_; (case t_30 => refine' News.isTup ?N_30 ?m_30; (case N_30 => k_asm); (case m_30 => kst_mem)); (case a_30 => decide); (case b_30 => decide); (case c_30 => rfl); (case d_30 => rfl); k_whole))
    | fail
  trivial
theorem sub_in {T R l : List (Addr × Obj)} (h : ∀ p ∈ T, p ∈ R) (k : ∀ p ∈ R, p ∈ l) : ∀ p ∈ T, p ∈ l := fun p hp => k p (h p hp)
def TurnSpec (w : World) (mean : ExcName → Option Value) (mg mb : Str → Option Value) (q hrd : Addr) (Fx : List (Addr × Obj)) : Prop :=
  ∀ (v : Value) (hs : List Value) (n : Nat) (R : List (Addr × Obj)), (∀ p ∈ Fx, p ∈ R) → (∀ p ∈ R, p.1 ≠ hrd) → hs.length < 1000 →
    Spec w mean mg mb q 2 40 [v] ((hrd, listOf hs.toArray n) :: R) (fun r N' => ∃ (t : Tok) (n' : Nat), r = .int ((hs.length + 1 : Nat) : Int) t ∧ N' = (hrd, listOf (hs ++ [v]).toArray n') :: R)
theorem turn_use {w : World} {mean : ExcName → Option Value} {mg mb : Str → Option Value} {dp un : Nat} {gd : Option (List Code)} {cn : Str} {cs : Scope} {ca : Addr} {ccd : Value} {cl : List (Str × Addr)} {outer : List Env} {A₀ : Around} {base h₀ : Heap} {L : Addr} {m : Str → Option Value} {s : Shared} {Q E : Value → Shared → Prop}
    {q hrd : Addr} {Fx : List (Addr × Obj)} {v : Value} {hs : List Value} {n : Nat} {l : List (Addr × Obj)} {g : Obj → List (Addr × Obj)} (C : TurnSpec w mean mg mb q hrd Fx)
    (B : Below A₀ base outer h₀) (F : Fr h₀ L s.heap m) (X : (hd.heap_1 w.params).In h₀) (N : News h₀ L s.heap l) (T : Top topProg (looseW view [Str.ofString "LendError"] ++ (recsOf view).map (·.name) ++ (litsOf view).map (·.1) ++ (clssOf view (looseW view [Str.ofString "LendError"])).map (·.name)) mean mg mb h₀) (hk : cs.kind = .function)
    (U : UpdF hrd (listOf hs.toArray n) l g) (hF : ∀ p ∈ Fx, p ∈ l) (hF2 : ∀ p ∈ Fx, p.1 ≠ hrd) (hlen : hs.length < 1000) (hd : dp + 2 < recursionLimit) (hu : un + 40 < cLine)
    (ret : ∀ t n' h' tk', Fr h₀ L h' m → News h₀ L h' (g (listOf (hs ++ [v]).toArray n')) → Q (.int ((hs.length + 1 : Nat) : Int) t) { s with heap := h', toks := tk' }) :
    wpAny (model PySem.Challenge.rw_xm0577_01.row.prog w) (ktrTop dp un gd cn cs L ca ccd cl outer) (call (.ref q) [v]) Q E s := by
  obtain ⟨R, hR, hg, hl⟩ := UpdF.out U
  refine C v hs n R (fun p hp => (List.mem_cons.mp ((hl p).mp (hF p hp))).resolve_left fun e => hF2 p hp (congrArg Prod.fst e)) hR hlen _ _ _ _ _ _ _ _ _ _ _ _ _ _ _ _ _ B F X (News.sub N fun p hp => (hl p).mpr hp) T hk hd hu ?_
  rintro r N' h' tk' F' N'' ⟨t, n', rfl, rfl⟩
  exact ret t n' h' tk' F' (News.sub N'' fun p hp => (hg _ p).mp hp)
def TdPost (hrd : Addr) (R T : List (Addr × Obj)) (hs : List Value) (t : Tr) (r : Value) (N' : List (Addr × Obj)) : Prop :=
  ∃ (tl : List (Addr × Obj)) (xs : List Value) (n' : Nat), N' = (hrd, listOf (hs ++ xs).toArray n') :: (R ++ tl) ∧ TrIn (T ++ tl) r (t.num hs.length) ∧ RVs xs t.regs ∧ Fresh3 hrd hrd R tl
def TdSpec (w : World) (mean : ExcName → Option Value) (mg mb : Str → Option Value) (t : Tr) : Prop :=
  ∀ (q hrd : Addr) (Fx T R : List (Addr × Obj)) (v : Value) (hs : List Value) (n : Nat) (oc : Value) (od : Option Addr) (fd : FuncData) (sl : Array (Option Value)), TurnSpec w mean mg mb q hrd Fx → (q, (⟨oc, od, .func fd, sl⟩ : Obj)) ∈ Fx → (∀ p ∈ Fx, p ∈ R) → (∀ p ∈ R, p.1 ≠ hrd) → (∀ p ∈ T, p ∈ R) → TrIn T v t → hs.length + t.regs.length < 1000 →
    Spec w mean mg mb 59 (t.ht + 4) (80 + 30 * t.ht) [v, .ref q] ((hrd, listOf hs.toArray n) :: R) (TdPost hrd R T hs t)
theorem td_end {hrd : Addr} {nk' : Nat} {R T l tl : List (Addr × Obj)} {hs xs : List Value} {oa : Obj} {r : Value} {t : Tr} {h₀ h' : Heap} {L : Addr} {m : Str → Option Value} {s : Shared} {tk' : Nat} {Q : Value → Shared → Prop}
    (hret : ∀ r N' h' tk', Fr h₀ L h' m → News h₀ L h' N' → TdPost hrd R T hs t r N' → Q r { s with heap := h', toks := tk' })
    (F : Fr h₀ L h' m) (N : News h₀ L h' l) (h2 : (hrd, oa) ∈ l) (e2 : oa = listOf (hs ++ xs).toArray nk') (z : Rest hrd hrd R l tl) (ht : TrIn (T ++ tl) r (t.num hs.length)) (hx : RVs xs t.regs) : Q r { s with heap := h', toks := tk' } := by
  subst e2
  refine hret _ ((hrd, listOf (hs ++ xs).toArray nk') :: (R ++ tl)) _ _ F (News.sub N ?_) ⟨tl, xs, nk', rfl, ht, hx, z.fresh⟩
  intro q hq
  rcases List.mem_cons.mp hq with rfl | hq
  · exact h2
  exact z.sub q hq
theorem td_use {w : World} {mean : ExcName → Option Value} {mg mb : Str → Option Value} {dp un : Nat} {gd : Option (List Code)} {cn : Str} {cs : Scope} {ca : Addr} {ccd : Value} {cl : List (Str × Addr)} {outer : List Env} {A₀ : Around} {base h₀ : Heap} {L : Addr} {m : Str → Option Value} {s : Shared} {Q E : Value → Shared → Prop}
    {t : Tr} {q hrd : Addr} {Fx T' : List (Addr × Obj)} {v : Value} {hs : List Value} {n : Nat} {l : List (Addr × Obj)} {g : Obj → List (Addr × Obj)} {oc : Value} {od : Option Addr} {fd : FuncData} {sl : Array (Option Value)} (C : TdSpec w mean mg mb t) (Ct : TurnSpec w mean mg mb q hrd Fx) (Cq : (q, (⟨oc, od, .func fd, sl⟩ : Obj)) ∈ Fx)
    (B : Below A₀ base outer h₀) (F : Fr h₀ L s.heap m) (X : (hd.heap_1 w.params).In h₀) (N : News h₀ L s.heap l) (T : Top topProg (looseW view [Str.ofString "LendError"] ++ (recsOf view).map (·.name) ++ (litsOf view).map (·.1) ++ (clssOf view (looseW view [Str.ofString "LendError"])).map (·.name)) mean mg mb h₀) (hk : cs.kind = .function)
    (U : UpdF hrd (listOf hs.toArray n) l g) (hF : ∀ p ∈ Fx, p ∈ l) (hF2 : ∀ p ∈ Fx, p.1 ≠ hrd) (hT : ∀ p ∈ T', p ∈ l) (hT2 : ∀ p ∈ T', p.1 ≠ hrd) (hv : TrIn T' v t) (hlen : hs.length + t.regs.length < 1000) (hd : dp + (t.ht + 4) < recursionLimit) (hu : un + (80 + 30 * t.ht) < cLine)
    (ret : ∀ r tl xs n' h' tk', Fr h₀ L h' m → News h₀ L h' (g (listOf (hs ++ xs).toArray n') ++ tl) → (∀ k, k = hs.length → TrIn (T' ++ tl) r (t.num k)) → RVs xs t.regs → xs.length = t.regs.length → (∀ q ∈ l, ∀ p ∈ tl, q.1 < p.1) → Q r { s with heap := h', toks := tk' }) :
    wpAny (model PySem.Challenge.rw_xm0577_01.row.prog w) (ktrTop dp un gd cn cs L ca ccd cl outer) (call (.ref 59) [v, .ref q]) Q E s := by
  obtain ⟨R, hR, hg, hl⟩ := UpdF.out U
  refine C q hrd Fx T' R v hs n oc od fd sl Ct Cq (fun p hp => (List.mem_cons.mp ((hl p).mp (hF p hp))).resolve_left fun e => hF2 p hp (congrArg Prod.fst e)) hR (fun p hp => (List.mem_cons.mp ((hl p).mp (hT p hp))).resolve_left fun e => hT2 p hp (congrArg Prod.fst e)) hv hlen
    _ _ _ _ _ _ _ _ _ _ _ _ _ _ _ _ _ B F X (News.sub N fun p hp => (hl p).mpr hp) T hk hd hu ?_
  rintro r N' h' tk' F' N'' ⟨tl, xs, n', rfl, x1, x2, x3⟩
  refine ret r tl xs n' h' tk' F' (News.sub N'' ?_) (fun k hk => hk ▸ x1) x2 x2.length ?_
  · intro p hp
    rcases List.mem_append.mp hp with hp | hp
    · rcases List.mem_cons.mp ((hg _ p).mp hp) with rfl | hp
      · exact .head _
      · exact .tail _ (List.mem_append.mpr (.inl hp))
    · exact .tail _ (List.mem_append.mpr (.inr hp))
  · intro q hq p hp
    rcases List.mem_cons.mp ((hl q).mp hq) with rfl | hq
    · exact x3.2.1 p hp
    · exact x3.1 q hq p hp
end
section
theorem words_14 : True := by
  w_top off
  k_with_none
  k_with "kst_mem" => first
    | (first
      | with_reducible assumption
      | with_reducible exact List.mem_cons_self
      | (with_reducible refine List.mem_cons_of_mem _ ?_; kst_mem)
      | (with_reducible refine List.mem_append.mpr (Or.inl ?_); kst_mem)
      | (with_reducible refine List.mem_append.mpr (Or.inr ?_); kst_mem)
      | fail "kst_mem")
    | fail
  k_with "k_mem" => first
    | (kst_mem)
    | fail
  k_with "k_all" => first
    | (first
      | with_reducible assumption
      | exact List.forall_mem_nil _
      | (with_reducible refine' Mine.less_sub ?h_2 ?m_2; (case h_2 => with_reducible assumption); (case m_2 => (intro p9 h9; kst_mem)))
      | (with_reducible refine' Mine.less_sub1 ?h_2 ?m_2; (case h_2 => with_reducible assumption); (case m_2 => (intro p9 h9; kst_mem)))
      | (with_reducible refine' Mine.less_sub2 ?h_2 ?m_2; (case h_2 => with_reducible assumption); (case m_2 => (intro p9 h9; kst_mem)))
      | (with_reducible refine' Mine.less_sub3 ?h_2 ?m_2; (case h_2 => with_reducible assumption); (case m_2 => (intro p9 h9; kst_mem)))
      | (with_reducible refine' Mine.less_sub4 ?h_2 ?m_2; (case h_2 => with_reducible assumption); (case m_2 => (intro p9 h9; kst_mem)))
      | (with_reducible refine' Mine.less_sub5 ?h_2 ?m_2; (case h_2 => with_reducible assumption); (case m_2 => (intro p9 h9; kst_mem)))
      | (refine' List.forall_mem_cons.mpr ⟨?a_2, ?b_2⟩; (case a_2 => k_ne); (case b_2 => k_all))
      | exact Mine.allLt_ne (by with_reducible assumption)
      | exact Mine.fresh_ne (by with_reducible assumption) (by k_mem)
      | (refine' List.forall_mem_append.mpr ⟨?_, ?_⟩ <;> k_all))
    | fail
  k_with "kqd_sub" => first
    | (first
      | exact fun _ h => h
      | exact List.forall_mem_nil _
      | (refine' List.forall_mem_cons.mpr ⟨?kqa_3, ?kqb_3⟩; (case kqa_3 => k_mem); (case kqb_3 => kqd_sub))
      | (refine' List.forall_mem_append.mpr ⟨?_, ?_⟩ <;> kqd_sub)
      | (intro p9 h9; k_mem))
    | fail
  k_with "ktr_enter" => first
    | (refine' code_defC ?k1_4 ?k2_4 ?k3_4 ?k4_4 ?k5_4 ?kA_4 ?kF_4 ?kK_4 ?k6_4 ?k7_4 ?k8_4 ?k9_4 ?kB_4 ?kD_4 ?_ ?c2_4 ?c3_4 ?c4_4; (case kA_4 => exact rfl); (case kF_4 => exact rfl); (case kK_4 => assumption); (case k1_4 => k_asm); (case k2_4 => k_asm); (case k3_4 => k_asm); (case k4_4 => k_asm); (case k5_4 => k_asm); (case k6_4 => k_is); (case k7_4 => k_is); (case k8_4 => ktr_room); (case k9_4 => exact BindsTo.of_eq rfl); (case kB_4 => exact rfl); (case kD_4 => decide +kernel); (case c2_4 => exact rfl); (case c3_4 => exact rfl); (case c4_4 => exact rfl); k_whole; intro g' L' h' tk' cells' FG' F' N' Y' B' X' T' l1; (try k_lt l1); k_cells Y'; (try simp only [List.cons_append, List.nil_append] at N'); (try dsimp only); (try k_fold))
    | fail
  k_with "tb_start" => first
    | (first
      | with_reducible exact Mine.Apart.ne (by with_reducible assumption)
      | with_reducible exact Mine.Apart.en (by with_reducible assumption)
      | with_reducible exact Mine.succ_ne1
      | with_reducible exact Mine.succ_ne2
      | (with_reducible refine' Mine.less_ne ?h_5 ?m_5; (case h_5 => with_reducible assumption); (case m_5 => kst_mem))
      | (with_reducible refine' Mine.less_en ?h_5 ?m_5; (case h_5 => with_reducible assumption); (case m_5 => kst_mem))
      | (with_reducible refine' Mine.less_ne1 ?h_5 ?m_5; (case h_5 => with_reducible assumption); (case m_5 => kst_mem))
      | (with_reducible refine' Mine.less_en1 ?h_5 ?m_5; (case h_5 => with_reducible assumption); (case m_5 => kst_mem))
      | (with_reducible refine' Mine.less_ne2 ?h_5 ?m_5; (case h_5 => with_reducible assumption); (case m_5 => kst_mem))
      | (with_reducible refine' Mine.less_en2 ?h_5 ?m_5; (case h_5 => with_reducible assumption); (case m_5 => kst_mem))
      | (with_reducible refine' Mine.less_ne3 ?h_5 ?m_5; (case h_5 => with_reducible assumption); (case m_5 => kst_mem))
      | (with_reducible refine' Mine.less_en3 ?h_5 ?m_5; (case h_5 => with_reducible assumption); (case m_5 => kst_mem))
      | (with_reducible refine' Mine.less_ne4 ?h_5 ?m_5; (case h_5 => with_reducible assumption); (case m_5 => kst_mem))
      | (with_reducible refine' Mine.less_en4 ?h_5 ?m_5; (case h_5 => with_reducible assumption); (case m_5 => kst_mem))
      | (with_reducible refine' Mine.less_ne5 ?h_5 ?m_5; (case h_5 => with_reducible assumption); (case m_5 => kst_mem))
      | (with_reducible refine' Mine.less_en5 ?h_5 ?m_5; (case h_5 => with_reducible assumption); (case m_5 => kst_mem))
      | (with_reducible refine' Mine.lt_ne2 ?k_5 ?h_5 ?m_5; (case k_5 => with_reducible assumption); (case h_5 => with_reducible assumption); (case m_5 => kst_mem))
      | (with_reducible refine' Mine.lt_en2 ?k_5 ?h_5 ?m_5; (case k_5 => with_reducible assumption); (case h_5 => with_reducible assumption); (case m_5 => kst_mem)))
    | fail
  k_with "k_ne" => first
    | (first | tb_start | ((try dsimp only); (refine neN ?_); first | tb_start | omega))
    | fail
  trivial
inductive Kids (N : List (Addr × Obj)) : List Value → List Tr → Prop where
  | nil : Kids N [] []
  | cons {v : Value} {t : Tr} {vs : List Value} {ts : List Tr} : TrIn N v t → Kids N vs ts → Kids N (v :: vs) (t :: ts)
theorem Kids.mono {N N' : List (Addr × Obj)} {vs : List Value} {ts : List Tr} (h : Kids N vs ts) (s : ∀ p ∈ N, p ∈ N') : Kids N' vs ts := by
  induction h with
  | nil => exact .nil
  | cons x _ ih => exact .cons (x.mono s) ih
theorem Kids.snoc {N : List (Addr × Obj)} {v : Value} {t : Tr} {vs : List Value} {ts : List Tr} (h : Kids N vs ts) (a : TrIn N v t) : Kids N (vs ++ [v]) (ts ++ [t]) := by
  induction h with
  | nil => exact .cons a .nil
  | cons x _ ih => exact .cons x ih
theorem Kids.length {N : List (Addr × Obj)} {vs : List Value} {ts : List Tr} (h : Kids N vs ts) : vs.length = ts.length := by
  induction h with
  | nil => rfl
  | cons x _ ih => simp [ih]
theorem Kids.get {N : List (Addr × Obj)} {vs : List Value} {ts : List Tr} (h : Kids N vs ts) : ∀ {i : Nat} {v : Value}, vs[i]? = some v → ∃ t, ts[i]? = some t ∧ TrIn N v t := by
  induction h with
  | nil => intro i v e; simp at e
  | cons x _ ih =>
    intro i v e
    cases i with
    | zero => simp at e; exact ⟨_, by simp, e ▸ x⟩
    | succ i => simp at e; obtain ⟨t, h1, h2⟩ := ih e; exact ⟨t, by simpa using h1, h2⟩
def regsL : List Tr → List Rv
  | [] => []
  | t :: r => t.regs ++ regsL r
def numL (n : Nat) : List Tr → List Tr
  | [] => []
  | t :: r => t.num n :: numL (n + t.regs.length) r
theorem regsL_snoc (t : Tr) : ∀ ts : List Tr, regsL (ts ++ [t]) = regsL ts ++ t.regs
  | [] => by simp [regsL]
  | x :: r => by simp [regsL, regsL_snoc t r]
theorem numL_snoc (t : Tr) : ∀ (ts : List Tr) (n : Nat), numL n (ts ++ [t]) = numL n ts ++ [t.num (n + (regsL ts).length)]
  | [], n => by simp [numL, regsL]
  | x :: r, n => by simp [numL, regsL, numL_snoc t r, Nat.add_assoc]
theorem regsL_take (xs : List Tr) (t : Tr) : ∀ (i : Nat), xs[i]? = some t → (regsL (xs.take i)).length + t.regs.length ≤ (regsL xs).length := by
  induction xs with
  | nil => intro i e; simp at e
  | cons x r ih =>
    intro i e
    cases i with
    | zero => simp at e; subst e; simp [regsL]
    | succ i => simp at e; have := ih i e; simp [regsL]; omega
theorem take_snoc {α : Type} {ts : List α} {i : Nat} {t : α} (e : ts[i]? = some t) : ts.take (i + 1) = ts.take i ++ [t] := by
  rw [List.take_add_one, e]; rfl
theorem mem_of_get {α : Type} {ts : List α} {i : Nat} {t : α} (e : ts[i]? = some t) : t ∈ ts := List.mem_of_getElem? e
def KidPost (T : List (Addr × Obj)) (hs : List Value) (g : Obj → List (Addr × Obj)) (xs : List Tr) (i : Nat) (ys : List Value) (l : List (Addr × Obj)) : Prop :=
  ∃ os n' tl, l = g (listOf (List.toArray (hs ++ os)) n') ++ tl ∧ Kids (T ++ tl) ys (numL hs.length (xs.take i)) ∧ RVs os (regsL (xs.take i)) ∧ ∀ o, ∀ q ∈ g o, ∀ p ∈ tl, @LT.lt Nat _ q.1 p.1
def TurnPost (its : List Value) (rs : List Rv) (hs : List Value) (g : Obj → List (Addr × Obj)) (i : Nat) (ys : List Value) (l : List (Addr × Obj)) : Prop :=
  ∃ os n', l = g (listOf (List.toArray (hs ++ os)) n') ∧ os = its.take i ∧ RVs ys (numsFrom hs.length (rs.take i))
section
variable {prog : Program} {w : World} {A : Around} {h₀ : Heap} {L : Addr} {m : Str → Option Value} {env : Env} {s : Shared}
theorem off_app {I C D : Addr} {a b : List (Addr × Obj)} (h : LCg.Off3 I C D (a ++ b)) : LCg.Off3 I C D a ∧ LCg.Off3 I C D b :=
  ⟨LCg.Off3.of fun p hp => h.mem p (List.mem_append.mpr (.inl hp)), LCg.Off3.of fun p hp => h.mem p (List.mem_append.mpr (.inr hp))⟩
theorem UpdF.swap {d : Addr} {o : Obj} {l : List (Addr × Obj)} {g : Obj → List (Addr × Obj)} (U : UpdF d o l g) {o1 o2 : Obj} {p : Addr × Obj} (h : p ∈ g o1) : ∃ z, (p.1, z) ∈ g o2 := by
  obtain ⟨R, _, hg, _⟩ := UpdF.out U
  rcases List.mem_cons.mp ((hg _ p).mp h) with rfl | h
  · exact ⟨o2, (hg _ _).mpr (.head _)⟩
  · exact ⟨p.2, (hg _ _).mpr (.tail _ h)⟩
theorem UpdF.keeps_tup {d a : Addr} {hs its : List Value} {n k : Nat} {l : List (Addr × Obj)} {g : Obj → List (Addr × Obj)} (U : UpdF d (listOf hs.toArray n) l g) (h : (a, tupO its k) ∈ l) (o : Obj) : (a, tupO its k) ∈ g o := by
  obtain ⟨R, _, hg, hl⟩ := UpdF.out U
  rcases List.mem_cons.mp ((hl _).mp h) with e | h
  · have e2 : Value.type "tuple" = Value.type "list" := congrArg (fun p => p.2.cls) e
    exact absurd e2 (by simp)
  · exact (hg _ _).mpr (.tail _ h)
theorem kid_end {I C D ax : Addr} {s₁ : Shared} {oI oC oD : Obj} {y : Value} {h' : Heap} {tk i ka k : Nat} {its hs ys os xs9 : List Value} {xs : List Tr} {t : Tr} {g : Obj → List (Addr × Obj)} {all l₀ tl tl9 T : List (Addr × Obj)} {o1 o2 o3 : Obj}
    (F : Fr h₀ L h' m) (N : News h₀ L h' all) (hK : Kids (T ++ tl) ys (numL hs.length (xs.take i))) (hR : RVs os (regsL (xs.take i))) (hi : xs[i]? = some t) (ht : ∀ k, k = (hs ++ os).length → TrIn (T ++ tl9) y (t.num k)) (hx : RVs xs9 t.regs)
    (f9 : ∀ q ∈ l₀, ∀ p ∈ tl9, q.1 < p.1) (mI : (I, o1) ∈ l₀) (mC : (C, o2) ∈ l₀) (mD : (D, o3) ∈ l₀) (hl0 : ∀ o, ∀ q ∈ g o, ∃ o', (q.1, o') ∈ l₀) (hq : ∀ o, ∀ q ∈ g o, ∀ p ∈ tl, @LT.lt Nat _ q.1 p.1)
    (offA : ∀ o, LCg.Off3 I C D (g o)) (offt : LCg.Off3 I C D tl) (hS : ∀ o, (ax, tupO its k) ∈ g o) (m1 : (I, oI) ∈ all) (m2 : (C, oC) ∈ all) (m3 : (D, oD) ∈ all) (hs0 : ∀ p ∈ g (listOf (hs ++ (os ++ xs9)).toArray ka), p ∈ all) (hs1 : ∀ p ∈ tl, p ∈ all) (hs2 : ∀ p ∈ tl9, p ∈ all) :
    LCg.CompEnd h₀ L m s₁ I oI C oC D oD (TupAt ax its.toArray) (fun y news' => KidPost T hs g xs (i + 1) (ys ++ [y]) news') y { s₁ with heap := h', toks := tk } := by
  refine LCg.CompEnd.intro F N (g (listOf (hs ++ (os ++ xs9)).toArray ka) ++ (tl ++ tl9)) (fun p hp => ?_) (LCg.Off3.of fun p hp => ?_) ⟨_, List.mem_append.mpr (.inl (hS _)), rfl, _, rfl⟩ ⟨os ++ xs9, ka, tl ++ tl9, rfl, ?_, ?_, ?_⟩
  · rcases List.mem_cons.mp hp with rfl | hp
    · exact m1
    rcases List.mem_cons.mp hp with rfl | hp
    · exact m2
    rcases List.mem_cons.mp hp with rfl | hp
    · exact m3
    rcases List.mem_append.mp hp with hp | hp
    · exact hs0 p hp
    rcases List.mem_append.mp hp with hp | hp
    · exact hs1 p hp
    · exact hs2 p hp
  · rcases List.mem_append.mp hp with hp | hp
    · exact (offA _).mem p hp
    rcases List.mem_append.mp hp with hp | hp
    · exact offt.mem p hp
    · exact ⟨Nat.ne_of_gt (f9 _ mI p hp), Nat.ne_of_gt (f9 _ mC p hp), Nat.ne_of_gt (f9 _ mD p hp)⟩
  · rw [take_snoc hi, numL_snoc]
    refine (hK.mono fun p hp => ?_).snoc ((ht _ (by rw [List.length_append, hR.length])).mono fun p hp => ?_)
    · rcases List.mem_append.mp hp with hp | hp
      · exact List.mem_append.mpr (.inl hp)
      · exact List.mem_append.mpr (.inr (List.mem_append.mpr (.inl hp)))
    · rcases List.mem_append.mp hp with hp | hp
      · exact List.mem_append.mpr (.inl hp)
      · exact List.mem_append.mpr (.inr (List.mem_append.mpr (.inr hp)))
  · rw [take_snoc hi, regsL_snoc]; exact hR.append hx
  · intro o q hqm p hp
    rcases List.mem_append.mp hp with hp | hp
    · exact hq o q hqm p hp
    · obtain ⟨o', ho'⟩ := hl0 o q hqm
      exact f9 _ ho' p hp
theorem comp_kids {elt : PySem.Expr} {x : Str} {scope : Scope} {cl : List (Str × Addr)} {Fin : Shared → List Value → List (Addr × Obj) → Prop} {ax hrd : Addr} {its hs : List Value} {xs : List Tr} {n k H : Nat} {T l : List (Addr × Obj)} {g : Obj → List (Addr × Obj)} {mean : ExcName → Option Value} {mg mb : Str → Option Value}
    (hh : A.handled = none) (F : Fr h₀ L s.heap m) (N : News h₀ L s.heap l) (hm : (ax, tupO its k) ∈ l) (hsz : its.length < 1000) (_ne : ∀ p ∈ T, p.1 ≠ hrd) (U : UpdF hrd (listOf hs.toArray n) l g) (K : Kids T its xs) (hP : ∀ t ∈ xs, TdSpec w mean mg mb t) (hH : ∀ t ∈ xs, t.ht + 1 ≤ H) (hlen : hs.length + (regsL xs).length < 1000)
    (turn : ∀ i t v ys os n' tl I oI C oC D m₂ h tk (E' : Value → Shared → Prop), TdSpec w mean mg mb t → TrIn T v t → t.ht + 1 ≤ H → hs.length + os.length + t.regs.length < 1000 → xs[i]? = some t → Kids (T ++ tl) ys (numL hs.length (xs.take i)) → RVs os (regsL (xs.take i)) → LCg.NsObj oC m₂ → m₂ x = some v → Fr h₀ L h m → News h₀ L h ((I, oI) :: (C, oC) :: (D, LCg.lst ys) :: (g (listOf (List.toArray (hs ++ os)) n') ++ tl)) → LCg.Off3 I C D (g (listOf (List.toArray (hs ++ os)) n')) → LCg.Off3 I C D tl → (∀ o, LCg.Off3 I C D (g o)) → Apart I C → Apart I D → Apart C D →
      (∀ o, ∀ q ∈ g o, ∀ p ∈ tl, @LT.lt Nat _ q.1 p.1) → (∀ q ∈ g (listOf (List.toArray (hs ++ os)) n'), ∀ p ∈ tl, @LT.lt Nat _ q.1 p.1) → (∀ o, ∀ q ∈ g o, ∃ o', (q.1, o') ∈ (I, oI) :: (C, oC) :: (D, LCg.lst ys) :: (g (listOf (List.toArray (hs ++ os)) n') ++ tl)) → (∀ o, (ax, tupO its k) ∈ g o) →
      wpAny (model prog w) A (eval elt (compEnvC scope cl C env)) (LCg.CompEnd h₀ L m { s with heap := h, toks := tk } I oI C oC D (LCg.lst ys) (TupAt ax its.toArray) (fun y news' => KidPost T hs g xs (i + 1) (ys ++ [y]) news')) E' { s with heap := h, toks := tk })
    (done : ∀ g' ys os n' tl, ys.length = its.length → Kids (T ++ tl) ys (numL hs.length xs) → RVs os (regsL xs) → os.length = (regsL xs).length → (∀ q ∈ g (listOf (List.toArray (hs ++ os)) n'), ∀ p ∈ tl, @LT.lt Nat _ q.1 p.1) → ∀ l', l' = g (listOf (List.toArray (hs ++ os)) n') ++ tl → Fin { s with heap := g' } ys l') :
    SrcT prog w A h₀ L m env elt x scope cl Fin (.ref ax) s := by
  refine SrcT.intro hh F N hm hsz fun g' => ?_
  have eL := K.length
  refine comp_inv (s := { s with heap := g' }) (n := its.length) (fun i ys news => ys.length = i ∧ KidPost T hs g xs i ys news) ?_ ?_ its.length 0 [] l (by omega) ⟨rfl, [], n, [], ?_, .nil, .nil, fun _ _ _ _ h => nomatch h⟩
  · rintro i ys news v I oI C oC D m₂ h tk E' hi ⟨rfl, os, n', tl, rfl, hK, hR, hq⟩ hv hC hx F' N' off ne
    have hv' : its[ys.length]? = some v := by simpa using hv
    obtain ⟨t, ht, hin⟩ := K.get hv'
    have offA : ∀ o, LCg.Off3 I C D (g o) := fun o => LCg.Off3.of fun p hp => by
      obtain ⟨z, hz⟩ := UpdF.swap U (o2 := listOf (List.toArray (hs ++ os)) n') hp
      exact (off_app off).1.mem (p.1, z) hz
    have tl1 := regsL_take xs t _ ht
    have tl2 := hR.length
    refine wpAny_mono (turn ys.length t v ys os n' tl I oI C oC D m₂ h tk E' (hP _ (mem_of_get ht)) hin (hH _ (mem_of_get ht)) (by omega) ht hK hR hC hx F' N' (off_app off).1 (off_app off).2 offA ne.1 ne.2.1 ne.2.2 hq (hq _) (fun o q hqm => ?_) (UpdF.keeps_tup U hm))
      (fun y s₂ q => CompEnd.mono q fun l hl => ⟨by simp, hl⟩) fun _ _ e => e
    obtain ⟨z, hz⟩ := UpdF.swap U (o2 := listOf (List.toArray (hs ++ os)) n') hqm
    exact ⟨z, .tail _ (.tail _ (.tail _ (List.mem_append.mpr (.inl hz))))⟩
  · rintro ys news ⟨hl, os, n', tl, rfl, hK, hR, hq⟩
    rw [eL, List.take_length] at hK hR
    exact done g' ys os n' tl hl hK hR hR.length (hq _) _ rfl
  · rw [List.append_nil, List.append_nil, UpdF.same U]
theorem turns_end {I C D ax : Addr} {s₁ : Shared} {oI oC oD : Obj} {h' : Heap} {tk i ka k : Nat} {its hs ys os : List Value} {rs : List Rv} {v : Value} {z : Int} {tz : Tok} {g : Obj → List (Addr × Obj)} {all : List (Addr × Obj)}
    (F : Fr h₀ L h' m) (N : News h₀ L h' all) (hos : os = its.take i) (hv : its[i]? = some v) (hr : RVs its rs) (hY : RVs ys (numsFrom hs.length (rs.take i))) (hz : z = (((hs ++ os).length + 1 : Nat) : Int)) (offA : ∀ o, LCg.Off3 I C D (g o)) (hS : ∀ o, (ax, tupO its k) ∈ g o)
    (m1 : (I, oI) ∈ all) (m2 : (C, oC) ∈ all) (m3 : (D, oD) ∈ all) (hs0 : ∀ p ∈ g (listOf (hs ++ (os ++ [v])).toArray ka), p ∈ all) :
    LCg.CompEnd h₀ L m s₁ I oI C oC D oD (TupAt ax its.toArray) (fun y news' => TurnPost its rs hs g (i + 1) (ys ++ [y]) news') (.int z tz) { s₁ with heap := h', toks := tk } := by
  subst hos
  obtain ⟨r, hr1, hr2⟩ : ∃ r, rs[i]? = some r ∧ (rs.take i).length = i := by
    have e := hr.length
    have hi : i < its.length := by
      rcases Nat.lt_or_ge i its.length with h | h
      · exact h
      · rw [List.getElem?_eq_none h] at hv; exact absurd hv (by simp)
    exact ⟨rs[i]'(by omega), List.getElem?_eq_getElem (by omega), by rw [List.length_take]; omega⟩
  have hi : (its.take i).length = i := by
    have := hr.length
    have h2 := congrArg List.length (take_snoc hr1)
    rw [List.length_take, List.length_append] at h2
    simp only [List.length_take, List.length_cons, List.length_nil] at h2 hr2 ⊢
    omega
  refine LCg.CompEnd.intro F N (g (listOf (hs ++ (its.take i ++ [v])).toArray ka)) (fun p hp => ?_) (offA _) ⟨_, hS _, rfl, _, rfl⟩ ⟨its.take i ++ [v], ka, rfl, (take_snoc hv).symm, ?_⟩
  · rcases List.mem_cons.mp hp with rfl | hp
    · exact m1
    rcases List.mem_cons.mp hp with rfl | hp
    · exact m2
    rcases List.mem_cons.mp hp with rfl | hp
    · exact m3
    exact hs0 p hp
  · rw [take_snoc hr1]
    refine nums_snoc hY ?_
    rw [hz, hr2, List.length_append, hi]
theorem comp_turns {elt : PySem.Expr} {x : Str} {scope : Scope} {cl : List (Str × Addr)} {Fin : Shared → List Value → List (Addr × Obj) → Prop} {ax hrd : Addr} {its hs : List Value} {rs : List Rv} {n k : Nat} {T l : List (Addr × Obj)} {g : Obj → List (Addr × Obj)}
    (hh : A.handled = none) (F : Fr h₀ L s.heap m) (N : News h₀ L s.heap l) (hm : (ax, tupO its k) ∈ l) (hsz : hs.length + its.length < 1000) (_ne : ∀ p ∈ T, p.1 ≠ hrd) (U : UpdF hrd (listOf hs.toArray n) l g) (hr : RVs its rs)
    (turn : ∀ i v ys os n' I oI C oC D m₂ h tk (E' : Value → Shared → Prop), os = its.take i → hs.length + os.length < 1000 → its[i]? = some v → RVs ys (numsFrom hs.length (rs.take i)) → LCg.NsObj oC m₂ → m₂ x = some v → Fr h₀ L h m → News h₀ L h ((I, oI) :: (C, oC) :: (D, LCg.lst ys) :: g (listOf (List.toArray (hs ++ os)) n')) → LCg.Off3 I C D (g (listOf (List.toArray (hs ++ os)) n')) → (∀ o, LCg.Off3 I C D (g o)) → Apart I C → Apart I D → Apart C D → (∀ o, (ax, tupO its k) ∈ g o) →
      wpAny (model prog w) A (eval elt (compEnvC scope cl C env)) (LCg.CompEnd h₀ L m { s with heap := h, toks := tk } I oI C oC D (LCg.lst ys) (TupAt ax its.toArray) (fun y news' => TurnPost its rs hs g (i + 1) (ys ++ [y]) news')) E' { s with heap := h, toks := tk })
    (done : ∀ g' ys n' hs2, hs2 = hs ++ its → hs2.length = hs.length + its.length → ys.length = its.length → RVs ys (numsFrom hs.length rs) → ∀ l', l' = g (listOf (List.toArray hs2) n') → Fin { s with heap := g' } ys l') :
    SrcT prog w A h₀ L m env elt x scope cl Fin (.ref ax) s := by
  refine SrcT.intro hh F N hm (by omega) fun g' => ?_
  have eL := hr.length
  refine comp_inv (s := { s with heap := g' }) (n := its.length) (fun i ys news => ys.length = i ∧ TurnPost its rs hs g i ys news) ?_ ?_ its.length 0 [] l (by omega) ⟨rfl, [], n, ?_, rfl, .nil⟩
  · rintro i ys news v I oI C oC D m₂ h tk E' hi ⟨rfl, os, n', rfl, hos, hY⟩ hv hC hx F' N' off ne
    have hv' : its[ys.length]? = some v := by simpa using hv
    have offA : ∀ o, LCg.Off3 I C D (g o) := fun o => LCg.Off3.of fun p hp => by
      obtain ⟨z, hz⟩ := UpdF.swap U (o2 := listOf (List.toArray (hs ++ os)) n') hp
      exact off.mem (p.1, z) hz
    have lo : os.length ≤ its.length := by rw [hos, List.length_take]; omega
    exact wpAny_mono (turn ys.length v ys os n' I oI C oC D m₂ h tk E' hos (by omega) hv' hY hC hx F' N' off offA ne.1 ne.2.1 ne.2.2 (UpdF.keeps_tup U hm))
      (fun y s₂ q => CompEnd.mono q fun l hl => ⟨by simp, hl⟩) fun _ _ e => e
  · rintro ys news ⟨hl, os, n', rfl, hos, hY⟩
    rw [List.take_length] at hos
    subst hos
    rw [eL, List.take_length] at hY
    exact done g' ys n' _ rfl (List.length_append) hl hY _ rfl
  · rw [List.append_nil, UpdF.same U]
end
/-- a tree of the kind tuple, its children as a list -/
structure TupView (t : Tr) (xs : List Tr) : Prop where
  regs : t.regs = regsL xs
  ht : ∀ x ∈ xs, x.ht + 1 ≤ t.ht
  len : xs.length ≤ 2
  inn : ∀ {N v}, TrIn N v t → ∃ a b n n' tk its, v = .ref a ∧ (a, tupO [.str (Str.ofString "tuple") tk, .ref b] n) ∈ N ∧ (b, tupO its n') ∈ N ∧ Kids N its xs
  hle : ∀ {d}, (∀ x ∈ xs, x.ht ≤ d) → t.ht ≤ d + 1
  bld : ∀ {N : List (Addr × Obj)} {a b n n' tk ws}, (a, tupO [.str (Str.ofString "tuple") tk, .ref b] n) ∈ N → (b, tupO ws n') ∈ N → Kids N ws xs → TrIn N (.ref a) t
  out : ∀ {N : List (Addr × Obj)} {k a b n n' tk ws}, (a, tupO [.str (Str.ofString "tuple") tk, .ref b] n) ∈ N → (b, tupO ws n') ∈ N → Kids N ws (numL k xs) → TrIn N (.ref a) (t.num k)
theorem view_tup0 : TupView .tup0 [] where
  regs := rfl
  ht := fun x h => nomatch h
  len := by decide
  inn := fun h => by cases h with | tup0 q1 q2 => exact ⟨_, _, _, _, _, _, rfl, q1, q2, .nil⟩
  hle := fun _ => by simp [Tr.ht]
  bld := fun q1 q2 h => by cases h; exact .tup0 q1 q2
  out := fun q1 q2 h => by cases h; exact .tup0 q1 q2
theorem view_tup1 (x : Tr) : TupView (.tup1 x) [x] where
  regs := by simp [Tr.regs, regsL]
  ht := fun y h => by simp at h; subst h; simp [Tr.ht]
  len := by simp
  inn := fun h => by cases h with | tup1 q1 q2 h1 => exact ⟨_, _, _, _, _, _, rfl, q1, q2, .cons h1 .nil⟩
  hle := fun h => by have := h _ (List.mem_singleton.mpr rfl); simp [Tr.ht]; omega
  bld := fun q1 q2 h => by cases h with | cons h1 h2 => cases h2; exact .tup1 q1 q2 h1
  out := fun q1 q2 h => by cases h with | cons h1 h2 => cases h2; exact .tup1 q1 q2 h1
theorem view_tup2 (x y : Tr) : TupView (.tup2 x y) [x, y] where
  regs := by simp [Tr.regs, regsL]
  ht := fun z h => by simp at h; rcases h with h | h <;> subst h <;> simp [Tr.ht] <;> omega
  len := by simp
  inn := fun h => by cases h with | tup2 q1 q2 h1 h2 => exact ⟨_, _, _, _, _, _, rfl, q1, q2, .cons h1 (.cons h2 .nil)⟩
  hle := fun h => by have := h _ (.head _); have := h _ (.tail _ (.head _)); simp only [Tr.ht]; omega
  bld := fun q1 q2 h => by cases h with | cons h1 h2 => cases h2 with | cons h2 h3 => cases h3; exact .tup2 q1 q2 h1 h2
  out := fun q1 q2 h => by cases h with | cons h1 h2 => cases h2 with | cons h2 h3 => cases h3; exact .tup2 q1 q2 h1 h2
structure AdtView (t : Tr) (rs : List Rv) (xs : List Tr) : Prop where
  regs : t.regs = rs ++ regsL xs
  ht : ∀ x ∈ xs, x.ht + 1 ≤ t.ht
  len : xs.length ≤ 2
  inn : ∀ {N v}, TrIn N v t → ∃ a b c n n' n2 tk tk' rvs its, v = .ref a ∧ (a, tupO [.str (Str.ofString "adt") tk, .str (Str.ofString "S") tk', .ref c, .ref b] n) ∈ N ∧ (c, tupO rvs n2) ∈ N ∧ RVs rvs rs ∧ rs.length ≤ 2 ∧ (b, tupO its n') ∈ N ∧ Kids N its xs
  hle : ∀ {d}, (∀ x ∈ xs, x.ht ≤ d) → t.ht ≤ d + 1
  bld : ∀ {N : List (Addr × Obj)} {a b c n n' n2 tk tk' rvs ws}, (a, tupO [.str (Str.ofString "adt") tk, .str (Str.ofString "S") tk', .ref c, .ref b] n) ∈ N → (c, tupO rvs n2) ∈ N → RVs rvs rs → rs.length ≤ 2 → (b, tupO ws n') ∈ N → Kids N ws xs → TrIn N (.ref a) t
  out : ∀ {N : List (Addr × Obj)} {k k2 a b c n n' n2 tk tk' rvs ws}, (a, tupO [.str (Str.ofString "adt") tk, .str (Str.ofString "S") tk', .ref c, .ref b] n) ∈ N → (c, tupO rvs n2) ∈ N → RVs rvs (numsFrom k rs) → rs.length ≤ 2 → (b, tupO ws n') ∈ N → Kids N ws (numL k2 xs) → k2 = k + rs.length → TrIn N (.ref a) (t.num k)
theorem view_adt0 (rs : List Rv) : AdtView (.adt0 rs) rs [] where
  regs := by simp [Tr.regs, regsL]
  ht := fun x h => nomatch h
  len := by decide
  inn := fun h => by cases h with | adt0 q1 q2 r l q3 => exact ⟨_, _, _, _, _, _, _, _, _, _, rfl, q1, q2, r, l, q3, .nil⟩
  hle := fun _ => by simp [Tr.ht]
  bld := fun q1 q2 r l q3 h => by cases h; exact .adt0 q1 q2 r l q3
  out := fun q1 q2 r l q3 h e => by cases h; exact .adt0 q1 q2 r (by rw [numsFrom_len]; exact l) q3
theorem view_adt1 (rs : List Rv) (x : Tr) : AdtView (.adt1 rs x) rs [x] where
  regs := by simp [Tr.regs, regsL]
  ht := fun y h => by simp at h; subst h; simp [Tr.ht]
  len := by simp
  inn := fun h => by cases h with | adt1 q1 q2 r l q3 h1 => exact ⟨_, _, _, _, _, _, _, _, _, _, rfl, q1, q2, r, l, q3, .cons h1 .nil⟩
  hle := fun h => by have := h _ (List.mem_singleton.mpr rfl); simp [Tr.ht]; omega
  bld := fun q1 q2 r l q3 h => by cases h with | cons h1 h2 => cases h2; exact .adt1 q1 q2 r l q3 h1
  out := fun q1 q2 r l q3 h e => by subst e; cases h with | cons h1 h2 => cases h2; exact .adt1 q1 q2 r (by rw [numsFrom_len]; exact l) q3 h1
theorem view_adt2 (rs : List Rv) (x y : Tr) : AdtView (.adt2 rs x y) rs [x, y] where
  regs := by simp [Tr.regs, regsL]
  ht := fun z h => by simp at h; rcases h with h | h <;> subst h <;> simp [Tr.ht] <;> omega
  len := by simp
  inn := fun h => by cases h with | adt2 q1 q2 r l q3 h1 h2 => exact ⟨_, _, _, _, _, _, _, _, _, _, rfl, q1, q2, r, l, q3, .cons h1 (.cons h2 .nil)⟩
  hle := fun h => by have := h _ (.head _); have := h _ (.tail _ (.head _)); simp only [Tr.ht]; omega
  bld := fun q1 q2 r l q3 h => by cases h with | cons h1 h2 => cases h2 with | cons h2 h3 => cases h3; exact .adt2 q1 q2 r l q3 h1 h2
  out := fun q1 q2 r l q3 h e => by subst e; cases h with | cons h1 h2 => cases h2 with | cons h2 h3 => cases h3; exact .adt2 q1 q2 r (by rw [numsFrom_len]; exact l) q3 h1 h2
theorem tup_tree : ∀ (ts : List Tr), ts.length ≤ 2 → ∃ t, TupView t ts
  | [], _ => ⟨_, view_tup0⟩
  | [x], _ => ⟨_, view_tup1 x⟩
  | [x, y], _ => ⟨_, view_tup2 x y⟩
  | _ :: _ :: _ :: _, h => absurd h (by simp)
theorem adt_tree (rs : List Rv) : ∀ (ts : List Tr), ts.length ≤ 2 → ∃ t, AdtView t rs ts
  | [], _ => ⟨_, view_adt0 rs⟩
  | [x], _ => ⟨_, view_adt1 rs x⟩
  | [x, y], _ => ⟨_, view_adt2 rs x y⟩
  | _ :: _ :: _ :: _, h => absurd h (by simp)
end
section
theorem words_15 : True := by
  w_top off
  k_with_none
  k_with "kst_mem" => first
    | (first
      | with_reducible assumption
      | with_reducible exact List.mem_cons_self
      | (with_reducible refine List.mem_cons_of_mem _ ?_; kst_mem)
      | (with_reducible refine List.mem_append.mpr (Or.inl ?_); kst_mem)
      | (with_reducible refine List.mem_append.mpr (Or.inr ?_); kst_mem)
      | fail "kst_mem")
    | fail
  k_with "k_mem" => first
    | (kst_mem)
    | fail
  k_with "k_all" => first
    | (first
      | with_reducible assumption
      | exact List.forall_mem_nil _
      | (with_reducible refine' Mine.less_sub ?h_2 ?m_2; (case h_2 => with_reducible assumption); (case m_2 => (intro p9 h9; kst_mem)))
      | (with_reducible refine' Mine.less_sub1 ?h_2 ?m_2; (case h_2 => with_reducible assumption); (case m_2 => (intro p9 h9; kst_mem)))
      | (with_reducible refine' Mine.less_sub2 ?h_2 ?m_2; (case h_2 => with_reducible assumption); (case m_2 => (intro p9 h9; kst_mem)))
      | (with_reducible refine' Mine.less_sub3 ?h_2 ?m_2; (case h_2 => with_reducible assumption); (case m_2 => (intro p9 h9; kst_mem)))
      | (with_reducible refine' Mine.less_sub4 ?h_2 ?m_2; (case h_2 => with_reducible assumption); (case m_2 => (intro p9 h9; kst_mem)))
      | (with_reducible refine' Mine.less_sub5 ?h_2 ?m_2; (case h_2 => with_reducible assumption); (case m_2 => (intro p9 h9; kst_mem)))
      | (refine' List.forall_mem_cons.mpr ⟨?a_2, ?b_2⟩; (case a_2 => k_ne); (case b_2 => k_all))
      | exact Mine.allLt_ne (by with_reducible assumption)
      | exact Mine.fresh_ne (by with_reducible assumption) (by k_mem)
      | (refine' List.forall_mem_append.mpr ⟨?_, ?_⟩ <;> k_all))
    | fail
  k_with "kqd_sub" => first
    | (first
      | exact fun _ h => h
      | exact List.forall_mem_nil _
      | (refine' List.forall_mem_cons.mpr ⟨?kqa_3, ?kqb_3⟩; (case kqa_3 => k_mem); (case kqb_3 => kqd_sub))
      | (refine' List.forall_mem_append.mpr ⟨?_, ?_⟩ <;> kqd_sub)
      | (intro p9 h9; k_mem))
    | fail
  k_with "ktr_enter" => first
    | (refine' code_defC ?k1_4 ?k2_4 ?k3_4 ?k4_4 ?k5_4 ?kA_4 ?kF_4 ?kK_4 ?k6_4 ?k7_4 ?k8_4 ?k9_4 ?kB_4 ?kD_4 ?_ ?c2_4 ?c3_4 ?c4_4; (case kA_4 => exact rfl); (case kF_4 => exact rfl); (case kK_4 => assumption); (case k1_4 => k_asm); (case k2_4 => k_asm); (case k3_4 => k_asm); (case k4_4 => k_asm); (case k5_4 => k_asm); (case k6_4 => k_is); (case k7_4 => k_is); (case k8_4 => ktr_room); (case k9_4 => exact BindsTo.of_eq rfl); (case kB_4 => exact rfl); (case kD_4 => decide +kernel); (case c2_4 => exact rfl); (case c3_4 => exact rfl); (case c4_4 => exact rfl); k_whole; intro g' L' h' tk' cells' FG' F' N' Y' B' X' T' l1; (try k_lt l1); k_cells Y'; (try simp only [List.cons_append, List.nil_append] at N'); (try dsimp only); (try k_fold))
    | fail
  k_with "tb_start" => first
    | (first
      | with_reducible exact Mine.Apart.ne (by with_reducible assumption)
      | with_reducible exact Mine.Apart.en (by with_reducible assumption)
      | with_reducible exact Mine.succ_ne1
      | with_reducible exact Mine.succ_ne2
      | (with_reducible refine' Mine.less_ne ?h_5 ?m_5; (case h_5 => with_reducible assumption); (case m_5 => kst_mem))
      | (with_reducible refine' Mine.less_en ?h_5 ?m_5; (case h_5 => with_reducible assumption); (case m_5 => kst_mem))
      | (with_reducible refine' Mine.less_ne1 ?h_5 ?m_5; (case h_5 => with_reducible assumption); (case m_5 => kst_mem))
      | (with_reducible refine' Mine.less_en1 ?h_5 ?m_5; (case h_5 => with_reducible assumption); (case m_5 => kst_mem))
      | (with_reducible refine' Mine.less_ne2 ?h_5 ?m_5; (case h_5 => with_reducible assumption); (case m_5 => kst_mem))
      | (with_reducible refine' Mine.less_en2 ?h_5 ?m_5; (case h_5 => with_reducible assumption); (case m_5 => kst_mem))
      | (with_reducible refine' Mine.less_ne3 ?h_5 ?m_5; (case h_5 => with_reducible assumption); (case m_5 => kst_mem))
      | (with_reducible refine' Mine.less_en3 ?h_5 ?m_5; (case h_5 => with_reducible assumption); (case m_5 => kst_mem))
      | (with_reducible refine' Mine.less_ne4 ?h_5 ?m_5; (case h_5 => with_reducible assumption); (case m_5 => kst_mem))
      | (with_reducible refine' Mine.less_en4 ?h_5 ?m_5; (case h_5 => with_reducible assumption); (case m_5 => kst_mem))
      | (with_reducible refine' Mine.less_ne5 ?h_5 ?m_5; (case h_5 => with_reducible assumption); (case m_5 => kst_mem))
      | (with_reducible refine' Mine.less_en5 ?h_5 ?m_5; (case h_5 => with_reducible assumption); (case m_5 => kst_mem))
      | (with_reducible refine' Mine.lt_ne2 ?k_5 ?h_5 ?m_5; (case k_5 => with_reducible assumption); (case h_5 => with_reducible assumption); (case m_5 => kst_mem))
      | (with_reducible refine' Mine.lt_en2 ?k_5 ?h_5 ?m_5; (case k_5 => with_reducible assumption); (case h_5 => with_reducible assumption); (case m_5 => kst_mem)))
    | fail
  k_with "k_ne" => first
    | (first | tb_start | ((try dsimp only); (refine neN ?_); first | tb_start | omega))
    | fail
  k_with "tb_rel" => first
    | (first
      | with_reducible exact Mine.Sim.nil
      | (refine' Mine.Sim.loc ?v_31 ?a_31 ?b_31 ?r_31; (case a_31 => rfl); (case b_31 => rfl); (case v_31 => rfl); (case r_31 => tb_rel))
      | (refine' Mine.Sim.cell ?c_31 ?m_31 ?d_31 ?a_31 ?b_31 ?r_31; (case a_31 => rfl); (case b_31 => rfl); (case c_31 => rfl); (case m_31 => kst_mem); (case d_31 => k_asm); (case r_31 => tb_rel))
      | (refine' Mine.Sim.str ?r_31; (case r_31 => tb_rel))
      | (refine' Mine.Sim.int ?r_31; (case r_31 => tb_rel)))
    | fail
  k_with "m eval Call" => first
    | (k_here; (with_reducible show wpAny _ _ (eval (Expr.Call (Expr.Name _ _) (_ :: _) [] _) _) _ _ _); k_dflt (refine' Mine.call_sim ?F_32 ?N_32 ?X_32 ?T_32 ?hk_32 ?hx_32 ?hd_32 ?en_32 ?kp_32 ?S_32 ?_; (case F_32 => k_asm); (case N_32 => k_asm); (case X_32 => k_asm); (case T_32 => k_asm); (case hk_32 => rfl); (case hx_32 => rfl); (case hd_32 => rfl); (case en_32 => k_is); (case kp_32 => k_is); (case S_32 => tb_rel); k_whole))
    | fail
  k_with "m eval Tuple" => first
    | (k_here; k_dflt (refine' Mine.tuple_sim ?F_33 ?N_33 ?hk_33 ?S_33 ?hz_33 ?_; (case F_33 => k_asm); (case N_33 => k_asm); (case hk_33 => rfl); (case S_33 => tb_rel); (case hz_33 => exact Nat.le_of_ble_eq_true rfl); k_whole); intro D' h' F' N' l1; (try k_lt l1); (try k_sweep))
    | fail
  k_with "m spliced" => first
    | (k_here; k_dflt (refine' Mine.args_simS ?F_34 ?N_34 ?hk_34 ?S_34 ?_; (case F_34 => k_asm); (case N_34 => k_asm); (case hk_34 => rfl); (case S_34 => tb_rel); k_whole))
    | fail
  k_with "m eval Subscript" => first
    | (k_here; (with_reducible show wpAny _ _ (eval (Expr.Subscript (Expr.Name _ _) (Expr.Constant (Const.int _) _ _) _) _) _ _ _); k_dflt (refine' Mine.sub_sim ?F_35 ?N_35 ?hk_35 ?hx_35 ?hd_35 ?hm_35 ?ht_35 ?hi_35 ?hj_35 ?_ ?hl_35; (case F_35 => k_asm); (case N_35 => k_asm); (case hk_35 => rfl); (case hx_35 => rfl); (case hd_35 => rfl); (case hm_35 => rfl); (case ht_35 => kst_mem); (case hi_35 => rfl); (case hj_35 => rfl); (case hl_35 => exact Nat.le_of_ble_eq_true rfl); k_whole))
    | fail
  k_with "m execs cons" => first
    | (k_here; k_dflt (first
      | ((with_reducible show wpAny _ _ (execs (Stmt.If (Expr.Compare (Expr.Name _ _) [CmpOp.Eq] [Expr.Constant (Const.str _) _ _] _) _ _ _ :: _) _) _ _ _); first
        | (refine' Mine.skip_if ?F_36 ?hk_36 ?hx_36 ?hd_36 ?hm_36 ?hc_36 ?_; (case F_36 => k_asm); (case hk_36 => rfl); (case hx_36 => rfl); (case hd_36 => rfl); (case hm_36 => rfl); (case hc_36 => decide); k_whole)
        | (refine' Mine.take_if ?F_36 ?hk_36 ?hx_36 ?hd_36 ?hm_36 ?hc_36 ?_; (case F_36 => k_asm); (case hk_36 => rfl); (case hx_36 => rfl); (case hd_36 => rfl); (case hm_36 => rfl); (case hc_36 => decide); k_whole))
      | ((with_reducible show wpAny _ _ (execs (Stmt.Assign [Expr.Name _ _] _ _ :: _) _) _ _ _); refine' Mine.assign_one ?_ ?hs_36; (case hs_36 => with_unfolding_all rfl))))
    | fail
  k_with "m call builtin:list.append" => first
    | (k_here; (with_reducible show wpAny _ _ (call (Value.builtin _) (_ ++ _)) _ _ _); simp only [List.cons_append, List.nil_append])
    | fail
  k_with "m call builtin:list.extend" => first
    | (k_here; (with_reducible show wpAny _ _ (call (Value.builtin _) (_ ++ _)) _ _ _); simp only [List.cons_append, List.nil_append])
    | fail
  k_with "m call ref" => first
    | (k_here; (with_reducible show wpAny _ _ (call (Value.ref 87) _) _ _ _); k_dflt (refine' Mine.take_use ?k1_7 ?k2_7 ?k3_7 ?k4_7 ?k5_7 ?k6_7 ?k7_7 ?k8_7 ?k9_7 ?k10_7 ?k11_7 ?k12_7 ?k13_7 ?k14_7 ?_; (case k1_7 => k_asm); (case k2_7 => k_asm); (case k3_7 => k_asm); (case k4_7 => k_asm); (case k5_7 => k_asm); (case k6_7 => first | exact rfl | assumption); (case k7_7 => k_updF); (case k8_7 => assumption); (case k9_7 => assumption); (case k10_7 => assumption); (case k11_7 => omega); (case k12_7 => omega); (case k13_7 => ktr_room); (case k14_7 => ktr_units); k_whole); intro k9 a9 b9 t9 ta9 tb9 h9 tk9 F9 N9 x19 x29 x39 x49 x59; (try dsimp only at N9); (try k_sweep); (try k_fold))
    | fail
  k_with "m call ref" => first
    | (k_here; (with_reducible show wpAny _ _ (call (Value.ref 94) _) _ _ _); k_dflt (refine' Mine.one_use ?k1_10 ?k2_10 ?k3_10 ?k4_10 ?k5_10 ?k6_10 ?k7_10 ?kth_10 ?kne_10 ?kv0_10 ?kv1_10 ?k8_10 ?k9_10 ?k10_10 ?k13_10 ?k14_10 ?_; (case k1_10 => k_asm); (case k2_10 => k_asm); (case k3_10 => k_asm); (case k4_10 => k_asm); (case k5_10 => k_asm); (case k6_10 => first | exact rfl | assumption); (case k7_10 => k_updF); (case kth_10 => k_mem); (case kne_10 => first | assumption | k_ne); (case kv0_10 => first | assumption | (simp only [List.length_cons, List.length_nil]; omega)); (case kv1_10 => first | assumption | (simp only [List.length_cons, List.length_nil]; omega)); (case k8_10 => assumption); (case k9_10 => assumption); (case k10_10 => assumption); (case k13_10 => ktr_room); (case k14_10 => ktr_units); k_whole); intro r9 k9 a9 b9 ta9 tb9 h9 tk9 F9 N9 hv9 hg9 x39 x49 x59; (try dsimp only at N9); (try k_sweep); (try k_fold))
    | fail
  k_with "ktn_lt" => first
    | (first
      | (refine' Mine.Fresh3.of ?f_11 ?a_11 ?b_11 ?c_11; (case f_11 => assumption); (case a_11 => k_mem); (case b_11 => k_mem); (case c_11 => (intro p9 h9; k_mem)))
      | (refine' Mine.Fresh3.app ?_ ?_ <;> ktn_lt))
    | fail
  k_with "ktn_ord" => first
    | (first
      | exact Mine.Rest.nil
      | (refine' Mine.Rest.app _ ?z_12; (case z_12 => ktn_lt))
      | (refine' Mine.Rest.keep ?z_12 ?a_12 ?b_12 ?c_12; (case a_12 => first | (with_reducible refine' Mine.less_allLt ?h_12 ?m_12; (case h_12 => with_reducible assumption); (case m_12 => (intro p9 h9; kst_mem))) | assumption | exact Mine.allLt_left (by assumption)); (case b_12 => first | (with_reducible refine' Mine.less_lt ?h_12 ?m_12; (case h_12 => with_reducible assumption); (case m_12 => kst_mem)) | ((try dsimp only); omega)); (case c_12 => first | (with_reducible refine' Mine.less_lt ?h_12 ?m_12; (case h_12 => with_reducible assumption); (case m_12 => kst_mem)) | ((try dsimp only); omega)); (case z_12 => ktn_ord))
      | (refine' Mine.Rest.drop ?z_12; (case z_12 => ktn_ord)))
    | fail
  k_with "m call ref" => first
    | (k_here; (with_reducible show wpAny _ _ (call (Value.ref 94) _) _ _ _); k_dflt (refine' Mine.oneR_use ?k1_13 ?k2_13 ?k3_13 ?k4_13 ?k5_13 ?k6_13 ?k7_13 ?kth_13 ?kne_13 ?krv_13 ?kv0_13 ?kv1_13 ?k8_13 ?k9_13 ?k10_13 ?k13_13 ?k14_13 ?_; (case k1_13 => k_asm); (case k2_13 => k_asm); (case k3_13 => k_asm); (case k4_13 => k_asm); (case k5_13 => k_asm); (case k6_13 => first | exact rfl | assumption); (case k7_13 => k_updF); (case kth_13 => k_mem); (case kne_13 => first | with_reducible exact Mine.Apart.ne (by with_reducible assumption) | with_reducible assumption | k_ne); (case krv_13 => with_reducible assumption); (case kv0_13 => assumption); (case kv1_13 => assumption); (case k8_13 => assumption); (case k9_13 => assumption); (case k10_13 => assumption); (case k13_13 => ktr_room); (case k14_13 => ktr_units); k_whole); intro r9 q9 a9 b9 ta9 tb9 h9 tk9 hq9 F9 N9 x39 x49 x59; (try dsimp only at N9); (try k_sweep); (try k_fold))
    | fail
  k_with "ktn_open" => first
    | (first
      | (refine' Mine.trIn_due ?h_14 ?e_14 ?s_14; (case h_14 => with_reducible assumption); (case e_14 => first | with_reducible rfl | ((simp only [List.length_append, List.length_cons, List.length_nil, Nat.zero_add]); done) | ((simp only [List.length_append, List.length_cons, List.length_nil, Nat.zero_add]); omega) | omega); (case s_14 => kqd_sub))
      | (refine' Mine.TrIn.mono ?s_14 ?h_14; (case h_14 => with_reducible assumption); (case s_14 => kqd_sub))
      | (with_reducible refine' Mine.TrIn.b ?a0_14; (case a0_14 => kst_mem))
      | (with_reducible refine' Mine.TrIn.i ?a0_14; (case a0_14 => kst_mem))
      | (with_reducible refine' Mine.TrIn.p ?a0_14; (case a0_14 => kst_mem))
      | (with_reducible refine' Mine.TrIn.nv ?a0_14; (case a0_14 => kst_mem))
      | (with_reducible refine' Mine.TrIn.inf ?a0_14; (case a0_14 => kst_mem))
      | (with_reducible refine' Mine.TrIn.ref ?a0_14 ?a1_14 ?a2_14; (case a0_14 => kst_mem); (case a1_14 => ked_reads); (case a2_14 => ktn_open))
      | (with_reducible refine' Mine.TrIn.box ?a0_14 ?a1_14; (case a0_14 => kst_mem); (case a1_14 => ktn_open))
      | (with_reducible refine' Mine.TrIn.arr ?a0_14 ?a1_14; (case a0_14 => kst_mem); (case a1_14 => ktn_open))
      | (with_reducible refine' Mine.TrIn.tup0 ?a0_14 ?a1_14; (case a0_14 => kst_mem); (case a1_14 => kst_mem))
      | (with_reducible refine' Mine.TrIn.tup1 ?a0_14 ?a1_14 ?a2_14; (case a0_14 => kst_mem); (case a1_14 => kst_mem); (case a2_14 => ktn_open))
      | (with_reducible refine' Mine.TrIn.tup2 ?a0_14 ?a1_14 ?_ ?_; (case a0_14 => kst_mem); (case a1_14 => kst_mem); all_goals ktn_open)
      | (with_reducible refine' Mine.TrIn.adt0 ?a0_14 ?a1_14 ?a2_14 ?a3_14 ?a4_14; (case a0_14 => kst_mem); (case a1_14 => kst_mem); (case a2_14 => ked_reads); (case a3_14 => exact Nat.le_of_ble_eq_true rfl); (case a4_14 => kst_mem))
      | (with_reducible refine' Mine.TrIn.adt1 ?a0_14 ?a1_14 ?a2_14 ?a3_14 ?a4_14 ?a5_14; (case a0_14 => kst_mem); (case a1_14 => kst_mem); (case a2_14 => ked_reads); (case a3_14 => exact Nat.le_of_ble_eq_true rfl); (case a4_14 => kst_mem); (case a5_14 => ktn_open))
      | (with_reducible refine' Mine.TrIn.adt2 ?a0_14 ?a1_14 ?a2_14 ?a3_14 ?a4_14 ?_ ?_; (case a0_14 => kst_mem); (case a1_14 => kst_mem); (case a2_14 => ked_reads); (case a3_14 => exact Nat.le_of_ble_eq_true rfl); (case a4_14 => kst_mem); all_goals ktn_open))
    | fail
  k_with "ked_reads" => first
    | (first
      | with_reducible exact Mine.RV.none
      | (with_reducible refine' Mine.RV.str _ _ ?e_15; (case e_15 => decide +kernel))
      | with_reducible exact Mine.RVs.nil
      | (with_reducible refine' Mine.RVs.cons ?ca_15 ?cb_15; (case ca_15 => ked_reads); (case cb_15 => ked_reads))
      | with_reducible assumption
      | (with_reducible refine' Mine.RVs.append ?pa_15 ?pb_15; (case pa_15 => ked_reads); (case pb_15 => ked_reads))
      | (with_reducible refine' Mine.RV.int' ?e_15; (case e_15 => first | with_reducible rfl | ((simp only [List.length_append, List.length_cons, List.length_nil, Nat.zero_add]); done) | ((simp only [List.length_append, List.length_cons, List.length_nil, Nat.zero_add]); omega) | omega)))
    | fail
  k_with "m call ref" => first
    | (k_here; (with_reducible show wpAny _ _ (call (Value.ref 99) _) _ _ _); k_dflt (refine' Mine.tw_use ?kC_16 ?k1_16 ?k2_16 ?k3_16 ?k4_16 ?k5_16 ?k6_16 ?k7_16 ?kU2_16 ?ksa_16 ?kth_16 ?kne_16 ?kne2_16 ?krv_16 ?kv0_16 ?kv1_16 ?k8_16 ?k9_16 ?k10_16 ?kvs_16 ?klen_16 ?kdv_16 ?k13_16 ?k14_16 ?_; (case kC_16 => with_reducible assumption); (case k1_16 => k_asm); (case k2_16 => k_asm); (case k3_16 => k_asm); (case k4_16 => k_asm); (case k5_16 => k_asm); (case k6_16 => first | exact rfl | assumption); (case k7_16 => k_updF); (case kU2_16 => intro o9; k_updF); (case ksa_16 => first | with_reducible exact Mine.Apart.ne (by with_reducible assumption) | with_reducible assumption | k_ne); (case kth_16 => k_mem); (case kne_16 => first | with_reducible exact Mine.Apart.ne (by with_reducible assumption) | with_reducible assumption | k_ne); (case kne2_16 => first | with_reducible exact Mine.Apart.ne (by with_reducible assumption) | with_reducible assumption | k_ne); (case krv_16 => first | with_reducible assumption | ked_reads); (case kv0_16 => first | assumption | exact Nat.le_of_ble_eq_true rfl); (case kv1_16 => first | assumption | exact Nat.le_of_ble_eq_true rfl); (case k8_16 => assumption); (case k9_16 => assumption); (case k10_16 => assumption); (case kvs_16 => ked_reads); (case klen_16 => first | decide | ((try simp only [List.length_append, List.length_cons, List.length_nil, Nat.pow_succ] at *); omega)); (case kdv_16 => omega); (case k13_16 => ktr_room); (case k14_16 => ktr_units); k_whole); intro p9 told9 due9 t9 a9 b9 ta9 tb9 tl9 xs9 nk9 np9 h9 tk9 F9 N9 x19 x29 x39 hp9 ht9 hd9 hx9 hvx9 hxl9 hh9 hl9 hf9; (try dsimp only at N9); (try simp only [List.cons_append, List.nil_append, List.append_assoc] at N9); (try simp only [List.append_assoc] at hvx9); (try k_sweep); (try k_fold))
    | fail
  k_with "tb_start" => first
    | (first
      | (with_reducible refine' Mine.off_I ?h_17 ?m_17; (case h_17 => with_reducible assumption); (case m_17 => kst_mem))
      | (with_reducible refine' Mine.off_C ?h_17 ?m_17; (case h_17 => with_reducible assumption); (case m_17 => kst_mem))
      | (with_reducible refine' Mine.off_D ?h_17 ?m_17; (case h_17 => with_reducible assumption); (case m_17 => kst_mem))
      | (with_reducible refine' Mine.of_I ?h_17 ?m_17; (case h_17 => with_reducible assumption); (case m_17 => kst_mem))
      | (with_reducible refine' Mine.of_C ?h_17 ?m_17; (case h_17 => with_reducible assumption); (case m_17 => kst_mem))
      | (with_reducible refine' Mine.of_D ?h_17 ?m_17; (case h_17 => with_reducible assumption); (case m_17 => kst_mem)))
    | fail
  k_with "m call builtin:list.append" => first
    | (k_here; (with_reducible show wpAny _ _ (call (Value.builtin _) [Value.ref _, _]) _ _ _); k_dflt (refine' Mine.append_L ?k1_18 ?k2_18 ?k3_18 ?z_18 ?_; (case k1_18 => k_asm); (case k2_18 => k_asm); (case k3_18 => k_updF); (case z_18 => ((try simp only [List.length_append, List.length_cons, List.length_nil]); omega)); k_whole); intro h' F' N'; (try dsimp only at N'); (try simp only [List.append_assoc, List.cons_append, List.nil_append] at N'); (try k_sweep))
    | fail
  k_with "m call builtin:len" => first
    | (k_here; (with_reducible show wpAny _ _ (call (Value.builtin "len") [Value.ref _]) _ _ _); k_dflt (refine' Mine.len_at ?k1_19 ?k2_19 ?k3_19 ?_; (case k1_19 => k_asm); (case k2_19 => kst_mem); (case k3_19 => ((try simp only [List.length_append, List.length_cons, List.length_nil]); omega)); k_whole))
    | fail
  k_with "lcg_off" => first
    | (first
      | assumption
      | (refine' Mine.off3_fresh ?f_20 ?a_20 ?b_20 ?c_20; (case f_20 => assumption); (case a_20 => kst_mem); (case b_20 => kst_mem); (case c_20 => kst_mem))
      | (refine' Mine.off3_app ?_ ?_ <;> lcg_off)
      | (refine' Mine.off3_sub ?a_20 ?b_20; (case a_20 => assumption); (case b_20 => (intro p9 h9; kst_mem))))
    | fail
  k_with "lcg_sub" => first
    | (first
      | (with_reducible refine' Mine.Out3.outI ?z_21; (case z_21 => lcg_sub))
      | (with_reducible refine' Mine.Out3.outC ?z_21; (case z_21 => lcg_sub))
      | (with_reducible refine' Mine.Out3.outD ?z_21; (case z_21 => lcg_sub))
      | (with_reducible refine' Mine.Out3.keep ?a_21 ?b_21 ?c_21 ?z_21; (case a_21 => k_ne); (case b_21 => k_ne); (case c_21 => k_ne); (case z_21 => lcg_sub))
      | (with_reducible refine' Mine.Out3.tail _ ?z_21; (case z_21 => lcg_off)))
    | fail
  k_with "m CompEnd" => first
    | (k_here; k_dflt (refine' Mine.comp_end ?F_22 ?N_22 ?m1_22 ?m2_22 ?m3_22 ?o_22 ?s_22 ?_; (case F_22 => k_asm); (case N_22 => k_asm); (case m1_22 => kst_mem); (case m2_22 => kst_mem); (case m3_22 => kst_mem); (case o_22 => lcg_sub); (case s_22 => lcg_src); k_whole))
    | fail
  k_with "m CompRest" => first
    | ((try simp only [List.nil_append, List.cons_append]); with_unfolding_all first
      | (refine LCg.CompRest.succ ?_; intro v' I' oI' C' oC' D' m' h' tk' E' hv' hC' hx' F' N' off' ne'; (first | lcg_open hv' | (obtain ⟨t9', hv9'⟩ := hv'; subst hv9')); have n19 : Mine.Apart _ _ := ne'.1; have n29 : Mine.Apart _ _ := ne'.2.1; have n39 : Mine.Apart _ _ := ne'.2.2; clear ne')
      | refine LCg.CompRest.zero ?_)
    | fail
  k_with "m eval ListComp" => first
    | (k_here; k_dflt (refine LCg.ListComp_U (F₀ := by k_asm) (by rfl) (by decide) (by rfl) (by decide) (by rfl) ?_))
    | fail
  k_with "m exec Assign cons ListComp" => first
    | (k_here; k_dflt (refine LCg.Assign_ListComp_U (F₀ := by k_asm) (by rfl) (by with_unfolding_all rfl) (by rfl) (by decide) (by rfl) (by decide) (by rfl) (by rfl) (by rfl) ?_))
    | fail
  k_with "m CompSrc" => first
    | (k_here; k_dflt (first
      | (refine LCg.CompSrc.ledger (by rfl) (by k_asm) (by k_asm) (by kst_mem) (by first | size_fits | exact Nat.le_of_ble_eq_true rfl) ?_; intro g'; lcg_lit)
      | (refine LCg.CompSrc.range (by rfl) (by k_asm) (by k_asm) (by assumption) (by first | decide | rfl) (by first | rfl | decide) (by first | size_fits | exact Nat.le_of_ble_eq_true rfl) ?_; intro g'; lcg_lit)))
    | fail
  k_with "k_subL" => first
    | (first
      | (with_reducible refine' Mine.Out1.out ?z_27; (case z_27 => k_subL))
      | (with_reducible refine' Mine.Out1.keep ?a_27 ?z_27; (case a_27 => k_ne); (case z_27 => k_subL))
      | (with_reducible refine' Mine.Out1.tail _ ?z_27; (case z_27 => k_all)))
    | fail
  k_with "m UnrEnd" => first
    | (k_here; k_dflt (refine' Mine.unr_end ?F_28 ?N_28 ?m1_28 ?o_28 ?_; (case F_28 => k_asm); (case N_28 => k_asm); (case m1_28 => kst_mem); (case o_28 => k_subL); k_whole))
    | fail
  k_with "m subscriptTail" => first
    | (k_here; (with_reducible show wpAny _ _ (subscriptTail _ _ (Value.ref _) (Value.int _ _)) _ _ _); k_dflt (refine' item_tupleT ?t_29 ?a_29 ?b_29 ?c_29 ?d_29 ?_; (case t_29 => refine' News.isTup ?N_29 ?m_29; (case N_29 => k_asm); (case m_29 => kst_mem)); (case a_29 => decide); (case b_29 => decide); (case c_29 => rfl); (case d_29 => rfl); k_whole))
    | fail
  k_with "m subscriptTail Name Constant ref int" => first
    | (k_here; (with_reducible show wpAny _ _ (subscriptTail _ _ (Value.ref _) (Value.int _ _)) _ _ _); k_dflt (refine' item_tupleT ?t_30 ?a_30 ?b_30 ?c_30 ?d_30 ?_; (case t_30 => refine' News.isTup ?N_30 ?m_30; (case N_30 => k_asm); (case m_30 => kst_mem)); (case a_30 => decide); (case b_30 => decide); (case c_30 => rfl); (case d_30 => rfl); k_whole))
    | fail
  k_with "m call ref" => first
    | (k_here; k_dflt (refine' Mine.turn_use ?kC_39 ?k1_39 ?k2_39 ?k3_39 ?k4_39 ?k5_39 ?k6_39 ?k7_39 ?kF_39 ?kF2_39 ?klen_39 ?k13_39 ?k14_39 ?_; (case kC_39 => with_reducible assumption); (case k1_39 => k_asm); (case k2_39 => k_asm); (case k3_39 => k_asm); (case k4_39 => k_asm); (case k5_39 => k_asm); (case k6_39 => first | exact rfl | assumption); (case k7_39 => k_updF); (case kF_39 => (refine' Mine.sub_in ?h_39 ?k_39; (case h_39 => with_reducible assumption); (case k_39 => (intro p9 h9; kst_mem)))); (case kF2_39 => with_reducible assumption); (case klen_39 => ((try simp only [List.length_append, List.length_cons, List.length_nil]); omega)); (case k13_39 => ktr_room); (case k14_39 => ktr_units); k_whole); intro t9 n9 h9 tk9 F9 N9; (try dsimp only at N9); (try simp only [List.cons_append, List.nil_append, List.append_assoc] at N9); (try k_sweep); (try k_fold))
    | fail
  k_with "m call ref" => first
    | (k_here; (with_reducible show wpAny _ _ (call (Value.ref 59) _) _ _ _); k_dflt (refine' Mine.td_use ?kC_40 ?kCt_40 ?kCq_40 ?k1_40 ?k2_40 ?k3_40 ?k4_40 ?k5_40 ?k6_40 ?k7_40 ?kF_40 ?kF2_40 ?kT_40 ?kT2_40 ?kv_40 ?klen_40 ?k13_40 ?k14_40 ?_; (case kCt_40 => with_reducible assumption); (case kCq_40 => with_reducible assumption); (case kv_40 => with_reducible assumption); (case kC_40 => with_reducible assumption); (case k1_40 => k_asm); (case k2_40 => k_asm); (case k3_40 => k_asm); (case k4_40 => k_asm); (case k5_40 => k_asm); (case k6_40 => first | exact rfl | assumption); (case k7_40 => k_updF); (case kF_40 => (refine' Mine.sub_in ?h_40 ?k_40; (case h_40 => with_reducible assumption); (case k_40 => (intro p9 h9; kst_mem)))); (case kF2_40 => with_reducible assumption); (case kT_40 => (refine' Mine.sub_in ?h_40 ?k_40; (case h_40 => with_reducible assumption); (case k_40 => (intro p9 h9; kst_mem)))); (case kT2_40 => with_reducible assumption); (case klen_40 => ((try simp only [List.length_append, List.length_cons, List.length_nil]); omega)); (case k13_40 => ktr_room); (case k14_40 => ktr_units); k_whole); intro r9 tl9 xs9 n9 h9 tk9 F9 N9 hd9 hx9 hxl9 hf9; (try dsimp only at N9); (try simp only [List.cons_append, List.nil_append, List.append_assoc] at N9); (try k_sweep); (try k_fold))
    | fail
  k_with "m callWith ref" => first
    | (k_here; k_dflt (first
      | (refine' callWith_F ?k1_41 ?_; (case k1_41 => exact FnAt.of (by k_asm) (by kst_mem)); k_whole)
      | (refine' callWith_F0 ?k1_41 ?_; (case k1_41 => exact FnAt.of (by k_asm) (by kst_mem)); k_whole; try dsimp only [List.nil_append, List.cons_append])))
    | fail
  trivial
section
theorem words_16 : True := by
  k_with "ktr_step" => first
    | (refine wpAny_call ?_; k_dflt ktr_enter; k_steps)
    | fail
  k_with "lcg_src" => first
    | (first | exact True.intro | (refine' Mine.TupAt.of ?m_43; (case m_43 => kst_mem)))
    | fail
  k_with "m eval ListComp" => first
    | (k_here; k_dflt (refine Mine.ListComp_T (F₀ := by k_asm) (by rfl) (by decide) (by rfl) (by decide) (by rfl) ?_))
    | fail
  k_with "m SrcT" => first
    | (k_here; k_dflt (refine' Mine.SrcT.intro ?hh_45 ?F_45 ?N_45 ?m_45 ?z_45 ?_; (case hh_45 => exact rfl); (case F_45 => k_asm); (case N_45 => k_asm); (case m_45 => kst_mem); (case z_45 => exact Nat.le_of_ble_eq_true rfl); k_whole); intro g'; lcg_lit)
    | fail
  k_with "kc_close" => first
    | (
        refine' td_end ?hr_46 ?F_46 ?N_46 ?h2_46 ?e2_46 ?z_46 ?ht_46 ?hx_46
        (case hr_46 => assumption)
        (case F_46 => k_asm)
        (case N_46 => k_asm)
        (case z_46 => ktn_ord)
        (case h2_46 => kst_mem)
        (case e2_46 => first | with_reducible rfl | exact e2nil)
        (case ht_46 => (simp only [Tr.num, numsFrom]); ktn_open)
        (case hx_46 => (simp only [Tr.regs, List.cons_append, List.nil_append]); ked_reads))
    | fail
  trivial
theorem td_b {w : World} {mean : ExcName → Option Value} {mg mb : Str → Option Value}  : TdSpec w mean mg mb (.b) := by
  intro q hrd Fx T R v hs n oc od fd sl hTu hq hFx hR hTR hv hlen
  have hqR := hFx _ hq
  unfold Spec
  intro dp un gd cn cs ca ccd cl outer A₀ base h₀ L m s Q E B F X N To hk hd hu hret
  have hF2 : ∀ p ∈ Fx, p.1 ≠ hrd := fun p hp => hR p (hFx p hp)
  have hT2 : ∀ p ∈ T, p.1 ≠ hrd := fun p hp => hR p (hTR p hp)
  simp only [Tr.ht, Tr.regs, List.length_nil, List.length_cons, List.length_append] at hd hu hlen
  cases hv with
  | b q1 =>
    have m0 := hTR _ q1
    refine wpAny_call ?_
    k_dflt ktr_enter
    k_steps
    all_goals kc_close
theorem td_i {w : World} {mean : ExcName → Option Value} {mg mb : Str → Option Value}  : TdSpec w mean mg mb (.i) := by
  intro q hrd Fx T R v hs n oc od fd sl hTu hq hFx hR hTR hv hlen
  have hqR := hFx _ hq
  unfold Spec
  intro dp un gd cn cs ca ccd cl outer A₀ base h₀ L m s Q E B F X N To hk hd hu hret
  have hF2 : ∀ p ∈ Fx, p.1 ≠ hrd := fun p hp => hR p (hFx p hp)
  have hT2 : ∀ p ∈ T, p.1 ≠ hrd := fun p hp => hR p (hTR p hp)
  simp only [Tr.ht, Tr.regs, List.length_nil, List.length_cons, List.length_append] at hd hu hlen
  cases hv with
  | i q1 =>
    have m0 := hTR _ q1
    refine wpAny_call ?_
    k_dflt ktr_enter
    k_steps
    all_goals kc_close
theorem td_p {w : World} {mean : ExcName → Option Value} {mg mb : Str → Option Value}  : TdSpec w mean mg mb (.p) := by
  intro q hrd Fx T R v hs n oc od fd sl hTu hq hFx hR hTR hv hlen
  have hqR := hFx _ hq
  unfold Spec
  intro dp un gd cn cs ca ccd cl outer A₀ base h₀ L m s Q E B F X N To hk hd hu hret
  have hF2 : ∀ p ∈ Fx, p.1 ≠ hrd := fun p hp => hR p (hFx p hp)
  have hT2 : ∀ p ∈ T, p.1 ≠ hrd := fun p hp => hR p (hTR p hp)
  simp only [Tr.ht, Tr.regs, List.length_nil, List.length_cons, List.length_append] at hd hu hlen
  cases hv with
  | p q1 =>
    have m0 := hTR _ q1
    refine wpAny_call ?_
    k_dflt ktr_enter
    k_steps
    all_goals kc_close
theorem td_nv {w : World} {mean : ExcName → Option Value} {mg mb : Str → Option Value}  : TdSpec w mean mg mb (.nv) := by
  intro q hrd Fx T R v hs n oc od fd sl hTu hq hFx hR hTR hv hlen
  have hqR := hFx _ hq
  unfold Spec
  intro dp un gd cn cs ca ccd cl outer A₀ base h₀ L m s Q E B F X N To hk hd hu hret
  have hF2 : ∀ p ∈ Fx, p.1 ≠ hrd := fun p hp => hR p (hFx p hp)
  have hT2 : ∀ p ∈ T, p.1 ≠ hrd := fun p hp => hR p (hTR p hp)
  simp only [Tr.ht, Tr.regs, List.length_nil, List.length_cons, List.length_append] at hd hu hlen
  cases hv with
  | nv q1 =>
    have m0 := hTR _ q1
    refine wpAny_call ?_
    k_dflt ktr_enter
    k_steps
    all_goals kc_close
theorem td_inf {w : World} {mean : ExcName → Option Value} {mg mb : Str → Option Value}  : TdSpec w mean mg mb (.inf) := by
  intro q hrd Fx T R v hs n oc od fd sl hTu hq hFx hR hTR hv hlen
  have hqR := hFx _ hq
  unfold Spec
  intro dp un gd cn cs ca ccd cl outer A₀ base h₀ L m s Q E B F X N To hk hd hu hret
  have hF2 : ∀ p ∈ Fx, p.1 ≠ hrd := fun p hp => hR p (hFx p hp)
  have hT2 : ∀ p ∈ T, p.1 ≠ hrd := fun p hp => hR p (hTR p hp)
  simp only [Tr.ht, Tr.regs, List.length_nil, List.length_cons, List.length_append] at hd hu hlen
  cases hv with
  | inf q1 =>
    have m0 := hTR _ q1
    refine wpAny_call ?_
    k_dflt ktr_enter
    k_steps
    all_goals kc_close
theorem td_ref {w : World} {mean : ExcName → Option Value} {mg mb : Str → Option Value} (r : Rv) (mu : Bool) (x : Tr) (IHx : TdSpec w mean mg mb x) : TdSpec w mean mg mb (.ref r mu x) := by
  intro q hrd Fx T R v hs n oc od fd sl hTu hq hFx hR hTR hv hlen
  have hqR := hFx _ hq
  unfold Spec
  intro dp un gd cn cs ca ccd cl outer A₀ base h₀ L m s Q E B F X N To hk hd hu hret
  have hF2 : ∀ p ∈ Fx, p.1 ≠ hrd := fun p hp => hR p (hFx p hp)
  have hT2 : ∀ p ∈ T, p.1 ≠ hrd := fun p hp => hR p (hTR p hp)
  simp only [Tr.ht, Tr.regs, List.length_nil, List.length_cons, List.length_append] at hd hu hlen
  cases hv with
  | ref q1 hr hx =>
    have m0 := hTR _ q1
    refine wpAny_call ?_
    k_dflt ktr_enter
    k_steps
    all_goals kc_close
theorem td_box {w : World} {mean : ExcName → Option Value} {mg mb : Str → Option Value} (x : Tr) (IHx : TdSpec w mean mg mb x) : TdSpec w mean mg mb (.box x) := by
  intro q hrd Fx T R v hs n oc od fd sl hTu hq hFx hR hTR hv hlen
  have hqR := hFx _ hq
  unfold Spec
  intro dp un gd cn cs ca ccd cl outer A₀ base h₀ L m s Q E B F X N To hk hd hu hret
  have hF2 : ∀ p ∈ Fx, p.1 ≠ hrd := fun p hp => hR p (hFx p hp)
  have hT2 : ∀ p ∈ T, p.1 ≠ hrd := fun p hp => hR p (hTR p hp)
  simp only [Tr.ht, Tr.regs, List.length_nil, List.length_cons, List.length_append] at hd hu hlen
  cases hv with
  | box q1 hx =>
    have m0 := hTR _ q1
    refine wpAny_call ?_
    k_dflt ktr_enter
    k_steps
    all_goals kc_close
theorem td_arr {w : World} {mean : ExcName → Option Value} {mg mb : Str → Option Value} (x : Tr) (IHx : TdSpec w mean mg mb x) (k : Int) : TdSpec w mean mg mb (.arr x k) := by
  intro q hrd Fx T R v hs n oc od fd sl hTu hq hFx hR hTR hv hlen
  have hqR := hFx _ hq
  unfold Spec
  intro dp un gd cn cs ca ccd cl outer A₀ base h₀ L m s Q E B F X N To hk hd hu hret
  have hF2 : ∀ p ∈ Fx, p.1 ≠ hrd := fun p hp => hR p (hFx p hp)
  have hT2 : ∀ p ∈ T, p.1 ≠ hrd := fun p hp => hR p (hTR p hp)
  simp only [Tr.ht, Tr.regs, List.length_nil, List.length_cons, List.length_append] at hd hu hlen
  cases hv with
  | arr q1 hx =>
    have m0 := hTR _ q1
    refine wpAny_call ?_
    k_dflt ktr_enter
    k_steps
    all_goals kc_close
theorem words_17 : True := by
  k_with "m SrcT" => first
    | (k_here; k_dflt (refine' Mine.comp_kids ?hh_47 ?F_47 ?N_47 ?hm_47 ?hsz_47 ?ne_47 ?U_47 ?K_47 ?hP_47 ?hH_47 ?hlen_47 ?kturn_47 ?kdone_47; (case hh_47 => exact rfl); (case F_47 => k_asm); (case N_47 => k_asm); (case K_47 => with_reducible assumption); (case hm_47 => kst_mem); (case hP_47 => with_reducible assumption); (case hH_47 => with_reducible assumption); (case ne_47 => with_reducible assumption); (case U_47 => k_updF); (case hsz_47 => omega); (case hlen_47 => ((try simp only [List.length_append]); omega)); (case' kturn_47 => (intro i9 t9 v9 ys9 os9 n9 tl9 I9 oI9 C9 oC9 D9 m9 h9 tk9 E9 hP9 hv9 hH9 hol9 hi9 hK9 hR9 hC9 hx9 F9 N9 off9 offt9 offA9 n19 n29 n39 hq9 hq29 hl9 hS9; (try dsimp only at N9 off9 hq29 hl9); (try simp only [List.cons_append, List.nil_append, List.append_assoc] at N9 hl9); (have off99 := off9); (clear off9); (try k_sweep))); (case' kdone_47 => (intro g9 ys9 os9 n9 tl9 yl9 hK9 hR9 ol9 hq29 l9 el9; (try dsimp only at hq29 el9); (try simp only [List.cons_append, List.nil_append, List.append_assoc] at el9); subst el9; (try dsimp only))); k_whole))
    | fail
  k_with "m CompEnd" => first
    | (k_here; k_dflt (refine' Mine.kid_end ?F_48 ?N_48 ?hK_48 ?hR_48 ?hi_48 ?ht_48 ?hx_48 ?f9_48 ?mI_48 ?mC_48 ?mD_48 ?hl0_48 ?hq_48 ?offA_48 ?offt_48 ?hS_48 ?m1_48 ?m2_48 ?m3_48 ?hs0_48 ?hs1_48 ?hs2_48; (case F_48 => k_asm); (case N_48 => k_asm); (case hK_48 => with_reducible assumption); (case hR_48 => with_reducible assumption); (case hi_48 => with_reducible assumption); (case ht_48 => with_reducible assumption); (case hx_48 => with_reducible assumption); (case f9_48 => with_reducible assumption); (case mI_48 => kst_mem); (case mC_48 => kst_mem); (case mD_48 => kst_mem); (case hl0_48 => with_reducible assumption); (case hq_48 => with_reducible assumption); (case offA_48 => with_reducible assumption); (case offt_48 => with_reducible assumption); (case hS_48 => with_reducible assumption); (case m1_48 => kst_mem); (case m2_48 => kst_mem); (case m3_48 => kst_mem); (case hs0_48 => ((try dsimp only); kqd_sub)); (case hs1_48 => (intro p9 h9; kst_mem)); (case hs2_48 => (intro p9 h9; kst_mem))))
    | fail
  k_with "m call type:tuple" => first
    | (k_here; (with_reducible show wpAny _ _ (call (Value.type _) [Value.ref _]) _ _ _); k_dflt (refine' kde_tupleOf ?k1_49 ?k2_49 ?k3_49 ?k4_49 ?k5_49 ?_; (case k1_49 => k_asm); (case k2_49 => k_asm); (case k3_49 => (refine' News.isList ?n_49 ?m_49; (case n_49 => k_asm); (case m_49 => kst_mem))); (case k4_49 => ((simp only [List.size_toArray]); omega)); (case k5_49 => exact Mine.toArr_list _); k_whole); intro D' h' F' N' l1; (try k_lt l1); (try k_sweep))
    | fail
  trivial
theorem td_tup {w : World} {mean : ExcName → Option Value} {mg mb : Str → Option Value} {t : Tr} {xs : List Tr} (V : TupView t xs) (IH : ∀ x ∈ xs, TdSpec w mean mg mb x) : TdSpec w mean mg mb t := by
  intro q hrd Fx T R v hs n oc od fd sl hTu hq hFx hR hTR hv hlen
  have hqR := hFx _ hq
  unfold Spec
  intro dp un gd cn cs ca ccd cl outer A₀ base h₀ L m s Q E B F X N To hk hd hu hret
  have hF2 : ∀ p ∈ Fx, p.1 ≠ hrd := fun p hp => hR p (hFx p hp)
  have hT2 : ∀ p ∈ T, p.1 ≠ hrd := fun p hp => hR p (hTR p hp)
  rw [V.regs] at hlen
  have hH := V.ht
  generalize eH : t.ht = H at hd hu hH
  obtain ⟨a, b, n1, n2, tk, its, rfl, q1, q2, hK⟩ := V.inn hv
  have hi2 : its.length ≤ 2 := hK.length ▸ V.len
  have m0 := hTR _ q1
  have m1 := hTR _ q2
  refine wpAny_call ?_
  k_dflt ktr_enter
  k_steps
  all_goals (
    refine' td_end ?hr ?F ?N ?h2 ?e2 ?z ?ht ?hx
    (case hr => assumption)
    (case F => k_asm)
    (case N => k_asm)
    (case z => ktn_ord)
    (case h2 => kst_mem)
    (case e2 => first | with_reducible rfl | exact e2nil)
    (case ht => (refine' V.out ?o1 ?o2 ?o3; (case o1 => kst_mem); (case o2 => kst_mem); (case o3 => (refine' Kids.mono ?ok ?os; (case ok => with_reducible assumption); (case os => kqd_sub)))))
    (case hx => (rw [V.regs]; ked_reads)))
theorem words_18 : True := by
  k_with "m SrcT" => first
    | (k_here; k_dflt (refine' Mine.comp_turns ?hh_50 ?F_50 ?N_50 ?hm_50 ?hsz_50 ?ne_50 ?U_50 ?hr_50 ?kturn_50 ?kdone_50; (case hh_50 => exact rfl); (case F_50 => k_asm); (case N_50 => k_asm); (case hm_50 => kst_mem); (case hr_50 => with_reducible assumption); (case ne_50 => with_reducible assumption); (case U_50 => k_updF); (case hsz_50 => omega); (case' kturn_50 => (intro i9 v9 ys9 os9 n9 I9 oI9 C9 oC9 D9 m9 h9 tk9 E9 ho9 hol9 hv9 hY9 hC9 hx9 F9 N9 off9 offA9 n19 n29 n39 hS9; (try dsimp only at N9 off9); (have off99 := off9); (clear off9); (try k_sweep))); (case' kdone_50 => (intro g9 ys9 n9 hs9 e9 el29 yl9 hY9 l9 el9; (try dsimp only at el9); subst el9; (try dsimp only))); k_whole))
    | fail
  k_with "m CompEnd" => first
    | (k_here; k_dflt (refine' Mine.turns_end ?F_51 ?N_51 ?hos_51 ?hv_51 ?hr_51 ?hY_51 ?hz_51 ?offA_51 ?hS_51 ?m1_51 ?m2_51 ?m3_51 ?hs0_51; (case F_51 => k_asm); (case N_51 => k_asm); (case hos_51 => with_reducible assumption); (case hv_51 => with_reducible assumption); (case hr_51 => with_reducible assumption); (case hY_51 => with_reducible assumption); (case hz_51 => rfl); (case offA_51 => with_reducible assumption); (case hS_51 => with_reducible assumption); (case m1_51 => kst_mem); (case m2_51 => kst_mem); (case m3_51 => kst_mem); (case hs0_51 => ((try dsimp only); kqd_sub))))
    | fail
  trivial
theorem td_adt {w : World} {mean : ExcName → Option Value} {mg mb : Str → Option Value} {t : Tr} {rs : List Rv} {xs : List Tr} (V : AdtView t rs xs) (IH : ∀ x ∈ xs, TdSpec w mean mg mb x) : TdSpec w mean mg mb t := by
  intro q hrd Fx T R v hs n oc od fd sl hTu hq hFx hR hTR hv hlen
  have hqR := hFx _ hq
  unfold Spec
  intro dp un gd cn cs ca ccd cl outer A₀ base h₀ L m s Q E B F X N To hk hd hu hret
  have hF2 : ∀ p ∈ Fx, p.1 ≠ hrd := fun p hp => hR p (hFx p hp)
  have hT2 : ∀ p ∈ T, p.1 ≠ hrd := fun p hp => hR p (hTR p hp)
  rw [V.regs, List.length_append] at hlen
  have hH := V.ht
  generalize eH : t.ht = H at hd hu hH
  obtain ⟨a, b, c, n1, n2, n3, tk, tk', rvs, its, rfl, q1, q2, hr, hr2, q3, hK⟩ := V.inn hv
  have hi2 : its.length ≤ 2 := hK.length ▸ V.len
  have hi3 := hr.length
  have m0 := hTR _ q1
  have m1 := hTR _ q2
  have m2 := hTR _ q3
  refine wpAny_call ?_
  k_dflt ktr_enter
  k_steps
  all_goals (
    refine' td_end ?hr ?F ?N ?h2 ?e2 ?z ?ht ?hx
    (case hr => assumption)
    (case F => k_asm)
    (case N => k_asm)
    (case z => ktn_ord)
    (case h2 => kst_mem)
    (case e2 => (rename (_ = hs ++ _) => e9; rw [e9, List.append_assoc]))
    (case ht => (refine' V.out ?o1 ?o2 ?o3 ?o4 ?o5 ?o6 ?o7; (case o1 => kst_mem); (case o2 => kst_mem); (case o3 => with_reducible assumption); (case o4 => assumption); (case o5 => kst_mem); (case o6 => (refine' Kids.mono ?ok ?os; (case ok => with_reducible assumption); (case os => kqd_sub))); (case o7 => (rename (_ = hs ++ _) => e9; rw [e9, List.length_append, hi3]))))
    (case hx => (rw [V.regs]; ked_reads)))
theorem td_all {w : World} {mean : ExcName → Option Value} {mg mb : Str → Option Value} (t : Tr) : TdSpec w mean mg mb t := by
  induction t with
  | b => exact td_b
  | i => exact td_i
  | p => exact td_p
  | nv => exact td_nv
  | inf => exact td_inf
  | ref r m x ih => exact td_ref r m x ih
  | box x ih => exact td_box x ih
  | arr x k ih => exact td_arr x ih k
  | tup0 => exact td_tup view_tup0 fun _ h => nomatch h
  | tup1 x ih => exact td_tup (view_tup1 x) fun z h => by simp at h; exact h ▸ ih
  | tup2 x y ih ih2 => exact td_tup (view_tup2 x y) fun z h => by simp at h; exact h.elim (fun h => h ▸ ih) (fun h => h ▸ ih2)
  | adt0 rs => exact td_adt (view_adt0 rs) fun _ h => nomatch h
  | adt1 rs x ih => exact td_adt (view_adt1 rs x) fun z h => by simp at h; exact h ▸ ih
  | adt2 rs x y ih ih2 => exact td_adt (view_adt2 rs x y) fun z h => by simp at h; exact h.elim (fun h => h ▸ ih) (fun h => h ▸ ih2)
end
end
section
theorem words_19 : True := by
  w_top off
  k_with_none
  k_with "kst_mem" => first
    | (first
      | with_reducible assumption
      | with_reducible exact List.mem_cons_self
      | (with_reducible refine List.mem_cons_of_mem _ ?_; kst_mem)
      | (with_reducible refine List.mem_append.mpr (Or.inl ?_); kst_mem)
      | (with_reducible refine List.mem_append.mpr (Or.inr ?_); kst_mem)
      | fail "kst_mem")
    | fail
  k_with "k_mem" => first
    | (kst_mem)
    | fail
  k_with "k_all" => first
    | (first
      | with_reducible assumption
      | exact List.forall_mem_nil _
      | (with_reducible refine' Mine.less_sub ?h_2 ?m_2; (case h_2 => with_reducible assumption); (case m_2 => (intro p9 h9; kst_mem)))
      | (with_reducible refine' Mine.less_sub1 ?h_2 ?m_2; (case h_2 => with_reducible assumption); (case m_2 => (intro p9 h9; kst_mem)))
      | (with_reducible refine' Mine.less_sub2 ?h_2 ?m_2; (case h_2 => with_reducible assumption); (case m_2 => (intro p9 h9; kst_mem)))
      | (with_reducible refine' Mine.less_sub3 ?h_2 ?m_2; (case h_2 => with_reducible assumption); (case m_2 => (intro p9 h9; kst_mem)))
      | (with_reducible refine' Mine.less_sub4 ?h_2 ?m_2; (case h_2 => with_reducible assumption); (case m_2 => (intro p9 h9; kst_mem)))
      | (with_reducible refine' Mine.less_sub5 ?h_2 ?m_2; (case h_2 => with_reducible assumption); (case m_2 => (intro p9 h9; kst_mem)))
      | (refine' List.forall_mem_cons.mpr ⟨?a_2, ?b_2⟩; (case a_2 => k_ne); (case b_2 => k_all))
      | exact Mine.allLt_ne (by with_reducible assumption)
      | exact Mine.fresh_ne (by with_reducible assumption) (by k_mem)
      | (refine' List.forall_mem_append.mpr ⟨?_, ?_⟩ <;> k_all))
    | fail
  k_with "kqd_sub" => first
    | (first
      | exact fun _ h => h
      | exact List.forall_mem_nil _
      | (refine' List.forall_mem_cons.mpr ⟨?kqa_3, ?kqb_3⟩; (case kqa_3 => k_mem); (case kqb_3 => kqd_sub))
      | (refine' List.forall_mem_append.mpr ⟨?_, ?_⟩ <;> kqd_sub)
      | (intro p9 h9; k_mem))
    | fail
  k_with "ktr_enter" => first
    | (refine' code_defC ?k1_4 ?k2_4 ?k3_4 ?k4_4 ?k5_4 ?kA_4 ?kF_4 ?kK_4 ?k6_4 ?k7_4 ?k8_4 ?k9_4 ?kB_4 ?kD_4 ?_ ?c2_4 ?c3_4 ?c4_4; (case kA_4 => exact rfl); (case kF_4 => exact rfl); (case kK_4 => assumption); (case k1_4 => k_asm); (case k2_4 => k_asm); (case k3_4 => k_asm); (case k4_4 => k_asm); (case k5_4 => k_asm); (case k6_4 => k_is); (case k7_4 => k_is); (case k8_4 => ktr_room); (case k9_4 => exact BindsTo.of_eq rfl); (case kB_4 => exact rfl); (case kD_4 => decide +kernel); (case c2_4 => exact rfl); (case c3_4 => exact rfl); (case c4_4 => exact rfl); k_whole; intro g' L' h' tk' cells' FG' F' N' Y' B' X' T' l1; (try k_lt l1); k_cells Y'; (try simp only [List.cons_append, List.nil_append] at N'); (try dsimp only); (try k_fold))
    | fail
  k_with "tb_start" => first
    | (first
      | with_reducible exact Mine.Apart.ne (by with_reducible assumption)
      | with_reducible exact Mine.Apart.en (by with_reducible assumption)
      | with_reducible exact Mine.succ_ne1
      | with_reducible exact Mine.succ_ne2
      | (with_reducible refine' Mine.less_ne ?h_5 ?m_5; (case h_5 => with_reducible assumption); (case m_5 => kst_mem))
      | (with_reducible refine' Mine.less_en ?h_5 ?m_5; (case h_5 => with_reducible assumption); (case m_5 => kst_mem))
      | (with_reducible refine' Mine.less_ne1 ?h_5 ?m_5; (case h_5 => with_reducible assumption); (case m_5 => kst_mem))
      | (with_reducible refine' Mine.less_en1 ?h_5 ?m_5; (case h_5 => with_reducible assumption); (case m_5 => kst_mem))
      | (with_reducible refine' Mine.less_ne2 ?h_5 ?m_5; (case h_5 => with_reducible assumption); (case m_5 => kst_mem))
      | (with_reducible refine' Mine.less_en2 ?h_5 ?m_5; (case h_5 => with_reducible assumption); (case m_5 => kst_mem))
      | (with_reducible refine' Mine.less_ne3 ?h_5 ?m_5; (case h_5 => with_reducible assumption); (case m_5 => kst_mem))
      | (with_reducible refine' Mine.less_en3 ?h_5 ?m_5; (case h_5 => with_reducible assumption); (case m_5 => kst_mem))
      | (with_reducible refine' Mine.less_ne4 ?h_5 ?m_5; (case h_5 => with_reducible assumption); (case m_5 => kst_mem))
      | (with_reducible refine' Mine.less_en4 ?h_5 ?m_5; (case h_5 => with_reducible assumption); (case m_5 => kst_mem))
      | (with_reducible refine' Mine.less_ne5 ?h_5 ?m_5; (case h_5 => with_reducible assumption); (case m_5 => kst_mem))
      | (with_reducible refine' Mine.less_en5 ?h_5 ?m_5; (case h_5 => with_reducible assumption); (case m_5 => kst_mem))
      | (with_reducible refine' Mine.lt_ne2 ?k_5 ?h_5 ?m_5; (case k_5 => with_reducible assumption); (case h_5 => with_reducible assumption); (case m_5 => kst_mem))
      | (with_reducible refine' Mine.lt_en2 ?k_5 ?h_5 ?m_5; (case k_5 => with_reducible assumption); (case h_5 => with_reducible assumption); (case m_5 => kst_mem)))
    | fail
  k_with "k_ne" => first
    | (first | tb_start | ((try dsimp only); (refine neN ?_); first | tb_start | omega))
    | fail
  k_with "m call ref" => first
    | (k_here; (with_reducible show wpAny _ _ (call (Value.ref 87) _) _ _ _); k_dflt (refine' Mine.take_use ?k1_7 ?k2_7 ?k3_7 ?k4_7 ?k5_7 ?k6_7 ?k7_7 ?k8_7 ?k9_7 ?k10_7 ?k11_7 ?k12_7 ?k13_7 ?k14_7 ?_; (case k1_7 => k_asm); (case k2_7 => k_asm); (case k3_7 => k_asm); (case k4_7 => k_asm); (case k5_7 => k_asm); (case k6_7 => first | exact rfl | assumption); (case k7_7 => k_updF); (case k8_7 => assumption); (case k9_7 => assumption); (case k10_7 => assumption); (case k11_7 => omega); (case k12_7 => omega); (case k13_7 => ktr_room); (case k14_7 => ktr_units); k_whole); intro k9 a9 b9 t9 ta9 tb9 h9 tk9 F9 N9 x19 x29 x39 x49 x59; (try dsimp only at N9); (try k_sweep); (try k_fold))
    | fail
  k_with "m call ref" => first
    | (k_here; (with_reducible show wpAny _ _ (call (Value.ref 94) _) _ _ _); k_dflt (refine' Mine.one_use ?k1_10 ?k2_10 ?k3_10 ?k4_10 ?k5_10 ?k6_10 ?k7_10 ?kth_10 ?kne_10 ?kv0_10 ?kv1_10 ?k8_10 ?k9_10 ?k10_10 ?k13_10 ?k14_10 ?_; (case k1_10 => k_asm); (case k2_10 => k_asm); (case k3_10 => k_asm); (case k4_10 => k_asm); (case k5_10 => k_asm); (case k6_10 => first | exact rfl | assumption); (case k7_10 => k_updF); (case kth_10 => k_mem); (case kne_10 => first | assumption | k_ne); (case kv0_10 => first | assumption | (simp only [List.length_cons, List.length_nil]; omega)); (case kv1_10 => first | assumption | (simp only [List.length_cons, List.length_nil]; omega)); (case k8_10 => assumption); (case k9_10 => assumption); (case k10_10 => assumption); (case k13_10 => ktr_room); (case k14_10 => ktr_units); k_whole); intro r9 k9 a9 b9 ta9 tb9 h9 tk9 F9 N9 hv9 hg9 x39 x49 x59; (try dsimp only at N9); (try k_sweep); (try k_fold))
    | fail
  k_with "ktn_lt" => first
    | (first
      | (refine' Mine.Fresh3.of ?f_11 ?a_11 ?b_11 ?c_11; (case f_11 => assumption); (case a_11 => k_mem); (case b_11 => k_mem); (case c_11 => (intro p9 h9; k_mem)))
      | (refine' Mine.Fresh3.app ?_ ?_ <;> ktn_lt))
    | fail
  k_with "ktn_ord" => first
    | (first
      | exact Mine.Rest.nil
      | (refine' Mine.Rest.app _ ?z_12; (case z_12 => ktn_lt))
      | (refine' Mine.Rest.keep ?z_12 ?a_12 ?b_12 ?c_12; (case a_12 => first | (with_reducible refine' Mine.less_allLt ?h_12 ?m_12; (case h_12 => with_reducible assumption); (case m_12 => (intro p9 h9; kst_mem))) | assumption | exact Mine.allLt_left (by assumption)); (case b_12 => first | (with_reducible refine' Mine.less_lt ?h_12 ?m_12; (case h_12 => with_reducible assumption); (case m_12 => kst_mem)) | ((try dsimp only); omega)); (case c_12 => first | (with_reducible refine' Mine.less_lt ?h_12 ?m_12; (case h_12 => with_reducible assumption); (case m_12 => kst_mem)) | ((try dsimp only); omega)); (case z_12 => ktn_ord))
      | (refine' Mine.Rest.drop ?z_12; (case z_12 => ktn_ord)))
    | fail
  k_with "m call ref" => first
    | (k_here; (with_reducible show wpAny _ _ (call (Value.ref 94) _) _ _ _); k_dflt (refine' Mine.oneR_use ?k1_13 ?k2_13 ?k3_13 ?k4_13 ?k5_13 ?k6_13 ?k7_13 ?kth_13 ?kne_13 ?krv_13 ?kv0_13 ?kv1_13 ?k8_13 ?k9_13 ?k10_13 ?k13_13 ?k14_13 ?_; (case k1_13 => k_asm); (case k2_13 => k_asm); (case k3_13 => k_asm); (case k4_13 => k_asm); (case k5_13 => k_asm); (case k6_13 => first | exact rfl | assumption); (case k7_13 => k_updF); (case kth_13 => k_mem); (case kne_13 => first | with_reducible exact Mine.Apart.ne (by with_reducible assumption) | with_reducible assumption | k_ne); (case krv_13 => with_reducible assumption); (case kv0_13 => assumption); (case kv1_13 => assumption); (case k8_13 => assumption); (case k9_13 => assumption); (case k10_13 => assumption); (case k13_13 => ktr_room); (case k14_13 => ktr_units); k_whole); intro r9 q9 a9 b9 ta9 tb9 h9 tk9 hq9 F9 N9 x39 x49 x59; (try dsimp only at N9); (try k_sweep); (try k_fold))
    | fail
  k_with "ktn_open" => first
    | (first
      | (refine' Mine.trIn_due ?h_14 ?e_14 ?s_14; (case h_14 => with_reducible assumption); (case e_14 => first | with_reducible rfl | ((simp only [List.length_append, List.length_cons, List.length_nil, Nat.zero_add]); done) | ((simp only [List.length_append, List.length_cons, List.length_nil, Nat.zero_add]); omega) | omega); (case s_14 => kqd_sub))
      | (refine' Mine.TrIn.mono ?s_14 ?h_14; (case h_14 => with_reducible assumption); (case s_14 => kqd_sub))
      | (with_reducible refine' Mine.TrIn.b ?a0_14; (case a0_14 => kst_mem))
      | (with_reducible refine' Mine.TrIn.i ?a0_14; (case a0_14 => kst_mem))
      | (with_reducible refine' Mine.TrIn.p ?a0_14; (case a0_14 => kst_mem))
      | (with_reducible refine' Mine.TrIn.nv ?a0_14; (case a0_14 => kst_mem))
      | (with_reducible refine' Mine.TrIn.inf ?a0_14; (case a0_14 => kst_mem))
      | (with_reducible refine' Mine.TrIn.ref ?a0_14 ?a1_14 ?a2_14; (case a0_14 => kst_mem); (case a1_14 => ked_reads); (case a2_14 => ktn_open))
      | (with_reducible refine' Mine.TrIn.box ?a0_14 ?a1_14; (case a0_14 => kst_mem); (case a1_14 => ktn_open))
      | (with_reducible refine' Mine.TrIn.arr ?a0_14 ?a1_14; (case a0_14 => kst_mem); (case a1_14 => ktn_open))
      | (with_reducible refine' Mine.TrIn.tup0 ?a0_14 ?a1_14; (case a0_14 => kst_mem); (case a1_14 => kst_mem))
      | (with_reducible refine' Mine.TrIn.tup1 ?a0_14 ?a1_14 ?a2_14; (case a0_14 => kst_mem); (case a1_14 => kst_mem); (case a2_14 => ktn_open))
      | (with_reducible refine' Mine.TrIn.tup2 ?a0_14 ?a1_14 ?_ ?_; (case a0_14 => kst_mem); (case a1_14 => kst_mem); all_goals ktn_open)
      | (with_reducible refine' Mine.TrIn.adt0 ?a0_14 ?a1_14 ?a2_14 ?a3_14 ?a4_14; (case a0_14 => kst_mem); (case a1_14 => kst_mem); (case a2_14 => ked_reads); (case a3_14 => exact Nat.le_of_ble_eq_true rfl); (case a4_14 => kst_mem))
      | (with_reducible refine' Mine.TrIn.adt1 ?a0_14 ?a1_14 ?a2_14 ?a3_14 ?a4_14 ?a5_14; (case a0_14 => kst_mem); (case a1_14 => kst_mem); (case a2_14 => ked_reads); (case a3_14 => exact Nat.le_of_ble_eq_true rfl); (case a4_14 => kst_mem); (case a5_14 => ktn_open))
      | (with_reducible refine' Mine.TrIn.adt2 ?a0_14 ?a1_14 ?a2_14 ?a3_14 ?a4_14 ?_ ?_; (case a0_14 => kst_mem); (case a1_14 => kst_mem); (case a2_14 => ked_reads); (case a3_14 => exact Nat.le_of_ble_eq_true rfl); (case a4_14 => kst_mem); all_goals ktn_open))
    | fail
  k_with "ked_reads" => first
    | (first
      | with_reducible exact Mine.RV.none
      | (with_reducible refine' Mine.RV.str _ _ ?e_15; (case e_15 => decide +kernel))
      | with_reducible exact Mine.RVs.nil
      | (with_reducible refine' Mine.RVs.cons ?ca_15 ?cb_15; (case ca_15 => ked_reads); (case cb_15 => ked_reads))
      | with_reducible assumption
      | (with_reducible refine' Mine.RVs.append ?pa_15 ?pb_15; (case pa_15 => ked_reads); (case pb_15 => ked_reads))
      | (with_reducible refine' Mine.RV.int' ?e_15; (case e_15 => first | with_reducible rfl | ((simp only [List.length_append, List.length_cons, List.length_nil, Nat.zero_add]); done) | ((simp only [List.length_append, List.length_cons, List.length_nil, Nat.zero_add]); omega) | omega)))
    | fail
  k_with "m call ref" => first
    | (k_here; (with_reducible show wpAny _ _ (call (Value.ref 99) _) _ _ _); k_dflt (refine' Mine.tw_use ?kC_16 ?k1_16 ?k2_16 ?k3_16 ?k4_16 ?k5_16 ?k6_16 ?k7_16 ?kU2_16 ?ksa_16 ?kth_16 ?kne_16 ?kne2_16 ?krv_16 ?kv0_16 ?kv1_16 ?k8_16 ?k9_16 ?k10_16 ?kvs_16 ?klen_16 ?kdv_16 ?k13_16 ?k14_16 ?_; (case kC_16 => with_reducible assumption); (case k1_16 => k_asm); (case k2_16 => k_asm); (case k3_16 => k_asm); (case k4_16 => k_asm); (case k5_16 => k_asm); (case k6_16 => first | exact rfl | assumption); (case k7_16 => k_updF); (case kU2_16 => intro o9; k_updF); (case ksa_16 => first | with_reducible exact Mine.Apart.ne (by with_reducible assumption) | with_reducible assumption | k_ne); (case kth_16 => k_mem); (case kne_16 => first | with_reducible exact Mine.Apart.ne (by with_reducible assumption) | with_reducible assumption | k_ne); (case kne2_16 => first | with_reducible exact Mine.Apart.ne (by with_reducible assumption) | with_reducible assumption | k_ne); (case krv_16 => first | with_reducible assumption | ked_reads); (case kv0_16 => first | assumption | exact Nat.le_of_ble_eq_true rfl); (case kv1_16 => first | assumption | exact Nat.le_of_ble_eq_true rfl); (case k8_16 => assumption); (case k9_16 => assumption); (case k10_16 => assumption); (case kvs_16 => ked_reads); (case klen_16 => first | decide | ((try simp only [List.length_append, List.length_cons, List.length_nil, Nat.pow_succ] at *); omega)); (case kdv_16 => omega); (case k13_16 => ktr_room); (case k14_16 => ktr_units); k_whole); intro p9 told9 due9 t9 a9 b9 ta9 tb9 tl9 xs9 nk9 np9 h9 tk9 F9 N9 x19 x29 x39 hp9 ht9 hd9 hx9 hvx9 hxl9 hh9 hl9 hf9; (try dsimp only at N9); (try simp only [List.cons_append, List.nil_append, List.append_assoc] at N9); (try simp only [List.append_assoc] at hvx9); (try k_sweep); (try k_fold))
    | fail
  k_with "tb_start" => first
    | (first
      | (with_reducible refine' Mine.off_I ?h_17 ?m_17; (case h_17 => with_reducible assumption); (case m_17 => kst_mem))
      | (with_reducible refine' Mine.off_C ?h_17 ?m_17; (case h_17 => with_reducible assumption); (case m_17 => kst_mem))
      | (with_reducible refine' Mine.off_D ?h_17 ?m_17; (case h_17 => with_reducible assumption); (case m_17 => kst_mem))
      | (with_reducible refine' Mine.of_I ?h_17 ?m_17; (case h_17 => with_reducible assumption); (case m_17 => kst_mem))
      | (with_reducible refine' Mine.of_C ?h_17 ?m_17; (case h_17 => with_reducible assumption); (case m_17 => kst_mem))
      | (with_reducible refine' Mine.of_D ?h_17 ?m_17; (case h_17 => with_reducible assumption); (case m_17 => kst_mem)))
    | fail
  k_with "m call builtin:list.append" => first
    | (k_here; (with_reducible show wpAny _ _ (call (Value.builtin _) [Value.ref _, _]) _ _ _); k_dflt (refine' Mine.append_L ?k1_18 ?k2_18 ?k3_18 ?z_18 ?_; (case k1_18 => k_asm); (case k2_18 => k_asm); (case k3_18 => k_updF); (case z_18 => ((try simp only [List.length_append, List.length_cons, List.length_nil]); omega)); k_whole); intro h' F' N'; (try dsimp only at N'); (try simp only [List.append_assoc, List.cons_append, List.nil_append] at N'); (try k_sweep))
    | fail
  k_with "m call builtin:len" => first
    | (k_here; (with_reducible show wpAny _ _ (call (Value.builtin "len") [Value.ref _]) _ _ _); k_dflt (refine' Mine.len_at ?k1_19 ?k2_19 ?k3_19 ?_; (case k1_19 => k_asm); (case k2_19 => kst_mem); (case k3_19 => ((try simp only [List.length_append, List.length_cons, List.length_nil]); omega)); k_whole))
    | fail
  k_with "lcg_off" => first
    | (first
      | assumption
      | (refine' Mine.off3_fresh ?f_20 ?a_20 ?b_20 ?c_20; (case f_20 => assumption); (case a_20 => kst_mem); (case b_20 => kst_mem); (case c_20 => kst_mem))
      | (refine' Mine.off3_app ?_ ?_ <;> lcg_off)
      | (refine' Mine.off3_sub ?a_20 ?b_20; (case a_20 => assumption); (case b_20 => (intro p9 h9; kst_mem))))
    | fail
  k_with "lcg_sub" => first
    | (first
      | (with_reducible refine' Mine.Out3.outI ?z_21; (case z_21 => lcg_sub))
      | (with_reducible refine' Mine.Out3.outC ?z_21; (case z_21 => lcg_sub))
      | (with_reducible refine' Mine.Out3.outD ?z_21; (case z_21 => lcg_sub))
      | (with_reducible refine' Mine.Out3.keep ?a_21 ?b_21 ?c_21 ?z_21; (case a_21 => k_ne); (case b_21 => k_ne); (case c_21 => k_ne); (case z_21 => lcg_sub))
      | (with_reducible refine' Mine.Out3.tail _ ?z_21; (case z_21 => lcg_off)))
    | fail
  k_with "m CompEnd" => first
    | (k_here; k_dflt (refine' Mine.comp_end ?F_22 ?N_22 ?m1_22 ?m2_22 ?m3_22 ?o_22 ?s_22 ?_; (case F_22 => k_asm); (case N_22 => k_asm); (case m1_22 => kst_mem); (case m2_22 => kst_mem); (case m3_22 => kst_mem); (case o_22 => lcg_sub); (case s_22 => lcg_src); k_whole))
    | fail
  k_with "m CompRest" => first
    | ((try simp only [List.nil_append, List.cons_append]); with_unfolding_all first
      | (refine LCg.CompRest.succ ?_; intro v' I' oI' C' oC' D' m' h' tk' E' hv' hC' hx' F' N' off' ne'; (first | lcg_open hv' | (obtain ⟨t9', hv9'⟩ := hv'; subst hv9')); have n19 : Mine.Apart _ _ := ne'.1; have n29 : Mine.Apart _ _ := ne'.2.1; have n39 : Mine.Apart _ _ := ne'.2.2; clear ne')
      | refine LCg.CompRest.zero ?_)
    | fail
  k_with "m eval ListComp" => first
    | (k_here; k_dflt (refine LCg.ListComp_U (F₀ := by k_asm) (by rfl) (by decide) (by rfl) (by decide) (by rfl) ?_))
    | fail
  k_with "m exec Assign cons ListComp" => first
    | (k_here; k_dflt (refine LCg.Assign_ListComp_U (F₀ := by k_asm) (by rfl) (by with_unfolding_all rfl) (by rfl) (by decide) (by rfl) (by decide) (by rfl) (by rfl) (by rfl) ?_))
    | fail
  k_with "m CompSrc" => first
    | (k_here; k_dflt (first
      | (refine LCg.CompSrc.ledger (by rfl) (by k_asm) (by k_asm) (by kst_mem) (by first | size_fits | exact Nat.le_of_ble_eq_true rfl) ?_; intro g'; lcg_lit)
      | (refine LCg.CompSrc.range (by rfl) (by k_asm) (by k_asm) (by assumption) (by first | decide | rfl) (by first | rfl | decide) (by first | size_fits | exact Nat.le_of_ble_eq_true rfl) ?_; intro g'; lcg_lit)))
    | fail
  k_with "k_subL" => first
    | (first
      | (with_reducible refine' Mine.Out1.out ?z_27; (case z_27 => k_subL))
      | (with_reducible refine' Mine.Out1.keep ?a_27 ?z_27; (case a_27 => k_ne); (case z_27 => k_subL))
      | (with_reducible refine' Mine.Out1.tail _ ?z_27; (case z_27 => k_all)))
    | fail
  k_with "m UnrEnd" => first
    | (k_here; k_dflt (refine' Mine.unr_end ?F_28 ?N_28 ?m1_28 ?o_28 ?_; (case F_28 => k_asm); (case N_28 => k_asm); (case m1_28 => kst_mem); (case o_28 => k_subL); k_whole))
    | fail
  k_with "m subscriptTail" => first
    | (k_here; (with_reducible show wpAny _ _ (subscriptTail _ _ (Value.ref _) (Value.int _ _)) _ _ _); k_dflt (refine' item_tupleT ?t_29 ?a_29 ?b_29 ?c_29 ?d_29 ?_; (case t_29 => refine' News.isTup ?N_29 ?m_29; (case N_29 => k_asm); (case m_29 => kst_mem)); (case a_29 => decide); (case b_29 => decide); (case c_29 => rfl); (case d_29 => rfl); k_whole))
    | fail
  k_with "m subscriptTail Name Constant ref int" => first
    | (k_here; (with_reducible show wpAny _ _ (subscriptTail _ _ (Value.ref _) (Value.int _ _)) _ _ _); k_dflt (refine' item_tupleT ?t_30 ?a_30 ?b_30 ?c_30 ?d_30 ?_; (case t_30 => refine' News.isTup ?N_30 ?m_30; (case N_30 => k_asm); (case m_30 => kst_mem)); (case a_30 => decide); (case b_30 => decide); (case c_30 => rfl); (case d_30 => rfl); k_whole))
    | fail
  k_with "m call ref" => first
    | (k_here; k_dflt (refine' Mine.turn_use ?kC_39 ?k1_39 ?k2_39 ?k3_39 ?k4_39 ?k5_39 ?k6_39 ?k7_39 ?kF_39 ?kF2_39 ?klen_39 ?k13_39 ?k14_39 ?_; (case kC_39 => with_reducible assumption); (case k1_39 => k_asm); (case k2_39 => k_asm); (case k3_39 => k_asm); (case k4_39 => k_asm); (case k5_39 => k_asm); (case k6_39 => first | exact rfl | assumption); (case k7_39 => k_updF); (case kF_39 => (refine' Mine.sub_in ?h_39 ?k_39; (case h_39 => with_reducible assumption); (case k_39 => (intro p9 h9; kst_mem)))); (case kF2_39 => with_reducible assumption); (case klen_39 => ((try simp only [List.length_append, List.length_cons, List.length_nil]); omega)); (case k13_39 => ktr_room); (case k14_39 => ktr_units); k_whole); intro t9 n9 h9 tk9 F9 N9; (try dsimp only at N9); (try simp only [List.cons_append, List.nil_append, List.append_assoc] at N9); (try k_sweep); (try k_fold))
    | fail
  k_with "m call ref" => first
    | (k_here; (with_reducible show wpAny _ _ (call (Value.ref 59) _) _ _ _); k_dflt (refine' Mine.td_use ?kC_40 ?kCt_40 ?kCq_40 ?k1_40 ?k2_40 ?k3_40 ?k4_40 ?k5_40 ?k6_40 ?k7_40 ?kF_40 ?kF2_40 ?kT_40 ?kT2_40 ?kv_40 ?klen_40 ?k13_40 ?k14_40 ?_; (case kCt_40 => with_reducible assumption); (case kCq_40 => with_reducible assumption); (case kv_40 => with_reducible assumption); (case kC_40 => with_reducible assumption); (case k1_40 => k_asm); (case k2_40 => k_asm); (case k3_40 => k_asm); (case k4_40 => k_asm); (case k5_40 => k_asm); (case k6_40 => first | exact rfl | assumption); (case k7_40 => k_updF); (case kF_40 => (refine' Mine.sub_in ?h_40 ?k_40; (case h_40 => with_reducible assumption); (case k_40 => (intro p9 h9; kst_mem)))); (case kF2_40 => with_reducible assumption); (case kT_40 => (refine' Mine.sub_in ?h_40 ?k_40; (case h_40 => with_reducible assumption); (case k_40 => (intro p9 h9; kst_mem)))); (case kT2_40 => with_reducible assumption); (case klen_40 => ((try simp only [List.length_append, List.length_cons, List.length_nil]); omega)); (case k13_40 => ktr_room); (case k14_40 => ktr_units); k_whole); intro r9 tl9 xs9 n9 h9 tk9 F9 N9 hd9 hx9 hxl9 hf9; (try dsimp only at N9); (try simp only [List.cons_append, List.nil_append, List.append_assoc] at N9); (try k_sweep); (try k_fold))
    | fail
  k_with "m callWith ref" => first
    | (k_here; k_dflt (first
      | (refine' callWith_F ?k1_41 ?_; (case k1_41 => exact FnAt.of (by k_asm) (by kst_mem)); k_whole)
      | (refine' callWith_F0 ?k1_41 ?_; (case k1_41 => exact FnAt.of (by k_asm) (by kst_mem)); k_whole; try dsimp only [List.nil_append, List.cons_append])))
    | fail
  trivial
section
variable {prog : Program} {w : World} {A : Around} {E : Value → Shared → Prop} {s : Shared} {h₀ : Heap} {L D b : Addr} {m : Str → Option Value} {news : List (Addr × Obj)} {g : Obj → List (Addr × Obj)} {its ws : List Value} {n n2 : Nat}
theorem extend_L {Q : Value → Shared → Prop} (F : Fr h₀ L s.heap m) (N : News h₀ L s.heap news) (hb : (b, listOf ws.toArray n2) ∈ news) (U : UpdF D (listOf its.toArray n) news g) (hsz : its.length + ws.length < 1000)
    (h : ∀ h' n', Fr h₀ L h' m → News h₀ L h' (g (listOf (its ++ ws).toArray n')) → Q .none { s with heap := h' }) : wpAny (model prog w) A (call (.builtin "list.extend") [.ref D, .ref b]) Q E s := by
  obtain ⟨pre, post, rfl, hg, a, c⟩ := U.split
  have z := N (D, listOf its.toArray n) (List.mem_append.mpr (.inr (.head _)))
  have hd : ¬(!its.toArray.isEmpty && Builtin.List.listTooLong (its.toArray.size + ws.toArray.size)) = true := by
    have : Builtin.List.listTooLong (its.toArray.size + ws.toArray.size) = false := by
      unfold Builtin.List.listTooLong
      refine decide_eq_false ?_
      rw [List.size_toArray, List.size_toArray, sizeLine_eq]
      omega
    rw [this, Bool.and_false]
    exact Bool.false_ne_true
  have hz : its.toArray.size ≤ sizeLine := by rw [List.size_toArray, sizeLine_eq]; omega
  have hz2 : its.toArray.size + ws.toArray.size ≤ sizeLine + 1 := by rw [List.size_toArray, List.size_toArray, sizeLine_eq]; omega
  have e : its.toArray ++ ws.toArray = (its ++ ws).toArray := by simp
  obtain ⟨n', hn'⟩ : ∃ n', (s.heap.update D (Obj.mapSeq fun x => x ++ ws.toArray)).get? D = some (listOf (its ++ ws).toArray n') := by
    have q := PySem.IsL.update z.1 (fun x => x ++ ws.toArray)
    rw [e] at q
    exact ⟨_, q⟩
  refine call_meets PySem.F.slot_list_extend ⟨_, z.1, rfl⟩ PySem.F.entry_list_extend (PySem.F.args_list_extend_2 _ _) (PySem.AutoSeq1.list_extend_list_list_0 D its.toArray n b ws.toArray n2 hd hz hz2) ⟨z.1, (N _ hb).1, h _ n' (F.change (Heap.SameBut.update ..) z.2.1 z.2.2) ?_⟩
  rw [hg]
  exact news_set N a c (Heap.SameBut.update ..) hn'
theorem addL_at {Q : Value → Shared → Prop} (F : Fr h₀ L s.heap m) (N : News h₀ L s.heap news) (ha : (D, listOf its.toArray n) ∈ news) (hb : (b, listOf ws.toArray n2) ∈ news) (hsz : its.length + ws.length < 1000)
    (h : ∀ p h', Fr h₀ L h' m → News h₀ L h' ((p, listOf (its ++ ws).toArray 0) :: news) → (∀ q ∈ news, q.1 < p) → Q (.ref p) { s with heap := h' }) : wpAny (model prog w) A (binaryOp .Add (.ref D) (.ref b)) Q E s :=
  add_lists F N (PySem.IsL.isList (n := n) (N _ ha).1) (PySem.IsL.isList (n := n2) (N _ hb).1) (fun h' F' N' => h _ h' F' N' fun q hq => Heap.lt_size (N q hq).1) (by rw [sizeLine_eq]; omega)
theorem unrW_end {I : Addr} {it : Obj} {rest : (Str → Option Value) → List (Addr × Obj) → Prop} {s₁ : Shared} {h' : Heap} {tk : Nat} {m' : Str → Option Value} {all news' : List (Addr × Obj)} (F : Fr h₀ L h' m') (N : News h₀ L h' all)
    (mI : (I, it) ∈ all) (o : Out1 I all news') (r : rest m' news') : UnrEndW h₀ L s₁ [(I, it)] rest { s₁ with heap := h', toks := tk } :=
  ⟨h', tk, m', news', rfl, F, fun p hp => by
    rcases List.mem_cons.mp hp with rfl | hp
    · exact N _ mI
    · exact N p (o.sub p hp), fun p hp q hq e => by
    rw [List.mem_singleton.mp hq] at e
    exact o.off p hp e, r⟩
end
end
section
theorem words_20 : True := by
  w_top off
  k_with_none
  k_with "kst_mem" => first
    | (first
      | with_reducible assumption
      | with_reducible exact List.mem_cons_self
      | (with_reducible refine List.mem_cons_of_mem _ ?_; kst_mem)
      | (with_reducible refine List.mem_append.mpr (Or.inl ?_); kst_mem)
      | (with_reducible refine List.mem_append.mpr (Or.inr ?_); kst_mem)
      | fail "kst_mem")
    | fail
  k_with "k_mem" => first
    | (kst_mem)
    | fail
  k_with "k_all" => first
    | (first
      | with_reducible assumption
      | exact List.forall_mem_nil _
      | (with_reducible refine' Mine.less_sub ?h_2 ?m_2; (case h_2 => with_reducible assumption); (case m_2 => (intro p9 h9; kst_mem)))
      | (with_reducible refine' Mine.less_sub1 ?h_2 ?m_2; (case h_2 => with_reducible assumption); (case m_2 => (intro p9 h9; kst_mem)))
      | (with_reducible refine' Mine.less_sub2 ?h_2 ?m_2; (case h_2 => with_reducible assumption); (case m_2 => (intro p9 h9; kst_mem)))
      | (with_reducible refine' Mine.less_sub3 ?h_2 ?m_2; (case h_2 => with_reducible assumption); (case m_2 => (intro p9 h9; kst_mem)))
      | (with_reducible refine' Mine.less_sub4 ?h_2 ?m_2; (case h_2 => with_reducible assumption); (case m_2 => (intro p9 h9; kst_mem)))
      | (with_reducible refine' Mine.less_sub5 ?h_2 ?m_2; (case h_2 => with_reducible assumption); (case m_2 => (intro p9 h9; kst_mem)))
      | (refine' List.forall_mem_cons.mpr ⟨?a_2, ?b_2⟩; (case a_2 => k_ne); (case b_2 => k_all))
      | exact Mine.allLt_ne (by with_reducible assumption)
      | exact Mine.fresh_ne (by with_reducible assumption) (by k_mem)
      | (refine' List.forall_mem_append.mpr ⟨?_, ?_⟩ <;> k_all))
    | fail
  k_with "kqd_sub" => first
    | (first
      | exact fun _ h => h
      | exact List.forall_mem_nil _
      | (refine' List.forall_mem_cons.mpr ⟨?kqa_3, ?kqb_3⟩; (case kqa_3 => k_mem); (case kqb_3 => kqd_sub))
      | (refine' List.forall_mem_append.mpr ⟨?_, ?_⟩ <;> kqd_sub)
      | (intro p9 h9; k_mem))
    | fail
  k_with "ktr_enter" => first
    | (refine' code_defC ?k1_4 ?k2_4 ?k3_4 ?k4_4 ?k5_4 ?kA_4 ?kF_4 ?kK_4 ?k6_4 ?k7_4 ?k8_4 ?k9_4 ?kB_4 ?kD_4 ?_ ?c2_4 ?c3_4 ?c4_4; (case kA_4 => exact rfl); (case kF_4 => exact rfl); (case kK_4 => assumption); (case k1_4 => k_asm); (case k2_4 => k_asm); (case k3_4 => k_asm); (case k4_4 => k_asm); (case k5_4 => k_asm); (case k6_4 => k_is); (case k7_4 => k_is); (case k8_4 => ktr_room); (case k9_4 => exact BindsTo.of_eq rfl); (case kB_4 => exact rfl); (case kD_4 => decide +kernel); (case c2_4 => exact rfl); (case c3_4 => exact rfl); (case c4_4 => exact rfl); k_whole; intro g' L' h' tk' cells' FG' F' N' Y' B' X' T' l1; (try k_lt l1); k_cells Y'; (try simp only [List.cons_append, List.nil_append] at N'); (try dsimp only); (try k_fold))
    | fail
  k_with "tb_start" => first
    | (first
      | with_reducible exact Mine.Apart.ne (by with_reducible assumption)
      | with_reducible exact Mine.Apart.en (by with_reducible assumption)
      | with_reducible exact Mine.succ_ne1
      | with_reducible exact Mine.succ_ne2
      | (with_reducible refine' Mine.less_ne ?h_5 ?m_5; (case h_5 => with_reducible assumption); (case m_5 => kst_mem))
      | (with_reducible refine' Mine.less_en ?h_5 ?m_5; (case h_5 => with_reducible assumption); (case m_5 => kst_mem))
      | (with_reducible refine' Mine.less_ne1 ?h_5 ?m_5; (case h_5 => with_reducible assumption); (case m_5 => kst_mem))
      | (with_reducible refine' Mine.less_en1 ?h_5 ?m_5; (case h_5 => with_reducible assumption); (case m_5 => kst_mem))
      | (with_reducible refine' Mine.less_ne2 ?h_5 ?m_5; (case h_5 => with_reducible assumption); (case m_5 => kst_mem))
      | (with_reducible refine' Mine.less_en2 ?h_5 ?m_5; (case h_5 => with_reducible assumption); (case m_5 => kst_mem))
      | (with_reducible refine' Mine.less_ne3 ?h_5 ?m_5; (case h_5 => with_reducible assumption); (case m_5 => kst_mem))
      | (with_reducible refine' Mine.less_en3 ?h_5 ?m_5; (case h_5 => with_reducible assumption); (case m_5 => kst_mem))
      | (with_reducible refine' Mine.less_ne4 ?h_5 ?m_5; (case h_5 => with_reducible assumption); (case m_5 => kst_mem))
      | (with_reducible refine' Mine.less_en4 ?h_5 ?m_5; (case h_5 => with_reducible assumption); (case m_5 => kst_mem))
      | (with_reducible refine' Mine.less_ne5 ?h_5 ?m_5; (case h_5 => with_reducible assumption); (case m_5 => kst_mem))
      | (with_reducible refine' Mine.less_en5 ?h_5 ?m_5; (case h_5 => with_reducible assumption); (case m_5 => kst_mem))
      | (with_reducible refine' Mine.lt_ne2 ?k_5 ?h_5 ?m_5; (case k_5 => with_reducible assumption); (case h_5 => with_reducible assumption); (case m_5 => kst_mem))
      | (with_reducible refine' Mine.lt_en2 ?k_5 ?h_5 ?m_5; (case k_5 => with_reducible assumption); (case h_5 => with_reducible assumption); (case m_5 => kst_mem)))
    | fail
  k_with "k_ne" => first
    | (first | tb_start | ((try dsimp only); (refine neN ?_); first | tb_start | omega))
    | fail
  k_with "m call ref" => first
    | (k_here; (with_reducible show wpAny _ _ (call (Value.ref 87) _) _ _ _); k_dflt (refine' Mine.take_use ?k1_7 ?k2_7 ?k3_7 ?k4_7 ?k5_7 ?k6_7 ?k7_7 ?k8_7 ?k9_7 ?k10_7 ?k11_7 ?k12_7 ?k13_7 ?k14_7 ?_; (case k1_7 => k_asm); (case k2_7 => k_asm); (case k3_7 => k_asm); (case k4_7 => k_asm); (case k5_7 => k_asm); (case k6_7 => first | exact rfl | assumption); (case k7_7 => k_updF); (case k8_7 => assumption); (case k9_7 => assumption); (case k10_7 => assumption); (case k11_7 => omega); (case k12_7 => omega); (case k13_7 => ktr_room); (case k14_7 => ktr_units); k_whole); intro k9 a9 b9 t9 ta9 tb9 h9 tk9 F9 N9 x19 x29 x39 x49 x59; (try dsimp only at N9); (try k_sweep); (try k_fold))
    | fail
  k_with "m call ref" => first
    | (k_here; (with_reducible show wpAny _ _ (call (Value.ref 94) _) _ _ _); k_dflt (refine' Mine.one_use ?k1_10 ?k2_10 ?k3_10 ?k4_10 ?k5_10 ?k6_10 ?k7_10 ?kth_10 ?kne_10 ?kv0_10 ?kv1_10 ?k8_10 ?k9_10 ?k10_10 ?k13_10 ?k14_10 ?_; (case k1_10 => k_asm); (case k2_10 => k_asm); (case k3_10 => k_asm); (case k4_10 => k_asm); (case k5_10 => k_asm); (case k6_10 => first | exact rfl | assumption); (case k7_10 => k_updF); (case kth_10 => k_mem); (case kne_10 => first | assumption | k_ne); (case kv0_10 => first | assumption | (simp only [List.length_cons, List.length_nil]; omega)); (case kv1_10 => first | assumption | (simp only [List.length_cons, List.length_nil]; omega)); (case k8_10 => assumption); (case k9_10 => assumption); (case k10_10 => assumption); (case k13_10 => ktr_room); (case k14_10 => ktr_units); k_whole); intro r9 k9 a9 b9 ta9 tb9 h9 tk9 F9 N9 hv9 hg9 x39 x49 x59; (try dsimp only at N9); (try k_sweep); (try k_fold))
    | fail
  k_with "ktn_lt" => first
    | (first
      | (refine' Mine.Fresh3.of ?f_11 ?a_11 ?b_11 ?c_11; (case f_11 => assumption); (case a_11 => k_mem); (case b_11 => k_mem); (case c_11 => (intro p9 h9; k_mem)))
      | (refine' Mine.Fresh3.app ?_ ?_ <;> ktn_lt))
    | fail
  k_with "ktn_ord" => first
    | (first
      | exact Mine.Rest.nil
      | (refine' Mine.Rest.app _ ?z_12; (case z_12 => ktn_lt))
      | (refine' Mine.Rest.keep ?z_12 ?a_12 ?b_12 ?c_12; (case a_12 => first | (with_reducible refine' Mine.less_allLt ?h_12 ?m_12; (case h_12 => with_reducible assumption); (case m_12 => (intro p9 h9; kst_mem))) | assumption | exact Mine.allLt_left (by assumption)); (case b_12 => first | (with_reducible refine' Mine.less_lt ?h_12 ?m_12; (case h_12 => with_reducible assumption); (case m_12 => kst_mem)) | ((try dsimp only); omega)); (case c_12 => first | (with_reducible refine' Mine.less_lt ?h_12 ?m_12; (case h_12 => with_reducible assumption); (case m_12 => kst_mem)) | ((try dsimp only); omega)); (case z_12 => ktn_ord))
      | (refine' Mine.Rest.drop ?z_12; (case z_12 => ktn_ord)))
    | fail
  k_with "m call ref" => first
    | (k_here; (with_reducible show wpAny _ _ (call (Value.ref 94) _) _ _ _); k_dflt (refine' Mine.oneR_use ?k1_13 ?k2_13 ?k3_13 ?k4_13 ?k5_13 ?k6_13 ?k7_13 ?kth_13 ?kne_13 ?krv_13 ?kv0_13 ?kv1_13 ?k8_13 ?k9_13 ?k10_13 ?k13_13 ?k14_13 ?_; (case k1_13 => k_asm); (case k2_13 => k_asm); (case k3_13 => k_asm); (case k4_13 => k_asm); (case k5_13 => k_asm); (case k6_13 => first | exact rfl | assumption); (case k7_13 => k_updF); (case kth_13 => k_mem); (case kne_13 => first | with_reducible exact Mine.Apart.ne (by with_reducible assumption) | with_reducible assumption | k_ne); (case krv_13 => with_reducible assumption); (case kv0_13 => assumption); (case kv1_13 => assumption); (case k8_13 => assumption); (case k9_13 => assumption); (case k10_13 => assumption); (case k13_13 => ktr_room); (case k14_13 => ktr_units); k_whole); intro r9 q9 a9 b9 ta9 tb9 h9 tk9 hq9 F9 N9 x39 x49 x59; (try dsimp only at N9); (try k_sweep); (try k_fold))
    | fail
  k_with "ktn_open" => first
    | (first
      | (refine' Mine.trIn_due ?h_14 ?e_14 ?s_14; (case h_14 => with_reducible assumption); (case e_14 => first | with_reducible rfl | ((simp only [List.length_append, List.length_cons, List.length_nil, Nat.zero_add]); done) | ((simp only [List.length_append, List.length_cons, List.length_nil, Nat.zero_add]); omega) | omega); (case s_14 => kqd_sub))
      | (refine' Mine.TrIn.mono ?s_14 ?h_14; (case h_14 => with_reducible assumption); (case s_14 => kqd_sub))
      | (with_reducible refine' Mine.TrIn.b ?a0_14; (case a0_14 => kst_mem))
      | (with_reducible refine' Mine.TrIn.i ?a0_14; (case a0_14 => kst_mem))
      | (with_reducible refine' Mine.TrIn.p ?a0_14; (case a0_14 => kst_mem))
      | (with_reducible refine' Mine.TrIn.nv ?a0_14; (case a0_14 => kst_mem))
      | (with_reducible refine' Mine.TrIn.inf ?a0_14; (case a0_14 => kst_mem))
      | (with_reducible refine' Mine.TrIn.ref ?a0_14 ?a1_14 ?a2_14; (case a0_14 => kst_mem); (case a1_14 => ked_reads); (case a2_14 => ktn_open))
      | (with_reducible refine' Mine.TrIn.box ?a0_14 ?a1_14; (case a0_14 => kst_mem); (case a1_14 => ktn_open))
      | (with_reducible refine' Mine.TrIn.arr ?a0_14 ?a1_14; (case a0_14 => kst_mem); (case a1_14 => ktn_open))
      | (with_reducible refine' Mine.TrIn.tup0 ?a0_14 ?a1_14; (case a0_14 => kst_mem); (case a1_14 => kst_mem))
      | (with_reducible refine' Mine.TrIn.tup1 ?a0_14 ?a1_14 ?a2_14; (case a0_14 => kst_mem); (case a1_14 => kst_mem); (case a2_14 => ktn_open))
      | (with_reducible refine' Mine.TrIn.tup2 ?a0_14 ?a1_14 ?_ ?_; (case a0_14 => kst_mem); (case a1_14 => kst_mem); all_goals ktn_open)
      | (with_reducible refine' Mine.TrIn.adt0 ?a0_14 ?a1_14 ?a2_14 ?a3_14 ?a4_14; (case a0_14 => kst_mem); (case a1_14 => kst_mem); (case a2_14 => ked_reads); (case a3_14 => exact Nat.le_of_ble_eq_true rfl); (case a4_14 => kst_mem))
      | (with_reducible refine' Mine.TrIn.adt1 ?a0_14 ?a1_14 ?a2_14 ?a3_14 ?a4_14 ?a5_14; (case a0_14 => kst_mem); (case a1_14 => kst_mem); (case a2_14 => ked_reads); (case a3_14 => exact Nat.le_of_ble_eq_true rfl); (case a4_14 => kst_mem); (case a5_14 => ktn_open))
      | (with_reducible refine' Mine.TrIn.adt2 ?a0_14 ?a1_14 ?a2_14 ?a3_14 ?a4_14 ?_ ?_; (case a0_14 => kst_mem); (case a1_14 => kst_mem); (case a2_14 => ked_reads); (case a3_14 => exact Nat.le_of_ble_eq_true rfl); (case a4_14 => kst_mem); all_goals ktn_open))
    | fail
  k_with "ked_reads" => first
    | (first
      | with_reducible exact Mine.RV.none
      | (with_reducible refine' Mine.RV.str _ _ ?e_15; (case e_15 => decide +kernel))
      | with_reducible exact Mine.RVs.nil
      | (with_reducible refine' Mine.RVs.cons ?ca_15 ?cb_15; (case ca_15 => ked_reads); (case cb_15 => ked_reads))
      | with_reducible assumption
      | (with_reducible refine' Mine.RVs.append ?pa_15 ?pb_15; (case pa_15 => ked_reads); (case pb_15 => ked_reads))
      | (with_reducible refine' Mine.RV.int' ?e_15; (case e_15 => first | with_reducible rfl | ((simp only [List.length_append, List.length_cons, List.length_nil, Nat.zero_add]); done) | ((simp only [List.length_append, List.length_cons, List.length_nil, Nat.zero_add]); omega) | omega)))
    | fail
  k_with "m call ref" => first
    | (k_here; (with_reducible show wpAny _ _ (call (Value.ref 99) _) _ _ _); k_dflt (refine' Mine.tw_use ?kC_16 ?k1_16 ?k2_16 ?k3_16 ?k4_16 ?k5_16 ?k6_16 ?k7_16 ?kU2_16 ?ksa_16 ?kth_16 ?kne_16 ?kne2_16 ?krv_16 ?kv0_16 ?kv1_16 ?k8_16 ?k9_16 ?k10_16 ?kvs_16 ?klen_16 ?kdv_16 ?k13_16 ?k14_16 ?_; (case kC_16 => with_reducible assumption); (case k1_16 => k_asm); (case k2_16 => k_asm); (case k3_16 => k_asm); (case k4_16 => k_asm); (case k5_16 => k_asm); (case k6_16 => first | exact rfl | assumption); (case k7_16 => k_updF); (case kU2_16 => intro o9; k_updF); (case ksa_16 => first | with_reducible exact Mine.Apart.ne (by with_reducible assumption) | with_reducible assumption | k_ne); (case kth_16 => k_mem); (case kne_16 => first | with_reducible exact Mine.Apart.ne (by with_reducible assumption) | with_reducible assumption | k_ne); (case kne2_16 => first | with_reducible exact Mine.Apart.ne (by with_reducible assumption) | with_reducible assumption | k_ne); (case krv_16 => first | with_reducible assumption | ked_reads); (case kv0_16 => first | assumption | exact Nat.le_of_ble_eq_true rfl); (case kv1_16 => first | assumption | exact Nat.le_of_ble_eq_true rfl); (case k8_16 => assumption); (case k9_16 => assumption); (case k10_16 => assumption); (case kvs_16 => ked_reads); (case klen_16 => first | decide | ((try simp only [List.length_append, List.length_cons, List.length_nil, Nat.pow_succ] at *); omega)); (case kdv_16 => omega); (case k13_16 => ktr_room); (case k14_16 => ktr_units); k_whole); intro p9 told9 due9 t9 a9 b9 ta9 tb9 tl9 xs9 nk9 np9 h9 tk9 F9 N9 x19 x29 x39 hp9 ht9 hd9 hx9 hvx9 hxl9 hh9 hl9 hf9; (try dsimp only at N9); (try simp only [List.cons_append, List.nil_append, List.append_assoc] at N9); (try simp only [List.append_assoc] at hvx9); (try k_sweep); (try k_fold))
    | fail
  k_with "tb_start" => first
    | (first
      | (with_reducible refine' Mine.off_I ?h_17 ?m_17; (case h_17 => with_reducible assumption); (case m_17 => kst_mem))
      | (with_reducible refine' Mine.off_C ?h_17 ?m_17; (case h_17 => with_reducible assumption); (case m_17 => kst_mem))
      | (with_reducible refine' Mine.off_D ?h_17 ?m_17; (case h_17 => with_reducible assumption); (case m_17 => kst_mem))
      | (with_reducible refine' Mine.of_I ?h_17 ?m_17; (case h_17 => with_reducible assumption); (case m_17 => kst_mem))
      | (with_reducible refine' Mine.of_C ?h_17 ?m_17; (case h_17 => with_reducible assumption); (case m_17 => kst_mem))
      | (with_reducible refine' Mine.of_D ?h_17 ?m_17; (case h_17 => with_reducible assumption); (case m_17 => kst_mem)))
    | fail
  k_with "m call builtin:list.append" => first
    | (k_here; (with_reducible show wpAny _ _ (call (Value.builtin _) [Value.ref _, _]) _ _ _); k_dflt (refine' Mine.append_L ?k1_18 ?k2_18 ?k3_18 ?z_18 ?_; (case k1_18 => k_asm); (case k2_18 => k_asm); (case k3_18 => k_updF); (case z_18 => ((try simp only [List.length_append, List.length_cons, List.length_nil]); omega)); k_whole); intro h' F' N'; (try dsimp only at N'); (try simp only [List.append_assoc, List.cons_append, List.nil_append] at N'); (try k_sweep))
    | fail
  k_with "m call builtin:len" => first
    | (k_here; (with_reducible show wpAny _ _ (call (Value.builtin "len") [Value.ref _]) _ _ _); k_dflt (refine' Mine.len_at ?k1_19 ?k2_19 ?k3_19 ?_; (case k1_19 => k_asm); (case k2_19 => kst_mem); (case k3_19 => ((try simp only [List.length_append, List.length_cons, List.length_nil]); omega)); k_whole))
    | fail
  k_with "lcg_off" => first
    | (first
      | assumption
      | (refine' Mine.off3_fresh ?f_20 ?a_20 ?b_20 ?c_20; (case f_20 => assumption); (case a_20 => kst_mem); (case b_20 => kst_mem); (case c_20 => kst_mem))
      | (refine' Mine.off3_app ?_ ?_ <;> lcg_off)
      | (refine' Mine.off3_sub ?a_20 ?b_20; (case a_20 => assumption); (case b_20 => (intro p9 h9; kst_mem))))
    | fail
  k_with "lcg_sub" => first
    | (first
      | (with_reducible refine' Mine.Out3.outI ?z_21; (case z_21 => lcg_sub))
      | (with_reducible refine' Mine.Out3.outC ?z_21; (case z_21 => lcg_sub))
      | (with_reducible refine' Mine.Out3.outD ?z_21; (case z_21 => lcg_sub))
      | (with_reducible refine' Mine.Out3.keep ?a_21 ?b_21 ?c_21 ?z_21; (case a_21 => k_ne); (case b_21 => k_ne); (case c_21 => k_ne); (case z_21 => lcg_sub))
      | (with_reducible refine' Mine.Out3.tail _ ?z_21; (case z_21 => lcg_off)))
    | fail
  k_with "m CompEnd" => first
    | (k_here; k_dflt (refine' Mine.comp_end ?F_22 ?N_22 ?m1_22 ?m2_22 ?m3_22 ?o_22 ?s_22 ?_; (case F_22 => k_asm); (case N_22 => k_asm); (case m1_22 => kst_mem); (case m2_22 => kst_mem); (case m3_22 => kst_mem); (case o_22 => lcg_sub); (case s_22 => lcg_src); k_whole))
    | fail
  k_with "m CompRest" => first
    | ((try simp only [List.nil_append, List.cons_append]); with_unfolding_all first
      | (refine LCg.CompRest.succ ?_; intro v' I' oI' C' oC' D' m' h' tk' E' hv' hC' hx' F' N' off' ne'; (first | lcg_open hv' | (obtain ⟨t9', hv9'⟩ := hv'; subst hv9')); have n19 : Mine.Apart _ _ := ne'.1; have n29 : Mine.Apart _ _ := ne'.2.1; have n39 : Mine.Apart _ _ := ne'.2.2; clear ne')
      | refine LCg.CompRest.zero ?_)
    | fail
  k_with "m eval ListComp" => first
    | (k_here; k_dflt (refine LCg.ListComp_U (F₀ := by k_asm) (by rfl) (by decide) (by rfl) (by decide) (by rfl) ?_))
    | fail
  k_with "m exec Assign cons ListComp" => first
    | (k_here; k_dflt (refine LCg.Assign_ListComp_U (F₀ := by k_asm) (by rfl) (by with_unfolding_all rfl) (by rfl) (by decide) (by rfl) (by decide) (by rfl) (by rfl) (by rfl) ?_))
    | fail
  k_with "m CompSrc" => first
    | (k_here; k_dflt (first
      | (refine LCg.CompSrc.ledger (by rfl) (by k_asm) (by k_asm) (by kst_mem) (by first | size_fits | exact Nat.le_of_ble_eq_true rfl) ?_; intro g'; lcg_lit)
      | (refine LCg.CompSrc.range (by rfl) (by k_asm) (by k_asm) (by assumption) (by first | decide | rfl) (by first | rfl | decide) (by first | size_fits | exact Nat.le_of_ble_eq_true rfl) ?_; intro g'; lcg_lit)))
    | fail
  k_with "k_subL" => first
    | (first
      | (with_reducible refine' Mine.Out1.out ?z_27; (case z_27 => k_subL))
      | (with_reducible refine' Mine.Out1.keep ?a_27 ?z_27; (case a_27 => k_ne); (case z_27 => k_subL))
      | (with_reducible refine' Mine.Out1.tail _ ?z_27; (case z_27 => k_all)))
    | fail
  k_with "m UnrEnd" => first
    | (k_here; k_dflt (refine' Mine.unr_end ?F_28 ?N_28 ?m1_28 ?o_28 ?_; (case F_28 => k_asm); (case N_28 => k_asm); (case m1_28 => kst_mem); (case o_28 => k_subL); k_whole))
    | fail
  k_with "m subscriptTail" => first
    | (k_here; (with_reducible show wpAny _ _ (subscriptTail _ _ (Value.ref _) (Value.int _ _)) _ _ _); k_dflt (refine' item_tupleT ?t_29 ?a_29 ?b_29 ?c_29 ?d_29 ?_; (case t_29 => refine' News.isTup ?N_29 ?m_29; (case N_29 => k_asm); (case m_29 => kst_mem)); (case a_29 => decide); (case b_29 => decide); (case c_29 => rfl); (case d_29 => rfl); k_whole))
    | fail
  k_with "m subscriptTail Name Constant ref int" => first
    | (k_here; (with_reducible show wpAny _ _ (subscriptTail _ _ (Value.ref _) (Value.int _ _)) _ _ _); k_dflt (refine' item_tupleT ?t_30 ?a_30 ?b_30 ?c_30 ?d_30 ?_; (case t_30 => refine' News.isTup ?N_30 ?m_30; (case N_30 => k_asm); (case m_30 => kst_mem)); (case a_30 => decide); (case b_30 => decide); (case c_30 => rfl); (case d_30 => rfl); k_whole))
    | fail
  k_with "m call ref" => first
    | (k_here; k_dflt (refine' Mine.turn_use ?kC_39 ?k1_39 ?k2_39 ?k3_39 ?k4_39 ?k5_39 ?k6_39 ?k7_39 ?kF_39 ?kF2_39 ?klen_39 ?k13_39 ?k14_39 ?_; (case kC_39 => with_reducible assumption); (case k1_39 => k_asm); (case k2_39 => k_asm); (case k3_39 => k_asm); (case k4_39 => k_asm); (case k5_39 => k_asm); (case k6_39 => first | exact rfl | assumption); (case k7_39 => k_updF); (case kF_39 => (refine' Mine.sub_in ?h_39 ?k_39; (case h_39 => with_reducible assumption); (case k_39 => (intro p9 h9; kst_mem)))); (case kF2_39 => with_reducible assumption); (case klen_39 => ((try simp only [List.length_append, List.length_cons, List.length_nil]); omega)); (case k13_39 => ktr_room); (case k14_39 => ktr_units); k_whole); intro t9 n9 h9 tk9 F9 N9; (try dsimp only at N9); (try simp only [List.cons_append, List.nil_append, List.append_assoc] at N9); (try k_sweep); (try k_fold))
    | fail
  k_with "m call ref" => first
    | (k_here; (with_reducible show wpAny _ _ (call (Value.ref 59) _) _ _ _); k_dflt (refine' Mine.td_use ?kC_40 ?kCt_40 ?kCq_40 ?k1_40 ?k2_40 ?k3_40 ?k4_40 ?k5_40 ?k6_40 ?k7_40 ?kF_40 ?kF2_40 ?kT_40 ?kT2_40 ?kv_40 ?klen_40 ?k13_40 ?k14_40 ?_; (case kCt_40 => with_reducible assumption); (case kCq_40 => with_reducible assumption); (case kv_40 => with_reducible assumption); (case kC_40 => with_reducible assumption); (case k1_40 => k_asm); (case k2_40 => k_asm); (case k3_40 => k_asm); (case k4_40 => k_asm); (case k5_40 => k_asm); (case k6_40 => first | exact rfl | assumption); (case k7_40 => k_updF); (case kF_40 => (refine' Mine.sub_in ?h_40 ?k_40; (case h_40 => with_reducible assumption); (case k_40 => (intro p9 h9; kst_mem)))); (case kF2_40 => with_reducible assumption); (case kT_40 => (refine' Mine.sub_in ?h_40 ?k_40; (case h_40 => with_reducible assumption); (case k_40 => (intro p9 h9; kst_mem)))); (case kT2_40 => with_reducible assumption); (case klen_40 => ((try simp only [List.length_append, List.length_cons, List.length_nil]); omega)); (case k13_40 => ktr_room); (case k14_40 => ktr_units); k_whole); intro r9 tl9 xs9 n9 h9 tk9 F9 N9 hd9 hx9 hxl9 hf9; (try dsimp only at N9); (try simp only [List.cons_append, List.nil_append, List.append_assoc] at N9); (try k_sweep); (try k_fold))
    | fail
  k_with "m callWith ref" => first
    | (k_here; k_dflt (first
      | (refine' callWith_F ?k1_41 ?_; (case k1_41 => exact FnAt.of (by k_asm) (by kst_mem)); k_whole)
      | (refine' callWith_F0 ?k1_41 ?_; (case k1_41 => exact FnAt.of (by k_asm) (by kst_mem)); k_whole; try dsimp only [List.nil_append, List.cons_append])))
    | fail
  trivial
inductive Rest1 (R : List (Addr × Obj)) : List (Addr × Obj) → List (Addr × Obj) → Prop where
  | nil : Rest1 R R []
  | app (tl : List (Addr × Obj)) : (∀ q ∈ R, ∀ p ∈ tl, q.1 < p.1) → Rest1 R (R ++ tl) tl
  | keep {p : Addr × Obj} {l tl : List (Addr × Obj)} : Rest1 R l tl → AllLt p.1 R → Rest1 R (p :: l) (p :: tl)
  | drop {p : Addr × Obj} {l tl : List (Addr × Obj)} : Rest1 R l tl → Rest1 R (p :: l) tl
theorem Rest1.sub {R l tl : List (Addr × Obj)} (h : Rest1 R l tl) : ∀ p ∈ R ++ tl, p ∈ l := by
  induction h with
  | nil => intro p hp; simpa using hp
  | app => exact fun _ h => h
  | keep _ _ ih =>
    intro p hp
    rcases List.mem_append.mp hp with hp | hp
    · exact .tail _ (ih p (List.mem_append.mpr (.inl hp)))
    · rcases List.mem_cons.mp hp with rfl | hp
      · exact .head _
      · exact .tail _ (ih p (List.mem_append.mpr (.inr hp)))
  | drop _ ih => exact fun p hp => .tail _ (ih p hp)
theorem Rest1.fresh {R l tl : List (Addr × Obj)} (h : Rest1 R l tl) : ∀ q ∈ R, ∀ p ∈ tl, q.1 < p.1 := by
  induction h with
  | nil => exact fun _ _ _ h => (nomatch h)
  | app tl hf => exact hf
  | keep _ h1 ih =>
    intro q hq p hp
    rcases List.mem_cons.mp hp with rfl | hp
    · exact allLt_all h1 q hq
    · exact ih q hq p hp
  | drop _ ih => exact ih
theorem fresh_sub {R l tl : List (Addr × Obj)} (hf : ∀ q ∈ l, ∀ p ∈ tl, q.1 < p.1) (hs : ∀ q ∈ R, q ∈ l) : ∀ q ∈ R, ∀ p ∈ tl, q.1 < p.1 := fun q hq p hp => hf q (hs q hq) p hp
theorem fresh_app {R tl tl' : List (Addr × Obj)} (h : ∀ q ∈ R, ∀ p ∈ tl, q.1 < p.1) (h' : ∀ q ∈ R, ∀ p ∈ tl', q.1 < p.1) : ∀ q ∈ R, ∀ p ∈ tl ++ tl', q.1 < p.1 := fun q hq p hp => (List.mem_append.mp hp).elim (h q hq p) (h' q hq p)
def RoPost (R : List (Addr × Obj)) (t : Tr) (r : Value) (N' : List (Addr × Obj)) : Prop :=
  ∃ (p : Addr) (tl : List (Addr × Obj)) (xs : List Value) (n' : Nat), r = .ref p ∧ N' = R ++ tl ∧ (p, listOf xs.toArray n') ∈ tl ∧ RVs xs t.regs ∧ (∀ q ∈ R, ∀ p ∈ tl, q.1 < p.1)
def RoSpec (w : World) (mean : ExcName → Option Value) (mg mb : Str → Option Value) (t : Tr) : Prop :=
  ∀ (T R : List (Addr × Obj)) (v : Value), (∀ p ∈ T, p ∈ R) → TrIn T v t → t.regs.length < 500 → Spec w mean mg mb 54 (t.ht + 4) (80 + 30 * t.ht) [v] R (RoPost R t)
theorem ro_end {p : Addr} {n' : Nat} {R l tl : List (Addr × Obj)} {xs : List Value} {t : Tr} {h₀ h' : Heap} {L : Addr} {m : Str → Option Value} {s : Shared} {tk' : Nat} {Q : Value → Shared → Prop}
    (hret : ∀ r N' h' tk', Fr h₀ L h' m → News h₀ L h' N' → RoPost R t r N' → Q r { s with heap := h', toks := tk' })
    (F : Fr h₀ L h' m) (N : News h₀ L h' l) (z : Rest1 R l tl) (hp : (p, listOf xs.toArray n') ∈ tl) (hx : RVs xs t.regs) : Q (.ref p) { s with heap := h', toks := tk' } :=
  hret _ (R ++ tl) _ _ F (News.sub N z.sub) ⟨p, tl, xs, n', rfl, rfl, hp, hx, z.fresh⟩
theorem ro_use {w : World} {mean : ExcName → Option Value} {mg mb : Str → Option Value} {dp un : Nat} {gd : Option (List Code)} {cn : Str} {cs : Scope} {ca : Addr} {ccd : Value} {cl : List (Str × Addr)} {outer : List Env} {A₀ : Around} {base h₀ : Heap} {L : Addr} {m : Str → Option Value} {s : Shared} {Q E : Value → Shared → Prop}
    {t : Tr} {T' : List (Addr × Obj)} {v : Value} {l : List (Addr × Obj)} (C : RoSpec w mean mg mb t)
    (B : Below A₀ base outer h₀) (F : Fr h₀ L s.heap m) (X : (hd.heap_1 w.params).In h₀) (N : News h₀ L s.heap l) (T : Top topProg (looseW view [Str.ofString "LendError"] ++ (recsOf view).map (·.name) ++ (litsOf view).map (·.1) ++ (clssOf view (looseW view [Str.ofString "LendError"])).map (·.name)) mean mg mb h₀) (hk : cs.kind = .function)
    (hT : ∀ p ∈ T', p ∈ l) (hv : TrIn T' v t) (hlen : t.regs.length < 500) (hd : dp + (t.ht + 4) < recursionLimit) (hu : un + (80 + 30 * t.ht) < cLine)
    (ret : ∀ p tl xs n' h' tk', Fr h₀ L h' m → News h₀ L h' (l ++ tl) → (p, listOf xs.toArray n') ∈ tl → RVs xs t.regs → xs.length = t.regs.length → (∀ q ∈ l, ∀ p ∈ tl, q.1 < p.1) → Q (.ref p) { s with heap := h', toks := tk' }) :
    wpAny (model PySem.Challenge.rw_xm0577_01.row.prog w) (ktrTop dp un gd cn cs L ca ccd cl outer) (call (.ref 54) [v]) Q E s := by
  refine C T' l v hT hv hlen _ _ _ _ _ _ _ _ _ _ _ _ _ _ _ _ _ B F X N T hk hd hu ?_
  rintro r N' h' tk' F' N'' ⟨p, tl, xs, n', rfl, rfl, x1, x2, x3⟩
  exact ret p tl xs n' h' tk' F' N'' x1 x2 x2.length x3
end
section
theorem words_21 : True := by
  w_top off
  k_with_none
  k_with "kst_mem" => first
    | (first
      | with_reducible assumption
      | with_reducible exact List.mem_cons_self
      | (with_reducible refine List.mem_cons_of_mem _ ?_; kst_mem)
      | (with_reducible refine List.mem_append.mpr (Or.inl ?_); kst_mem)
      | (with_reducible refine List.mem_append.mpr (Or.inr ?_); kst_mem)
      | fail "kst_mem")
    | fail
  k_with "k_mem" => first
    | (kst_mem)
    | fail
  k_with "k_all" => first
    | (first
      | with_reducible assumption
      | exact List.forall_mem_nil _
      | (with_reducible refine' Mine.less_sub ?h_2 ?m_2; (case h_2 => with_reducible assumption); (case m_2 => (intro p9 h9; kst_mem)))
      | (with_reducible refine' Mine.less_sub1 ?h_2 ?m_2; (case h_2 => with_reducible assumption); (case m_2 => (intro p9 h9; kst_mem)))
      | (with_reducible refine' Mine.less_sub2 ?h_2 ?m_2; (case h_2 => with_reducible assumption); (case m_2 => (intro p9 h9; kst_mem)))
      | (with_reducible refine' Mine.less_sub3 ?h_2 ?m_2; (case h_2 => with_reducible assumption); (case m_2 => (intro p9 h9; kst_mem)))
      | (with_reducible refine' Mine.less_sub4 ?h_2 ?m_2; (case h_2 => with_reducible assumption); (case m_2 => (intro p9 h9; kst_mem)))
      | (with_reducible refine' Mine.less_sub5 ?h_2 ?m_2; (case h_2 => with_reducible assumption); (case m_2 => (intro p9 h9; kst_mem)))
      | (refine' List.forall_mem_cons.mpr ⟨?a_2, ?b_2⟩; (case a_2 => k_ne); (case b_2 => k_all))
      | exact Mine.allLt_ne (by with_reducible assumption)
      | exact Mine.fresh_ne (by with_reducible assumption) (by k_mem)
      | (refine' List.forall_mem_append.mpr ⟨?_, ?_⟩ <;> k_all))
    | fail
  k_with "kqd_sub" => first
    | (first
      | exact fun _ h => h
      | exact List.forall_mem_nil _
      | (refine' List.forall_mem_cons.mpr ⟨?kqa_3, ?kqb_3⟩; (case kqa_3 => k_mem); (case kqb_3 => kqd_sub))
      | (refine' List.forall_mem_append.mpr ⟨?_, ?_⟩ <;> kqd_sub)
      | (intro p9 h9; k_mem))
    | fail
  k_with "ktr_enter" => first
    | (refine' code_defC ?k1_4 ?k2_4 ?k3_4 ?k4_4 ?k5_4 ?kA_4 ?kF_4 ?kK_4 ?k6_4 ?k7_4 ?k8_4 ?k9_4 ?kB_4 ?kD_4 ?_ ?c2_4 ?c3_4 ?c4_4; (case kA_4 => exact rfl); (case kF_4 => exact rfl); (case kK_4 => assumption); (case k1_4 => k_asm); (case k2_4 => k_asm); (case k3_4 => k_asm); (case k4_4 => k_asm); (case k5_4 => k_asm); (case k6_4 => k_is); (case k7_4 => k_is); (case k8_4 => ktr_room); (case k9_4 => exact BindsTo.of_eq rfl); (case kB_4 => exact rfl); (case kD_4 => decide +kernel); (case c2_4 => exact rfl); (case c3_4 => exact rfl); (case c4_4 => exact rfl); k_whole; intro g' L' h' tk' cells' FG' F' N' Y' B' X' T' l1; (try k_lt l1); k_cells Y'; (try simp only [List.cons_append, List.nil_append] at N'); (try dsimp only); (try k_fold))
    | fail
  k_with "tb_start" => first
    | (first
      | with_reducible exact Mine.Apart.ne (by with_reducible assumption)
      | with_reducible exact Mine.Apart.en (by with_reducible assumption)
      | with_reducible exact Mine.succ_ne1
      | with_reducible exact Mine.succ_ne2
      | (with_reducible refine' Mine.less_ne ?h_5 ?m_5; (case h_5 => with_reducible assumption); (case m_5 => kst_mem))
      | (with_reducible refine' Mine.less_en ?h_5 ?m_5; (case h_5 => with_reducible assumption); (case m_5 => kst_mem))
      | (with_reducible refine' Mine.less_ne1 ?h_5 ?m_5; (case h_5 => with_reducible assumption); (case m_5 => kst_mem))
      | (with_reducible refine' Mine.less_en1 ?h_5 ?m_5; (case h_5 => with_reducible assumption); (case m_5 => kst_mem))
      | (with_reducible refine' Mine.less_ne2 ?h_5 ?m_5; (case h_5 => with_reducible assumption); (case m_5 => kst_mem))
      | (with_reducible refine' Mine.less_en2 ?h_5 ?m_5; (case h_5 => with_reducible assumption); (case m_5 => kst_mem))
      | (with_reducible refine' Mine.less_ne3 ?h_5 ?m_5; (case h_5 => with_reducible assumption); (case m_5 => kst_mem))
      | (with_reducible refine' Mine.less_en3 ?h_5 ?m_5; (case h_5 => with_reducible assumption); (case m_5 => kst_mem))
      | (with_reducible refine' Mine.less_ne4 ?h_5 ?m_5; (case h_5 => with_reducible assumption); (case m_5 => kst_mem))
      | (with_reducible refine' Mine.less_en4 ?h_5 ?m_5; (case h_5 => with_reducible assumption); (case m_5 => kst_mem))
      | (with_reducible refine' Mine.less_ne5 ?h_5 ?m_5; (case h_5 => with_reducible assumption); (case m_5 => kst_mem))
      | (with_reducible refine' Mine.less_en5 ?h_5 ?m_5; (case h_5 => with_reducible assumption); (case m_5 => kst_mem))
      | (with_reducible refine' Mine.lt_ne2 ?k_5 ?h_5 ?m_5; (case k_5 => with_reducible assumption); (case h_5 => with_reducible assumption); (case m_5 => kst_mem))
      | (with_reducible refine' Mine.lt_en2 ?k_5 ?h_5 ?m_5; (case k_5 => with_reducible assumption); (case h_5 => with_reducible assumption); (case m_5 => kst_mem)))
    | fail
  k_with "k_ne" => first
    | (first | tb_start | ((try dsimp only); (refine neN ?_); first | tb_start | omega))
    | fail
  trivial
section
variable {prog : Program} {w : World} {A : Around} {E : Value → Shared → Prop} {s : Shared} {env : Env} {h₀ : Heap} {x : Str} {body : List Stmt} {Q : Flow → Shared → Prop}
/-- `for x in <a tuple of the ledger>`, where a turn may leave new objects behind -/
theorem loop_HT {st : Type} {led : st → List (Addr × Obj)} {ok : Nat → st → Prop} (σ0 : st) {ax : Addr} {vs : List Value} {n : Nat} {m₀ : Str → Option Value} {l : List (Addr × Obj)}
    (hh : A.handled = none) (F : Fr h₀ env.locals s.heap m₀) (N : News h₀ env.locals s.heap l) (hl : ∀ p ∈ led σ0, p ∈ l) (hax : ∀ σ, (ax, tupO vs n) ∈ led σ) (h0 : ok 0 σ0)
    (turn : ∀ i σ v I oI h tk, vs[i]? = some v → ok i σ → Fr h₀ env.locals h (fun y => if y = x then some v else m₀ y) → News h₀ env.locals h ((I, oI) :: led σ) → (∀ p ∈ l, @LT.lt Nat _ p.1 I) → (∀ p ∈ led σ, @Ne Nat p.1 I) →
      wpAny (model prog w) A (execs body env) (TurnH h₀ env.locals m₀ x I oI led (ok (i + 1)) { s with heap := h, toks := tk }) E { s with heap := h, toks := tk })
    (done : ∀ σ h tk (u : Str → Option Value), ok vs.length σ → Fr h₀ env.locals h (fun y => if y = x then u y else m₀ y) → News h₀ env.locals h (led σ) → Q .next { s with heap := h, toks := tk }) :
    wpAny (model prog w) A (pyIter (.ref ax)) (fun it s₂ => LoopAtV prog w A h₀ env x body Q E it s₂) E s := by
  have N0 : News h₀ env.locals s.heap (led σ0) := News.sub N hl
  have hls : s.heap.IsTuple ax vs.toArray := ⟨_, (N0 _ (hax σ0)).1, rfl, n, rfl⟩
  have hlt : ax < s.heap.objs.size := Heap.lt_size (N0 _ (hax σ0)).1
  have hne : ax ≠ s.heap.objs.size := Nat.ne_of_lt hlt
  refine wpAny_pyIter_tuple hls ?_
  have W := Walks.tuple (prog := prog) (w := w) hh s.heap.objs.size ax hne vs.toArray
  have hsz : vs.toArray.size = vs.length := by simp
  rw [hsz] at W
  have hnew := next_is_new F
  have ltl : ∀ p ∈ l, @LT.lt Nat _ p.1 s.heap.objs.size := fun p hp => Heap.lt_size (N p hp).1
  let J : Nat → (Str → Option Value) → List (Addr × Obj) → Prop := fun i m nx => ∃ σ, ok i σ ∧ nx = led σ ∧ ∀ z, z ≠ x → m z = m₀ z
  refine ⟨_, _, _, vs.length, _, _, m₀, led σ0, J, rfl, W, ?_, ?_, ?_, ⟨⟨_, Heap.get?_push_size _ rfl, rfl, rfl⟩, hls.at fun o e => Heap.get?_push_of_some _ e⟩, F.push _, (fun p hp => ⟨Heap.get?_push_of_some _ (N0 p hp).1, (N0 p hp).2⟩), ⟨σ0, h0, rfl, fun _ _ => rfl⟩, ?_, ?_⟩
  · intro hm
    rcases List.mem_cons.mp hm with e | hm
    · exact absurd F.ns.lt (e ▸ Nat.lt_irrefl _)
    · exact absurd (List.mem_singleton.mp hm).symm (N0 _ (hax σ0)).2.1
  · intro b hb
    rw [List.mem_singleton.mp hb]
    exact hnew
  · intro p hp hI
    exact absurd (Heap.lt_size (N0 p hp).1) ((List.mem_singleton.mp hI) ▸ Nat.lt_irrefl _)
  · rintro i v m₁ nx s₁ own ⟨hh', tk', rfl⟩ hin hP ⟨σ, hok, rfl, hm⟩ hoff hown hget hall hst F₁ N₁
    have hvi : vs[i]? = some v := by
      have hP' : vs.toArray[i]? = some v := hP
      simpa using hP'
    obtain ⟨oI, hoI⟩ : ∃ o, hh'.get? s.heap.objs.size = some o := by
      obtain ⟨⟨o, e, _⟩, _⟩ := hst
      exact ⟨o, e⟩
    have mI : (s.heap.objs.size, oI) ∈ own := hall _ (.head _) hnew oI hoI
    have eF : (fun y => if y = x then some v else m₁ y) = fun y => if y = x then some v else m₀ y := by
      funext y
      by_cases h1 : y = x
      · simp [h1]
      · simp only [if_neg h1]; exact hm y h1
    rw [eF] at F₁
    have N₂ : News h₀ env.locals hh' ((s.heap.objs.size, oI) :: led σ) := fun p hp => N₁ p (by
      rcases List.mem_cons.mp hp with rfl | hp
      · exact List.mem_append.mpr (.inl mI)
      · exact List.mem_append.mpr (.inr hp))
    have ownIn : ∀ p ∈ own, p = (s.heap.objs.size, oI) ∨ p = (ax, tupO vs n) := fun p hp => by
      obtain ⟨a, o⟩ := p
      rcases List.mem_cons.mp (hown _ hp) with e | e
      · have e1 : a = s.heap.objs.size := e
        subst e1
        have e2 : oI = o := Option.some.inj (hoI.symm.trans (hget _ hp))
        exact .inl (by rw [e2])
      · have e1 : a = ax := List.mem_singleton.mp e
        subst e1
        have e2 : tupO vs n = o := Option.some.inj ((N₁ _ (List.mem_append.mpr (.inr (hax σ)))).1.symm.trans (hget _ hp))
        exact .inr (by rw [e2])
    refine wpAny_mono (turn i σ v _ oI hh' tk' hvi hok F₁ N₂ ltl (fun p hp e => hoff p hp (List.mem_singleton.mpr e))) (fun f s₂ q => ?_) fun _ _ e => e
    obtain ⟨rfl, h', tk, m', σ', e, F', hm', N', hne', hok'⟩ := q
    refine .next ⟨rfl, h', tk, m', led σ', e, F', fun p hp => ?_, fun p hp hq => ?_, ⟨σ', hok', rfl, hm'⟩⟩
    · rcases List.mem_append.mp hp with hp | hp
      · rcases ownIn p hp with e | e
        · exact e ▸ N' _ (.head _)
        · exact e ▸ N' _ (.tail _ (hax σ'))
      · exact N' _ (.tail _ hp)
    · exact hne' p hp (List.mem_singleton.mp hq)
  · rintro h' tk m' nx F' N' _ ⟨σ, hok, rfl, hm⟩
    refine done σ h' tk m' hok ?_ N'
    rw [name_here hm]; exact F'
abbrev RoSt := List Value × Nat × List (Addr × Obj)
def roLed (hs : List Value) (g : Obj → List (Addr × Obj)) (σ : RoSt) : List (Addr × Obj) := g (listOf (List.toArray (hs ++ σ.1)) σ.2.1) ++ σ.2.2
def roOk (xs : List Tr) (g : Obj → List (Addr × Obj)) (i : Nat) (σ : RoSt) : Prop := RVs σ.1 (regsL (xs.take i)) ∧ ∀ o, ∀ q ∈ g o, ∀ p ∈ σ.2.2, @LT.lt Nat _ q.1 p.1
theorem ro_turn_end {L I : Addr} {s₁ : Shared} {oI : Obj} {h' : Heap} {tk' i ka : Nat} {m₀ m' : Str → Option Value} {hs os xs9 : List Value} {xs : List Tr} {t : Tr} {g : Obj → List (Addr × Obj)} {all l₀ tl tl9 : List (Addr × Obj)} {o1 : Obj}
    (F : Fr h₀ L h' m') (hm : ∀ z, z ≠ x → m' z = m₀ z) (hR : RVs os (regsL (xs.take i))) (hi : xs[i]? = some t) (hx : RVs xs9 t.regs) (f9 : ∀ q ∈ l₀, ∀ p ∈ tl9, q.1 < p.1) (mI : (I, o1) ∈ l₀) (hl0 : ∀ o, ∀ q ∈ g o, ∃ o', (q.1, o') ∈ l₀) (hq : ∀ o, ∀ q ∈ g o, ∀ p ∈ tl, @LT.lt Nat _ q.1 p.1)
    (hg : ∀ o, ∀ p ∈ g o, @Ne Nat p.1 I) (ht : ∀ p ∈ tl, @Ne Nat p.1 I) (N : News h₀ L h' all) (mI' : (I, oI) ∈ all) (hs0 : ∀ p ∈ g (listOf (hs ++ (os ++ xs9)).toArray ka), p ∈ all) (hs1 : ∀ p ∈ tl, p ∈ all) (hs2 : ∀ p ∈ tl9, p ∈ all) :
    TurnH h₀ L m₀ x I oI (roLed hs g) (roOk xs g (i + 1)) s₁ .next { s₁ with heap := h', toks := tk' } := by
  refine TurnH.intro (l := all) (os ++ xs9, ka, tl ++ tl9) F hm N ?_ ?_ ⟨?_, ?_⟩
  · intro p hp
    rcases List.mem_cons.mp hp with rfl | hp
    · exact mI'
    rcases List.mem_append.mp hp with hp | hp
    · exact hs0 p hp
    rcases List.mem_append.mp hp with hp | hp
    · exact hs1 p hp
    · exact hs2 p hp
  · intro p hp
    rcases List.mem_append.mp hp with hp | hp
    · exact hg _ p hp
    rcases List.mem_append.mp hp with hp | hp
    · exact ht p hp
    · exact Nat.ne_of_gt (f9 _ mI p hp)
  · show RVs (os ++ xs9) _
    rw [take_snoc hi, regsL_snoc]; exact hR.append hx
  · intro o q hqm p hp
    rcases List.mem_append.mp hp with hp | hp
    · exact hq o q hqm p hp
    · obtain ⟨o', ho'⟩ := hl0 o q hqm
      exact f9 _ ho' p hp
theorem loop_ro {ax fo : Addr} {its hs : List Value} {xs : List Tr} {n k H : Nat} {T l : List (Addr × Obj)} {g : Obj → List (Addr × Obj)} {m₀ : Str → Option Value} {mean : ExcName → Option Value} {mg mb : Str → Option Value}
    (hh : A.handled = none) (F : Fr h₀ env.locals s.heap m₀) (N : News h₀ env.locals s.heap l) (K : Kids T its xs) (hm : (ax, tupO its k) ∈ l) (_hf : m₀ (Str.ofString "found") = some (.ref fo)) (U : UpdF fo (listOf hs.toArray n) l g) (hP : ∀ t ∈ xs, RoSpec w mean mg mb t) (hH : ∀ t ∈ xs, t.ht + 1 ≤ H) (hh2 : hs.length ≤ 2) (hlen : (regsL xs).length < 500)
    (turn : ∀ i t v os n' tl I oI h tk, RoSpec w mean mg mb t → TrIn T v t → t.ht + 1 ≤ H → t.regs.length < 500 → hs.length + os.length + t.regs.length < 1000 → xs[i]? = some t → RVs os (regsL (xs.take i)) → Fr h₀ env.locals h (fun y => if y = x then some v else m₀ y) → News h₀ env.locals h ((I, oI) :: (g (listOf (List.toArray (hs ++ os)) n') ++ tl)) → (∀ p ∈ l, @LT.lt Nat _ p.1 I) → (∀ o, ∀ p ∈ g o, @Ne Nat p.1 I) → (∀ p ∈ tl, @Ne Nat p.1 I) →
      (∀ o, ∀ q ∈ g o, ∀ p ∈ tl, @LT.lt Nat _ q.1 p.1) → (∀ q ∈ g (listOf (List.toArray (hs ++ os)) n'), ∀ p ∈ tl, @LT.lt Nat _ q.1 p.1) → (∀ o, ∀ q ∈ g o, ∃ o', (q.1, o') ∈ (I, oI) :: (g (listOf (List.toArray (hs ++ os)) n') ++ tl)) →
      wpAny (model prog w) A (execs body env) (TurnH h₀ env.locals m₀ x I oI (roLed hs g) (roOk xs g (i + 1)) { s with heap := h, toks := tk }) E { s with heap := h, toks := tk })
    (done : ∀ os n' tl h tk (u : Str → Option Value), RVs os (regsL xs) → (∀ q ∈ g (listOf (List.toArray (hs ++ os)) n'), ∀ p ∈ tl, @LT.lt Nat _ q.1 p.1) → Fr h₀ env.locals h (fun y => if y = x then u y else m₀ y) → News h₀ env.locals h (g (listOf (List.toArray (hs ++ os)) n') ++ tl) → Q .next { s with heap := h, toks := tk }) :
    wpAny (model prog w) A (pyIter (.ref ax)) (fun it s₂ => LoopAtV prog w A h₀ env x body Q E it s₂) E s := by
  have eL := K.length
  have ltg : ∀ I : Addr, (∀ p ∈ l, @LT.lt Nat _ p.1 I) → ∀ o, ∀ p ∈ g o, @Ne Nat p.1 I := fun I hI o p hp => by
    obtain ⟨q, hq⟩ := UpdF.addr U hp
    exact Nat.ne_of_lt (show @LT.lt Nat _ p.1 I from hI (p.1, q) hq)
  refine loop_HT (led := roLed hs g) (ok := fun i σ => roOk xs g i σ) ([], n, []) hh F N ?_ (fun σ => List.mem_append.mpr (.inl (UpdF.keeps_tup U hm _))) ⟨.nil, fun _ _ _ _ h => nomatch h⟩ ?_ ?_
  · intro p hp
    have e : roLed hs g ([], n, []) = l := by show g (listOf (List.toArray (hs ++ [])) n) ++ [] = l; rw [List.append_nil, List.append_nil, UpdF.same U]
    rw [e] at hp; exact hp
  · rintro i ⟨os, n', tl⟩ v I oI h tk hv ⟨hR, hq⟩ F' N' ltI neI
    obtain ⟨t, ht, hin⟩ := K.get hv
    have tl1 := regsL_take xs t _ ht
    have tl2 : os.length = (regsL (xs.take i)).length := RVs.length hR
    refine turn i t v os n' tl I oI h tk (hP _ (mem_of_get ht)) hin (hH _ (mem_of_get ht)) (by omega) (by omega) ht hR F' N' ltI (ltg I ltI) (fun p hp => neI p (List.mem_append.mpr (.inr hp))) hq (hq _) fun o q hqm => ?_
    obtain ⟨z, hz⟩ := UpdF.swap U (o2 := listOf (List.toArray (hs ++ os)) n') hqm
    exact ⟨z, .tail _ (List.mem_append.mpr (.inl hz))⟩
  · rintro ⟨os, n', tl⟩ h tk u ⟨hR, hq⟩ F' N'
    have hR' : RVs os (regsL xs) := by
      have e : xs.take its.length = xs := by rw [eL, List.take_length]
      rw [e] at hR; exact hR
    exact done os n' tl h tk u hR' (hq _) F' N'
end
end
section
theorem words_22 : True := by
  w_top off
  k_with_none
  k_with "kst_mem" => first
    | (first
      | with_reducible assumption
      | with_reducible exact List.mem_cons_self
      | (with_reducible refine List.mem_cons_of_mem _ ?_; kst_mem)
      | (with_reducible refine List.mem_append.mpr (Or.inl ?_); kst_mem)
      | (with_reducible refine List.mem_append.mpr (Or.inr ?_); kst_mem)
      | fail "kst_mem")
    | fail
  k_with "k_mem" => first
    | (kst_mem)
    | fail
  k_with "k_all" => first
    | (first
      | with_reducible assumption
      | exact List.forall_mem_nil _
      | (with_reducible refine' Mine.less_sub ?h_2 ?m_2; (case h_2 => with_reducible assumption); (case m_2 => (intro p9 h9; kst_mem)))
      | (with_reducible refine' Mine.less_sub1 ?h_2 ?m_2; (case h_2 => with_reducible assumption); (case m_2 => (intro p9 h9; kst_mem)))
      | (with_reducible refine' Mine.less_sub2 ?h_2 ?m_2; (case h_2 => with_reducible assumption); (case m_2 => (intro p9 h9; kst_mem)))
      | (with_reducible refine' Mine.less_sub3 ?h_2 ?m_2; (case h_2 => with_reducible assumption); (case m_2 => (intro p9 h9; kst_mem)))
      | (with_reducible refine' Mine.less_sub4 ?h_2 ?m_2; (case h_2 => with_reducible assumption); (case m_2 => (intro p9 h9; kst_mem)))
      | (with_reducible refine' Mine.less_sub5 ?h_2 ?m_2; (case h_2 => with_reducible assumption); (case m_2 => (intro p9 h9; kst_mem)))
      | (refine' List.forall_mem_cons.mpr ⟨?a_2, ?b_2⟩; (case a_2 => k_ne); (case b_2 => k_all))
      | exact Mine.allLt_ne (by with_reducible assumption)
      | exact Mine.fresh_ne (by with_reducible assumption) (by k_mem)
      | (refine' List.forall_mem_append.mpr ⟨?_, ?_⟩ <;> k_all))
    | fail
  k_with "kqd_sub" => first
    | (first
      | exact fun _ h => h
      | exact List.forall_mem_nil _
      | (refine' List.forall_mem_cons.mpr ⟨?kqa_3, ?kqb_3⟩; (case kqa_3 => k_mem); (case kqb_3 => kqd_sub))
      | (refine' List.forall_mem_append.mpr ⟨?_, ?_⟩ <;> kqd_sub)
      | (intro p9 h9; k_mem))
    | fail
  k_with "ktr_enter" => first
    | (refine' code_defC ?k1_4 ?k2_4 ?k3_4 ?k4_4 ?k5_4 ?kA_4 ?kF_4 ?kK_4 ?k6_4 ?k7_4 ?k8_4 ?k9_4 ?kB_4 ?kD_4 ?_ ?c2_4 ?c3_4 ?c4_4; (case kA_4 => exact rfl); (case kF_4 => exact rfl); (case kK_4 => assumption); (case k1_4 => k_asm); (case k2_4 => k_asm); (case k3_4 => k_asm); (case k4_4 => k_asm); (case k5_4 => k_asm); (case k6_4 => k_is); (case k7_4 => k_is); (case k8_4 => ktr_room); (case k9_4 => exact BindsTo.of_eq rfl); (case kB_4 => exact rfl); (case kD_4 => decide +kernel); (case c2_4 => exact rfl); (case c3_4 => exact rfl); (case c4_4 => exact rfl); k_whole; intro g' L' h' tk' cells' FG' F' N' Y' B' X' T' l1; (try k_lt l1); k_cells Y'; (try simp only [List.cons_append, List.nil_append] at N'); (try dsimp only); (try k_fold))
    | fail
  k_with "tb_start" => first
    | (first
      | with_reducible exact Mine.Apart.ne (by with_reducible assumption)
      | with_reducible exact Mine.Apart.en (by with_reducible assumption)
      | with_reducible exact Mine.succ_ne1
      | with_reducible exact Mine.succ_ne2
      | (with_reducible refine' Mine.less_ne ?h_5 ?m_5; (case h_5 => with_reducible assumption); (case m_5 => kst_mem))
      | (with_reducible refine' Mine.less_en ?h_5 ?m_5; (case h_5 => with_reducible assumption); (case m_5 => kst_mem))
      | (with_reducible refine' Mine.less_ne1 ?h_5 ?m_5; (case h_5 => with_reducible assumption); (case m_5 => kst_mem))
      | (with_reducible refine' Mine.less_en1 ?h_5 ?m_5; (case h_5 => with_reducible assumption); (case m_5 => kst_mem))
      | (with_reducible refine' Mine.less_ne2 ?h_5 ?m_5; (case h_5 => with_reducible assumption); (case m_5 => kst_mem))
      | (with_reducible refine' Mine.less_en2 ?h_5 ?m_5; (case h_5 => with_reducible assumption); (case m_5 => kst_mem))
      | (with_reducible refine' Mine.less_ne3 ?h_5 ?m_5; (case h_5 => with_reducible assumption); (case m_5 => kst_mem))
      | (with_reducible refine' Mine.less_en3 ?h_5 ?m_5; (case h_5 => with_reducible assumption); (case m_5 => kst_mem))
      | (with_reducible refine' Mine.less_ne4 ?h_5 ?m_5; (case h_5 => with_reducible assumption); (case m_5 => kst_mem))
      | (with_reducible refine' Mine.less_en4 ?h_5 ?m_5; (case h_5 => with_reducible assumption); (case m_5 => kst_mem))
      | (with_reducible refine' Mine.less_ne5 ?h_5 ?m_5; (case h_5 => with_reducible assumption); (case m_5 => kst_mem))
      | (with_reducible refine' Mine.less_en5 ?h_5 ?m_5; (case h_5 => with_reducible assumption); (case m_5 => kst_mem))
      | (with_reducible refine' Mine.lt_ne2 ?k_5 ?h_5 ?m_5; (case k_5 => with_reducible assumption); (case h_5 => with_reducible assumption); (case m_5 => kst_mem))
      | (with_reducible refine' Mine.lt_en2 ?k_5 ?h_5 ?m_5; (case k_5 => with_reducible assumption); (case h_5 => with_reducible assumption); (case m_5 => kst_mem)))
    | fail
  k_with "k_ne" => first
    | (first | tb_start | ((try dsimp only); (refine neN ?_); first | tb_start | omega))
    | fail
  k_with "tb_rel" => first
    | (first
      | with_reducible exact Mine.Sim.nil
      | (refine' Mine.Sim.loc ?v_31 ?a_31 ?b_31 ?r_31; (case a_31 => rfl); (case b_31 => rfl); (case v_31 => rfl); (case r_31 => tb_rel))
      | (refine' Mine.Sim.cell ?c_31 ?m_31 ?d_31 ?a_31 ?b_31 ?r_31; (case a_31 => rfl); (case b_31 => rfl); (case c_31 => rfl); (case m_31 => kst_mem); (case d_31 => k_asm); (case r_31 => tb_rel))
      | (refine' Mine.Sim.str ?r_31; (case r_31 => tb_rel))
      | (refine' Mine.Sim.int ?r_31; (case r_31 => tb_rel)))
    | fail
  k_with "m eval Call" => first
    | (k_here; (with_reducible show wpAny _ _ (eval (Expr.Call (Expr.Name _ _) (_ :: _) [] _) _) _ _ _); k_dflt (refine' Mine.call_sim ?F_32 ?N_32 ?X_32 ?T_32 ?hk_32 ?hx_32 ?hd_32 ?en_32 ?kp_32 ?S_32 ?_; (case F_32 => k_asm); (case N_32 => k_asm); (case X_32 => k_asm); (case T_32 => k_asm); (case hk_32 => rfl); (case hx_32 => rfl); (case hd_32 => rfl); (case en_32 => k_is); (case kp_32 => k_is); (case S_32 => tb_rel); k_whole))
    | fail
  k_with "m eval Tuple" => first
    | (k_here; k_dflt (refine' Mine.tuple_sim ?F_33 ?N_33 ?hk_33 ?S_33 ?hz_33 ?_; (case F_33 => k_asm); (case N_33 => k_asm); (case hk_33 => rfl); (case S_33 => tb_rel); (case hz_33 => exact Nat.le_of_ble_eq_true rfl); k_whole); intro D' h' F' N' l1; (try k_lt l1); (try k_sweep))
    | fail
  k_with "m spliced" => first
    | (k_here; k_dflt (refine' Mine.args_simS ?F_34 ?N_34 ?hk_34 ?S_34 ?_; (case F_34 => k_asm); (case N_34 => k_asm); (case hk_34 => rfl); (case S_34 => tb_rel); k_whole))
    | fail
  k_with "m eval Subscript" => first
    | (k_here; (with_reducible show wpAny _ _ (eval (Expr.Subscript (Expr.Name _ _) (Expr.Constant (Const.int _) _ _) _) _) _ _ _); k_dflt (refine' Mine.sub_sim ?F_35 ?N_35 ?hk_35 ?hx_35 ?hd_35 ?hm_35 ?ht_35 ?hi_35 ?hj_35 ?_ ?hl_35; (case F_35 => k_asm); (case N_35 => k_asm); (case hk_35 => rfl); (case hx_35 => rfl); (case hd_35 => rfl); (case hm_35 => rfl); (case ht_35 => kst_mem); (case hi_35 => rfl); (case hj_35 => rfl); (case hl_35 => exact Nat.le_of_ble_eq_true rfl); k_whole))
    | fail
  k_with "m execs cons" => first
    | (k_here; k_dflt (first
      | ((with_reducible show wpAny _ _ (execs (Stmt.If (Expr.Compare (Expr.Name _ _) [CmpOp.Eq] [Expr.Constant (Const.str _) _ _] _) _ _ _ :: _) _) _ _ _); first
        | (refine' Mine.skip_if ?F_36 ?hk_36 ?hx_36 ?hd_36 ?hm_36 ?hc_36 ?_; (case F_36 => k_asm); (case hk_36 => rfl); (case hx_36 => rfl); (case hd_36 => rfl); (case hm_36 => rfl); (case hc_36 => decide); k_whole)
        | (refine' Mine.take_if ?F_36 ?hk_36 ?hx_36 ?hd_36 ?hm_36 ?hc_36 ?_; (case F_36 => k_asm); (case hk_36 => rfl); (case hx_36 => rfl); (case hd_36 => rfl); (case hm_36 => rfl); (case hc_36 => decide); k_whole))
      | ((with_reducible show wpAny _ _ (execs (Stmt.Assign [Expr.Name _ _] _ _ :: _) _) _ _ _); refine' Mine.assign_one ?_ ?hs_36; (case hs_36 => with_unfolding_all rfl))))
    | fail
  k_with "m call builtin:list.append" => first
    | (k_here; (with_reducible show wpAny _ _ (call (Value.builtin _) (_ ++ _)) _ _ _); simp only [List.cons_append, List.nil_append])
    | fail
  k_with "m call builtin:list.extend" => first
    | (k_here; (with_reducible show wpAny _ _ (call (Value.builtin _) (_ ++ _)) _ _ _); simp only [List.cons_append, List.nil_append])
    | fail
  k_with "m call ref" => first
    | (k_here; (with_reducible show wpAny _ _ (call (Value.ref 87) _) _ _ _); k_dflt (refine' Mine.take_use ?k1_7 ?k2_7 ?k3_7 ?k4_7 ?k5_7 ?k6_7 ?k7_7 ?k8_7 ?k9_7 ?k10_7 ?k11_7 ?k12_7 ?k13_7 ?k14_7 ?_; (case k1_7 => k_asm); (case k2_7 => k_asm); (case k3_7 => k_asm); (case k4_7 => k_asm); (case k5_7 => k_asm); (case k6_7 => first | exact rfl | assumption); (case k7_7 => k_updF); (case k8_7 => assumption); (case k9_7 => assumption); (case k10_7 => assumption); (case k11_7 => omega); (case k12_7 => omega); (case k13_7 => ktr_room); (case k14_7 => ktr_units); k_whole); intro k9 a9 b9 t9 ta9 tb9 h9 tk9 F9 N9 x19 x29 x39 x49 x59; (try dsimp only at N9); (try k_sweep); (try k_fold))
    | fail
  k_with "m call ref" => first
    | (k_here; (with_reducible show wpAny _ _ (call (Value.ref 94) _) _ _ _); k_dflt (refine' Mine.one_use ?k1_10 ?k2_10 ?k3_10 ?k4_10 ?k5_10 ?k6_10 ?k7_10 ?kth_10 ?kne_10 ?kv0_10 ?kv1_10 ?k8_10 ?k9_10 ?k10_10 ?k13_10 ?k14_10 ?_; (case k1_10 => k_asm); (case k2_10 => k_asm); (case k3_10 => k_asm); (case k4_10 => k_asm); (case k5_10 => k_asm); (case k6_10 => first | exact rfl | assumption); (case k7_10 => k_updF); (case kth_10 => k_mem); (case kne_10 => first | assumption | k_ne); (case kv0_10 => first | assumption | (simp only [List.length_cons, List.length_nil]; omega)); (case kv1_10 => first | assumption | (simp only [List.length_cons, List.length_nil]; omega)); (case k8_10 => assumption); (case k9_10 => assumption); (case k10_10 => assumption); (case k13_10 => ktr_room); (case k14_10 => ktr_units); k_whole); intro r9 k9 a9 b9 ta9 tb9 h9 tk9 F9 N9 hv9 hg9 x39 x49 x59; (try dsimp only at N9); (try k_sweep); (try k_fold))
    | fail
  k_with "ktn_lt" => first
    | (first
      | (refine' Mine.Fresh3.of ?f_11 ?a_11 ?b_11 ?c_11; (case f_11 => assumption); (case a_11 => k_mem); (case b_11 => k_mem); (case c_11 => (intro p9 h9; k_mem)))
      | (refine' Mine.Fresh3.app ?_ ?_ <;> ktn_lt))
    | fail
  k_with "ktn_ord" => first
    | (first
      | exact Mine.Rest.nil
      | (refine' Mine.Rest.app _ ?z_12; (case z_12 => ktn_lt))
      | (refine' Mine.Rest.keep ?z_12 ?a_12 ?b_12 ?c_12; (case a_12 => first | (with_reducible refine' Mine.less_allLt ?h_12 ?m_12; (case h_12 => with_reducible assumption); (case m_12 => (intro p9 h9; kst_mem))) | assumption | exact Mine.allLt_left (by assumption)); (case b_12 => first | (with_reducible refine' Mine.less_lt ?h_12 ?m_12; (case h_12 => with_reducible assumption); (case m_12 => kst_mem)) | ((try dsimp only); omega)); (case c_12 => first | (with_reducible refine' Mine.less_lt ?h_12 ?m_12; (case h_12 => with_reducible assumption); (case m_12 => kst_mem)) | ((try dsimp only); omega)); (case z_12 => ktn_ord))
      | (refine' Mine.Rest.drop ?z_12; (case z_12 => ktn_ord)))
    | fail
  k_with "m call ref" => first
    | (k_here; (with_reducible show wpAny _ _ (call (Value.ref 94) _) _ _ _); k_dflt (refine' Mine.oneR_use ?k1_13 ?k2_13 ?k3_13 ?k4_13 ?k5_13 ?k6_13 ?k7_13 ?kth_13 ?kne_13 ?krv_13 ?kv0_13 ?kv1_13 ?k8_13 ?k9_13 ?k10_13 ?k13_13 ?k14_13 ?_; (case k1_13 => k_asm); (case k2_13 => k_asm); (case k3_13 => k_asm); (case k4_13 => k_asm); (case k5_13 => k_asm); (case k6_13 => first | exact rfl | assumption); (case k7_13 => k_updF); (case kth_13 => k_mem); (case kne_13 => first | with_reducible exact Mine.Apart.ne (by with_reducible assumption) | with_reducible assumption | k_ne); (case krv_13 => with_reducible assumption); (case kv0_13 => assumption); (case kv1_13 => assumption); (case k8_13 => assumption); (case k9_13 => assumption); (case k10_13 => assumption); (case k13_13 => ktr_room); (case k14_13 => ktr_units); k_whole); intro r9 q9 a9 b9 ta9 tb9 h9 tk9 hq9 F9 N9 x39 x49 x59; (try dsimp only at N9); (try k_sweep); (try k_fold))
    | fail
  k_with "ktn_open" => first
    | (first
      | (refine' Mine.trIn_due ?h_14 ?e_14 ?s_14; (case h_14 => with_reducible assumption); (case e_14 => first | with_reducible rfl | ((simp only [List.length_append, List.length_cons, List.length_nil, Nat.zero_add]); done) | ((simp only [List.length_append, List.length_cons, List.length_nil, Nat.zero_add]); omega) | omega); (case s_14 => kqd_sub))
      | (refine' Mine.TrIn.mono ?s_14 ?h_14; (case h_14 => with_reducible assumption); (case s_14 => kqd_sub))
      | (with_reducible refine' Mine.TrIn.b ?a0_14; (case a0_14 => kst_mem))
      | (with_reducible refine' Mine.TrIn.i ?a0_14; (case a0_14 => kst_mem))
      | (with_reducible refine' Mine.TrIn.p ?a0_14; (case a0_14 => kst_mem))
      | (with_reducible refine' Mine.TrIn.nv ?a0_14; (case a0_14 => kst_mem))
      | (with_reducible refine' Mine.TrIn.inf ?a0_14; (case a0_14 => kst_mem))
      | (with_reducible refine' Mine.TrIn.ref ?a0_14 ?a1_14 ?a2_14; (case a0_14 => kst_mem); (case a1_14 => ked_reads); (case a2_14 => ktn_open))
      | (with_reducible refine' Mine.TrIn.box ?a0_14 ?a1_14; (case a0_14 => kst_mem); (case a1_14 => ktn_open))
      | (with_reducible refine' Mine.TrIn.arr ?a0_14 ?a1_14; (case a0_14 => kst_mem); (case a1_14 => ktn_open))
      | (with_reducible refine' Mine.TrIn.tup0 ?a0_14 ?a1_14; (case a0_14 => kst_mem); (case a1_14 => kst_mem))
      | (with_reducible refine' Mine.TrIn.tup1 ?a0_14 ?a1_14 ?a2_14; (case a0_14 => kst_mem); (case a1_14 => kst_mem); (case a2_14 => ktn_open))
      | (with_reducible refine' Mine.TrIn.tup2 ?a0_14 ?a1_14 ?_ ?_; (case a0_14 => kst_mem); (case a1_14 => kst_mem); all_goals ktn_open)
      | (with_reducible refine' Mine.TrIn.adt0 ?a0_14 ?a1_14 ?a2_14 ?a3_14 ?a4_14; (case a0_14 => kst_mem); (case a1_14 => kst_mem); (case a2_14 => ked_reads); (case a3_14 => exact Nat.le_of_ble_eq_true rfl); (case a4_14 => kst_mem))
      | (with_reducible refine' Mine.TrIn.adt1 ?a0_14 ?a1_14 ?a2_14 ?a3_14 ?a4_14 ?a5_14; (case a0_14 => kst_mem); (case a1_14 => kst_mem); (case a2_14 => ked_reads); (case a3_14 => exact Nat.le_of_ble_eq_true rfl); (case a4_14 => kst_mem); (case a5_14 => ktn_open))
      | (with_reducible refine' Mine.TrIn.adt2 ?a0_14 ?a1_14 ?a2_14 ?a3_14 ?a4_14 ?_ ?_; (case a0_14 => kst_mem); (case a1_14 => kst_mem); (case a2_14 => ked_reads); (case a3_14 => exact Nat.le_of_ble_eq_true rfl); (case a4_14 => kst_mem); all_goals ktn_open))
    | fail
  k_with "ked_reads" => first
    | (first
      | with_reducible exact Mine.RV.none
      | (with_reducible refine' Mine.RV.str _ _ ?e_15; (case e_15 => decide +kernel))
      | with_reducible exact Mine.RVs.nil
      | (with_reducible refine' Mine.RVs.cons ?ca_15 ?cb_15; (case ca_15 => ked_reads); (case cb_15 => ked_reads))
      | with_reducible assumption
      | (with_reducible refine' Mine.RVs.append ?pa_15 ?pb_15; (case pa_15 => ked_reads); (case pb_15 => ked_reads))
      | (with_reducible refine' Mine.RV.int' ?e_15; (case e_15 => first | with_reducible rfl | ((simp only [List.length_append, List.length_cons, List.length_nil, Nat.zero_add]); done) | ((simp only [List.length_append, List.length_cons, List.length_nil, Nat.zero_add]); omega) | omega)))
    | fail
  k_with "m call ref" => first
    | (k_here; (with_reducible show wpAny _ _ (call (Value.ref 99) _) _ _ _); k_dflt (refine' Mine.tw_use ?kC_16 ?k1_16 ?k2_16 ?k3_16 ?k4_16 ?k5_16 ?k6_16 ?k7_16 ?kU2_16 ?ksa_16 ?kth_16 ?kne_16 ?kne2_16 ?krv_16 ?kv0_16 ?kv1_16 ?k8_16 ?k9_16 ?k10_16 ?kvs_16 ?klen_16 ?kdv_16 ?k13_16 ?k14_16 ?_; (case kC_16 => with_reducible assumption); (case k1_16 => k_asm); (case k2_16 => k_asm); (case k3_16 => k_asm); (case k4_16 => k_asm); (case k5_16 => k_asm); (case k6_16 => first | exact rfl | assumption); (case k7_16 => k_updF); (case kU2_16 => intro o9; k_updF); (case ksa_16 => first | with_reducible exact Mine.Apart.ne (by with_reducible assumption) | with_reducible assumption | k_ne); (case kth_16 => k_mem); (case kne_16 => first | with_reducible exact Mine.Apart.ne (by with_reducible assumption) | with_reducible assumption | k_ne); (case kne2_16 => first | with_reducible exact Mine.Apart.ne (by with_reducible assumption) | with_reducible assumption | k_ne); (case krv_16 => first | with_reducible assumption | ked_reads); (case kv0_16 => first | assumption | exact Nat.le_of_ble_eq_true rfl); (case kv1_16 => first | assumption | exact Nat.le_of_ble_eq_true rfl); (case k8_16 => assumption); (case k9_16 => assumption); (case k10_16 => assumption); (case kvs_16 => ked_reads); (case klen_16 => first | decide | ((try simp only [List.length_append, List.length_cons, List.length_nil, Nat.pow_succ] at *); omega)); (case kdv_16 => omega); (case k13_16 => ktr_room); (case k14_16 => ktr_units); k_whole); intro p9 told9 due9 t9 a9 b9 ta9 tb9 tl9 xs9 nk9 np9 h9 tk9 F9 N9 x19 x29 x39 hp9 ht9 hd9 hx9 hvx9 hxl9 hh9 hl9 hf9; (try dsimp only at N9); (try simp only [List.cons_append, List.nil_append, List.append_assoc] at N9); (try simp only [List.append_assoc] at hvx9); (try k_sweep); (try k_fold))
    | fail
  k_with "tb_start" => first
    | (first
      | (with_reducible refine' Mine.off_I ?h_17 ?m_17; (case h_17 => with_reducible assumption); (case m_17 => kst_mem))
      | (with_reducible refine' Mine.off_C ?h_17 ?m_17; (case h_17 => with_reducible assumption); (case m_17 => kst_mem))
      | (with_reducible refine' Mine.off_D ?h_17 ?m_17; (case h_17 => with_reducible assumption); (case m_17 => kst_mem))
      | (with_reducible refine' Mine.of_I ?h_17 ?m_17; (case h_17 => with_reducible assumption); (case m_17 => kst_mem))
      | (with_reducible refine' Mine.of_C ?h_17 ?m_17; (case h_17 => with_reducible assumption); (case m_17 => kst_mem))
      | (with_reducible refine' Mine.of_D ?h_17 ?m_17; (case h_17 => with_reducible assumption); (case m_17 => kst_mem)))
    | fail
  k_with "m call builtin:list.append" => first
    | (k_here; (with_reducible show wpAny _ _ (call (Value.builtin _) [Value.ref _, _]) _ _ _); k_dflt (refine' Mine.append_L ?k1_18 ?k2_18 ?k3_18 ?z_18 ?_; (case k1_18 => k_asm); (case k2_18 => k_asm); (case k3_18 => k_updF); (case z_18 => ((try simp only [List.length_append, List.length_cons, List.length_nil]); omega)); k_whole); intro h' F' N'; (try dsimp only at N'); (try simp only [List.append_assoc, List.cons_append, List.nil_append] at N'); (try k_sweep))
    | fail
  k_with "m call builtin:len" => first
    | (k_here; (with_reducible show wpAny _ _ (call (Value.builtin "len") [Value.ref _]) _ _ _); k_dflt (refine' Mine.len_at ?k1_19 ?k2_19 ?k3_19 ?_; (case k1_19 => k_asm); (case k2_19 => kst_mem); (case k3_19 => ((try simp only [List.length_append, List.length_cons, List.length_nil]); omega)); k_whole))
    | fail
  k_with "lcg_off" => first
    | (first
      | assumption
      | (refine' Mine.off3_fresh ?f_20 ?a_20 ?b_20 ?c_20; (case f_20 => assumption); (case a_20 => kst_mem); (case b_20 => kst_mem); (case c_20 => kst_mem))
      | (refine' Mine.off3_app ?_ ?_ <;> lcg_off)
      | (refine' Mine.off3_sub ?a_20 ?b_20; (case a_20 => assumption); (case b_20 => (intro p9 h9; kst_mem))))
    | fail
  k_with "lcg_sub" => first
    | (first
      | (with_reducible refine' Mine.Out3.outI ?z_21; (case z_21 => lcg_sub))
      | (with_reducible refine' Mine.Out3.outC ?z_21; (case z_21 => lcg_sub))
      | (with_reducible refine' Mine.Out3.outD ?z_21; (case z_21 => lcg_sub))
      | (with_reducible refine' Mine.Out3.keep ?a_21 ?b_21 ?c_21 ?z_21; (case a_21 => k_ne); (case b_21 => k_ne); (case c_21 => k_ne); (case z_21 => lcg_sub))
      | (with_reducible refine' Mine.Out3.tail _ ?z_21; (case z_21 => lcg_off)))
    | fail
  k_with "m CompEnd" => first
    | (k_here; k_dflt (refine' Mine.comp_end ?F_22 ?N_22 ?m1_22 ?m2_22 ?m3_22 ?o_22 ?s_22 ?_; (case F_22 => k_asm); (case N_22 => k_asm); (case m1_22 => kst_mem); (case m2_22 => kst_mem); (case m3_22 => kst_mem); (case o_22 => lcg_sub); (case s_22 => lcg_src); k_whole))
    | fail
  k_with "m CompRest" => first
    | ((try simp only [List.nil_append, List.cons_append]); with_unfolding_all first
      | (refine LCg.CompRest.succ ?_; intro v' I' oI' C' oC' D' m' h' tk' E' hv' hC' hx' F' N' off' ne'; (first | lcg_open hv' | (obtain ⟨t9', hv9'⟩ := hv'; subst hv9')); have n19 : Mine.Apart _ _ := ne'.1; have n29 : Mine.Apart _ _ := ne'.2.1; have n39 : Mine.Apart _ _ := ne'.2.2; clear ne')
      | refine LCg.CompRest.zero ?_)
    | fail
  k_with "m eval ListComp" => first
    | (k_here; k_dflt (refine LCg.ListComp_U (F₀ := by k_asm) (by rfl) (by decide) (by rfl) (by decide) (by rfl) ?_))
    | fail
  k_with "m exec Assign cons ListComp" => first
    | (k_here; k_dflt (refine LCg.Assign_ListComp_U (F₀ := by k_asm) (by rfl) (by with_unfolding_all rfl) (by rfl) (by decide) (by rfl) (by decide) (by rfl) (by rfl) (by rfl) ?_))
    | fail
  k_with "m CompSrc" => first
    | (k_here; k_dflt (first
      | (refine LCg.CompSrc.ledger (by rfl) (by k_asm) (by k_asm) (by kst_mem) (by first | size_fits | exact Nat.le_of_ble_eq_true rfl) ?_; intro g'; lcg_lit)
      | (refine LCg.CompSrc.range (by rfl) (by k_asm) (by k_asm) (by assumption) (by first | decide | rfl) (by first | rfl | decide) (by first | size_fits | exact Nat.le_of_ble_eq_true rfl) ?_; intro g'; lcg_lit)))
    | fail
  k_with "k_subL" => first
    | (first
      | (with_reducible refine' Mine.Out1.out ?z_27; (case z_27 => k_subL))
      | (with_reducible refine' Mine.Out1.keep ?a_27 ?z_27; (case a_27 => k_ne); (case z_27 => k_subL))
      | (with_reducible refine' Mine.Out1.tail _ ?z_27; (case z_27 => k_all)))
    | fail
  k_with "m UnrEnd" => first
    | (k_here; k_dflt (refine' Mine.unr_end ?F_28 ?N_28 ?m1_28 ?o_28 ?_; (case F_28 => k_asm); (case N_28 => k_asm); (case m1_28 => kst_mem); (case o_28 => k_subL); k_whole))
    | fail
  k_with "m subscriptTail" => first
    | (k_here; (with_reducible show wpAny _ _ (subscriptTail _ _ (Value.ref _) (Value.int _ _)) _ _ _); k_dflt (refine' item_tupleT ?t_29 ?a_29 ?b_29 ?c_29 ?d_29 ?_; (case t_29 => refine' News.isTup ?N_29 ?m_29; (case N_29 => k_asm); (case m_29 => kst_mem)); (case a_29 => decide); (case b_29 => decide); (case c_29 => rfl); (case d_29 => rfl); k_whole))
    | fail
  k_with "m subscriptTail Name Constant ref int" => first
    | (k_here; (with_reducible show wpAny _ _ (subscriptTail _ _ (Value.ref _) (Value.int _ _)) _ _ _); k_dflt (refine' item_tupleT ?t_30 ?a_30 ?b_30 ?c_30 ?d_30 ?_; (case t_30 => refine' News.isTup ?N_30 ?m_30; (case N_30 => k_asm); (case m_30 => kst_mem)); (case a_30 => decide); (case b_30 => decide); (case c_30 => rfl); (case d_30 => rfl); k_whole))
    | fail
  k_with "m call ref" => first
    | (k_here; k_dflt (refine' Mine.turn_use ?kC_39 ?k1_39 ?k2_39 ?k3_39 ?k4_39 ?k5_39 ?k6_39 ?k7_39 ?kF_39 ?kF2_39 ?klen_39 ?k13_39 ?k14_39 ?_; (case kC_39 => with_reducible assumption); (case k1_39 => k_asm); (case k2_39 => k_asm); (case k3_39 => k_asm); (case k4_39 => k_asm); (case k5_39 => k_asm); (case k6_39 => first | exact rfl | assumption); (case k7_39 => k_updF); (case kF_39 => (refine' Mine.sub_in ?h_39 ?k_39; (case h_39 => with_reducible assumption); (case k_39 => (intro p9 h9; kst_mem)))); (case kF2_39 => with_reducible assumption); (case klen_39 => ((try simp only [List.length_append, List.length_cons, List.length_nil]); omega)); (case k13_39 => ktr_room); (case k14_39 => ktr_units); k_whole); intro t9 n9 h9 tk9 F9 N9; (try dsimp only at N9); (try simp only [List.cons_append, List.nil_append, List.append_assoc] at N9); (try k_sweep); (try k_fold))
    | fail
  k_with "m call ref" => first
    | (k_here; (with_reducible show wpAny _ _ (call (Value.ref 59) _) _ _ _); k_dflt (refine' Mine.td_use ?kC_40 ?kCt_40 ?kCq_40 ?k1_40 ?k2_40 ?k3_40 ?k4_40 ?k5_40 ?k6_40 ?k7_40 ?kF_40 ?kF2_40 ?kT_40 ?kT2_40 ?kv_40 ?klen_40 ?k13_40 ?k14_40 ?_; (case kCt_40 => with_reducible assumption); (case kCq_40 => with_reducible assumption); (case kv_40 => with_reducible assumption); (case kC_40 => with_reducible assumption); (case k1_40 => k_asm); (case k2_40 => k_asm); (case k3_40 => k_asm); (case k4_40 => k_asm); (case k5_40 => k_asm); (case k6_40 => first | exact rfl | assumption); (case k7_40 => k_updF); (case kF_40 => (refine' Mine.sub_in ?h_40 ?k_40; (case h_40 => with_reducible assumption); (case k_40 => (intro p9 h9; kst_mem)))); (case kF2_40 => with_reducible assumption); (case kT_40 => (refine' Mine.sub_in ?h_40 ?k_40; (case h_40 => with_reducible assumption); (case k_40 => (intro p9 h9; kst_mem)))); (case kT2_40 => with_reducible assumption); (case klen_40 => ((try simp only [List.length_append, List.length_cons, List.length_nil]); omega)); (case k13_40 => ktr_room); (case k14_40 => ktr_units); k_whole); intro r9 tl9 xs9 n9 h9 tk9 F9 N9 hd9 hx9 hxl9 hf9; (try dsimp only at N9); (try simp only [List.cons_append, List.nil_append, List.append_assoc] at N9); (try k_sweep); (try k_fold))
    | fail
  k_with "m callWith ref" => first
    | (k_here; k_dflt (first
      | (refine' callWith_F ?k1_41 ?_; (case k1_41 => exact FnAt.of (by k_asm) (by kst_mem)); k_whole)
      | (refine' callWith_F0 ?k1_41 ?_; (case k1_41 => exact FnAt.of (by k_asm) (by kst_mem)); k_whole; try dsimp only [List.nil_append, List.cons_append])))
    | fail
  k_with "m call ref" => first
    | (k_here; (with_reducible show wpAny _ _ (call (Value.ref 54) _) _ _ _); k_dflt (refine' Mine.ro_use ?kC_52 ?k1_52 ?k2_52 ?k3_52 ?k4_52 ?k5_52 ?k6_52 ?kT_52 ?kv_52 ?klen_52 ?k13_52 ?k14_52 ?_; (case kv_52 => with_reducible assumption); (case kC_52 => with_reducible assumption); (case k1_52 => k_asm); (case k2_52 => k_asm); (case k3_52 => k_asm); (case k4_52 => k_asm); (case k5_52 => k_asm); (case k6_52 => first | exact rfl | assumption); (case kT_52 => (refine' Mine.sub_in ?h_52 ?k_52; (case h_52 => with_reducible assumption); (case k_52 => (intro p9 h9; kst_mem)))); (case klen_52 => omega); (case k13_52 => ktr_room); (case k14_52 => ktr_units); k_whole); intro p9 tl9 xs9 n9 h9 tk9 F9 N9 hp9 hx9 hxl9 hf9; (try dsimp only at N9); (try simp only [List.cons_append, List.nil_append, List.append_assoc] at N9); (try k_sweep); (try k_fold))
    | fail
  k_with "kwd_rel" => first
    | (first
      | (refine' Mine.fresh_sub ?a_53 ?b_53; (case a_53 => assumption); (case b_53 => (intro p9 h9; kst_mem)))
      | (refine' Mine.fresh_app ?_ ?_ <;> kwd_rel))
    | fail
  k_with "kwd_inv" => first
    | (first
      | with_reducible exact Mine.Rest1.nil
      | (with_reducible refine' Mine.Rest1.app _ ?z_54; (case z_54 => kwd_rel))
      | (with_reducible refine' Mine.Rest1.keep ?z_54 ?a_54; (case a_54 => first | (with_reducible refine' Mine.less_allLt ?h_54 ?m_54; (case h_54 => with_reducible assumption); (case m_54 => (intro p9 h9; kst_mem))) | assumption | exact Mine.allLt_left (by assumption)); (case z_54 => kwd_inv))
      | (with_reducible refine' Mine.Rest1.drop ?z_54; (case z_54 => kwd_inv)))
    | fail
  k_with "m call builtin:list.extend" => first
    | (k_here; (with_reducible show wpAny _ _ (call (Value.builtin _) [Value.ref _, Value.ref _]) _ _ _); k_dflt (refine' Mine.extend_L ?k1_55 ?k2_55 ?hb_55 ?k3_55 ?z_55 ?_; (case k1_55 => k_asm); (case k2_55 => k_asm); (case hb_55 => kst_mem); (case k3_55 => k_updF); (case z_55 => ((try simp only [List.length_append, List.length_cons, List.length_nil]); omega)); k_whole); intro h' n9 F' N'; (try dsimp only at N'); (try simp only [List.append_assoc, List.cons_append, List.nil_append] at N'); (try k_sweep))
    | fail
  k_with "m binaryOp Add ref ref" => first
    | (k_here; (with_reducible show wpAny _ _ (binaryOp Operator.Add (Value.ref _) (Value.ref _)) _ _ _); k_dflt (refine' Mine.addL_at ?F_56 ?N_56 ?a_56 ?b_56 ?z_56 ?_; (case F_56 => k_asm); (case N_56 => k_asm); (case a_56 => kst_mem); (case b_56 => kst_mem); (case z_56 => ((try simp only [List.length_append, List.length_cons, List.length_nil]); omega)); k_whole); intro p' h' F' N' l1; (try simp only [List.append_assoc, List.cons_append, List.nil_append] at N'); (try k_lt l1); (try k_sweep))
    | fail
  k_with "m UnrEndW" => first
    | (k_here; k_dflt (refine' Mine.unrW_end ?F_57 ?N_57 ?m1_57 ?o_57 ?_; (case F_57 => k_asm); (case N_57 => k_asm); (case m1_57 => kst_mem); (case o_57 => k_subL); k_whole); refine And.intro (And.intro (by kst_mem) True.intro) ?_)
    | fail
  trivial
section
theorem words_23 : True := by
  k_with "kc_close" => first
    | (
        refine' ro_end ?hr_58 ?F_58 ?N_58 ?z_58 ?hp_58 ?hx_58
        (case hr_58 => assumption)
        (case F_58 => k_asm)
        (case N_58 => k_asm)
        (case z_58 => kwd_inv)
        (case hp_58 => kst_mem)
        (case hx_58 => (simp only [Tr.regs, List.cons_append, List.nil_append, List.append_assoc]); ked_reads))
    | fail
  k_with "m exec For Name Name cons nil" => first
    | (k_here; (rename Fr _ _ _ _ => lF'); (with_unfolding_all refine' For_turns lF' ?_; k_whole))
    | fail
  k_with "m pyIter ref" => first
    | (k_here; (with_reducible show wpAny _ _ (pyIter (Value.ref _)) (fun it s₂ => TurnsAt _ _ _ _ _ _ _ _ _ it s₂) _ _); k_dflt (refine' iter_tupTurns ?hh_60 ?F_60 ?N_60 ?hm_60 ?hc_60 ?hd_60 ?_; (case hh_60 => exact rfl); (case F_60 => k_asm); (case N_60 => k_asm); (case hm_60 => kst_mem); (case hc_60 => exact rfl); (case hd_60 => exact rfl); k_whole); intro I' l1; (try k_lt l1))
    | fail
  trivial
theorem ro_b {w : World} {mean : ExcName → Option Value} {mg mb : Str → Option Value}  : RoSpec w mean mg mb (.b) := by
  intro T R v hTR hv hlen
  unfold Spec
  intro dp un gd cn cs ca ccd cl outer A₀ base h₀ L m s Q E B F X N To hk hd hu hret
  simp only [Tr.ht, Tr.regs, List.length_nil, List.length_cons, List.length_append] at hd hu hlen
  cases hv with
  | b q1 =>
    have m0 := hTR _ q1
    refine wpAny_call ?_
    k_dflt ktr_enter
    k_steps
    all_goals kc_close
theorem ro_i {w : World} {mean : ExcName → Option Value} {mg mb : Str → Option Value}  : RoSpec w mean mg mb (.i) := by
  intro T R v hTR hv hlen
  unfold Spec
  intro dp un gd cn cs ca ccd cl outer A₀ base h₀ L m s Q E B F X N To hk hd hu hret
  simp only [Tr.ht, Tr.regs, List.length_nil, List.length_cons, List.length_append] at hd hu hlen
  cases hv with
  | i q1 =>
    have m0 := hTR _ q1
    refine wpAny_call ?_
    k_dflt ktr_enter
    k_steps
    all_goals kc_close
theorem ro_p {w : World} {mean : ExcName → Option Value} {mg mb : Str → Option Value}  : RoSpec w mean mg mb (.p) := by
  intro T R v hTR hv hlen
  unfold Spec
  intro dp un gd cn cs ca ccd cl outer A₀ base h₀ L m s Q E B F X N To hk hd hu hret
  simp only [Tr.ht, Tr.regs, List.length_nil, List.length_cons, List.length_append] at hd hu hlen
  cases hv with
  | p q1 =>
    have m0 := hTR _ q1
    refine wpAny_call ?_
    k_dflt ktr_enter
    k_steps
    all_goals kc_close
theorem ro_nv {w : World} {mean : ExcName → Option Value} {mg mb : Str → Option Value}  : RoSpec w mean mg mb (.nv) := by
  intro T R v hTR hv hlen
  unfold Spec
  intro dp un gd cn cs ca ccd cl outer A₀ base h₀ L m s Q E B F X N To hk hd hu hret
  simp only [Tr.ht, Tr.regs, List.length_nil, List.length_cons, List.length_append] at hd hu hlen
  cases hv with
  | nv q1 =>
    have m0 := hTR _ q1
    refine wpAny_call ?_
    k_dflt ktr_enter
    k_steps
    all_goals kc_close
theorem ro_inf {w : World} {mean : ExcName → Option Value} {mg mb : Str → Option Value}  : RoSpec w mean mg mb (.inf) := by
  intro T R v hTR hv hlen
  unfold Spec
  intro dp un gd cn cs ca ccd cl outer A₀ base h₀ L m s Q E B F X N To hk hd hu hret
  simp only [Tr.ht, Tr.regs, List.length_nil, List.length_cons, List.length_append] at hd hu hlen
  cases hv with
  | inf q1 =>
    have m0 := hTR _ q1
    refine wpAny_call ?_
    k_dflt ktr_enter
    k_steps
    all_goals kc_close
theorem ro_ref {w : World} {mean : ExcName → Option Value} {mg mb : Str → Option Value} (r : Rv) (mu : Bool) (x : Tr) (IHx : RoSpec w mean mg mb x) : RoSpec w mean mg mb (.ref r mu x) := by
  intro T R v hTR hv hlen
  unfold Spec
  intro dp un gd cn cs ca ccd cl outer A₀ base h₀ L m s Q E B F X N To hk hd hu hret
  simp only [Tr.ht, Tr.regs, List.length_nil, List.length_cons, List.length_append] at hd hu hlen
  cases hv with
  | ref q1 hr hx =>
    have m0 := hTR _ q1
    refine wpAny_call ?_
    k_dflt ktr_enter
    k_steps
    all_goals kc_close
theorem ro_box {w : World} {mean : ExcName → Option Value} {mg mb : Str → Option Value} (x : Tr) (IHx : RoSpec w mean mg mb x) : RoSpec w mean mg mb (.box x) := by
  intro T R v hTR hv hlen
  unfold Spec
  intro dp un gd cn cs ca ccd cl outer A₀ base h₀ L m s Q E B F X N To hk hd hu hret
  simp only [Tr.ht, Tr.regs, List.length_nil, List.length_cons, List.length_append] at hd hu hlen
  cases hv with
  | box q1 hx =>
    have m0 := hTR _ q1
    refine wpAny_call ?_
    k_dflt ktr_enter
    k_steps
    all_goals kc_close
theorem ro_arr {w : World} {mean : ExcName → Option Value} {mg mb : Str → Option Value} (x : Tr) (IHx : RoSpec w mean mg mb x) (k : Int) : RoSpec w mean mg mb (.arr x k) := by
  intro T R v hTR hv hlen
  unfold Spec
  intro dp un gd cn cs ca ccd cl outer A₀ base h₀ L m s Q E B F X N To hk hd hu hret
  simp only [Tr.ht, Tr.regs, List.length_nil, List.length_cons, List.length_append] at hd hu hlen
  cases hv with
  | arr q1 hx =>
    have m0 := hTR _ q1
    refine wpAny_call ?_
    k_dflt ktr_enter
    k_steps
    all_goals kc_close
theorem words_24 : True := by
  k_with "m exec For Name Name cons nil" => first
    | (k_here; (rename Fr _ _ _ _ => lF'); (with_reducible refine' For_invVF lF' ?k1_61 ?k2_61 ?_ ?hs_61 ?hE_61); (case k1_61 => with_unfolding_all exact rfl); (case k2_61 => with_unfolding_all exact rfl); (case hs_61 => (intro _; with_unfolding_all rfl)); (case hE_61 => with_unfolding_all passes_own); k_whole)
    | fail
  k_with "m pyIter ref" => first
    | (k_here; (with_reducible show wpAny _ _ (pyIter (Value.ref _)) (fun it s₂ => LoopAtV _ _ _ _ _ _ _ _ _ it s₂) _ _); k_dflt (refine' Mine.loop_ro ?hh_62 ?F_62 ?N_62 ?K_62 ?hm_62 ?hf_62 ?U_62 ?hP_62 ?hH_62 ?h2_62 ?hlen_62 ?kturn_62 ?kdone_62; (case hh_62 => exact rfl); (case F_62 => k_asm); (case N_62 => k_asm); (case K_62 => with_reducible assumption); (case hm_62 => kst_mem); (case hf_62 => exact rfl); (case U_62 => k_updF); (case hP_62 => with_reducible assumption); (case hH_62 => with_reducible assumption); (case h2_62 => first | exact Nat.le_of_ble_eq_true rfl | omega); (case hlen_62 => omega); (case' kturn_62 => (intro i9 t9 v9 os9 n9 tl9 I9 oI9 h9 tk9 hP9 hv9 hH9 hr9 hol9 hi9 hR9 F9 N9 lI9 gI9 tI9 hq9 hq29 hl9; (try dsimp only at N9 hq29 hl9 lI9); (try simp only [List.cons_append, List.nil_append, List.append_assoc] at N9 hl9); (try k_sweep))); (case' kdone_62 => (intro os9 n9 tl9 h9 tk9 u9 hR9 hq29 F9 N9; (try dsimp only at N9 hq29); (try simp only [List.cons_append, List.nil_append, List.append_assoc] at N9); (try k_sweep))); k_whole))
    | fail
  k_with "m TurnH" => first
    | (k_dflt (refine' Mine.ro_turn_end ?F_63 ?hm_63 ?hR_63 ?hi_63 ?hx_63 ?f9_63 ?mI_63 ?hl0_63 ?hq_63 ?hg_63 ?ht_63 ?N_63 ?mI2_63 ?hs0_63 ?hs1_63 ?hs2_63; (case F_63 => k_asm); (case hm_63 => (intro z hz; first | exact if_neg hz | (simp only [if_neg hz]))); (case hR_63 => with_reducible assumption); (case hi_63 => with_reducible assumption); (case hx_63 => with_reducible assumption); (case f9_63 => with_reducible assumption); (case mI_63 => kst_mem); (case hl0_63 => with_reducible assumption); (case hq_63 => with_reducible assumption); (case hg_63 => with_reducible assumption); (case ht_63 => with_reducible assumption); (case N_63 => k_asm); (case mI2_63 => kst_mem); (case hs0_63 => ((try dsimp only); kqd_sub)); (case hs1_63 => (intro p9 h9; kst_mem)); (case hs2_63 => (intro p9 h9; kst_mem))))
    | fail
  k_with "m call type:list" => first
    | (k_here; (with_reducible show wpAny _ _ (call (Value.type _) [Value.ref _]) _ _ _); k_dflt (refine' kup_listOfT ?F_64 ?N_64 ?b_64 ?e_64 ?_ ?z_64; (case F_64 => k_asm); (case N_64 => k_asm); (case b_64 => kst_mem); (case e_64 => exact Mine.toArr_list _); (case z_64 => (rw [Mine.toArr_list, sizeLine_eq]; omega))); intro D' c' h' F' N' l1; (try k_lt l1); (try k_sweep))
    | fail
  trivial
theorem ro_tup {w : World} {mean : ExcName → Option Value} {mg mb : Str → Option Value} {t : Tr} {xs : List Tr} (V : TupView t xs) (IH : ∀ x ∈ xs, RoSpec w mean mg mb x) : RoSpec w mean mg mb t := by
  intro T R v hTR hv hlen
  unfold Spec
  intro dp un gd cn cs ca ccd cl outer A₀ base h₀ L m s Q E B F X N To hk hd hu hret
  rw [V.regs] at hlen
  have hH := V.ht
  generalize eH : t.ht = H at hd hu hH
  obtain ⟨a, b, n1, n2, tk, its, rfl, q1, q2, hK⟩ := V.inn hv
  have m0 := hTR _ q1
  have m1 := hTR _ q2
  refine wpAny_call ?_
  k_dflt ktr_enter
  k_steps
  all_goals (
    refine' ro_end ?hr ?F ?N ?z ?hp ?hx
    (case hr => assumption)
    (case F => k_asm)
    (case N => k_asm)
    (case z => kwd_inv)
    (case hp => kst_mem)
    (case hx => (rw [V.regs]; ked_reads)))
theorem ro_adt {w : World} {mean : ExcName → Option Value} {mg mb : Str → Option Value} {t : Tr} {rs : List Rv} {xs : List Tr} (V : AdtView t rs xs) (IH : ∀ x ∈ xs, RoSpec w mean mg mb x) : RoSpec w mean mg mb t := by
  intro T R v hTR hv hlen
  unfold Spec
  intro dp un gd cn cs ca ccd cl outer A₀ base h₀ L m s Q E B F X N To hk hd hu hret
  rw [V.regs, List.length_append] at hlen
  have hH := V.ht
  generalize eH : t.ht = H at hd hu hH
  obtain ⟨a, b, c, n1, n2, n3, tk, tk', rvs, its, rfl, q1, q2, hr, hr2, q3, hK⟩ := V.inn hv
  have hi3 := hr.length
  have m0 := hTR _ q1
  have m1 := hTR _ q2
  have m2 := hTR _ q3
  refine wpAny_call ?_
  k_dflt ktr_enter
  k_steps
  all_goals (
    refine' ro_end ?hr ?F ?N ?z ?hp ?hx
    (case hr => assumption)
    (case F => k_asm)
    (case N => k_asm)
    (case z => kwd_inv)
    (case hp => kst_mem)
    (case hx => (rw [V.regs]; ked_reads)))
theorem ro_all {w : World} {mean : ExcName → Option Value} {mg mb : Str → Option Value} (t : Tr) : RoSpec w mean mg mb t := by
  induction t with
  | b => exact ro_b
  | i => exact ro_i
  | p => exact ro_p
  | nv => exact ro_nv
  | inf => exact ro_inf
  | ref r m x ih => exact ro_ref r m x ih
  | box x ih => exact ro_box x ih
  | arr x k ih => exact ro_arr x ih k
  | tup0 => exact ro_tup view_tup0 fun _ h => nomatch h
  | tup1 x ih => exact ro_tup (view_tup1 x) fun z h => by simp at h; exact h ▸ ih
  | tup2 x y ih ih2 => exact ro_tup (view_tup2 x y) fun z h => by simp at h; exact h.elim (fun h => h ▸ ih) (fun h => h ▸ ih2)
  | adt0 rs => exact ro_adt (view_adt0 rs) fun _ h => nomatch h
  | adt1 rs x ih => exact ro_adt (view_adt1 rs x) fun z h => by simp at h; exact h ▸ ih
  | adt2 rs x y ih ih2 => exact ro_adt (view_adt2 rs x y) fun z h => by simp at h; exact h.elim (fun h => h ▸ ih) (fun h => h ▸ ih2)
end
end
section
theorem words_25 : True := by
  w_top off
  k_with_none
  k_with "kst_mem" => first
    | (first
      | with_reducible assumption
      | with_reducible exact List.mem_cons_self
      | (with_reducible refine List.mem_cons_of_mem _ ?_; kst_mem)
      | (with_reducible refine List.mem_append.mpr (Or.inl ?_); kst_mem)
      | (with_reducible refine List.mem_append.mpr (Or.inr ?_); kst_mem)
      | fail "kst_mem")
    | fail
  k_with "k_mem" => first
    | (kst_mem)
    | fail
  k_with "k_all" => first
    | (first
      | with_reducible assumption
      | exact List.forall_mem_nil _
      | (with_reducible refine' Mine.less_sub ?h_2 ?m_2; (case h_2 => with_reducible assumption); (case m_2 => (intro p9 h9; kst_mem)))
      | (with_reducible refine' Mine.less_sub1 ?h_2 ?m_2; (case h_2 => with_reducible assumption); (case m_2 => (intro p9 h9; kst_mem)))
      | (with_reducible refine' Mine.less_sub2 ?h_2 ?m_2; (case h_2 => with_reducible assumption); (case m_2 => (intro p9 h9; kst_mem)))
      | (with_reducible refine' Mine.less_sub3 ?h_2 ?m_2; (case h_2 => with_reducible assumption); (case m_2 => (intro p9 h9; kst_mem)))
      | (with_reducible refine' Mine.less_sub4 ?h_2 ?m_2; (case h_2 => with_reducible assumption); (case m_2 => (intro p9 h9; kst_mem)))
      | (with_reducible refine' Mine.less_sub5 ?h_2 ?m_2; (case h_2 => with_reducible assumption); (case m_2 => (intro p9 h9; kst_mem)))
      | (refine' List.forall_mem_cons.mpr ⟨?a_2, ?b_2⟩; (case a_2 => k_ne); (case b_2 => k_all))
      | exact Mine.allLt_ne (by with_reducible assumption)
      | exact Mine.fresh_ne (by with_reducible assumption) (by k_mem)
      | (refine' List.forall_mem_append.mpr ⟨?_, ?_⟩ <;> k_all))
    | fail
  k_with "kqd_sub" => first
    | (first
      | exact fun _ h => h
      | exact List.forall_mem_nil _
      | (refine' List.forall_mem_cons.mpr ⟨?kqa_3, ?kqb_3⟩; (case kqa_3 => k_mem); (case kqb_3 => kqd_sub))
      | (refine' List.forall_mem_append.mpr ⟨?_, ?_⟩ <;> kqd_sub)
      | (intro p9 h9; k_mem))
    | fail
  k_with "ktr_enter" => first
    | (refine' code_defC ?k1_4 ?k2_4 ?k3_4 ?k4_4 ?k5_4 ?kA_4 ?kF_4 ?kK_4 ?k6_4 ?k7_4 ?k8_4 ?k9_4 ?kB_4 ?kD_4 ?_ ?c2_4 ?c3_4 ?c4_4; (case kA_4 => exact rfl); (case kF_4 => exact rfl); (case kK_4 => assumption); (case k1_4 => k_asm); (case k2_4 => k_asm); (case k3_4 => k_asm); (case k4_4 => k_asm); (case k5_4 => k_asm); (case k6_4 => k_is); (case k7_4 => k_is); (case k8_4 => ktr_room); (case k9_4 => exact BindsTo.of_eq rfl); (case kB_4 => exact rfl); (case kD_4 => decide +kernel); (case c2_4 => exact rfl); (case c3_4 => exact rfl); (case c4_4 => exact rfl); k_whole; intro g' L' h' tk' cells' FG' F' N' Y' B' X' T' l1; (try k_lt l1); k_cells Y'; (try simp only [List.cons_append, List.nil_append] at N'); (try dsimp only); (try k_fold))
    | fail
  k_with "tb_start" => first
    | (first
      | with_reducible exact Mine.Apart.ne (by with_reducible assumption)
      | with_reducible exact Mine.Apart.en (by with_reducible assumption)
      | with_reducible exact Mine.succ_ne1
      | with_reducible exact Mine.succ_ne2
      | (with_reducible refine' Mine.less_ne ?h_5 ?m_5; (case h_5 => with_reducible assumption); (case m_5 => kst_mem))
      | (with_reducible refine' Mine.less_en ?h_5 ?m_5; (case h_5 => with_reducible assumption); (case m_5 => kst_mem))
      | (with_reducible refine' Mine.less_ne1 ?h_5 ?m_5; (case h_5 => with_reducible assumption); (case m_5 => kst_mem))
      | (with_reducible refine' Mine.less_en1 ?h_5 ?m_5; (case h_5 => with_reducible assumption); (case m_5 => kst_mem))
      | (with_reducible refine' Mine.less_ne2 ?h_5 ?m_5; (case h_5 => with_reducible assumption); (case m_5 => kst_mem))
      | (with_reducible refine' Mine.less_en2 ?h_5 ?m_5; (case h_5 => with_reducible assumption); (case m_5 => kst_mem))
      | (with_reducible refine' Mine.less_ne3 ?h_5 ?m_5; (case h_5 => with_reducible assumption); (case m_5 => kst_mem))
      | (with_reducible refine' Mine.less_en3 ?h_5 ?m_5; (case h_5 => with_reducible assumption); (case m_5 => kst_mem))
      | (with_reducible refine' Mine.less_ne4 ?h_5 ?m_5; (case h_5 => with_reducible assumption); (case m_5 => kst_mem))
      | (with_reducible refine' Mine.less_en4 ?h_5 ?m_5; (case h_5 => with_reducible assumption); (case m_5 => kst_mem))
      | (with_reducible refine' Mine.less_ne5 ?h_5 ?m_5; (case h_5 => with_reducible assumption); (case m_5 => kst_mem))
      | (with_reducible refine' Mine.less_en5 ?h_5 ?m_5; (case h_5 => with_reducible assumption); (case m_5 => kst_mem))
      | (with_reducible refine' Mine.lt_ne2 ?k_5 ?h_5 ?m_5; (case k_5 => with_reducible assumption); (case h_5 => with_reducible assumption); (case m_5 => kst_mem))
      | (with_reducible refine' Mine.lt_en2 ?k_5 ?h_5 ?m_5; (case k_5 => with_reducible assumption); (case h_5 => with_reducible assumption); (case m_5 => kst_mem)))
    | fail
  k_with "k_ne" => first
    | (first | tb_start | ((try dsimp only); (refine neN ?_); first | tb_start | omega))
    | fail
  k_with "m call ref" => first
    | (k_here; (with_reducible show wpAny _ _ (call (Value.ref 87) _) _ _ _); k_dflt (refine' Mine.take_use ?k1_7 ?k2_7 ?k3_7 ?k4_7 ?k5_7 ?k6_7 ?k7_7 ?k8_7 ?k9_7 ?k10_7 ?k11_7 ?k12_7 ?k13_7 ?k14_7 ?_; (case k1_7 => k_asm); (case k2_7 => k_asm); (case k3_7 => k_asm); (case k4_7 => k_asm); (case k5_7 => k_asm); (case k6_7 => first | exact rfl | assumption); (case k7_7 => k_updF); (case k8_7 => assumption); (case k9_7 => assumption); (case k10_7 => assumption); (case k11_7 => omega); (case k12_7 => omega); (case k13_7 => ktr_room); (case k14_7 => ktr_units); k_whole); intro k9 a9 b9 t9 ta9 tb9 h9 tk9 F9 N9 x19 x29 x39 x49 x59; (try dsimp only at N9); (try k_sweep); (try k_fold))
    | fail
  k_with "m call ref" => first
    | (k_here; (with_reducible show wpAny _ _ (call (Value.ref 94) _) _ _ _); k_dflt (refine' Mine.one_use ?k1_10 ?k2_10 ?k3_10 ?k4_10 ?k5_10 ?k6_10 ?k7_10 ?kth_10 ?kne_10 ?kv0_10 ?kv1_10 ?k8_10 ?k9_10 ?k10_10 ?k13_10 ?k14_10 ?_; (case k1_10 => k_asm); (case k2_10 => k_asm); (case k3_10 => k_asm); (case k4_10 => k_asm); (case k5_10 => k_asm); (case k6_10 => first | exact rfl | assumption); (case k7_10 => k_updF); (case kth_10 => k_mem); (case kne_10 => first | assumption | k_ne); (case kv0_10 => first | assumption | (simp only [List.length_cons, List.length_nil]; omega)); (case kv1_10 => first | assumption | (simp only [List.length_cons, List.length_nil]; omega)); (case k8_10 => assumption); (case k9_10 => assumption); (case k10_10 => assumption); (case k13_10 => ktr_room); (case k14_10 => ktr_units); k_whole); intro r9 k9 a9 b9 ta9 tb9 h9 tk9 F9 N9 hv9 hg9 x39 x49 x59; (try dsimp only at N9); (try k_sweep); (try k_fold))
    | fail
  k_with "ktn_lt" => first
    | (first
      | (refine' Mine.Fresh3.of ?f_11 ?a_11 ?b_11 ?c_11; (case f_11 => assumption); (case a_11 => k_mem); (case b_11 => k_mem); (case c_11 => (intro p9 h9; k_mem)))
      | (refine' Mine.Fresh3.app ?_ ?_ <;> ktn_lt))
    | fail
  k_with "ktn_ord" => first
    | (first
      | exact Mine.Rest.nil
      | (refine' Mine.Rest.app _ ?z_12; (case z_12 => ktn_lt))
      | (refine' Mine.Rest.keep ?z_12 ?a_12 ?b_12 ?c_12; (case a_12 => first | (with_reducible refine' Mine.less_allLt ?h_12 ?m_12; (case h_12 => with_reducible assumption); (case m_12 => (intro p9 h9; kst_mem))) | assumption | exact Mine.allLt_left (by assumption)); (case b_12 => first | (with_reducible refine' Mine.less_lt ?h_12 ?m_12; (case h_12 => with_reducible assumption); (case m_12 => kst_mem)) | ((try dsimp only); omega)); (case c_12 => first | (with_reducible refine' Mine.less_lt ?h_12 ?m_12; (case h_12 => with_reducible assumption); (case m_12 => kst_mem)) | ((try dsimp only); omega)); (case z_12 => ktn_ord))
      | (refine' Mine.Rest.drop ?z_12; (case z_12 => ktn_ord)))
    | fail
  k_with "m call ref" => first
    | (k_here; (with_reducible show wpAny _ _ (call (Value.ref 94) _) _ _ _); k_dflt (refine' Mine.oneR_use ?k1_13 ?k2_13 ?k3_13 ?k4_13 ?k5_13 ?k6_13 ?k7_13 ?kth_13 ?kne_13 ?krv_13 ?kv0_13 ?kv1_13 ?k8_13 ?k9_13 ?k10_13 ?k13_13 ?k14_13 ?_; (case k1_13 => k_asm); (case k2_13 => k_asm); (case k3_13 => k_asm); (case k4_13 => k_asm); (case k5_13 => k_asm); (case k6_13 => first | exact rfl | assumption); (case k7_13 => k_updF); (case kth_13 => k_mem); (case kne_13 => first | with_reducible exact Mine.Apart.ne (by with_reducible assumption) | with_reducible assumption | k_ne); (case krv_13 => with_reducible assumption); (case kv0_13 => assumption); (case kv1_13 => assumption); (case k8_13 => assumption); (case k9_13 => assumption); (case k10_13 => assumption); (case k13_13 => ktr_room); (case k14_13 => ktr_units); k_whole); intro r9 q9 a9 b9 ta9 tb9 h9 tk9 hq9 F9 N9 x39 x49 x59; (try dsimp only at N9); (try k_sweep); (try k_fold))
    | fail
  k_with "ktn_open" => first
    | (first
      | (refine' Mine.trIn_due ?h_14 ?e_14 ?s_14; (case h_14 => with_reducible assumption); (case e_14 => first | with_reducible rfl | ((simp only [List.length_append, List.length_cons, List.length_nil, Nat.zero_add]); done) | ((simp only [List.length_append, List.length_cons, List.length_nil, Nat.zero_add]); omega) | omega); (case s_14 => kqd_sub))
      | (refine' Mine.TrIn.mono ?s_14 ?h_14; (case h_14 => with_reducible assumption); (case s_14 => kqd_sub))
      | (with_reducible refine' Mine.TrIn.b ?a0_14; (case a0_14 => kst_mem))
      | (with_reducible refine' Mine.TrIn.i ?a0_14; (case a0_14 => kst_mem))
      | (with_reducible refine' Mine.TrIn.p ?a0_14; (case a0_14 => kst_mem))
      | (with_reducible refine' Mine.TrIn.nv ?a0_14; (case a0_14 => kst_mem))
      | (with_reducible refine' Mine.TrIn.inf ?a0_14; (case a0_14 => kst_mem))
      | (with_reducible refine' Mine.TrIn.ref ?a0_14 ?a1_14 ?a2_14; (case a0_14 => kst_mem); (case a1_14 => ked_reads); (case a2_14 => ktn_open))
      | (with_reducible refine' Mine.TrIn.box ?a0_14 ?a1_14; (case a0_14 => kst_mem); (case a1_14 => ktn_open))
      | (with_reducible refine' Mine.TrIn.arr ?a0_14 ?a1_14; (case a0_14 => kst_mem); (case a1_14 => ktn_open))
      | (with_reducible refine' Mine.TrIn.tup0 ?a0_14 ?a1_14; (case a0_14 => kst_mem); (case a1_14 => kst_mem))
      | (with_reducible refine' Mine.TrIn.tup1 ?a0_14 ?a1_14 ?a2_14; (case a0_14 => kst_mem); (case a1_14 => kst_mem); (case a2_14 => ktn_open))
      | (with_reducible refine' Mine.TrIn.tup2 ?a0_14 ?a1_14 ?_ ?_; (case a0_14 => kst_mem); (case a1_14 => kst_mem); all_goals ktn_open)
      | (with_reducible refine' Mine.TrIn.adt0 ?a0_14 ?a1_14 ?a2_14 ?a3_14 ?a4_14; (case a0_14 => kst_mem); (case a1_14 => kst_mem); (case a2_14 => ked_reads); (case a3_14 => exact Nat.le_of_ble_eq_true rfl); (case a4_14 => kst_mem))
      | (with_reducible refine' Mine.TrIn.adt1 ?a0_14 ?a1_14 ?a2_14 ?a3_14 ?a4_14 ?a5_14; (case a0_14 => kst_mem); (case a1_14 => kst_mem); (case a2_14 => ked_reads); (case a3_14 => exact Nat.le_of_ble_eq_true rfl); (case a4_14 => kst_mem); (case a5_14 => ktn_open))
      | (with_reducible refine' Mine.TrIn.adt2 ?a0_14 ?a1_14 ?a2_14 ?a3_14 ?a4_14 ?_ ?_; (case a0_14 => kst_mem); (case a1_14 => kst_mem); (case a2_14 => ked_reads); (case a3_14 => exact Nat.le_of_ble_eq_true rfl); (case a4_14 => kst_mem); all_goals ktn_open))
    | fail
  k_with "ked_reads" => first
    | (first
      | with_reducible exact Mine.RV.none
      | (with_reducible refine' Mine.RV.str _ _ ?e_15; (case e_15 => decide +kernel))
      | with_reducible exact Mine.RVs.nil
      | (with_reducible refine' Mine.RVs.cons ?ca_15 ?cb_15; (case ca_15 => ked_reads); (case cb_15 => ked_reads))
      | with_reducible assumption
      | (with_reducible refine' Mine.RVs.append ?pa_15 ?pb_15; (case pa_15 => ked_reads); (case pb_15 => ked_reads))
      | (with_reducible refine' Mine.RV.int' ?e_15; (case e_15 => first | with_reducible rfl | ((simp only [List.length_append, List.length_cons, List.length_nil, Nat.zero_add]); done) | ((simp only [List.length_append, List.length_cons, List.length_nil, Nat.zero_add]); omega) | omega)))
    | fail
  k_with "m call ref" => first
    | (k_here; (with_reducible show wpAny _ _ (call (Value.ref 99) _) _ _ _); k_dflt (refine' Mine.tw_use ?kC_16 ?k1_16 ?k2_16 ?k3_16 ?k4_16 ?k5_16 ?k6_16 ?k7_16 ?kU2_16 ?ksa_16 ?kth_16 ?kne_16 ?kne2_16 ?krv_16 ?kv0_16 ?kv1_16 ?k8_16 ?k9_16 ?k10_16 ?kvs_16 ?klen_16 ?kdv_16 ?k13_16 ?k14_16 ?_; (case kC_16 => with_reducible assumption); (case k1_16 => k_asm); (case k2_16 => k_asm); (case k3_16 => k_asm); (case k4_16 => k_asm); (case k5_16 => k_asm); (case k6_16 => first | exact rfl | assumption); (case k7_16 => k_updF); (case kU2_16 => intro o9; k_updF); (case ksa_16 => first | with_reducible exact Mine.Apart.ne (by with_reducible assumption) | with_reducible assumption | k_ne); (case kth_16 => k_mem); (case kne_16 => first | with_reducible exact Mine.Apart.ne (by with_reducible assumption) | with_reducible assumption | k_ne); (case kne2_16 => first | with_reducible exact Mine.Apart.ne (by with_reducible assumption) | with_reducible assumption | k_ne); (case krv_16 => first | with_reducible assumption | ked_reads); (case kv0_16 => first | assumption | exact Nat.le_of_ble_eq_true rfl); (case kv1_16 => first | assumption | exact Nat.le_of_ble_eq_true rfl); (case k8_16 => assumption); (case k9_16 => assumption); (case k10_16 => assumption); (case kvs_16 => ked_reads); (case klen_16 => first | decide | ((try simp only [List.length_append, List.length_cons, List.length_nil, Nat.pow_succ] at *); omega)); (case kdv_16 => omega); (case k13_16 => ktr_room); (case k14_16 => ktr_units); k_whole); intro p9 told9 due9 t9 a9 b9 ta9 tb9 tl9 xs9 nk9 np9 h9 tk9 F9 N9 x19 x29 x39 hp9 ht9 hd9 hx9 hvx9 hxl9 hh9 hl9 hf9; (try dsimp only at N9); (try simp only [List.cons_append, List.nil_append, List.append_assoc] at N9); (try simp only [List.append_assoc] at hvx9); (try k_sweep); (try k_fold))
    | fail
  k_with "tb_start" => first
    | (first
      | (with_reducible refine' Mine.off_I ?h_17 ?m_17; (case h_17 => with_reducible assumption); (case m_17 => kst_mem))
      | (with_reducible refine' Mine.off_C ?h_17 ?m_17; (case h_17 => with_reducible assumption); (case m_17 => kst_mem))
      | (with_reducible refine' Mine.off_D ?h_17 ?m_17; (case h_17 => with_reducible assumption); (case m_17 => kst_mem))
      | (with_reducible refine' Mine.of_I ?h_17 ?m_17; (case h_17 => with_reducible assumption); (case m_17 => kst_mem))
      | (with_reducible refine' Mine.of_C ?h_17 ?m_17; (case h_17 => with_reducible assumption); (case m_17 => kst_mem))
      | (with_reducible refine' Mine.of_D ?h_17 ?m_17; (case h_17 => with_reducible assumption); (case m_17 => kst_mem)))
    | fail
  k_with "m call builtin:list.append" => first
    | (k_here; (with_reducible show wpAny _ _ (call (Value.builtin _) [Value.ref _, _]) _ _ _); k_dflt (refine' Mine.append_L ?k1_18 ?k2_18 ?k3_18 ?z_18 ?_; (case k1_18 => k_asm); (case k2_18 => k_asm); (case k3_18 => k_updF); (case z_18 => ((try simp only [List.length_append, List.length_cons, List.length_nil]); omega)); k_whole); intro h' F' N'; (try dsimp only at N'); (try simp only [List.append_assoc, List.cons_append, List.nil_append] at N'); (try k_sweep))
    | fail
  k_with "m call builtin:len" => first
    | (k_here; (with_reducible show wpAny _ _ (call (Value.builtin "len") [Value.ref _]) _ _ _); k_dflt (refine' Mine.len_at ?k1_19 ?k2_19 ?k3_19 ?_; (case k1_19 => k_asm); (case k2_19 => kst_mem); (case k3_19 => ((try simp only [List.length_append, List.length_cons, List.length_nil]); omega)); k_whole))
    | fail
  k_with "lcg_off" => first
    | (first
      | assumption
      | (refine' Mine.off3_fresh ?f_20 ?a_20 ?b_20 ?c_20; (case f_20 => assumption); (case a_20 => kst_mem); (case b_20 => kst_mem); (case c_20 => kst_mem))
      | (refine' Mine.off3_app ?_ ?_ <;> lcg_off)
      | (refine' Mine.off3_sub ?a_20 ?b_20; (case a_20 => assumption); (case b_20 => (intro p9 h9; kst_mem))))
    | fail
  k_with "lcg_sub" => first
    | (first
      | (with_reducible refine' Mine.Out3.outI ?z_21; (case z_21 => lcg_sub))
      | (with_reducible refine' Mine.Out3.outC ?z_21; (case z_21 => lcg_sub))
      | (with_reducible refine' Mine.Out3.outD ?z_21; (case z_21 => lcg_sub))
      | (with_reducible refine' Mine.Out3.keep ?a_21 ?b_21 ?c_21 ?z_21; (case a_21 => k_ne); (case b_21 => k_ne); (case c_21 => k_ne); (case z_21 => lcg_sub))
      | (with_reducible refine' Mine.Out3.tail _ ?z_21; (case z_21 => lcg_off)))
    | fail
  k_with "m CompEnd" => first
    | (k_here; k_dflt (refine' Mine.comp_end ?F_22 ?N_22 ?m1_22 ?m2_22 ?m3_22 ?o_22 ?s_22 ?_; (case F_22 => k_asm); (case N_22 => k_asm); (case m1_22 => kst_mem); (case m2_22 => kst_mem); (case m3_22 => kst_mem); (case o_22 => lcg_sub); (case s_22 => lcg_src); k_whole))
    | fail
  k_with "m CompRest" => first
    | ((try simp only [List.nil_append, List.cons_append]); with_unfolding_all first
      | (refine LCg.CompRest.succ ?_; intro v' I' oI' C' oC' D' m' h' tk' E' hv' hC' hx' F' N' off' ne'; (first | lcg_open hv' | (obtain ⟨t9', hv9'⟩ := hv'; subst hv9')); have n19 : Mine.Apart _ _ := ne'.1; have n29 : Mine.Apart _ _ := ne'.2.1; have n39 : Mine.Apart _ _ := ne'.2.2; clear ne')
      | refine LCg.CompRest.zero ?_)
    | fail
  k_with "m eval ListComp" => first
    | (k_here; k_dflt (refine LCg.ListComp_U (F₀ := by k_asm) (by rfl) (by decide) (by rfl) (by decide) (by rfl) ?_))
    | fail
  k_with "m exec Assign cons ListComp" => first
    | (k_here; k_dflt (refine LCg.Assign_ListComp_U (F₀ := by k_asm) (by rfl) (by with_unfolding_all rfl) (by rfl) (by decide) (by rfl) (by decide) (by rfl) (by rfl) (by rfl) ?_))
    | fail
  k_with "m CompSrc" => first
    | (k_here; k_dflt (first
      | (refine LCg.CompSrc.ledger (by rfl) (by k_asm) (by k_asm) (by kst_mem) (by first | size_fits | exact Nat.le_of_ble_eq_true rfl) ?_; intro g'; lcg_lit)
      | (refine LCg.CompSrc.range (by rfl) (by k_asm) (by k_asm) (by assumption) (by first | decide | rfl) (by first | rfl | decide) (by first | size_fits | exact Nat.le_of_ble_eq_true rfl) ?_; intro g'; lcg_lit)))
    | fail
  k_with "k_subL" => first
    | (first
      | (with_reducible refine' Mine.Out1.out ?z_27; (case z_27 => k_subL))
      | (with_reducible refine' Mine.Out1.keep ?a_27 ?z_27; (case a_27 => k_ne); (case z_27 => k_subL))
      | (with_reducible refine' Mine.Out1.tail _ ?z_27; (case z_27 => k_all)))
    | fail
  k_with "m UnrEnd" => first
    | (k_here; k_dflt (refine' Mine.unr_end ?F_28 ?N_28 ?m1_28 ?o_28 ?_; (case F_28 => k_asm); (case N_28 => k_asm); (case m1_28 => kst_mem); (case o_28 => k_subL); k_whole))
    | fail
  k_with "m subscriptTail" => first
    | (k_here; (with_reducible show wpAny _ _ (subscriptTail _ _ (Value.ref _) (Value.int _ _)) _ _ _); k_dflt (refine' item_tupleT ?t_29 ?a_29 ?b_29 ?c_29 ?d_29 ?_; (case t_29 => refine' News.isTup ?N_29 ?m_29; (case N_29 => k_asm); (case m_29 => kst_mem)); (case a_29 => decide); (case b_29 => decide); (case c_29 => rfl); (case d_29 => rfl); k_whole))
    | fail
  k_with "m subscriptTail Name Constant ref int" => first
    | (k_here; (with_reducible show wpAny _ _ (subscriptTail _ _ (Value.ref _) (Value.int _ _)) _ _ _); k_dflt (refine' item_tupleT ?t_30 ?a_30 ?b_30 ?c_30 ?d_30 ?_; (case t_30 => refine' News.isTup ?N_30 ?m_30; (case N_30 => k_asm); (case m_30 => kst_mem)); (case a_30 => decide); (case b_30 => decide); (case c_30 => rfl); (case d_30 => rfl); k_whole))
    | fail
  k_with "m call ref" => first
    | (k_here; k_dflt (refine' Mine.turn_use ?kC_39 ?k1_39 ?k2_39 ?k3_39 ?k4_39 ?k5_39 ?k6_39 ?k7_39 ?kF_39 ?kF2_39 ?klen_39 ?k13_39 ?k14_39 ?_; (case kC_39 => with_reducible assumption); (case k1_39 => k_asm); (case k2_39 => k_asm); (case k3_39 => k_asm); (case k4_39 => k_asm); (case k5_39 => k_asm); (case k6_39 => first | exact rfl | assumption); (case k7_39 => k_updF); (case kF_39 => (refine' Mine.sub_in ?h_39 ?k_39; (case h_39 => with_reducible assumption); (case k_39 => (intro p9 h9; kst_mem)))); (case kF2_39 => with_reducible assumption); (case klen_39 => ((try simp only [List.length_append, List.length_cons, List.length_nil]); omega)); (case k13_39 => ktr_room); (case k14_39 => ktr_units); k_whole); intro t9 n9 h9 tk9 F9 N9; (try dsimp only at N9); (try simp only [List.cons_append, List.nil_append, List.append_assoc] at N9); (try k_sweep); (try k_fold))
    | fail
  k_with "m call ref" => first
    | (k_here; (with_reducible show wpAny _ _ (call (Value.ref 59) _) _ _ _); k_dflt (refine' Mine.td_use ?kC_40 ?kCt_40 ?kCq_40 ?k1_40 ?k2_40 ?k3_40 ?k4_40 ?k5_40 ?k6_40 ?k7_40 ?kF_40 ?kF2_40 ?kT_40 ?kT2_40 ?kv_40 ?klen_40 ?k13_40 ?k14_40 ?_; (case kCt_40 => with_reducible assumption); (case kCq_40 => with_reducible assumption); (case kv_40 => with_reducible assumption); (case kC_40 => with_reducible assumption); (case k1_40 => k_asm); (case k2_40 => k_asm); (case k3_40 => k_asm); (case k4_40 => k_asm); (case k5_40 => k_asm); (case k6_40 => first | exact rfl | assumption); (case k7_40 => k_updF); (case kF_40 => (refine' Mine.sub_in ?h_40 ?k_40; (case h_40 => with_reducible assumption); (case k_40 => (intro p9 h9; kst_mem)))); (case kF2_40 => with_reducible assumption); (case kT_40 => (refine' Mine.sub_in ?h_40 ?k_40; (case h_40 => with_reducible assumption); (case k_40 => (intro p9 h9; kst_mem)))); (case kT2_40 => with_reducible assumption); (case klen_40 => ((try simp only [List.length_append, List.length_cons, List.length_nil]); omega)); (case k13_40 => ktr_room); (case k14_40 => ktr_units); k_whole); intro r9 tl9 xs9 n9 h9 tk9 F9 N9 hd9 hx9 hxl9 hf9; (try dsimp only at N9); (try simp only [List.cons_append, List.nil_append, List.append_assoc] at N9); (try k_sweep); (try k_fold))
    | fail
  k_with "m callWith ref" => first
    | (k_here; k_dflt (first
      | (refine' callWith_F ?k1_41 ?_; (case k1_41 => exact FnAt.of (by k_asm) (by kst_mem)); k_whole)
      | (refine' callWith_F0 ?k1_41 ?_; (case k1_41 => exact FnAt.of (by k_asm) (by kst_mem)); k_whole; try dsimp only [List.nil_append, List.cons_append])))
    | fail
  k_with "m call ref" => first
    | (k_here; (with_reducible show wpAny _ _ (call (Value.ref 54) _) _ _ _); k_dflt (refine' Mine.ro_use ?kC_52 ?k1_52 ?k2_52 ?k3_52 ?k4_52 ?k5_52 ?k6_52 ?kT_52 ?kv_52 ?klen_52 ?k13_52 ?k14_52 ?_; (case kv_52 => with_reducible assumption); (case kC_52 => with_reducible assumption); (case k1_52 => k_asm); (case k2_52 => k_asm); (case k3_52 => k_asm); (case k4_52 => k_asm); (case k5_52 => k_asm); (case k6_52 => first | exact rfl | assumption); (case kT_52 => (refine' Mine.sub_in ?h_52 ?k_52; (case h_52 => with_reducible assumption); (case k_52 => (intro p9 h9; kst_mem)))); (case klen_52 => omega); (case k13_52 => ktr_room); (case k14_52 => ktr_units); k_whole); intro p9 tl9 xs9 n9 h9 tk9 F9 N9 hp9 hx9 hxl9 hf9; (try dsimp only at N9); (try simp only [List.cons_append, List.nil_append, List.append_assoc] at N9); (try k_sweep); (try k_fold))
    | fail
  k_with "kwd_rel" => first
    | (first
      | (refine' Mine.fresh_sub ?a_53 ?b_53; (case a_53 => assumption); (case b_53 => (intro p9 h9; kst_mem)))
      | (refine' Mine.fresh_app ?_ ?_ <;> kwd_rel))
    | fail
  k_with "kwd_inv" => first
    | (first
      | with_reducible exact Mine.Rest1.nil
      | (with_reducible refine' Mine.Rest1.app _ ?z_54; (case z_54 => kwd_rel))
      | (with_reducible refine' Mine.Rest1.keep ?z_54 ?a_54; (case a_54 => first | (with_reducible refine' Mine.less_allLt ?h_54 ?m_54; (case h_54 => with_reducible assumption); (case m_54 => (intro p9 h9; kst_mem))) | assumption | exact Mine.allLt_left (by assumption)); (case z_54 => kwd_inv))
      | (with_reducible refine' Mine.Rest1.drop ?z_54; (case z_54 => kwd_inv)))
    | fail
  k_with "m call builtin:list.extend" => first
    | (k_here; (with_reducible show wpAny _ _ (call (Value.builtin _) [Value.ref _, Value.ref _]) _ _ _); k_dflt (refine' Mine.extend_L ?k1_55 ?k2_55 ?hb_55 ?k3_55 ?z_55 ?_; (case k1_55 => k_asm); (case k2_55 => k_asm); (case hb_55 => kst_mem); (case k3_55 => k_updF); (case z_55 => ((try simp only [List.length_append, List.length_cons, List.length_nil]); omega)); k_whole); intro h' n9 F' N'; (try dsimp only at N'); (try simp only [List.append_assoc, List.cons_append, List.nil_append] at N'); (try k_sweep))
    | fail
  k_with "m binaryOp Add ref ref" => first
    | (k_here; (with_reducible show wpAny _ _ (binaryOp Operator.Add (Value.ref _) (Value.ref _)) _ _ _); k_dflt (refine' Mine.addL_at ?F_56 ?N_56 ?a_56 ?b_56 ?z_56 ?_; (case F_56 => k_asm); (case N_56 => k_asm); (case a_56 => kst_mem); (case b_56 => kst_mem); (case z_56 => ((try simp only [List.length_append, List.length_cons, List.length_nil]); omega)); k_whole); intro p' h' F' N' l1; (try simp only [List.append_assoc, List.cons_append, List.nil_append] at N'); (try k_lt l1); (try k_sweep))
    | fail
  k_with "m UnrEndW" => first
    | (k_here; k_dflt (refine' Mine.unrW_end ?F_57 ?N_57 ?m1_57 ?o_57 ?_; (case F_57 => k_asm); (case N_57 => k_asm); (case m1_57 => kst_mem); (case o_57 => k_subL); k_whole); refine And.intro (And.intro (by kst_mem) True.intro) ?_)
    | fail
  trivial
open PyProof.Rows in
def Rv.pd : Rv → PyData
  | .none => .none
  | .str x => .str x
  | .int i => .int i
def pds (rs : List Rv) : List PyData := rs.map Rv.pd
def lit (x : String) : PyData := .str (Str.ofString x)
def Tr.pd : Tr → PyData
  | .b => .tuple [lit "bool"]
  | .i => .tuple [lit "int", lit "u8"]
  | .p => .tuple [lit "param", lit "T"]
  | .nv => .tuple [lit "never"]
  | .inf => .tuple [lit "infer"]
  | .ref r m t => .tuple [lit "ref", r.pd, .bool m, t.pd]
  | .box t => .tuple [lit "box", t.pd]
  | .arr t n => .tuple [lit "array", t.pd, .int n]
  | .tup0 => .tuple [lit "tuple", .tuple []]
  | .tup1 x => .tuple [lit "tuple", .tuple [x.pd]]
  | .tup2 x y => .tuple [lit "tuple", .tuple [x.pd, y.pd]]
  | .adt0 rs => .tuple [lit "adt", lit "S", .tuple (pds rs), .tuple []]
  | .adt1 rs x => .tuple [lit "adt", lit "S", .tuple (pds rs), .tuple [x.pd]]
  | .adt2 rs x y => .tuple [lit "adt", lit "S", .tuple (pds rs), .tuple [x.pd, y.pd]]
section
variable {h : Heap}
theorem RV.reads {v : Value} {r : Rv} (k : RV v r) : Reads h v r.pd [] ∧ r.pd.canLay0 = true ∧ r.pd.depth = 0 := by
  cases k with
  | none => exact ⟨Reads.none, rfl, rfl⟩
  | str x t e => exact ⟨Reads.str x t, e, rfl⟩
  | int i t => exact ⟨Reads.int i t, rfl, rfl⟩
theorem RVs.reads {vs : List Value} {rs : List Rv} (k : RVs vs rs) : ReadsAll h vs (pds rs) [] ∧ PyData.canLayAll0 (pds rs) = true ∧ PyData.depthAll (pds rs) = 0 := by
  induction k with
  | nil => exact ⟨ReadsAll.nil, rfl, rfl⟩
  | cons a _ ih =>
    have q := a.reads (h := h)
    refine ⟨readsAll_cons_val q.1 ih.1, ?_, ?_⟩
    · show PyData.canLayAll0 (_ :: pds _) = true
      simp only [PyData.canLayAll0, q.2.1, ih.2.1, Bool.and_self]
    · show PyData.depthAll (_ :: pds _) = 0
      simp only [PyData.depthAll, q.2.2, ih.2.2, Nat.max_self]
theorem lit_lay {x : String} (e : PyData.strOk (Str.ofString x) = true) : (lit x).canLay0 = true := e
theorem TrIn.reads {h₀ : Heap} {L : Addr} {T : List (Addr × Obj)} (N : News h₀ L h T) {v : Value} {t : Tr} (k : TrIn T v t) : ∃ as, Reads h v t.pd as ∧ t.pd.canLay0 = true ∧ t.pd.depth ≤ 2 * t.ht + 2 := by
  have tup : ∀ {a : Addr} {vs : List Value} {n : Nat} {ds : List PyData} {as : List Addr}, (a, tupO vs n) ∈ T → ReadsAll h vs ds as → Reads h (.ref a) (.tuple ds) as := fun hm r => reads_tuple_at (N _ hm).1 rfl rfl (by simpa using r)
  have st : ∀ {x : String} {t : Tok}, Reads h (.str (Str.ofString x) t) (lit x) [] := fun {x t} => Reads.str _ _
  induction k with
  | b q => exact ⟨_, tup q (.cons st .nil), by decide +kernel, by decide⟩
  | i q => exact ⟨_, tup q (.cons st (.cons st .nil)), by decide +kernel, by decide⟩
  | p q => exact ⟨_, tup q (.cons st (.cons st .nil)), by decide +kernel, by decide⟩
  | nv q => exact ⟨_, tup q (.cons st .nil), by decide +kernel, by decide⟩
  | inf q => exact ⟨_, tup q (.cons st .nil), by decide +kernel, by decide⟩
  | ref q r _ ih =>
    obtain ⟨as, i1, i2, i3⟩ := ih
    have rr := r.reads (h := h)
    refine ⟨_, tup q (.cons st (.cons rr.1 (.cons (.bool _) (.cons i1 .nil)))), ?_, ?_⟩
    · simp only [Tr.pd, PyData.canLay0, PyData.canLayAll0, rr.2.1, i2, lit_lay (x := "ref") (by decide +kernel), Bool.and_self]
    · simp only [Tr.pd, Tr.ht, PyData.depth, PyData.depthAll, lit, rr.2.2]; omega
  | box q _ ih =>
    obtain ⟨as, i1, i2, i3⟩ := ih
    refine ⟨_, tup q (.cons st (.cons i1 .nil)), ?_, ?_⟩
    · simp only [Tr.pd, PyData.canLay0, PyData.canLayAll0, i2, lit_lay (x := "box") (by decide +kernel), Bool.and_self]
    · simp only [Tr.pd, Tr.ht, PyData.depth, PyData.depthAll, lit]; omega
  | arr q _ ih =>
    obtain ⟨as, i1, i2, i3⟩ := ih
    refine ⟨_, tup q (.cons st (.cons i1 (.cons (.int _ _) .nil))), ?_, ?_⟩
    · simp only [Tr.pd, PyData.canLay0, PyData.canLayAll0, i2, lit_lay (x := "array") (by decide +kernel), Bool.and_self]
    · simp only [Tr.pd, Tr.ht, PyData.depth, PyData.depthAll, lit]; omega
  | tup0 q q' => exact ⟨_, tup q (.cons st (.cons (tup q' .nil) .nil)), by decide +kernel, by decide⟩
  | tup1 q q' _ ih =>
    obtain ⟨as, i1, i2, i3⟩ := ih
    refine ⟨_, tup q (.cons st (.cons (tup q' (.cons i1 .nil)) .nil)), ?_, ?_⟩
    · simp only [Tr.pd, PyData.canLay0, PyData.canLayAll0, i2, lit_lay (x := "tuple") (by decide +kernel), Bool.and_self]
    · simp only [Tr.pd, Tr.ht, PyData.depth, PyData.depthAll, lit]; omega
  | tup2 q q' _ _ ih ih' =>
    obtain ⟨as, i1, i2, i3⟩ := ih
    obtain ⟨bs, j1, j2, j3⟩ := ih'
    refine ⟨_, tup q (.cons st (.cons (tup q' (.cons i1 (.cons j1 .nil))) .nil)), ?_, ?_⟩
    · simp only [Tr.pd, PyData.canLay0, PyData.canLayAll0, i2, j2, lit_lay (x := "tuple") (by decide +kernel), Bool.and_self]
    · simp only [Tr.pd, Tr.ht, PyData.depth, PyData.depthAll, lit]; omega
  | adt0 q q' r l q2 =>
    have rr := r.reads (h := h)
    refine ⟨_, tup q (.cons st (.cons st (.cons (tup q' rr.1) (.cons (tup q2 .nil) .nil)))), ?_, ?_⟩
    · simp only [Tr.pd, PyData.canLay0, PyData.canLayAll0, rr.2.1, lit_lay (x := "adt") (by decide +kernel), lit_lay (x := "S") (by decide +kernel), Bool.and_self]
    · simp only [Tr.pd, Tr.ht, PyData.depth, PyData.depthAll, lit, rr.2.2]; omega
  | adt1 q q' r l q2 _ ih =>
    obtain ⟨as, i1, i2, i3⟩ := ih
    have rr := r.reads (h := h)
    refine ⟨_, tup q (.cons st (.cons st (.cons (tup q' rr.1) (.cons (tup q2 (.cons i1 .nil)) .nil)))), ?_, ?_⟩
    · simp only [Tr.pd, PyData.canLay0, PyData.canLayAll0, rr.2.1, i2, lit_lay (x := "adt") (by decide +kernel), lit_lay (x := "S") (by decide +kernel), Bool.and_self]
    · simp only [Tr.pd, Tr.ht, PyData.depth, PyData.depthAll, lit, rr.2.2]; omega
  | adt2 q q' r l q2 _ _ ih ih' =>
    obtain ⟨as, i1, i2, i3⟩ := ih
    obtain ⟨bs, j1, j2, j3⟩ := ih'
    have rr := r.reads (h := h)
    refine ⟨_, tup q (.cons st (.cons st (.cons (tup q' rr.1) (.cons (tup q2 (.cons i1 (.cons j1 .nil))) .nil)))), ?_, ?_⟩
    · simp only [Tr.pd, PyData.canLay0, PyData.canLayAll0, rr.2.1, i2, j2, lit_lay (x := "adt") (by decide +kernel), lit_lay (x := "S") (by decide +kernel), Bool.and_self]
    · simp only [Tr.pd, Tr.ht, PyData.depth, PyData.depthAll, lit, rr.2.2]; omega
end
section
variable {prog : Program} {w : World} {A : Around} {E : Value → Shared → Prop} {s : Shared} {h₀ : Heap} {L : Addr} {l T T' : List (Addr × Obj)} {v v' : Value} {t : Tr} {Q : Value → Shared → Prop}
theorem tree_eq (N : News h₀ L s.heap l) (hT : ∀ p ∈ T, p ∈ l) (hT' : ∀ p ∈ T', p ∈ l) (a : TrIn T v t) (b : TrIn T' v' t) (hh : t.ht ≤ 4) (hu : A.units + 64 < cLine) (h : Q (.bool true) s) : wpAny (model prog w) A (compareOp .Eq v v') Q E s := by
  obtain ⟨as, a1, a2, a3⟩ := a.reads (News.sub N hT)
  obtain ⟨bs, b1, b2, b3⟩ := b.reads (News.sub N hT')
  have sh : SeqAt.shaped t.pd = true := by
    unfold SeqAt.shaped
    rw [a2, Bool.true_and]
    exact decide_eq_true (by omega)
  refine eq_dataH a1 b1 sh sh hu ?_
  rw [SeqAt.eqv_refl _ a2]
  exact h
end
theorem allLt_ne1 {d : Addr} {l : List (Addr × Obj)} (h : AllLt d l) : ∀ p ∈ l, p.1 ≠ d + 1 := fun p hp => Nat.ne_of_lt (Nat.lt_succ_of_lt (allLt_all h p hp))
theorem allLt_ne2 {d : Addr} {l : List (Addr × Obj)} (h : AllLt d l) : ∀ p ∈ l, p.1 ≠ d + 1 + 1 := fun p hp => Nat.ne_of_lt (Nat.lt_succ_of_lt (Nat.lt_succ_of_lt (allLt_all h p hp)))
theorem allLt_ne3 {d : Addr} {l : List (Addr × Obj)} (h : AllLt d l) : ∀ p ∈ l, p.1 ≠ d + 1 + 1 + 1 := fun p hp => Nat.ne_of_lt (Nat.lt_succ_of_lt (Nat.lt_succ_of_lt (Nat.lt_succ_of_lt (allLt_all h p hp))))
end
section
theorem words_26 : True := by
  w_top off
  k_with_none
  k_with "kst_mem" => first
    | (first
      | with_reducible assumption
      | with_reducible exact List.mem_cons_self
      | (with_reducible refine List.mem_cons_of_mem _ ?_; kst_mem)
      | (with_reducible refine List.mem_append.mpr (Or.inl ?_); kst_mem)
      | (with_reducible refine List.mem_append.mpr (Or.inr ?_); kst_mem)
      | fail "kst_mem")
    | fail
  k_with "k_mem" => first
    | (kst_mem)
    | fail
  k_with "k_all" => first
    | (first
      | with_reducible assumption
      | exact List.forall_mem_nil _
      | (with_reducible refine' Mine.less_sub ?h_2 ?m_2; (case h_2 => with_reducible assumption); (case m_2 => (intro p9 h9; kst_mem)))
      | (with_reducible refine' Mine.less_sub1 ?h_2 ?m_2; (case h_2 => with_reducible assumption); (case m_2 => (intro p9 h9; kst_mem)))
      | (with_reducible refine' Mine.less_sub2 ?h_2 ?m_2; (case h_2 => with_reducible assumption); (case m_2 => (intro p9 h9; kst_mem)))
      | (with_reducible refine' Mine.less_sub3 ?h_2 ?m_2; (case h_2 => with_reducible assumption); (case m_2 => (intro p9 h9; kst_mem)))
      | (with_reducible refine' Mine.less_sub4 ?h_2 ?m_2; (case h_2 => with_reducible assumption); (case m_2 => (intro p9 h9; kst_mem)))
      | (with_reducible refine' Mine.less_sub5 ?h_2 ?m_2; (case h_2 => with_reducible assumption); (case m_2 => (intro p9 h9; kst_mem)))
      | (refine' List.forall_mem_cons.mpr ⟨?a_2, ?b_2⟩; (case a_2 => k_ne); (case b_2 => k_all))
      | exact Mine.allLt_ne (by with_reducible assumption)
      | exact Mine.fresh_ne (by with_reducible assumption) (by k_mem)
      | (refine' List.forall_mem_append.mpr ⟨?_, ?_⟩ <;> k_all))
    | fail
  k_with "kqd_sub" => first
    | (first
      | exact fun _ h => h
      | exact List.forall_mem_nil _
      | (refine' List.forall_mem_cons.mpr ⟨?kqa_3, ?kqb_3⟩; (case kqa_3 => k_mem); (case kqb_3 => kqd_sub))
      | (refine' List.forall_mem_append.mpr ⟨?_, ?_⟩ <;> kqd_sub)
      | (intro p9 h9; k_mem))
    | fail
  k_with "ktr_enter" => first
    | (refine' code_defC ?k1_4 ?k2_4 ?k3_4 ?k4_4 ?k5_4 ?kA_4 ?kF_4 ?kK_4 ?k6_4 ?k7_4 ?k8_4 ?k9_4 ?kB_4 ?kD_4 ?_ ?c2_4 ?c3_4 ?c4_4; (case kA_4 => exact rfl); (case kF_4 => exact rfl); (case kK_4 => assumption); (case k1_4 => k_asm); (case k2_4 => k_asm); (case k3_4 => k_asm); (case k4_4 => k_asm); (case k5_4 => k_asm); (case k6_4 => k_is); (case k7_4 => k_is); (case k8_4 => ktr_room); (case k9_4 => exact BindsTo.of_eq rfl); (case kB_4 => exact rfl); (case kD_4 => decide +kernel); (case c2_4 => exact rfl); (case c3_4 => exact rfl); (case c4_4 => exact rfl); k_whole; intro g' L' h' tk' cells' FG' F' N' Y' B' X' T' l1; (try k_lt l1); k_cells Y'; (try simp only [List.cons_append, List.nil_append] at N'); (try dsimp only); (try k_fold))
    | fail
  k_with "tb_start" => first
    | (first
      | with_reducible exact Mine.Apart.ne (by with_reducible assumption)
      | with_reducible exact Mine.Apart.en (by with_reducible assumption)
      | with_reducible exact Mine.succ_ne1
      | with_reducible exact Mine.succ_ne2
      | (with_reducible refine' Mine.less_ne ?h_5 ?m_5; (case h_5 => with_reducible assumption); (case m_5 => kst_mem))
      | (with_reducible refine' Mine.less_en ?h_5 ?m_5; (case h_5 => with_reducible assumption); (case m_5 => kst_mem))
      | (with_reducible refine' Mine.less_ne1 ?h_5 ?m_5; (case h_5 => with_reducible assumption); (case m_5 => kst_mem))
      | (with_reducible refine' Mine.less_en1 ?h_5 ?m_5; (case h_5 => with_reducible assumption); (case m_5 => kst_mem))
      | (with_reducible refine' Mine.less_ne2 ?h_5 ?m_5; (case h_5 => with_reducible assumption); (case m_5 => kst_mem))
      | (with_reducible refine' Mine.less_en2 ?h_5 ?m_5; (case h_5 => with_reducible assumption); (case m_5 => kst_mem))
      | (with_reducible refine' Mine.less_ne3 ?h_5 ?m_5; (case h_5 => with_reducible assumption); (case m_5 => kst_mem))
      | (with_reducible refine' Mine.less_en3 ?h_5 ?m_5; (case h_5 => with_reducible assumption); (case m_5 => kst_mem))
      | (with_reducible refine' Mine.less_ne4 ?h_5 ?m_5; (case h_5 => with_reducible assumption); (case m_5 => kst_mem))
      | (with_reducible refine' Mine.less_en4 ?h_5 ?m_5; (case h_5 => with_reducible assumption); (case m_5 => kst_mem))
      | (with_reducible refine' Mine.less_ne5 ?h_5 ?m_5; (case h_5 => with_reducible assumption); (case m_5 => kst_mem))
      | (with_reducible refine' Mine.less_en5 ?h_5 ?m_5; (case h_5 => with_reducible assumption); (case m_5 => kst_mem))
      | (with_reducible refine' Mine.lt_ne2 ?k_5 ?h_5 ?m_5; (case k_5 => with_reducible assumption); (case h_5 => with_reducible assumption); (case m_5 => kst_mem))
      | (with_reducible refine' Mine.lt_en2 ?k_5 ?h_5 ?m_5; (case k_5 => with_reducible assumption); (case h_5 => with_reducible assumption); (case m_5 => kst_mem)))
    | fail
  k_with "k_ne" => first
    | (first | tb_start | ((try dsimp only); (refine neN ?_); first | tb_start | omega))
    | fail
  trivial
abbrev nfArgs (vs : List Value) : Obj := { cls := .type "tuple", data := .seq vs.toArray }
abbrev nfObj (C a : Addr) (dd : Option Addr) : Obj := { cls := .ref C, dict := dd, data := .fields #[.ref a, .none, .none, .none, .bool false, .none] }
section
variable {M : Model} {prog : Program} {w : World} {A : Around} {E : Value → Shared → Prop} {h : Heap} {g : Array GenState} {d : Drawn} {t : Nat} {os : OsState}
variable {nm q : Str} {C N : Addr} {bs bm bmB : List Value} {hdct : Bool} {sn : List Str} {sub : List Value} {ab : Bool} {col : Option Bool} {dd : Option Addr} {k0 k1 k2 k3 k5 : Option Value} {B newId initId : String}
theorem nf_check (F : ExcBaseFacts B newId initId bmB) (hB : (Value.ref C :: bm).contains (.type B) = true) {rest : List Value} {Q : Unit → Shared → Prop} (hC : h.get? C = some (excClassObj nm q C N bs bm hdct sn sub ab col dd k0 k1 k2 k3 k5 newId))
    (hq : Q () ⟨h, g, d, t, os⟩) : wpAny M A (checkBuiltinCall newId ⟨.ref C :: rest, []⟩) Q E ⟨h, g, d, t, os⟩ := by
  have hstar := F.noStar
  simp only [checkBuiltinCall, F.newKind, F.newSplit, F.newRow]
  repeat (first | refine wpAny_loadPart_at hC ?_ | (refine wpAny_isSubtype_exc hC ?_; rw [hB]) | refine wpAny_staticBase_exc hC ?_ | refine wpAny_madeBy_exc hC ?_ | simp only [bne_self_eq_false, Bool.false_eq_true, if_false] | wp_step)
  exact hq
theorem nf_new (F : ExcBaseFacts B newId initId bmB) (hB : (Value.ref C :: bm).contains (.type B) = true) (hcA : (Value.ref C :: bm).contains (.type "AttributeError") = false) (hcN : (Value.ref C :: bm).contains (.type "NameError") = false)
    {rest : List Value} {R : Result → Shared → Prop} (hC : h.get? C = some (excClassObj nm q C N bs bm hdct sn sub ab col dd k0 k1 k2 k3 k5 newId))
    (hq : R (.ok (.ret (.ref (h.objs.size + 1)))) ⟨(h.push { cls := .type "tuple", data := .seq rest.toArray }).push
      { cls := .ref C, data := .fields #[.ref h.objs.size, .none, .none, .none, .bool false, .none] }, g, d, t, os⟩) (hrest : rest.length ≤ sizeLine) :
    codeAny (model prog w) A (.builtin newId ⟨.ref C :: rest, []⟩) R ⟨h, g, d, t, os⟩ := by
  have hends := F.ends
  refine codeAny_builtinAt F.entry ?_
  unfold Builtin.«BaseException.__new__»
  refine PySem.wpAt_bind ?_
  show PySem.wpAt _ _ _ (PySem.stack >>= _) _ _ _
  refine PySem.wpAt_bind (PySem.wpAt_stack fun p below => PySem.wpAt_of_wpAny ?_)
  wp_walk
  refine PySem.wpAt_of_wpAny ?_
  rw [F.owner]
  repeat (first | with_reducible refine wpAny_madeHere_exc F.canon hC ?_ | with_reducible refine wpAny_loadPart_at hC ?_ | (with_reducible refine wpAny_isSubtype_exc hC ?_; first | rw [hB] | rw [hcA] | rw [hcN]) | wp_step)
  show R _ _
  rw [Heap.size_push]
  exact hq
theorem nf_type_call (F : ExcBaseFacts B newId initId bmB) (hB : (Value.ref C :: bm).contains (.type B) = true) (hcA : (Value.ref C :: bm).contains (.type "AttributeError") = false) (hcN : (Value.ref C :: bm).contains (.type "NameError") = false)
    {rest : List Value} {fI : Addr} {oI : Obj} {Q : Fin → Shared → Prop}
    (hC : h.get? C = some (excClassObj nm q C N bs bm hdct sn sub ab col dd k0 k1 k2 k3 k5 newId)) (hi : Looks (model prog w) h (typeLookup (.ref C) "__init__") (some (.ref fI)))
    (hfI : h.get? fI = some oI) (hfc : oI.cls = .type "function")
    (hq : wpAny (model prog w) A (call (.ref fI) (.ref (h.objs.size + 1) :: rest)) (fun r s' => r = .none ∧ Q (.done (.ret (.ref (h.objs.size + 1)))) s') E ⟨(h.push (nfArgs rest)).push (nfObj C h.objs.size none), g, d, t, os⟩) (hrest : rest.length ≤ sizeLine) :
    wpAny (model prog w) A (Builtin.«type.__call__» ⟨.ref C :: rest, []⟩) Q E ⟨h, g, d, t, os⟩ := by
  repeat (first | with_reducible refine wpAny_loadPart_at hC ?_ | with_reducible refine wpAny_madeBy_exc hC ?_ | wp_step)
  refine codeAny_call_builtin_code (Code.quiet_builtin _ F.quiet) (nf_check F hB hC ?_)
  refine nf_new F hB hcA hcN hC ?_ hrest
  show wpAny _ _ _ _ _ _
  have up : ∀ b o, h.get? b = some o → ((h.push { cls := .type "tuple", data := .seq rest.toArray }).push { cls := .ref C, data := .fields #[.ref h.objs.size, .none, .none, .none, .bool false, .none] }).get? b = some o :=
    fun b o e => Heap.get?_push_of_some _ (Heap.get?_push_of_some _ e)
  have hC₁ := up _ _ hC
  have hfI₁ := up _ _ hfI
  have hget : ((h.push { cls := .type "tuple", data := .seq rest.toArray }).push
      { cls := .ref C, data := .fields #[.ref h.objs.size, .none, .none, .none, .bool false, .none] }).get? (h.objs.size + 1) = some
      { cls := .ref C, data := .fields #[.ref h.objs.size, .none, .none, .none, .bool false, .none] } := by heap_get
  have hcC : (Value.ref C :: bm).contains (.ref C) = true := by simp
  have hi₁ := hi.keeps up
  unfold isInstance
  repeat (first | with_reducible refine wpAny_loadPart_at hget ?_ | (with_reducible refine wpAny_isSubtype_exc hC₁ ?_; rw [hcC]) | wp_step)
  show wpAny _ _ (typeLookup (.ref C) _) _ _ _
  refine hi₁.here ?_
  refine wpAny_holding (wpAny_bind ?_)
  unfold bindSpecial
  refine wpAny_bind (wpAny_typeOf (T := "function") ⟨_, hfI₁, hfc⟩ ?_)
  rw [if_pos (by decide)]
  refine wpAny_pure (wpAny_bind (wpAny_mono hq (fun r s' hr => ?_) fun _ _ x => x))
  obtain ⟨rfl, hQ⟩ := hr
  wp_walk
  exact hQ
theorem nf_call (F : ExcBaseFacts B newId initId bmB) (hB : (Value.ref C :: bm).contains (.type B) = true) (hcA : (Value.ref C :: bm).contains (.type "AttributeError") = false) (hcN : (Value.ref C :: bm).contains (.type "NameError") = false)
    {rest : List Value} {fI : Addr} {oI : Obj} {Q : Value → Shared → Prop}
    (hC : h.get? C = some (excClassObj nm q C N bs bm hdct sn sub ab col dd k0 k1 k2 k3 k5 newId)) (hi : Looks (model prog w) h (typeLookup (.ref C) "__init__") (some (.ref fI)))
    (hfI : h.get? fI = some oI) (hfc : oI.cls = .type "function")
    (hq : wpAny (model prog w) (A.under (.builtin "type.__call__" ⟨.ref C :: rest, []⟩)) (call (.ref fI) (.ref (h.objs.size + 1) :: rest)) (fun r s' => r = .none ∧ Q (.ref (h.objs.size + 1)) s') E ⟨(h.push (nfArgs rest)).push (nfObj C h.objs.size none), g, d, t, os⟩) (hrest : rest.length ≤ sizeLine) :
    wpAny (model prog w) A (call (.ref C) rest) Q E ⟨h, g, d, t, os⟩ := by
  have f1 := tc_lookup
  have f2 := tc_bind (.ref C)
  have hT : (⟨h, g, d, t, os⟩ : Shared).TypeIs (.ref C) "type" := ⟨_, hC, rfl⟩
  refine wpAny_call (codeAny_of_tree ?_)
  show wpAny _ _ (callAny (.ref C) _) _ _ _
  repeat (any_goals (first | assumption | with_reducible refine wpAny_loadPart_at hC ?_ | wp_step))
  refine ⟨rfl, ?_⟩
  refine codeAny_call_builtin_at (Code.quiet_builtin _ (by decide +kernel)) entry_typeCall (wpAny_check_type_call_sub hC (nf_type_call F hB hcA hcN hC hi hfI hfc hq hrest))
end
section
variable {w : World} {h : Heap}
abbrev nfMro : List Value := [.ref 32, .type "Exception", .type "BaseException", .type "object"]
theorem nf_cls (X : (hd.heap_1 w.params).In h) : ∃ nm q bs hdct sn sub ab col dd k0 k1 k2 k3 k5, h.get? 45 = some (excClassObj nm q 45 44 bs nfMro hdct sn sub ab col dd k0 k1 k2 k3 k5 "Exception.__new__") :=
  ⟨_, _, _, _, _, _, _, _, _, _, _, _, _, _, X 45 _ rfl⟩
theorem nf_fn (X : (hd.heap_1 w.params).In h) : ∃ oI, h.get? 29 = some oI ∧ oI.cls = .type "function" := ⟨_, X 29 _ rfl, rfl⟩
theorem nf_init {M : Model} (X : (hd.heap_1 w.params).In h) : Looks M h (typeLookup (.ref 45) "__init__") (some (.ref 29)) := looks_findIn X (by k_is)
theorem nf_e1 : findIn (hd.heap_1 w.params) (.ref 45) "__setattr__" = some (some (.builtin "object.__setattr__")) := by k_is
theorem nf_e2 : findIn (hd.heap_1 w.params) (.ref 45) "message" = some none := by k_is
theorem nf_e3 : findIn (hd.heap_1 w.params) (.ref 45) "spot" = some none := by k_is
theorem nf_clsIn : ∃ cd, clsIn (hd.heap_1 w.params) 45 = some cd ∧ cd.mro = .ref 45 :: nfMro ∧ cd.hasDict = true := ⟨_, rfl, rfl, rfl⟩
theorem nf_e4 : mroIn (hd.heap_1 w.params) 45 (.type "object") = some true := by k_is
theorem nf_e5 : (clsIn (hd.heap_1 w.params) 45).any (·.hasDict) = true := rfl
end
section
open Builtin Builtin.ObjectAttr
variable {w : World} {A : Around} {E : Value → Shared → Prop} {h₀ : Heap} {L : Addr} {m : Str → Option Value} {s : Shared}
theorem nf_open {x : Addr} {o : Obj} {name : Str} {tk : Tok} {v : Value} {R : Result → Shared → Prop} (X : (hd.heap_1 w.params).In s.heap) (hx : s.heap.get? x = some o) (hc : o.cls = .ref 45) (hf : findIn (hd.heap_1 w.params) (.ref 45) name = some none)
    (h : ∀ b, wpAny (model PySem.Challenge.rw_xm0577_01.row.prog w) A.in1 (storeInOwnDict (.ref x) (.ref 45) (.str name tk) name v b)
      (fun fin s' => match fin with | .done f => R (.ok f) s' | .again c' => c'.quiet = true ∧ codeAny (model PySem.Challenge.rw_xm0577_01.row.prog w) A c' R s') (fun e s' => R (.error e) s') s) :
    codeAny (model PySem.Challenge.rw_xm0577_01.row.prog w) A (.call (.builtin "object.__setattr__") ⟨[.ref x, .str name tk, v], []⟩) R s := by
  have SF := PySem.F.store_object
  obtain ⟨cd, hcd, hmro, _⟩ := nf_clsIn (w := w)
  have T : Looks (model PySem.Challenge.rw_xm0577_01.row.prog w) s.heap (typeOf (.ref x)) (.ref 45) := by
    obtain ⟨oc, odd, oda, osl⟩ := o
    dsimp only at hc
    subst hc
    exact (Looks.ld hx).andThen .now
  have sub : Looks (model PySem.Challenge.rw_xm0577_01.row.prog w) s.heap (isInstance (.ref x) (.type "object")) true := T.andThen (looks_mroIn X nf_e4)
  refine codeAny_call_builtin SF.slot.plain SF.entry (@check_slot (model PySem.Challenge.rw_xm0577_01.row.prog w) _ _ s "object.__setattr__" "object" "__setattr__" (.ref x) [.str name tk, v] [] _ SF.kind SF.split sub (SF.args (.ref x) (.str name tk) v) ?_)
  have hm : Looks (model PySem.Challenge.rw_xm0577_01.row.prog w) s.heap (mroOf (.ref 45)) cd.mro := (looks_clsIn X hcd).andThen .now
  rw [osa_eq, refuse_eq]
  refine wpAny_bind (wpAny_bind (T.here (wpAny_bind (hm.here ?_))))
  rw [hmro, refuseLoop_ref, refuseLoop_ref, PySem.F.store_Exception.passes]
  refine wpAny_pure (wpAny_bind (T.here (wpAny_bind ((looks_findIn X hf).here (wpAny_bind (wpAny_pure ?_))))))
  exact h _
theorem nf_store {d : Addr} {es : List DictEntry} {n : Nat} {name : Str} {tk : Tok} {v : Value} {Q : Fin → Shared → Prop} (D : s.heap.get? d = some (dictOf es n)) (hl : es.any (·.refKey) = false) (hz : (putL name (PyData.keyHash w.params name) (.str name s.toks) v es).length ≤ 1000)
    (h : Q (.done (.ret .none)) { s with heap := s.heap.update d (Obj.putName name (PyData.keyHash w.params name) (.str name s.toks) v), toks := s.toks + 1 }) :
    wpAny (model PySem.Challenge.rw_xm0577_01.row.prog w) A (storeInDict d (.str name tk) name v) Q E s := by
  unfold storeInDict newKeyGuard nsSet
  refine wpAny_bind (wpAny_pure (wpAny_bind ?_))
  refine wpAny_bind (wpAny_bind (wpAny_askSetting (wpAny_pure (wpAny_bind (wpAny_mkText (wpAny_bind (wpAny_loadPart D ?_)))))))
  dsimp only
  have c : (!es.toArray.any (·.key.isStr name) && es.toArray.any (·.refKey)) = false := by
    rw [← Array.any_toList, ← Array.any_toList]
    simp only [hl, Bool.and_false]
  rw [aRefKeyMayBeTheName_at, c]
  refine wpAny_updatePart D ?_
  have D' := Heap.get?_update_self (Obj.putName name (PyData.keyHash w.params name) (.str name s.toks) v) D (by rw [putName_dict]; rfl)
  rw [putName_dict] at D'
  refine wpAny_bind (wpAny_lookBehind D' (pastItsLine_dict (by rw [List.size_toArray, sizeLine_eq]; omega)) ?_)
  exact wpAny_pure h
end
section
open Builtin Builtin.ObjectAttr
variable {w : World} {A : Around} {E : Value → Shared → Prop} {h₀ : Heap} {L : Addr} {m : Str → Option Value} {s : Shared}
theorem nf_set2 {x a dx : Addr} {es : List DictEntry} {n : Nat} {name : Str} {v : Value} {l : List (Addr × Obj)} {g : Obj → List (Addr × Obj)} {Q : Unit → Shared → Prop} (F : Fr h₀ L s.heap m) (X₀ : (hd.heap_1 w.params).In h₀) (N : News h₀ L s.heap l)
    (hx : (x, nfObj 45 a (some dx)) ∈ l) (U : UpdF dx (dictOf es n) l g) (hf : findIn (hd.heap_1 w.params) (.ref 45) name = some none) (hl : es.any (·.refKey) = false) (hz : es.length ≤ 900)
    (h : ∀ h' tk, Fr h₀ L h' m → News h₀ L h' (g (dictOf (putL name (PyData.keyHash w.params name) (.str name (s.toks + 1)) v es) (putN name es n))) → Q () { s with heap := h', toks := tk }) :
    wpAny (model PySem.Challenge.rw_xm0577_01.row.prog w) A (setAttr (.ref x) name v) Q E s := by
  obtain ⟨pre, post, rfl, hg, u1, u2⟩ := U.split
  have X := X₀.keeps F.keep
  have hxa := (N _ hx).1
  have D := (N (dx, dictOf es n) (by simp)).1
  have I : InstAt s.heap x (nfObj 45 a (some dx)) 45 (some (dictOf es n)) := ⟨hxa, rfl, rfl, D⟩
  refine set_plain X I nf_e1 (nf_open (s := { s with toks := s.toks + 1 }) X hxa rfl hf fun b => ?_)
  obtain ⟨cd, hcd, hmro, hhd⟩ := nf_clsIn (w := w)
  refine wpAny_bind (wpAny_pure (wpAny_bind (wpAny_bind (wpAny_loadPart hxa (wpAny_bind (looks_clsIn X hcd _ _ _ _ (fun _ _ e => e) ?_))))))
  rw [hhd]
  refine wpAny_pure (a := some dx) ?_
  refine nf_store (s := { s with toks := s.toks + 1 }) D hl ?_ ?_
  · have : ∀ (k : Value) (es : List DictEntry), (putL name (PyData.keyHash w.params name) k v es).length ≤ es.length + 1 := by
      intro k es
      induction es with
      | nil => exact Nat.le_refl _
      | cons e r ih => unfold putL; split <;> simp only [List.length_cons] <;> omega
    have := this (.str name (s.toks + 1)) es
    exact Nat.le_trans this (by omega)
  · obtain ⟨U1, U2⟩ := news_upd (f := Obj.putName name (PyData.keyHash w.params name) (.str name (s.toks + 1)) v) F N u1 u2 (putName_dict _ _ _ _ _ _) rfl
    rw [hg] at h
    exact h _ _ U1 U2
theorem nf_set1 {x a : Addr} {name : Str} {v : Value} {l : List (Addr × Obj)} {g : Obj → List (Addr × Obj)} {Q : Unit → Shared → Prop} (F : Fr h₀ L s.heap m) (X₀ : (hd.heap_1 w.params).In h₀) (N : News h₀ L s.heap l)
    (U : UpdF x (nfObj 45 a none) l g) (hf : findIn (hd.heap_1 w.params) (.ref 45) name = some none)
    (h : ∀ dx h' tk, Fr h₀ L h' m → News h₀ L h' ((dx, dictOf [⟨PyData.keyHash w.params name, .str name (s.toks + 1), v⟩] 1) :: g (nfObj 45 a (some dx))) → (∀ p ∈ l, p.1 < dx) → Q () { s with heap := h', toks := tk }) :
    wpAny (model PySem.Challenge.rw_xm0577_01.row.prog w) A (setAttr (.ref x) name v) Q E s := by
  obtain ⟨pre, post, rfl, hg, u1, u2⟩ := U.split
  have X := X₀.keeps F.keep
  have hxa := (N (x, nfObj 45 a none) (by simp)).1
  have I : InstAt s.heap x (nfObj 45 a none) 45 none := ⟨hxa, rfl, rfl, trivial⟩
  refine set_plain X I nf_e1 (nf_open (s := { s with toks := s.toks + 1 }) X hxa rfl hf fun b => ?_)
  obtain ⟨cd, hcd, hmro, hhd⟩ := nf_clsIn (w := w)
  refine wpAny_bind (wpAny_pure (wpAny_bind (wpAny_bind (wpAny_loadPart hxa (wpAny_bind (looks_clsIn X hcd _ _ _ _ (fun _ _ e => e) ?_))))))
  rw [hhd]
  have hlt : ∀ p ∈ pre ++ (x, nfObj 45 a none) :: post, p.1 < s.heap.objs.size := fun p hp => Heap.lt_size (N p hp).1
  have N1 := N.push F emptyDict
  have F1 := F.push (o := emptyDict)
  have hx1 := (N1 (x, nfObj 45 a none) (by simp)).1
  have hne : s.heap.objs.size ≠ x := Nat.ne_of_gt (hlt (x, nfObj 45 a none) (by simp))
  refine wpAny_bind (wpAny_alloc ?_)
  refine wpAny_bind (wpAny_update hx1 ?_)
  refine wpAny_pure ?_
  obtain ⟨F2, N2⟩ := news_upd (f := fun o => { o with dict := some s.heap.objs.size }) (pre := (s.heap.objs.size, emptyDict) :: pre) (post := post) (d := x) (o := nfObj 45 a none) F1 N1 (fun p hp => by
    rcases List.mem_cons.mp hp with rfl | hp
    · exact hne
    · exact u1 p hp) u2 rfl rfl
  have D := (N2 (s.heap.objs.size, emptyDict) (.head _)).1
  refine nf_store (es := []) (n := 0) D rfl (Nat.le_of_ble_eq_true rfl) ?_
  obtain ⟨F3, N3⟩ := news_upd (f := Obj.putName name (PyData.keyHash w.params name) (.str name (s.toks + 1)) v) (pre := []) (post := pre ++ (x, nfObj 45 a (some s.heap.objs.size)) :: post) F2 N2 (fun _ h => nomatch h) (fun p hp => by
    rcases List.mem_append.mp hp with hp | hp
    · exact Nat.ne_of_lt (hlt p (List.mem_append.mpr (.inl hp)))
    rcases List.mem_cons.mp hp with rfl | hp
    · exact Ne.symm hne
    · exact Nat.ne_of_lt (hlt p (List.mem_append.mpr (.inr (.tail _ hp))))) (putName_dict name _ _ v [] 0) rfl
  refine h s.heap.objs.size _ _ F3 ?_ hlt
  rw [hg]
  exact N3
theorem nf_base {x a : Addr} {dd : Option Addr} {v : Value} {l : List (Addr × Obj)} {g : Obj → List (Addr × Obj)} {Q : Value → Shared → Prop} (F : Fr h₀ L s.heap m) (X₀ : (hd.heap_1 w.params).In h₀) (N : News h₀ L s.heap l)
    (U : UpdF x (nfObj 45 a dd) l g)
    (h : ∀ t h', Fr h₀ L h' m → News h₀ L h' ((t, nfArgs [v]) :: g (nfObj 45 t dd)) → (∀ p ∈ l, p.1 < t) → Q .none { s with heap := h' }) :
    wpAny (model PySem.Challenge.rw_xm0577_01.row.prog w) A (call (.builtin "Exception.__init__") [.ref x, v]) Q E s := by
  obtain ⟨pre, post, rfl, hg, u1, u2⟩ := U.split
  have X := X₀.keeps F.keep
  have hxa := (N (x, nfObj 45 a dd) (by simp)).1
  have hlt : ∀ p ∈ pre ++ (x, nfObj 45 a dd) :: post, p.1 < s.heap.objs.size := fun p hp => Heap.lt_size (N p hp).1
  have FF := PySem.F.excBase_Exception
  obtain ⟨nm, q, bs, hdct, sn, sub, ab, col, ddd, k0, k1, k2, k3, k5, hC⟩ := nf_cls X
  have hcB : (Value.ref 45 :: nfMro).contains (.type "Exception") = true := rfl
  have hshort := FF.noStar
  have N1 := N.push F (nfArgs [v])
  have F1 := F.push (o := nfArgs [v])
  have hx1 := (N1 (x, nfObj 45 a dd) (by simp)).1
  have hne : s.heap.objs.size ≠ x := Nat.ne_of_gt (hlt (x, nfObj 45 a dd) (by simp))
  obtain ⟨F2, N2⟩ := news_upd (f := Obj.mapFields (·.setIfInBounds 0 (.ref s.heap.objs.size))) (pre := (s.heap.objs.size, nfArgs [v]) :: pre) (post := post) (d := x) (o := nfObj 45 a dd) (o' := nfObj 45 s.heap.objs.size dd) F1 N1 (fun p hp => by
    rcases List.mem_cons.mp hp with rfl | hp
    · exact hne
    · exact u1 p hp) u2 rfl rfl
  have h' := h s.heap.objs.size _ F2 (by rw [hg]; exact N2) hlt
  obtain ⟨hh, g, d, t, os⟩ := s
  refine wpAny_call (codeAny_call_builtin FF.init.plain FF.initEntry ?_)
  · simp only [checkBuiltinCall, FF.initKind, FF.initSplit, FF.initRow]
    repeat (first | with_reducible refine wpAny_loadPart_at hxa ?_ | with_reducible refine wpAny_loadPart_at hC ?_ | (with_reducible refine wpAny_isSubtype_exc hC ?_; rw [hcB]) | wp_step)
    exact h'
end
/-- the raised object e: its class, its dict, its newest traceback entry -/
def TrD (base : Heap) (e dx : Addr) (fl : Value) (h : Heap) : Prop :=
  ∃ oe vs T oT ts, h.get? e = some oe ∧ (oe.cls = .ref 45 ∧ oe.dict = some dx) ∧ oe.data = .fields vs ∧ vs[1]? = some (.ref T) ∧ base.get? T = none ∧ T ≠ e ∧ h.get? T = some oT ∧ oT.data = .fields ts ∧ ts[3]? = some fl
def FlyD (base : Heap) (l : List Env) (e dx : Addr) (fl : Value) (h : Heap) : Prop := base.StaysIn h ∧ base.get? e = none ∧ h.FunFrames base l ∧ TrD base e dx fl h
theorem FlyD.drop {base h : Heap} {env : Env} {l : List Env} {e dx : Addr} {fl : Value} (x : FlyD base (env :: l) e dx fl h) : FlyD base l e dx fl h :=
  let ⟨a, b, ⟨_, _, c⟩, d⟩ := x; ⟨a, b, c, d⟩
section
variable {M : Model} {A : Around} {E : Value → Shared → Prop} {s : Shared}
theorem dictMF (o : Obj) (f : Array Value → Array Value) : (Obj.mapFields f o).dict = o.dict := by
  obtain ⟨c, d, dt, sl⟩ := o
  cases dt <;> rfl
theorem d_entry {base : Heap} {env : Env} {outer : List Env} {L e dx : Addr} {oe : Obj} {vs : Array Value} {head : Value} {hadNext : Bool} {Q : Unit → Shared → Prop}
    (hfr : A.frames = some (env :: outer)) (hl : s.heap.FunFrames base (env :: outer)) (hf : env.frame = some L)
    (he : s.heap.get? e = some oe) (hc : oe.cls = .ref 45) (hdx : oe.dict = some dx) (hkb : base.StaysIn s.heap) (hen : base.get? e = none) (hd : oe.data = .fields vs) (hsz : 1 < vs.size)
    (h : ∀ h', FlyD base (env :: outer) e dx (rawInt L) h' → s.heap.UpToSlots h' → Q () { s with heap := h' }) :
    wpAny M A (do let a ← frameOf env; let pl ← entryPlaceOf L hadNext; let b ← EntryCells.newEntry head a .none (rawInt L) .none pl; setField (.ref e) 1 b) Q E s := by
  have hene : e ∉ (env :: outer).filterMap (·.frame) := fun hm => by
    obtain ⟨_, o, ho, hnf⟩ := hl.mem hm
    rw [he] at ho; cases ho; exact hnf vs hd
  refine wpAny_bind (wpAny_frameOf_fun hfr hl hf fun h₁ hs₁ => ?_)
  refine wpAny_bind (wpAny_entryPlaceOf fun pl hpl => ?_)
  unfold EntryCells.newEntry newFields
  refine wpAny_bind (wpAny_newObj_type ?_ (hpl.sizeOk5 _ _ _ _ _))
  generalize hoT : ({ cls := .type "traceback", dict := none, data := .fields ([head, .ref L, .none, rawInt L, .none] ++ (if pl.isEmpty then List.replicate 6 Value.none else pl)).toArray } : Obj) = oT
  have he₁ : h₁.get? e = some oe := (hs₁.2.1 e hene).trans he
  have he₂ := Heap.get?_push_of_some (h := h₁) oT he₁
  have kb₁ : base.StaysIn h₁ := fun b o hbo => (hs₁.2.1 b fun hm => by rw [(hl.mem hm).1] at hbo; cases hbo).trans (hkb b o hbo)
  have hTe : h₁.objs.size ≠ e := Nat.ne_of_gt (Heap.lt_size he₁)
  have hTd : oT.data = .fields ([head, .ref L, .none, rawInt L, .none] ++ (if pl.isEmpty then List.replicate 6 Value.none else pl)).toArray := by rw [← hoT]
  have d3 := Obj.data_mapFields hd (·.setIfInBounds 1 (Value.ref h₁.objs.size))
  have e3 := Heap.get?_update_self (Obj.mapFields (·.setIfInBounds 1 (Value.ref h₁.objs.size))) he₂ (Obj.isFreed_of_fields d3)
  have t3 := (Heap.get?_update_other (h₁.push oT) (Obj.mapFields (·.setIfInBounds 1 (Value.ref h₁.objs.size))) (Ne.symm hTe)).trans (Heap.get?_push_size h₁ (Obj.isFreed_of_fields hTd))
  have keep : ∀ b o, b ≠ e → h₁.get? b = some o → ((h₁.push oT).update e (Obj.mapFields (·.setIfInBounds 1 (Value.ref h₁.objs.size)))).get? b = some o := fun b o hbe hb => by
    rw [Heap.get?_update_other _ _ (Ne.symm hbe)]
    exact Heap.get?_push_of_some _ hb
  have noRec : ∀ b o, s.heap.get? b = some o → (∀ vs, o.data ≠ .fields vs) → b ≠ e := fun b o hb hnf q => by
    rw [q, he] at hb; cases hb; exact hnf vs hd
  have up : s.heap.UpToSlots ((h₁.push oT).update e (Obj.mapFields (·.setIfInBounds 1 (Value.ref h₁.objs.size)))) := fun b o hb hnf =>
    let ⟨sl, hs⟩ := hs₁.2.2 b o hb; ⟨sl, keep b _ (noRec b o hb hnf) hs⟩
  refine wpAny_setField he₂ hd hsz (h _ ⟨fun b o hbo => keep b o (fun q => by rw [q, hen] at hbo; cases hbo) (kb₁ b o hbo), hen, hl.of_keeps fun b o hb hnf => ?_, ?_⟩ up)
  · obtain ⟨sl, hs⟩ := up b o hb hnf
    exact ⟨_, hs, rfl⟩
  · exact ⟨_, _, h₁.objs.size, _, _, e3, ⟨(Obj.cls_mapFields _ _).trans hc, (dictMF _ _).trans hdx⟩, d3, by simp [hsz], kb₁.fresh, hTe, t3, hTd, by first | (simp; done) | (rcases hpl with rfl | ⟨_, _, _, _, _, _, _, rfl⟩ <;> simp)⟩
theorem d_land {base : Heap} {l : List Env} {e dx : Addr} {fl : Value} {Q : Unit → Shared → Prop} (x : FlyD base l e dx fl s.heap)
    (h : ∀ h', FlyD base l e dx .none h' → s.heap.UpToSlots h' → Q () { s with heap := h' }) : wpAny M A (setFlight (.ref e) none) Q E s := by
  obtain ⟨kb, hen, hl, oe, vs, T, oT, ts, he, hcd, hd, h1, hnT, hTe, hT, hdT, h3⟩ := x
  have other : ∀ b, b ≠ T → (s.heap.update T (Obj.mapFields (·.setIfInBounds 3 ((none : Option Addr).elim Value.none fun f => rawInt f)))).get? b = s.heap.get? b := fun b hb => Heap.get?_update_other _ _ (Ne.symm hb)
  have noRec : ∀ b o, s.heap.get? b = some o → (∀ vs, o.data ≠ .fields vs) → b ≠ T := fun b o hb hnf q => by
    rw [q, hT] at hb; cases hb; exact hnf ts hdT
  have sz := (Array.getElem?_eq_some_iff.mp h3).1
  unfold setFlight
  refine wpAny_bind (wpAny_field he hd h1 ?_)
  rw [if_pos (show (Value.ref T != Value.none) = true from by simp)]
  refine wpAny_setField hT hdT sz (h _ ⟨fun b o hbo => (other b fun q => by rw [q, hnT] at hbo; cases hbo).trans (kb b o hbo), hen, hl.of_keeps fun b o hb hnf => ⟨o, (other b (noRec b o hb hnf)).trans hb, rfl⟩, ?_⟩
    fun b o hb hnf => ⟨o.slots, (other b (noRec b o hb hnf)).trans hb⟩)
  exact ⟨oe, vs, T, _, _, (other e (Ne.symm hTe)).trans he, hcd, hd, h1, hnT, hTe, Heap.get?_update_self _ hT (Obj.isFreed_of_fields (Obj.data_mapFields hdT _)), Obj.data_mapFields hdT _, by simp [sz]⟩
theorem d_note1 {base : Heap} {env : Env} {outer : List Env} {L e dx : Addr} {oe : Obj} {vs : Array Value} {Q : Unit → Shared → Prop}
    (hfr : A.frames = some (env :: outer)) (hl : s.heap.FunFrames base (env :: outer)) (hf : env.frame = some L)
    (he : s.heap.get? e = some oe) (hc : oe.cls = .ref 45) (hdx : oe.dict = some dx) (hkb : base.StaysIn s.heap) (hen : base.get? e = none) (hd : oe.data = .fields vs) (h1 : vs[1]? = some .none)
    (h : ∀ h', FlyD base (env :: outer) e dx (rawInt L) h' → s.heap.UpToSlots h' → Q () { s with heap := h' }) : wpAny M A (noteFrame (.ref e) env) Q E s := by
  unfold noteFrame
  simp only [hf]
  refine wpAny_bind (wpAny_field he hd h1 ?_)
  rw [if_neg (by decide)]
  exact d_entry hfr hl hf he hc hdx hkb hen hd (Array.getElem?_eq_some_iff.mp h1).1 h
theorem d_note2 {base : Heap} {env : Env} {outer : List Env} {L e dx : Addr} {Q : Unit → Shared → Prop}
    (hfr : A.frames = some (env :: outer)) (hf : env.frame = some L) (x : FlyD base (env :: outer) e dx .none s.heap)
    (h : ∀ h', FlyD base (env :: outer) e dx (rawInt L) h' → s.heap.UpToSlots h' → Q () { s with heap := h' }) : wpAny M A (noteFrame (.ref e) env) Q E s := by
  obtain ⟨kb, hen, hl, oe, vs, T, oT, ts, he, ⟨hc, hdx⟩, hd, h1, hnT, hTe, hT, hdT, h3⟩ := x
  unfold noteFrame
  simp only [hf]
  refine wpAny_bind (wpAny_field he hd h1 ?_)
  rw [if_pos (show (Value.ref T != Value.none) = true from by simp)]
  refine wpAny_bind (wpAny_field hT hdT h3 ?_)
  rw [if_neg (show ¬ ((Value.none == rawInt L) = true) from by simp [rawInt])]
  refine wpAny_bind (wpAny_setField hT hdT (Array.getElem?_eq_some_iff.mp h3).1 ?_)
  have other : ∀ b, b ≠ T → (s.heap.update T (Obj.mapFields (·.setIfInBounds 3 Value.none))).get? b = s.heap.get? b := fun b hb => Heap.get?_update_other _ _ (Ne.symm hb)
  have noRec : ∀ b o, s.heap.get? b = some o → (∀ vs, o.data ≠ .fields vs) → b ≠ T := fun b o hb hnf q => by
    rw [q, hT] at hb; cases hb; exact hnf ts hdT
  exact d_entry hfr (hl.of_keeps fun b o hb hnf => ⟨o, (other b (noRec b o hb hnf)).trans hb, rfl⟩) hf ((other e (Ne.symm hTe)).trans he) hc hdx
    (fun b o hbo => (other b fun q => by rw [q, hnT] at hbo; cases hbo).trans (kb b o hbo)) hen hd (Array.getElem?_eq_some_iff.mp h1).1
    fun h' x1 x2 => h h' x1 (Heap.UpToSlots.trans (fun b o hb hnf => ⟨o.slots, (other b (noRec b o hb hnf)).trans hb⟩) x2)
theorem d_leave1 {base : Heap} {env : Env} {outer : List Env} {L e dx : Addr} {oe : Obj} {vs : Array Value} {Q : Unit → Shared → Prop}
    (hfr : A.frames = some (env :: outer)) (hl : s.heap.FunFrames base (env :: outer)) (hf : env.frame = some L)
    (he : s.heap.get? e = some oe) (hc : oe.cls = .ref 45) (hdx : oe.dict = some dx) (hkb : base.StaysIn s.heap) (hen : base.get? e = none) (hd : oe.data = .fields vs) (h1 : vs[1]? = some .none)
    (h : ∀ h', FlyD base outer e dx .none h' → s.heap.UpToSlots h' → Q () { s with heap := h' }) : wpAny M A (leaving env (.ref e)) Q E s := by
  unfold leaving
  refine wpAny_bind (d_note1 hfr hl hf he hc hdx hkb hen hd h1 fun h₁ x1 u1 => d_land x1 fun h₂ x2 u2 => h h₂ x2.drop (u1.trans u2))
theorem d_leave2 {base : Heap} {env : Env} {outer : List Env} {L e dx : Addr} {Q : Unit → Shared → Prop}
    (hfr : A.frames = some (env :: outer)) (hf : env.frame = some L) (x : FlyD base (env :: outer) e dx .none s.heap)
    (h : ∀ h', FlyD base outer e dx .none h' → s.heap.UpToSlots h' → Q () { s with heap := h' }) : wpAny M A (leaving env (.ref e)) Q E s := by
  unfold leaving
  refine wpAny_bind (d_note2 hfr hf x fun h₁ x1 u1 => d_land x1 fun h₂ x2 u2 => h h₂ x2.drop (u1.trans u2))
end
def RaisedD (base G : Heap) (l : List Env) (e dx : Addr) (news : List (Addr × Obj)) (h : Heap) : Prop :=
  ∃ B, base.StaysIn B ∧ (∀ b o, G.get? b = some o → b ∉ l.filterMap (·.frame) → B.get? b = some o) ∧ (∀ q ∈ news, B.get? q.1 = some q.2 ∧ G.get? q.1 = none ∧ base.get? q.1 = none) ∧ FlyD B l e dx .none h
section
variable {M : Model} {A : Around} {E : Value → Shared → Prop} {s' : Shared} {base g g₂ : Heap} {outer : List Env} {L a e dx t : Addr} {m : Str → Option Value} {name : Str} {scope : Scope} {cd : Value} {cl : List (Str × Addr)} {Q : Unit → Shared → Prop} {news l : List (Addr × Obj)}
theorem memX {b : Addr} (hm : b ∈ (envX name scope L a cd cl :: outer).filterMap (·.frame)) : b = L ∨ b ∈ outer.filterMap (·.frame) := by
  obtain ⟨env, he, hf⟩ := List.mem_filterMap.mp hm
  rcases List.mem_cons.mp he with rfl | he
  · exact .inl (Option.some.inj hf).symm
  · exact .inr (List.mem_filterMap.mpr ⟨env, he, hf⟩)
theorem pushX {h : Heap} (K : Below A base outer g) (F : Fr g L h m) (hk : scope.kind = .function) : Below (A.deeper (envX name scope L a cd cl)) base (envX name scope L a cd cl :: outer) h := by
  have hnew : base.get? L = none := fresh_of_stays K.stays (kts_self F)
  obtain ⟨oL, es, ep, hL, hLd, _⟩ := F.ns
  refine ⟨Around.frames_deeper K.stack, fun b o e => F.keep b o (K.stays b o e), ?_, ⟨L, oL, rfl, hnew, hL, fun vs q => by rw [hLd] at q; cases q⟩, K.frames.of_keeps fun b o e _ => ⟨o, F.keep b o e, rfl⟩⟩
  show scope.kind ≠ .module
  rw [hk]; decide
/-- the callee that raised is left: what it had made stays, the raised object apart -/
theorem leave_raiseD (K : Below A base outer g) (F : Fr g L s'.heap m) (N : News g L s'.heap l) (hm : (e, nfObj 45 t (some dx)) ∈ l) (hn : ∀ q ∈ news, q ∈ l ∧ q.1 ≠ e)
    (hQ : ∀ h', RaisedD base g outer e dx news h' → g.UpToSlots h' → Q () { s' with heap := h' }) (hk : scope.kind = .function) :
    wpAny M (A.deeper (envX name scope L a cd cl)) (leaving (envX name scope L a cd cl) (.ref e)) Q E s' := by
  have K' := pushX (name := name) (a := a) (cd := cd) (cl := cl) K F hk
  have Ne := N _ hm
  let hide := e :: (envX name scope L a cd cl :: outer).filterMap (·.frame)
  have eL : e ≠ L := Ne.2.1
  have ge : g.get? e = none := Ne.2.2
  have inG : ∀ b o, g.get? b = some o → b ∉ outer.filterMap (·.frame) → (hideAll s'.heap hide).get? b = some o := fun b o q nm => hideAll_get _ (F.keep b o q) fun z => by
    rcases List.mem_cons.mp z with z | z
    · rw [z, ge] at q; cases q
    rcases memX z with z | z
    · rw [z, kts_self F] at q; cases q
    · exact nm z
  have st : base.StaysIn (hideAll s'.heap hide) := fun b o q => inG b o (K.stays b o q) fun z => by
    rw [(K.frames.mem z).1] at q; cases q
  have hl : ∀ q ∈ news, (hideAll s'.heap hide).get? q.1 = some q.2 ∧ g.get? q.1 = none ∧ base.get? q.1 = none := fun q hq => by
    obtain ⟨h1, h2⟩ := hn q hq
    refine ⟨hideAll_get _ (N q h1).1 fun z => ?_, (N q h1).2.2, fresh_of_stays K.stays (N q h1).2.2⟩
    rcases List.mem_cons.mp z with z | z
    · exact h2 z
    rcases memX z with z | z
    · exact (N q h1).2.1 z
    · obtain ⟨o, ho, _⟩ := (K.frames.mem z).2
      rw [(N q h1).2.2] at ho; cases ho
  have fr : s'.heap.FunFrames (hideAll s'.heap hide) (envX name scope L a cd cl :: outer) := by
    have : ∀ l', (∀ b ∈ l'.filterMap (·.frame), b ∈ hide) → s'.heap.FunFrames base l' → s'.heap.FunFrames (hideAll s'.heap hide) l' := by
      intro l'
      induction l' with
      | nil => exact fun _ _ => trivial
      | cons env r ih =>
        intro hin ⟨hk, ⟨L', o, hf, hb, ho, hd⟩, hr⟩
        refine ⟨hk, ⟨L', o, hf, hideAll_none _ (hin L' ?_), ho, hd⟩, ih (fun b hb => hin b ?_) hr⟩
        · rw [List.filterMap_cons, hf]; exact .head _
        · rw [List.filterMap_cons, hf]; exact .tail _ hb
    exact this _ (fun b hb => .tail _ hb) K'.frames
  refine d_leave1 K'.stack fr rfl Ne.1 rfl rfl (fun b o q => of_hideAll _ q) (hideAll_none _ (.head _)) rfl rfl fun h' x u => hQ h' ⟨_, st, inG, hl, x⟩ ((Heap.UpToSlots.of_keeps F.keep).trans u)
theorem leave_onD (K : Below A base outer g) (F : Fr g L g₂ m) (R : RaisedD base g₂ (envX name scope L a cd cl :: outer) e dx news s'.heap) (hsm : g₂.UpToSlots s'.heap)
    (hQ : ∀ h', RaisedD base g outer e dx news h' → g.UpToSlots h' → Q () { s' with heap := h' }) :
    wpAny M (A.deeper (envX name scope L a cd cl)) (leaving (envX name scope L a cd cl) (.ref e)) Q E s' := by
  obtain ⟨B, hB, hBG, hl, hfl⟩ := R
  refine d_leave2 (Around.frames_deeper K.stack) rfl hfl fun h' x u => hQ h' ⟨B, hB, fun b o q nm => hBG b o (F.keep b o q) (fun z => ?_), fun q hq => ⟨(hl q hq).1, kts_none F.keep (hl q hq).2.1, (hl q hq).2.2⟩, x⟩
    ((Heap.UpToSlots.of_keeps F.keep).trans (hsm.trans u))
  rcases memX z with z | z
  · rw [z, kts_self F] at q; cases q
  · exact nm z
end
section
variable {w : World} {A₀ : Around} {E : Value → Shared → Prop} {s' : Shared} {base g₀ g G : Heap} {outer : List Env} {L a e dx : Addr} {m : Str → Option Value} {name : Str} {scope : Scope} {cd : Value}
  {n : Str} {b₀ : Stmt} {suite : List Stmt} {pos np : Pos} {rest : List ExceptHandler} {Q : Flow → Shared → Prop} {news : List (Addr × Obj)}
  {p : Program} {loose : List Str} {mean : ExcName → Option Value} {mg mb : Str → Option Value}
theorem caughtD (R : RaisedD base G (envOf name scope L a cd :: outer) e dx news s'.heap) (F : Fr g L G m) (K : Below A₀ base outer g) (hsm : G.UpToSlots s'.heap) (XB : (hd.heap_1 w.params).In base) (TB : Top p loose mean mg mb base)
    (D : KtsDicts (outer.filterMap (·.frame)) g) (T0 : KtsTurn (outer.filterMap (·.frame)) g₀ g)
    (k : ∀ h' g' oe vs tk, KtsTurn (outer.filterMap (·.frame)) g₀ g' → Fr g' L h' (fun y => if y = n then some (.ref e) else m y) → News g' L h' ((e, (⟨.ref 45, some dx, .fields vs, oe⟩ : Obj)) :: news) → Below A₀ base outer g' → (hd.heap_1 w.params).In g' → Top p loose mean mg mb g' → KtsDicts (outer.filterMap (·.frame)) g' →
      wpAny (model PySem.Challenge.rw_xm0577_01.row.prog w) ((A₀.deeper (envOf name scope L a cd)).mark (some (.ref e))) (execs (b₀ :: suite) (envOf name scope L a cd))
        (fun f s₄ => wpAny (model PySem.Challenge.rw_xm0577_01.row.prog w) (A₀.deeper (envOf name scope L a cd)) (do bindName (envOf name scope L a cd) n .none; unbindBehindTheSuite (envOf name scope L a cd) n pos) (fun _ s₅ => Q f s₅) E s₄)
        (AsSuiteRaised (model PySem.Challenge.rw_xm0577_01.row.prog w) ((A₀.deeper (envOf name scope L a cd)).mark (some (.ref e))) (envOf name scope L a cd) n pos (notedBy (model PySem.Challenge.rw_xm0577_01.row.prog w) ((A₀.deeper (envOf name scope L a cd)).mark (some (.ref e))) (envOf name scope L a cd) (cameBackBy (model PySem.Challenge.rw_xm0577_01.row.prog w) (A₀.deeper (envOf name scope L a cd)) (envOf name scope L a cd) E)))
        { s' with heap := h', toks := tk })
    (hk : scope.kind = .function := by rfl) (hlo : (envOf name scope L a cd).kindOf n = some .local := by rfl) (hx : (envOf name scope L a cd).kindOf (Str.ofString "NameFault") = some .globalImplicit := by rfl) :
    wpAny (model PySem.Challenge.rw_xm0577_01.row.prog w) (A₀.deeper (envOf name scope L a cd)) (noteFrame (.ref e) (envOf name scope L a cd))
      (fun _ s₂ => wpAny (model PySem.Challenge.rw_xm0577_01.row.prog w) (A₀.deeper (envOf name scope L a cd)) (setFlight (.ref e) none) (fun _ s₃ =>
        wpAny (model PySem.Challenge.rw_xm0577_01.row.prog w) (A₀.deeper (envOf name scope L a cd)) (handleBy (.ref e) (envOf name scope L a cd) (.ExceptHandler (some (.Name (Str.ofString "NameFault") np)) (some n) (b₀ :: suite) pos :: rest)) Q E s₃) E s₂) E s' := by
  obtain ⟨B, hB, hBG, hl, hfl⟩ := R
  have hL : B.get? L = none := by
    obtain ⟨_, ⟨L', _, hf, hn', _⟩, _⟩ := hfl.2.2.1
    obtain rfl : L = L' := Option.some.inj hf
    exact hn'
  refine d_note2 (Around.frames_deeper K.stack) rfl hfl fun h₄ x4 u4 => ?_
  refine d_land x4 fun h₅ x5 u5 => ?_
  obtain ⟨g₅, T₅, F₅, K₅⟩ := kts_ground K F hBG x5.1 (hsm.trans (u4.trans u5))
  have X₅ : (hd.heap_1 w.params).In g₅ := XB.keeps K₅.stays
  have P₅ : TopRead p loose mg mb g₅ := topRead_of (TB.keeps K₅.stays)
  obtain ⟨oe5, _, _, _, _, hob, ⟨hobc, _⟩, _⟩ := x5.2.2.2
  obtain ⟨nm, q, bs, hdct, sn, sub, ab, col, ddd, k0, k1, k2, k3, k5, hC⟩ := nf_cls X₅
  have hC₅ := F₅.keep _ _ hC
  refine wpAny_handleBy_cons (codeAny_handlers_test (name_K (v := .ref 45) F₅ X₅ P₅ (by k_is) ?_ hk hx)) (by intro q; cases q)
  refine wpAny_excMatches_sub_self hC₅ hob hobc rfl (codeAny_handlers_suite_as ?_)
  refine d_land x5 fun h₆ x6 u6 => ?_
  obtain ⟨g₆, T₆, F₆, K₆⟩ := kts_ground K F hBG x6.1 ((hsm.trans (u4.trans u5)).trans u6)
  obtain ⟨⟨oc, odd, oda, osl⟩, vs, _, _, _, hoe, ⟨hoec, hoedx⟩, hoed, _⟩ := x6.2.2.2
  dsimp only at hoec hoedx hoed
  subst hoec hoedx hoed
  have ne₆ : g₆.get? e = none := T₆.none_ _ (kts_fresh F hBG x6.2.1 fun o ho m => by
    obtain ⟨_, o', ho', hd⟩ := K.frames.mem m
    rw [ho] at ho'
    cases ho'
    obtain ⟨sl, hs⟩ := ((hsm.trans (u4.trans u5)).trans u6) _ _ (F.keep _ _ ho) hd
    rw [hoe] at hs
    exact hd vs (congrArg Obj.data (Option.some.inj hs)).symm)
  have Nl : News g₆ L h₆ news := fun q hq => ⟨x6.1 _ _ (hl q hq).1, (fun z => by have := (hl q hq).1; rw [z, hL] at this; cases this), T₆.none_ _ (kts_none F.keep (hl q hq).2.1)⟩
  have N₆ := News.more F₆ Nl hoe (fun es n q => by cases q) ne₆
  refine stN F₆ N₆ (fun h₇ F₇ N₇ => ?_) hk hlo
  exact k h₇ g₆ osl vs _ (T0.trans T₆) F₇ N₇ K₆ (XB.keeps K₆.stays) (TB.keeps K₆.stays) (D.turn T₆)
end
end
section
theorem words_27 : True := by
  w_top off
  k_with_none
  k_with "kst_mem" => first
    | (first
      | with_reducible assumption
      | with_reducible exact List.mem_cons_self
      | (with_reducible refine List.mem_cons_of_mem _ ?_; kst_mem)
      | (with_reducible refine List.mem_append.mpr (Or.inl ?_); kst_mem)
      | (with_reducible refine List.mem_append.mpr (Or.inr ?_); kst_mem)
      | fail "kst_mem")
    | fail
  k_with "k_mem" => first
    | (kst_mem)
    | fail
  k_with "k_all" => first
    | (first
      | with_reducible assumption
      | exact List.forall_mem_nil _
      | (with_reducible refine' Mine.less_sub ?h_2 ?m_2; (case h_2 => with_reducible assumption); (case m_2 => (intro p9 h9; kst_mem)))
      | (with_reducible refine' Mine.less_sub1 ?h_2 ?m_2; (case h_2 => with_reducible assumption); (case m_2 => (intro p9 h9; kst_mem)))
      | (with_reducible refine' Mine.less_sub2 ?h_2 ?m_2; (case h_2 => with_reducible assumption); (case m_2 => (intro p9 h9; kst_mem)))
      | (with_reducible refine' Mine.less_sub3 ?h_2 ?m_2; (case h_2 => with_reducible assumption); (case m_2 => (intro p9 h9; kst_mem)))
      | (with_reducible refine' Mine.less_sub4 ?h_2 ?m_2; (case h_2 => with_reducible assumption); (case m_2 => (intro p9 h9; kst_mem)))
      | (with_reducible refine' Mine.less_sub5 ?h_2 ?m_2; (case h_2 => with_reducible assumption); (case m_2 => (intro p9 h9; kst_mem)))
      | (refine' List.forall_mem_cons.mpr ⟨?a_2, ?b_2⟩; (case a_2 => k_ne); (case b_2 => k_all))
      | exact Mine.allLt_ne (by with_reducible assumption)
      | exact Mine.fresh_ne (by with_reducible assumption) (by k_mem)
      | (refine' List.forall_mem_append.mpr ⟨?_, ?_⟩ <;> k_all))
    | fail
  k_with "kqd_sub" => first
    | (first
      | exact fun _ h => h
      | exact List.forall_mem_nil _
      | (refine' List.forall_mem_cons.mpr ⟨?kqa_3, ?kqb_3⟩; (case kqa_3 => k_mem); (case kqb_3 => kqd_sub))
      | (refine' List.forall_mem_append.mpr ⟨?_, ?_⟩ <;> kqd_sub)
      | (intro p9 h9; k_mem))
    | fail
  k_with "ktr_enter" => first
    | (refine' code_defC ?k1_4 ?k2_4 ?k3_4 ?k4_4 ?k5_4 ?kA_4 ?kF_4 ?kK_4 ?k6_4 ?k7_4 ?k8_4 ?k9_4 ?kB_4 ?kD_4 ?_ ?c2_4 ?c3_4 ?c4_4; (case kA_4 => exact rfl); (case kF_4 => exact rfl); (case kK_4 => assumption); (case k1_4 => k_asm); (case k2_4 => k_asm); (case k3_4 => k_asm); (case k4_4 => k_asm); (case k5_4 => k_asm); (case k6_4 => k_is); (case k7_4 => k_is); (case k8_4 => ktr_room); (case k9_4 => exact BindsTo.of_eq rfl); (case kB_4 => exact rfl); (case kD_4 => decide +kernel); (case c2_4 => exact rfl); (case c3_4 => exact rfl); (case c4_4 => exact rfl); k_whole; intro g' L' h' tk' cells' FG' F' N' Y' B' X' T' l1; (try k_lt l1); k_cells Y'; (try simp only [List.cons_append, List.nil_append] at N'); (try dsimp only); (try k_fold))
    | fail
  k_with "tb_start" => first
    | (first
      | with_reducible exact Mine.Apart.ne (by with_reducible assumption)
      | with_reducible exact Mine.Apart.en (by with_reducible assumption)
      | with_reducible exact Mine.succ_ne1
      | with_reducible exact Mine.succ_ne2
      | (with_reducible refine' Mine.less_ne ?h_5 ?m_5; (case h_5 => with_reducible assumption); (case m_5 => kst_mem))
      | (with_reducible refine' Mine.less_en ?h_5 ?m_5; (case h_5 => with_reducible assumption); (case m_5 => kst_mem))
      | (with_reducible refine' Mine.less_ne1 ?h_5 ?m_5; (case h_5 => with_reducible assumption); (case m_5 => kst_mem))
      | (with_reducible refine' Mine.less_en1 ?h_5 ?m_5; (case h_5 => with_reducible assumption); (case m_5 => kst_mem))
      | (with_reducible refine' Mine.less_ne2 ?h_5 ?m_5; (case h_5 => with_reducible assumption); (case m_5 => kst_mem))
      | (with_reducible refine' Mine.less_en2 ?h_5 ?m_5; (case h_5 => with_reducible assumption); (case m_5 => kst_mem))
      | (with_reducible refine' Mine.less_ne3 ?h_5 ?m_5; (case h_5 => with_reducible assumption); (case m_5 => kst_mem))
      | (with_reducible refine' Mine.less_en3 ?h_5 ?m_5; (case h_5 => with_reducible assumption); (case m_5 => kst_mem))
      | (with_reducible refine' Mine.less_ne4 ?h_5 ?m_5; (case h_5 => with_reducible assumption); (case m_5 => kst_mem))
      | (with_reducible refine' Mine.less_en4 ?h_5 ?m_5; (case h_5 => with_reducible assumption); (case m_5 => kst_mem))
      | (with_reducible refine' Mine.less_ne5 ?h_5 ?m_5; (case h_5 => with_reducible assumption); (case m_5 => kst_mem))
      | (with_reducible refine' Mine.less_en5 ?h_5 ?m_5; (case h_5 => with_reducible assumption); (case m_5 => kst_mem))
      | (with_reducible refine' Mine.lt_ne2 ?k_5 ?h_5 ?m_5; (case k_5 => with_reducible assumption); (case h_5 => with_reducible assumption); (case m_5 => kst_mem))
      | (with_reducible refine' Mine.lt_en2 ?k_5 ?h_5 ?m_5; (case k_5 => with_reducible assumption); (case h_5 => with_reducible assumption); (case m_5 => kst_mem)))
    | fail
  k_with "k_ne" => first
    | (first | tb_start | ((try dsimp only); (refine neN ?_); first | tb_start | omega))
    | fail
  trivial
abbrev nfDict (w : World) (x : Str) (k1 tx : Tok) (sp : Int) (k2 ts : Tok) : Obj := dictOf [⟨PyData.keyHash w.params (Str.ofString "message"), .str (Str.ofString "message") k1, .str x tx⟩, ⟨PyData.keyHash w.params (Str.ofString "spot"), .str (Str.ofString "spot") k2, .int sp ts⟩] 2
theorem nf_two {h1 h2 : Int} {k1 : Tok} {k2 v1 v2 : Value} : dictOf (putL (Str.ofString "spot") h2 k2 v2 [⟨h1, .str (Str.ofString "message") k1, v1⟩]) (putN (Str.ofString "spot") [⟨h1, .str (Str.ofString "message") k1, v1⟩] 1) = dictOf [⟨h1, .str (Str.ofString "message") k1, v1⟩, ⟨h2, k2, v2⟩] 2 := by
  have e : (Value.str (Str.ofString "message") k1).isStr (Str.ofString "spot") = false := by
    show ((Str.ofString "message") == (Str.ofString "spot")) = false
    decide +kernel
  unfold putL putN
  simp [e, putL]
section
theorem nf_meta : typeOf (.type "Exception") = pure (.type "type") := by kernel_rfl
theorem words_28 : True := by
  k_with "m getMethod type:Exception" => first
    | (k_here; refine' method_type ?F_65 ?X_65 ?m_65 (by decide +kernel) ?e_65 ?h_65 ?_; (case F_65 => k_asm); (case X_65 => k_asm); (case m_65 => exact nf_meta); (case e_65 => k_dflt k_is); (case h_65 => k_handed))
    | fail
  k_with "m call builtin:Exception.__init__" => first
    | (k_here; k_dflt (refine' nf_base ?F_66 ?X_66 ?N_66 ?U_66 ?_; (case F_66 => k_asm); (case X_66 => k_asm); (case N_66 => k_asm); (case U_66 => k_updF); k_whole); intro t9 h' F' N' l9; (try dsimp only at N'); (try k_lt l9); (try k_sweep))
    | fail
  k_with "m setAttr ref" => first
    | (k_here; k_dflt (first
      | (refine' nf_set1 ?F_67 ?X_67 ?N_67 ?U_67 ?f_67 ?_; (case F_67 => k_asm); (case X_67 => k_asm); (case N_67 => k_asm); (case U_67 => k_updF); (case f_67 => first | exact nf_e2 | exact nf_e3); k_whole; intro dx h' tk' F' N' l9; (try dsimp only at N'); (try k_lt l9); (try k_sweep))
      | (refine' nf_set2 ?F_67 ?X_67 ?N_67 ?x_67 ?U_67 ?f_67 ?l_67 ?z_67 ?_; (case F_67 => k_asm); (case X_67 => k_asm); (case N_67 => k_asm); (case x_67 => kst_mem); (case U_67 => k_updF); (case f_67 => first | exact nf_e2 | exact nf_e3); (case l_67 => exact rfl); (case z_67 => exact Nat.le_of_ble_eq_true rfl); k_whole; intro h' tk' F' N'; (try dsimp only at N'); (try k_sweep))))
    | fail
  trivial
variable {w : World} {mean : ExcName → Option Value} {mg mb : Str → Option Value}
theorem nf_spec (x : Str) (sp : Int) (tx ts : Tok) (N : List (Addr × Obj)) :
    Spec w mean mg mb 45 4 200 [.str x tx, .int sp ts] N (fun r N' => ∃ e t dx k1 k2, r = .ref e ∧ N' = (dx, nfDict w x k1 tx sp k2 ts) :: (t, nfArgs [.str x tx]) :: (e, nfObj 45 t (some dx)) :: N ∧ (∀ p ∈ N, p.1 < e) ∧ @LT.lt Nat _ e t ∧ @LT.lt Nat _ t dx) := by
  unfold Spec
  intro dp un gd cn cs ca ccd cl outer A₀ base h₀ L m s Q E B F X NN T hk hd hu hret
  obtain ⟨hh, g, d, t, os⟩ := s
  obtain ⟨nm, q, bs, hdct, sn, sub, ab, col, dd, k0, k1, k2, k3, k5, hC⟩ := nf_cls (X.keeps F.keep)
  obtain ⟨oI, hI, hIc⟩ := nf_fn (X.keeps F.keep)
  refine nf_call PySem.F.excBase_Exception (by rfl) (by rfl) (by rfl) hC (nf_init (X.keeps F.keep)) hI hIc ?_ (by rw [sizeLine_eq]; exact Nat.le_of_ble_eq_true rfl)
  have N2 := (NN.push F (nfArgs [.str x tx, .int sp ts])).push (F.push _) (nfObj 45 hh.objs.size none)
  rw [Heap.size_push] at N2
  have F2 := (F.push (nfArgs [.str x tx, .int sp ts])).push (nfObj 45 hh.objs.size none)
  have hlt : ∀ p ∈ N, p.1 < hh.objs.size := fun p hp => Heap.lt_size (NN p hp).1
  have hn0 : ∀ p ∈ N, p.1 ≠ hh.objs.size := fun p hp => Nat.ne_of_lt (hlt p hp)
  have hn1 : ∀ p ∈ N, p.1 ≠ hh.objs.size + 1 := fun p hp => Nat.ne_of_lt (Nat.lt_succ_of_lt (hlt p hp))
  have hl1 : ∀ p ∈ N, p.1 < hh.objs.size + 1 := fun p hp => Nat.lt_succ_of_lt (hlt p hp)
  dsimp only at F2 N2 hlt hn0 hn1 hl1
  clear hC hI hlt
  generalize hh.objs.size = sz at *
  generalize (hh.push _).push _ = h2 at *
  refine wpAny_call ?_
  k_dflt (refine' code_def ?k1 ?k2 ?k3 ?k4 ?k5 ?kA ?kF ?kK ?k6 ?k7 ?k8 ?k9 ?kB ?_ ?c2 ?c3 ?c4 ?c5; (case kA => exact rfl); (case kF => exact rfl); (case kK => assumption); (case k1 => k_asm); (case k2 => k_asm); (case k3 => k_asm); (case k4 => k_asm); (case k5 => k_asm); (case k6 => k_is); (case k7 => k_is); (case k8 => ktr_room); (case k9 => exact binds_K (by k_in) rfl (by k_is) rfl rfl rfl); (case c5 => decide); (case kB => exact locs rfl); (case c2 => exact rfl); (case c3 => exact rfl); (case c4 => exact rfl); k_whole; intro g' L' h' FG' F' N' B' X' T'; (try dsimp only); (try k_fold))
  k_steps
  rename News h₀ L _ _ => NF
  rename Fr h₀ L _ m => FF
  rw [nf_two] at NF
  have NG := News.sub NF (N' := _ :: _ :: _ :: N) fun p hp => by
    rcases List.mem_cons.mp hp with rfl | hp
    · exact .head _
    rcases List.mem_cons.mp hp with rfl | hp
    · exact .tail _ (.head _)
    rcases List.mem_cons.mp hp with rfl | hp
    · exact .tail _ (.tail _ (.head _))
    exact .tail _ (.tail _ (.tail _ (.tail _ hp)))
  refine hret _ _ _ _ FF NG ⟨_, _, _, _, _, rfl, rfl, hl1, ?o1, ?o2⟩
  case o1 => first | (with_reducible refine' Mine.less_lt ?h ?m; (case h => with_reducible assumption); (case m => kst_mem)) | omega
  case o2 => first | (with_reducible refine' Mine.less_lt ?h ?m; (case h => with_reducible assumption); (case m => kst_mem)) | omega
end
theorem words_29 : True := by
  w_top off
  k_with_none
  k_with "kst_mem" => first
    | (first
      | with_reducible assumption
      | with_reducible exact List.mem_cons_self
      | (with_reducible refine List.mem_cons_of_mem _ ?_; kst_mem)
      | (with_reducible refine List.mem_append.mpr (Or.inl ?_); kst_mem)
      | (with_reducible refine List.mem_append.mpr (Or.inr ?_); kst_mem)
      | fail "kst_mem")
    | fail
  k_with "k_mem" => first
    | (kst_mem)
    | fail
  k_with "k_all" => first
    | (first
      | with_reducible assumption
      | exact List.forall_mem_nil _
      | (with_reducible refine' Mine.less_sub ?h_2 ?m_2; (case h_2 => with_reducible assumption); (case m_2 => (intro p9 h9; kst_mem)))
      | (with_reducible refine' Mine.less_sub1 ?h_2 ?m_2; (case h_2 => with_reducible assumption); (case m_2 => (intro p9 h9; kst_mem)))
      | (with_reducible refine' Mine.less_sub2 ?h_2 ?m_2; (case h_2 => with_reducible assumption); (case m_2 => (intro p9 h9; kst_mem)))
      | (with_reducible refine' Mine.less_sub3 ?h_2 ?m_2; (case h_2 => with_reducible assumption); (case m_2 => (intro p9 h9; kst_mem)))
      | (with_reducible refine' Mine.less_sub4 ?h_2 ?m_2; (case h_2 => with_reducible assumption); (case m_2 => (intro p9 h9; kst_mem)))
      | (with_reducible refine' Mine.less_sub5 ?h_2 ?m_2; (case h_2 => with_reducible assumption); (case m_2 => (intro p9 h9; kst_mem)))
      | (refine' List.forall_mem_cons.mpr ⟨?a_2, ?b_2⟩; (case a_2 => k_ne); (case b_2 => k_all))
      | exact Mine.allLt_ne (by with_reducible assumption)
      | exact Mine.fresh_ne (by with_reducible assumption) (by k_mem)
      | (refine' List.forall_mem_append.mpr ⟨?_, ?_⟩ <;> k_all))
    | fail
  k_with "kqd_sub" => first
    | (first
      | exact fun _ h => h
      | exact List.forall_mem_nil _
      | (refine' List.forall_mem_cons.mpr ⟨?kqa_3, ?kqb_3⟩; (case kqa_3 => k_mem); (case kqb_3 => kqd_sub))
      | (refine' List.forall_mem_append.mpr ⟨?_, ?_⟩ <;> kqd_sub)
      | (intro p9 h9; k_mem))
    | fail
  k_with "ktr_enter" => first
    | (refine' code_defC ?k1_4 ?k2_4 ?k3_4 ?k4_4 ?k5_4 ?kA_4 ?kF_4 ?kK_4 ?k6_4 ?k7_4 ?k8_4 ?k9_4 ?kB_4 ?kD_4 ?_ ?c2_4 ?c3_4 ?c4_4; (case kA_4 => exact rfl); (case kF_4 => exact rfl); (case kK_4 => assumption); (case k1_4 => k_asm); (case k2_4 => k_asm); (case k3_4 => k_asm); (case k4_4 => k_asm); (case k5_4 => k_asm); (case k6_4 => k_is); (case k7_4 => k_is); (case k8_4 => ktr_room); (case k9_4 => exact BindsTo.of_eq rfl); (case kB_4 => exact rfl); (case kD_4 => decide +kernel); (case c2_4 => exact rfl); (case c3_4 => exact rfl); (case c4_4 => exact rfl); k_whole; intro g' L' h' tk' cells' FG' F' N' Y' B' X' T' l1; (try k_lt l1); k_cells Y'; (try simp only [List.cons_append, List.nil_append] at N'); (try dsimp only); (try k_fold))
    | fail
  k_with "tb_start" => first
    | (first
      | with_reducible exact Mine.Apart.ne (by with_reducible assumption)
      | with_reducible exact Mine.Apart.en (by with_reducible assumption)
      | with_reducible exact Mine.succ_ne1
      | with_reducible exact Mine.succ_ne2
      | (with_reducible refine' Mine.less_ne ?h_5 ?m_5; (case h_5 => with_reducible assumption); (case m_5 => kst_mem))
      | (with_reducible refine' Mine.less_en ?h_5 ?m_5; (case h_5 => with_reducible assumption); (case m_5 => kst_mem))
      | (with_reducible refine' Mine.less_ne1 ?h_5 ?m_5; (case h_5 => with_reducible assumption); (case m_5 => kst_mem))
      | (with_reducible refine' Mine.less_en1 ?h_5 ?m_5; (case h_5 => with_reducible assumption); (case m_5 => kst_mem))
      | (with_reducible refine' Mine.less_ne2 ?h_5 ?m_5; (case h_5 => with_reducible assumption); (case m_5 => kst_mem))
      | (with_reducible refine' Mine.less_en2 ?h_5 ?m_5; (case h_5 => with_reducible assumption); (case m_5 => kst_mem))
      | (with_reducible refine' Mine.less_ne3 ?h_5 ?m_5; (case h_5 => with_reducible assumption); (case m_5 => kst_mem))
      | (with_reducible refine' Mine.less_en3 ?h_5 ?m_5; (case h_5 => with_reducible assumption); (case m_5 => kst_mem))
      | (with_reducible refine' Mine.less_ne4 ?h_5 ?m_5; (case h_5 => with_reducible assumption); (case m_5 => kst_mem))
      | (with_reducible refine' Mine.less_en4 ?h_5 ?m_5; (case h_5 => with_reducible assumption); (case m_5 => kst_mem))
      | (with_reducible refine' Mine.less_ne5 ?h_5 ?m_5; (case h_5 => with_reducible assumption); (case m_5 => kst_mem))
      | (with_reducible refine' Mine.less_en5 ?h_5 ?m_5; (case h_5 => with_reducible assumption); (case m_5 => kst_mem))
      | (with_reducible refine' Mine.lt_ne2 ?k_5 ?h_5 ?m_5; (case k_5 => with_reducible assumption); (case h_5 => with_reducible assumption); (case m_5 => kst_mem))
      | (with_reducible refine' Mine.lt_en2 ?k_5 ?h_5 ?m_5; (case k_5 => with_reducible assumption); (case h_5 => with_reducible assumption); (case m_5 => kst_mem)))
    | fail
  k_with "k_ne" => first
    | (first | tb_start | ((try dsimp only); (refine neN ?_); first | tb_start | omega))
    | fail
  trivial
def RaiseAt (w : World) (E : Value → Shared → Prop) (v : Value) (s : Shared) : Prop := ∃ e t dd, v = .ref e ∧ (hd.heap_1 w.params).In s.heap ∧ s.heap.get? e = some (nfObj 45 t dd) ∧ E (.ref e) s
section
variable {prog : Program} {w : World} {A : Around} {E : Value → Shared → Prop} {s : Shared} {env : Env}
theorem RaiseAt.intro {e t : Addr} {dd : Option Addr} {h₀ : Heap} {L : Addr} {m : Str → Option Value} {l : List (Addr × Obj)} (F : Fr h₀ L s.heap m) (X : (hd.heap_1 w.params).In h₀) (N : News h₀ L s.heap l) (hm : (e, nfObj 45 t dd) ∈ l) (h : E (.ref e) s) : RaiseAt w E (.ref e) s :=
  ⟨e, t, dd, rfl, X.keeps F.keep, (N _ hm).1, h⟩
theorem nf_raise {c : PySem.Expr} {pos : Pos} {Q : Flow → Shared → Prop} (hh : A.handled = none) (h : wpAny (model prog w) A (eval c env) (RaiseAt w E) E s) :
    wpAny (model prog w) A (exec (.Raise (some c) none pos) env) Q E s := by
  show wpAny (model prog w) A (do standAt pos; raiseStmt env (some (do let v ← eval c env; standAt pos; pure v)) none) Q E s
  refine wpAny_bind (wpAny_standAt ?_)
  unfold raiseStmt
  dsimp only
  refine wpAny_bind (wpAny_bind (wpAny_mono h (fun v s₁ h₁ => wpAny_bind (wpAny_standAt (wpAny_pure ?_))) fun _ _ e => e))
  obtain ⟨e, t, dd, rfl, X, he, hE⟩ := h₁
  obtain ⟨hp, g, d, tk, os⟩ := s₁
  obtain ⟨nm, q, bs, hdct, sn, sub, ab, col, ddd, k0, k1, k2, k3, k5, hC⟩ := nf_cls X
  have hcB : (Value.ref 45 :: nfMro).contains (.type "BaseException") = true := rfl
  repeat (first | with_reducible refine wpAny_loadPart_at he ?_ | with_reducible refine wpAny_loadPart_at hC ?_ | (with_reducible refine wpAny_isSubtype_exc hC ?_; rw [hcB]) | wp_step)
  exact wpAny_raiseNew_none hh hE
end
theorem nf_use {w : World} {mean : ExcName → Option Value} {mg mb : Str → Option Value} {dp un : Nat} {gd : Option (List Code)} {cn : Str} {cs : Scope} {ca : Addr} {ccd : Value} {cl : List (Str × Addr)} {outer : List Env} {A₀ : Around} {base h₀ : Heap} {L : Addr} {m : Str → Option Value} {s : Shared} {Q E : Value → Shared → Prop}
    {x : Str} {sp : Int} {tx ts : Tok} {l : List (Addr × Obj)}
    (B : Below A₀ base outer h₀) (F : Fr h₀ L s.heap m) (X : (hd.heap_1 w.params).In h₀) (N : News h₀ L s.heap l) (T : Top topProg (looseW view [Str.ofString "LendError"] ++ (recsOf view).map (·.name) ++ (litsOf view).map (·.1) ++ (clssOf view (looseW view [Str.ofString "LendError"])).map (·.name)) mean mg mb h₀) (hk : cs.kind = .function)
    (hd : dp + 4 < recursionLimit) (hu : un + 200 < cLine)
    (ret : ∀ e t dx k1 k2 h' tk', Fr h₀ L h' m → News h₀ L h' ((dx, nfDict w x k1 tx sp k2 ts) :: (t, nfArgs [.str x tx]) :: (e, nfObj 45 t (some dx)) :: l) → (∀ p ∈ l, p.1 < e) → @LT.lt Nat _ e t → @LT.lt Nat _ t dx → Q (.ref e) { s with heap := h', toks := tk' }) :
    wpAny (model PySem.Challenge.rw_xm0577_01.row.prog w) (ktrTop dp un gd cn cs L ca ccd cl outer) (call (.ref 45) [.str x tx, .int sp ts]) Q E s := by
  refine nf_spec x sp tx ts l _ _ _ _ _ _ _ _ _ _ _ _ _ _ _ _ _ B F X N T hk hd hu ?_
  rintro r N' h' tk' F' N'' ⟨e, t, dx, k1, k2, rfl, rfl, x1, x2, x3⟩
  exact ret e t dx k1 k2 h' tk' F' N'' x1 x2 x3
theorem leave_nf {M : Model} {A : Around} {E : Value → Shared → Prop} {s' : Shared} {base g : Heap} {outer : List Env} {L a e dx t : Addr} {m : Str → Option Value} {name : Str} {scope : Scope} {cd : Value} {cl : List (Str × Addr)} {Q : Unit → Shared → Prop} {oD oT : Obj} {l : List (Addr × Obj)}
    (K : Below A base outer g) (F : Fr g L s'.heap m) (N : News g L s'.heap ((dx, oD) :: (t, oT) :: (e, nfObj 45 t (some dx)) :: l)) (l9 : ∀ p ∈ l, p.1 < e) (h1 : @LT.lt Nat _ e t) (h2 : @LT.lt Nat _ t dx)
    (hQ : ∀ h', RaisedD base g outer e dx ((dx, oD) :: l) h' → g.UpToSlots h' → Q () { s' with heap := h' }) (hk : scope.kind = .function) :
    wpAny M (A.deeper (envX name scope L a cd cl)) (leaving (envX name scope L a cd cl) (.ref e)) Q E s' :=
  leave_raiseD K F N (.tail _ (.tail _ (.head _))) (fun q hq => by
    rcases List.mem_cons.mp hq with rfl | hq
    · exact ⟨.head _, Nat.ne_of_gt (Nat.lt_trans h1 h2)⟩
    · exact ⟨.tail _ (.tail _ (.tail _ hq)), Nat.ne_of_lt (l9 q hq)⟩) hQ hk
end
section
theorem words_30 : True := by
  w_top off
  k_with_none
  k_with "kst_mem" => first
    | (first
      | with_reducible assumption
      | with_reducible exact List.mem_cons_self
      | (with_reducible refine List.mem_cons_of_mem _ ?_; kst_mem)
      | (with_reducible refine List.mem_append.mpr (Or.inl ?_); kst_mem)
      | (with_reducible refine List.mem_append.mpr (Or.inr ?_); kst_mem)
      | fail "kst_mem")
    | fail
  k_with "k_mem" => first
    | (kst_mem)
    | fail
  k_with "k_all" => first
    | (first
      | with_reducible assumption
      | exact List.forall_mem_nil _
      | (with_reducible refine' Mine.less_sub ?h_2 ?m_2; (case h_2 => with_reducible assumption); (case m_2 => (intro p9 h9; kst_mem)))
      | (with_reducible refine' Mine.less_sub1 ?h_2 ?m_2; (case h_2 => with_reducible assumption); (case m_2 => (intro p9 h9; kst_mem)))
      | (with_reducible refine' Mine.less_sub2 ?h_2 ?m_2; (case h_2 => with_reducible assumption); (case m_2 => (intro p9 h9; kst_mem)))
      | (with_reducible refine' Mine.less_sub3 ?h_2 ?m_2; (case h_2 => with_reducible assumption); (case m_2 => (intro p9 h9; kst_mem)))
      | (with_reducible refine' Mine.less_sub4 ?h_2 ?m_2; (case h_2 => with_reducible assumption); (case m_2 => (intro p9 h9; kst_mem)))
      | (with_reducible refine' Mine.less_sub5 ?h_2 ?m_2; (case h_2 => with_reducible assumption); (case m_2 => (intro p9 h9; kst_mem)))
      | (refine' List.forall_mem_cons.mpr ⟨?a_2, ?b_2⟩; (case a_2 => k_ne); (case b_2 => k_all))
      | exact Mine.allLt_ne (by with_reducible assumption)
      | exact Mine.fresh_ne (by with_reducible assumption) (by k_mem)
      | (refine' List.forall_mem_append.mpr ⟨?_, ?_⟩ <;> k_all))
    | fail
  k_with "kqd_sub" => first
    | (first
      | exact fun _ h => h
      | exact List.forall_mem_nil _
      | (refine' List.forall_mem_cons.mpr ⟨?kqa_3, ?kqb_3⟩; (case kqa_3 => k_mem); (case kqb_3 => kqd_sub))
      | (refine' List.forall_mem_append.mpr ⟨?_, ?_⟩ <;> kqd_sub)
      | (intro p9 h9; k_mem))
    | fail
  k_with "ktr_enter" => first
    | (refine' code_defC ?k1_4 ?k2_4 ?k3_4 ?k4_4 ?k5_4 ?kA_4 ?kF_4 ?kK_4 ?k6_4 ?k7_4 ?k8_4 ?k9_4 ?kB_4 ?kD_4 ?_ ?c2_4 ?c3_4 ?c4_4; (case kA_4 => exact rfl); (case kF_4 => exact rfl); (case kK_4 => assumption); (case k1_4 => k_asm); (case k2_4 => k_asm); (case k3_4 => k_asm); (case k4_4 => k_asm); (case k5_4 => k_asm); (case k6_4 => k_is); (case k7_4 => k_is); (case k8_4 => ktr_room); (case k9_4 => exact BindsTo.of_eq rfl); (case kB_4 => exact rfl); (case kD_4 => decide +kernel); (case c2_4 => exact rfl); (case c3_4 => exact rfl); (case c4_4 => exact rfl); k_whole; intro g' L' h' tk' cells' FG' F' N' Y' B' X' T' l1; (try k_lt l1); k_cells Y'; (try simp only [List.cons_append, List.nil_append] at N'); (try dsimp only); (try k_fold))
    | fail
  k_with "tb_start" => first
    | (first
      | with_reducible exact Mine.Apart.ne (by with_reducible assumption)
      | with_reducible exact Mine.Apart.en (by with_reducible assumption)
      | with_reducible exact Mine.succ_ne1
      | with_reducible exact Mine.succ_ne2
      | (with_reducible refine' Mine.less_ne ?h_5 ?m_5; (case h_5 => with_reducible assumption); (case m_5 => kst_mem))
      | (with_reducible refine' Mine.less_en ?h_5 ?m_5; (case h_5 => with_reducible assumption); (case m_5 => kst_mem))
      | (with_reducible refine' Mine.less_ne1 ?h_5 ?m_5; (case h_5 => with_reducible assumption); (case m_5 => kst_mem))
      | (with_reducible refine' Mine.less_en1 ?h_5 ?m_5; (case h_5 => with_reducible assumption); (case m_5 => kst_mem))
      | (with_reducible refine' Mine.less_ne2 ?h_5 ?m_5; (case h_5 => with_reducible assumption); (case m_5 => kst_mem))
      | (with_reducible refine' Mine.less_en2 ?h_5 ?m_5; (case h_5 => with_reducible assumption); (case m_5 => kst_mem))
      | (with_reducible refine' Mine.less_ne3 ?h_5 ?m_5; (case h_5 => with_reducible assumption); (case m_5 => kst_mem))
      | (with_reducible refine' Mine.less_en3 ?h_5 ?m_5; (case h_5 => with_reducible assumption); (case m_5 => kst_mem))
      | (with_reducible refine' Mine.less_ne4 ?h_5 ?m_5; (case h_5 => with_reducible assumption); (case m_5 => kst_mem))
      | (with_reducible refine' Mine.less_en4 ?h_5 ?m_5; (case h_5 => with_reducible assumption); (case m_5 => kst_mem))
      | (with_reducible refine' Mine.less_ne5 ?h_5 ?m_5; (case h_5 => with_reducible assumption); (case m_5 => kst_mem))
      | (with_reducible refine' Mine.less_en5 ?h_5 ?m_5; (case h_5 => with_reducible assumption); (case m_5 => kst_mem))
      | (with_reducible refine' Mine.lt_ne2 ?k_5 ?h_5 ?m_5; (case k_5 => with_reducible assumption); (case h_5 => with_reducible assumption); (case m_5 => kst_mem))
      | (with_reducible refine' Mine.lt_en2 ?k_5 ?h_5 ?m_5; (case k_5 => with_reducible assumption); (case h_5 => with_reducible assumption); (case m_5 => kst_mem)))
    | fail
  k_with "k_ne" => first
    | (first | tb_start | ((try dsimp only); (refine neN ?_); first | tb_start | omega))
    | fail
  k_with "m call ref" => first
    | (k_here; (with_reducible show wpAny _ _ (call (Value.ref 45) _) _ _ _); k_dflt (refine' Mine.nf_use ?k1_68 ?k2_68 ?k3_68 ?k4_68 ?k5_68 ?k6_68 ?k13_68 ?k14_68 ?_; (case k1_68 => k_asm); (case k2_68 => k_asm); (case k3_68 => k_asm); (case k4_68 => k_asm); (case k5_68 => k_asm); (case k6_68 => first | exact rfl | assumption); (case k13_68 => ktr_room); (case k14_68 => ktr_units); k_whole); intro e9 t9 dx9 k19 k29 h9 tk9 F9 N9 l9 l19 l29; (try k_lt l9); (try k_fold))
    | fail
  k_with "m exec Raise some none" => first
    | (k_here; k_dflt (refine' Mine.nf_raise ?hh_69 ?_; (case hh_69 => first | exact rfl | assumption); k_whole))
    | fail
  k_with "m RaiseAt" => first
    | (k_dflt (refine' Mine.RaiseAt.intro ?F_70 ?X_70 ?N_70 ?m_70 ?_; (case F_70 => k_asm); (case X_70 => k_asm); (case N_70 => k_asm); (case m_70 => kst_mem); k_whole); (try dsimp only))
    | fail
  trivial
abbrev noName (x : Str) : Str := Str.ofString "no region is named " ++ x
theorem told_use {w : World} {mean : ExcName → Option Value} {mg mb : Str → Option Value} {dp un : Nat} {gd : Option (List Code)} {cn : Str} {cs : Scope} {ca : Addr} {ccd : Value} {cl : List (Str × Addr)} {outer : List Env} {A₀ : Around} {base h₀ : Heap} {L : Addr} {m : Str → Option Value} {s : Shared} {Q E : Value → Shared → Prop}
    {x : Str} {sp : Int} {tx ts : Tok} {l : List (Addr × Obj)} (hx : x.length < 100) (hx2 : PyData.strOk x = true)
    (B : Below A₀ base outer h₀) (F : Fr h₀ L s.heap m) (X : (hd.heap_1 w.params).In h₀) (N : News h₀ L s.heap l) (T : Top topProg (looseW view [Str.ofString "LendError"] ++ (recsOf view).map (·.name) ++ (litsOf view).map (·.1) ++ (clssOf view (looseW view [Str.ofString "LendError"])).map (·.name)) mean mg mb h₀) (hk : cs.kind = .function) (hd : dp + 10 < recursionLimit) (hu : un + 300 < cLine)
    (ok1 : (x == Str.ofString "'_") = true → ∀ h' tk', Fr h₀ L h' m → News h₀ L h' l → Q .none { s with heap := h', toks := tk' })
    (ok2 : (x == Str.ofString "'_") = false → (Txt.slice x none (some 2) == Str.ofString "'_") = false → ∀ h' tk', Fr h₀ L h' m → News h₀ L h' l → Q (.str x tx) { s with heap := h', toks := tk' })
    (bad : (x == Str.ofString "'_") = false → (Txt.slice x none (some 2) == Str.ofString "'_") = true → ∀ G e dx k1 k2 t' h' tk', Fr h₀ L G m → RaisedD base G (envX cn cs L ca ccd cl :: outer) e dx ((dx, nfDict w (noName x) k1 t' sp k2 ts) :: l) h' → G.UpToSlots h' → (∀ p ∈ l, p.1 < e) → @LT.lt Nat _ e dx → E (.ref e) { s with heap := h', toks := tk' }) :
    wpAny (model PySem.Challenge.rw_xm0577_01.row.prog w) (ktrTop dp un gd cn cs L ca ccd cl outer) (call (.ref 73) [.str x tx, .int sp ts]) Q E s := by
  refine wpAny_call ?_
  k_dflt ktr_enter
  k_steps
  · exact ok1 (by assumption) _ _ (by k_asm) (by k_asm)
  · exact leave_nf (by assumption) (by k_asm) (by k_asm) (by assumption) (by assumption) (by assumption) (fun h' R U => bad (by assumption) (by assumption) _ _ _ _ _ _ _ _ (by assumption) R U (by assumption) (Nat.lt_trans (by assumption) (by assumption))) rfl
  · exact ok2 (by assumption) (by assumption) _ _ (by k_asm) (by k_asm)
theorem told_none {w : World} {mean : ExcName → Option Value} {mg mb : Str → Option Value} {dp un : Nat} {gd : Option (List Code)} {cn : Str} {cs : Scope} {ca : Addr} {ccd : Value} {cl : List (Str × Addr)} {outer : List Env} {A₀ : Around} {base h₀ : Heap} {L : Addr} {m : Str → Option Value} {s : Shared} {Q E : Value → Shared → Prop}
    {sp : Int} {ts : Tok} {l : List (Addr × Obj)}
    (B : Below A₀ base outer h₀) (F : Fr h₀ L s.heap m) (X : (hd.heap_1 w.params).In h₀) (N : News h₀ L s.heap l) (T : Top topProg (looseW view [Str.ofString "LendError"] ++ (recsOf view).map (·.name) ++ (litsOf view).map (·.1) ++ (clssOf view (looseW view [Str.ofString "LendError"])).map (·.name)) mean mg mb h₀) (hk : cs.kind = .function) (hd : dp + 10 < recursionLimit) (hu : un + 300 < cLine)
    (ok1 : ∀ h' tk', Fr h₀ L h' m → News h₀ L h' l → Q .none { s with heap := h', toks := tk' }) :
    wpAny (model PySem.Challenge.rw_xm0577_01.row.prog w) (ktrTop dp un gd cn cs L ca ccd cl outer) (call (.ref 73) [.none, .int sp ts]) Q E s := by
  refine wpAny_call ?_
  k_dflt ktr_enter
  k_steps
  exact ok1 _ _ (by k_asm) (by k_asm)
end
section
theorem words_31 : True := by
  w_top off
  k_with_none
  k_with "kst_mem" => first
    | (first
      | with_reducible assumption
      | with_reducible exact List.mem_cons_self
      | (with_reducible refine List.mem_cons_of_mem _ ?_; kst_mem)
      | (with_reducible refine List.mem_append.mpr (Or.inl ?_); kst_mem)
      | (with_reducible refine List.mem_append.mpr (Or.inr ?_); kst_mem)
      | fail "kst_mem")
    | fail
  k_with "k_mem" => first
    | (kst_mem)
    | fail
  k_with "k_all" => first
    | (first
      | with_reducible assumption
      | exact List.forall_mem_nil _
      | (with_reducible refine' Mine.less_sub ?h_2 ?m_2; (case h_2 => with_reducible assumption); (case m_2 => (intro p9 h9; kst_mem)))
      | (with_reducible refine' Mine.less_sub1 ?h_2 ?m_2; (case h_2 => with_reducible assumption); (case m_2 => (intro p9 h9; kst_mem)))
      | (with_reducible refine' Mine.less_sub2 ?h_2 ?m_2; (case h_2 => with_reducible assumption); (case m_2 => (intro p9 h9; kst_mem)))
      | (with_reducible refine' Mine.less_sub3 ?h_2 ?m_2; (case h_2 => with_reducible assumption); (case m_2 => (intro p9 h9; kst_mem)))
      | (with_reducible refine' Mine.less_sub4 ?h_2 ?m_2; (case h_2 => with_reducible assumption); (case m_2 => (intro p9 h9; kst_mem)))
      | (with_reducible refine' Mine.less_sub5 ?h_2 ?m_2; (case h_2 => with_reducible assumption); (case m_2 => (intro p9 h9; kst_mem)))
      | (refine' List.forall_mem_cons.mpr ⟨?a_2, ?b_2⟩; (case a_2 => k_ne); (case b_2 => k_all))
      | exact Mine.allLt_ne (by with_reducible assumption)
      | exact Mine.fresh_ne (by with_reducible assumption) (by k_mem)
      | (refine' List.forall_mem_append.mpr ⟨?_, ?_⟩ <;> k_all))
    | fail
  k_with "kqd_sub" => first
    | (first
      | exact fun _ h => h
      | exact List.forall_mem_nil _
      | (refine' List.forall_mem_cons.mpr ⟨?kqa_3, ?kqb_3⟩; (case kqa_3 => k_mem); (case kqb_3 => kqd_sub))
      | (refine' List.forall_mem_append.mpr ⟨?_, ?_⟩ <;> kqd_sub)
      | (intro p9 h9; k_mem))
    | fail
  k_with "ktr_enter" => first
    | (refine' code_defC ?k1_4 ?k2_4 ?k3_4 ?k4_4 ?k5_4 ?kA_4 ?kF_4 ?kK_4 ?k6_4 ?k7_4 ?k8_4 ?k9_4 ?kB_4 ?kD_4 ?_ ?c2_4 ?c3_4 ?c4_4; (case kA_4 => exact rfl); (case kF_4 => exact rfl); (case kK_4 => assumption); (case k1_4 => k_asm); (case k2_4 => k_asm); (case k3_4 => k_asm); (case k4_4 => k_asm); (case k5_4 => k_asm); (case k6_4 => k_is); (case k7_4 => k_is); (case k8_4 => ktr_room); (case k9_4 => exact BindsTo.of_eq rfl); (case kB_4 => exact rfl); (case kD_4 => decide +kernel); (case c2_4 => exact rfl); (case c3_4 => exact rfl); (case c4_4 => exact rfl); k_whole; intro g' L' h' tk' cells' FG' F' N' Y' B' X' T' l1; (try k_lt l1); k_cells Y'; (try simp only [List.cons_append, List.nil_append] at N'); (try dsimp only); (try k_fold))
    | fail
  k_with "tb_start" => first
    | (first
      | with_reducible exact Mine.Apart.ne (by with_reducible assumption)
      | with_reducible exact Mine.Apart.en (by with_reducible assumption)
      | with_reducible exact Mine.succ_ne1
      | with_reducible exact Mine.succ_ne2
      | (with_reducible refine' Mine.less_ne ?h_5 ?m_5; (case h_5 => with_reducible assumption); (case m_5 => kst_mem))
      | (with_reducible refine' Mine.less_en ?h_5 ?m_5; (case h_5 => with_reducible assumption); (case m_5 => kst_mem))
      | (with_reducible refine' Mine.less_ne1 ?h_5 ?m_5; (case h_5 => with_reducible assumption); (case m_5 => kst_mem))
      | (with_reducible refine' Mine.less_en1 ?h_5 ?m_5; (case h_5 => with_reducible assumption); (case m_5 => kst_mem))
      | (with_reducible refine' Mine.less_ne2 ?h_5 ?m_5; (case h_5 => with_reducible assumption); (case m_5 => kst_mem))
      | (with_reducible refine' Mine.less_en2 ?h_5 ?m_5; (case h_5 => with_reducible assumption); (case m_5 => kst_mem))
      | (with_reducible refine' Mine.less_ne3 ?h_5 ?m_5; (case h_5 => with_reducible assumption); (case m_5 => kst_mem))
      | (with_reducible refine' Mine.less_en3 ?h_5 ?m_5; (case h_5 => with_reducible assumption); (case m_5 => kst_mem))
      | (with_reducible refine' Mine.less_ne4 ?h_5 ?m_5; (case h_5 => with_reducible assumption); (case m_5 => kst_mem))
      | (with_reducible refine' Mine.less_en4 ?h_5 ?m_5; (case h_5 => with_reducible assumption); (case m_5 => kst_mem))
      | (with_reducible refine' Mine.less_ne5 ?h_5 ?m_5; (case h_5 => with_reducible assumption); (case m_5 => kst_mem))
      | (with_reducible refine' Mine.less_en5 ?h_5 ?m_5; (case h_5 => with_reducible assumption); (case m_5 => kst_mem))
      | (with_reducible refine' Mine.lt_ne2 ?k_5 ?h_5 ?m_5; (case k_5 => with_reducible assumption); (case h_5 => with_reducible assumption); (case m_5 => kst_mem))
      | (with_reducible refine' Mine.lt_en2 ?k_5 ?h_5 ?m_5; (case k_5 => with_reducible assumption); (case h_5 => with_reducible assumption); (case m_5 => kst_mem)))
    | fail
  k_with "k_ne" => first
    | (first | tb_start | ((try dsimp only); (refine neN ?_); first | tb_start | omega))
    | fail
  trivial
section
variable {prog : Program} {w : World} {A₀ A : Around} {s : Shared} {base h₀ g₀ : Heap} {outer : List Env} {L : Addr} {m : Str → Option Value} {env : Env} {news : List (Addr × Obj)} {K : Frag} {p : Program} {loose : List Str} {mean : ExcName → Option Value} {mg mb : Str → Option Value} {R : Result → Shared → Prop}
theorem memE {b : Addr} (hf : env.frame = some L) (hm : b ∈ (env :: outer).filterMap (·.frame)) : b = L ∨ b ∈ outer.filterMap (·.frame) := by
  rw [List.filterMap_cons, hf] at hm
  exact List.mem_cons.mp hm
/-- the ground of a callee that may turn the frames below it: what it hands back -/
theorem groundT (B : Below A₀ base outer h₀) (F : Fr h₀ L s.heap m) (N : News h₀ L s.heap news) (hA : A.frames = some (env :: outer)) (hf : env.frame = some L) (hke : env.scope.kind = .function) (D : KtsDicts (outer.filterMap (·.frame)) h₀) :
    ∃ oL es ep, (hideAll s.heap (news.map (·.1))).get? L = some oL ∧ oL.data = .dict es ep ∧ (∀ (sl : Array (Option Value)) h', h'.get? L = some { oL with slots := sl } → Heap.Ns h' L m) ∧
      Fr h₀ L (hideAll s.heap (news.map (·.1))) m ∧ Below A base (env :: outer) (hideAll s.heap (news.map (·.1))) ∧ h₀.StaysIn (hideAll s.heap (news.map (·.1))) ∧ KtsDicts ((env :: outer).filterMap (·.frame)) (hideAll s.heap (news.map (·.1))) := by
  obtain ⟨FG, BG, st, _⟩ := groundX (R := fun _ _ => True) B F N hA hf hke
  obtain ⟨oL, es, ep, hL, hLd, hLk, hLf⟩ := FG.ns
  refine ⟨oL, es, ep, hL, hLd, fun sl h' e => ⟨_, es, ep, e, hLd, hLk, hLf⟩, FG, BG, st, fun b hb => ?_⟩
  rcases memE hf hb with rfl | hb
  · exact ⟨oL, es, ep, hL, hLd⟩
  · obtain ⟨o, es', n', ho', hd'⟩ := D b hb
    exact ⟨o, es', n', st b o ho', hd'⟩
theorem back0 {g : Heap} {oL : Obj} {v : Value} {s' : Shared} (F : Fr h₀ L s.heap m) (hf : env.frame = some L) (hLg : g.get? L = some oL) (hNs : ∀ (sl : Array (Option Value)) h', h'.get? L = some { oL with slots := sl } → Heap.Ns h' L m) (st : h₀.StaysIn g)
    (hl : LeaveS0 ([env].filterMap (·.frame)) h₀ L m g R v s') : R (.ok (.ret v)) s' := by
  obtain ⟨g', L', m', news', T', F', N', k⟩ := hl
  have nL₀ : h₀.get? L = none := kts_self F
  obtain ⟨sl, hs⟩ := T'.up hLg
  refine k ⟨hNs sl _ (F'.keep _ _ hs), fun b o e => F'.keep b o (T'.other b o (st b o e) (fun q => ?_)), F.above⟩ fun p hp => ⟨(N' p hp).1, fun q => ?_, ?_⟩
  · rcases memE hf q with z | z
    · rw [z, nL₀] at e; cases e
    · cases z
  · have := (N' p hp).2.2; rw [q, hs] at this; cases this
  · cases q : h₀.get? p.1 with
    | none => rfl
    | some o =>
      obtain ⟨sl', hs'⟩ := T'.up (st _ _ q)
      have := (N' p hp).2.2
      rw [hs'] at this
      cases this
theorem backS {g : Heap} {oL : Obj} {v : Value} {s' : Shared} (B : Below A₀ base outer h₀) (F : Fr h₀ L s.heap m) (XB : K.In base) (TB : Top p loose mean mg mb base) (D : KtsDicts (outer.filterMap (·.frame)) h₀) (T0 : KtsTurn (outer.filterMap (·.frame)) g₀ h₀)
    (hf : env.frame = some L) (hLg : g.get? L = some oL) (hNs : ∀ (sl : Array (Option Value)) h', h'.get? L = some { oL with slots := sl } → Heap.Ns h' L m) (st : h₀.StaysIn g)
    (hl : LeaveS ((env :: outer).filterMap (·.frame)) A₀ base outer K p loose mean mg mb g₀ h₀ L m g R v s') : R (.ok (.ret v)) s' := by
  have nL₀ : h₀.get? L = none := kts_self F
  rcases hl with ⟨L', m', news', F', N', k⟩ | ⟨g', L', m', news', T', F', N', k⟩
  · refine k ⟨hNs oL.slots _ (F'.keep _ _ hLg), fun b o e => F'.keep b o (st b o e), F.above⟩ fun p hp => ⟨(N' p hp).1, fun q => ?_, ?_⟩
    · have := (N' p hp).2.2; rw [q, hLg] at this; cases this
    · cases q : h₀.get? p.1 with
      | none => rfl
      | some o => have := (N' p hp).2.2; rw [st _ _ q] at this; cases this
  obtain ⟨sl, hs⟩ := T'.up hLg
  obtain ⟨T₁, S₁⟩ := kts_turn_at (h := s'.heap) (fs := outer.filterMap (·.frame)) (g := h₀)
    (fun b hb => by
      obtain ⟨_, o, ho', _⟩ := B.frames.mem hb
      exact ⟨o, ho'⟩)
    (fun b o e nmem => F'.keep b o (T'.other b o (st b o e) (fun q => by
      rcases memE hf q with z | z
      · rw [z, nL₀] at e
        cases e
      · exact nmem z)))
    (fun b o e hm => by
      obtain ⟨sl', hs'⟩ := T'.up (st b o e)
      exact ⟨sl', F'.keep _ _ hs'⟩)
  have B₃ : Below A₀ base outer (ktsHeap s'.heap (outer.filterMap (·.frame)) h₀) := ⟨B.stack, fun b o e => T₁.other b o (B.stays b o e) (fun hm => by
    rw [(B.frames.mem hm).1] at e
    cases e), B.frames.of_keeps fun b o e _ => by
    obtain ⟨sl', hs'⟩ := T₁.up e
    exact ⟨_, hs', rfl⟩⟩
  refine k _ (T0.trans T₁) ⟨hNs sl _ (F'.keep _ _ hs), S₁, by rw [T₁.size]; exact F.above⟩ (fun p hp => ⟨(N' p hp).1, fun q => ?_, ?_⟩) B₃ (XB.keeps B₃.stays) (TB.keeps B₃.stays) (D.turn T₁)
  · have := (N' p hp).2.2; rw [q, hs] at this; cases this
  · refine T₁.none_ _ ?_
    cases q : h₀.get? p.1 with
    | none => rfl
    | some o =>
      obtain ⟨sl', hs'⟩ := T'.up (st _ _ q)
      have := (N' p hp).2.2
      rw [hs'] at this
      cases this
variable {name qual : Str} {params : Arguments} {body : List Stmt} {scope : Scope} {dV kV doc pm cdv ct oc : Value} {an od : Option Addr} {osl : Array (Option Value)} {f : Addr} {args : Args} {binds : List (Str × Value)}
theorem code_plainT (B : Below A₀ base outer h₀) (F : Fr h₀ L s.heap m) (X₀ : K.In h₀) (N : News h₀ L s.heap news) (T : Top p loose mean mg mb h₀) (XB : K.In base) (TB : Top p loose mean mg mb base) (D : KtsDicts (outer.filterMap (·.frame)) h₀) (T0 : KtsTurn (outer.filterMap (·.frame)) g₀ h₀)
    (hA : A.frames = some (env :: outer)) (hf : env.frame = some L) (hke : env.scope.kind = .function)
    (ho : K.lookup f = some ⟨oc, od, .func (fnOf name qual params body scope dV kV doc pm an cdv ct), osl⟩) (hcd : codeIn K cdv qual = true) (hroom : A.depth < recursionLimit)
    (hbind : BindsTo s (fnOf name qual params body scope dV kV doc pm an cdv ct) args binds) (hloc : ∀ y ∈ binds, scope.names.lookup y.1 = some .local)
    (h : ∀ g L' h₁, Fr h₀ L g m → Fr g L' h₁ (fun y => binds.reverse.lookup y) → News g L' h₁ news → Below A base (env :: outer) g → K.In g → Top p loose mean mg mb g → KtsDicts ((env :: outer).filterMap (·.frame)) g → (∀ p ∈ news, p.1 < L') →
      wpAny (model prog w) (A.deeper (envOf qual scope L' f cdv)) (execs body (envOf qual scope L' f cdv))
        (fun fl s' => LeaveS ((env :: outer).filterMap (·.frame)) A₀ base outer K p loose mean mg mb g₀ h₀ L m g R (match fl with | .ret v => v | _ => .none) s')
        (fun e s' => wpAny (model prog w) (A.deeper (envOf qual scope L' f cdv)) (leaving (envOf qual scope L' f cdv) e) (fun _ s'' => R (.error e) s'') (fun e' s'' => R (.error e') s'') s')
        { s with heap := h₁, toks := s.toks + binds.length })
    (hco : scope.isCoroutine = false) (hgen : scope.isGenerator = false) (hk : scope.kind = .function) (hcell : ∀ x ∈ scope.names, x.2 ≠ .cell) : codeAny (model prog w) A (.call (.ref f) args) R s := by
  have X := X₀.keeps F.keep
  obtain ⟨oL, es, ep, hLg, _, hNs, FG, BG, st, DG⟩ := groundT B F N hA hf hke D
  refine codeAny_call_def (fd := fnOf name qual params body scope dV kV doc pm an cdv ct) (body := body) (binds := binds) hroom (X _ _ ho) rfl (T.nolimit.keeps F.keep) (codeRec_of X hcd) rfl hbind hcell hloc (fun h₁ hns hk₁ => ?_) hco hgen hk
  exact wpAny_mono (h _ s.heap.objs.size h₁ FG ⟨hns, fun b o e => hk₁ b o (of_hideAll _ e), Nat.le_of_eq (hideAll_size _ _)⟩
    (fun p hp => ⟨hk₁ _ _ (N p hp).1, Nat.ne_of_lt (Heap.lt_size (N p hp).1), hideAll_none _ (List.mem_map_of_mem hp)⟩) BG (X₀.keeps st) (T.keeps st) DG (fun p hp => Heap.lt_size (N p hp).1))
    (fun fl s' hl => backS B F XB TB D T0 hf hLg hNs st hl) fun _ _ y => y
theorem code_cellsT (B : Below A₀ base [] h₀) (F : Fr h₀ L s.heap m) (X₀ : K.In h₀) (N : News h₀ L s.heap news) (T : Top p loose mean mg mb h₀)
    (hA : A.frames = some [env]) (hf : env.frame = some L) (hke : env.scope.kind = .function)
    (ho : K.lookup f = some ⟨oc, od, .func (fnOf name qual params body scope dV kV doc pm an cdv ct), osl⟩) (hcd : codeIn K cdv qual = true) (hroom : A.depth < recursionLimit)
    (hbind : BindsTo s (fnOf name qual params body scope dV kV doc pm an cdv ct) args binds)
    (hkind : (binds.all fun y => scope.names.lookup y.1 == some .local || scope.names.lookup y.1 == some .cell) = true)
    (hnd : ((cellsFrom 0 scope.names []).map (·.1)).Nodup)
    (h : ∀ g L' h₁ tk cells, Fr h₀ L g m → Fr g L' h₁ (bindL (envOfC qual scope L' f cdv).kindOf binds fun _ => none) → News g L' h₁ (cells ++ news) →
      CellsAre (bindC (envOfC qual scope L' f cdv).kindOf binds fun _ => none) (cellsFrom (L' + 1) scope.names []) cells → Below A base [env] g → K.In g → Top p loose mean mg mb g → KtsDicts ([env].filterMap (·.frame)) g → (∀ p ∈ news, p.1 < L') →
      wpAny (model prog w) (A.deeper (envOfC qual scope L' f cdv)) (execs body (envOfC qual scope L' f cdv))
        (fun fl s' => LeaveS0 ([env].filterMap (·.frame)) h₀ L m g R (match fl with | .ret v => v | _ => .none) s')
        (fun e s' => wpAny (model prog w) (A.deeper (envOfC qual scope L' f cdv)) (leaving (envOfC qual scope L' f cdv) e) (fun _ s'' => R (.error e) s'') (fun e' s'' => R (.error e') s'') s')
        { s with heap := h₁, toks := tk })
    (hco : scope.isCoroutine = false) (hgen : scope.isGenerator = false) (hk : scope.kind = .function) : codeAny (model prog w) A (.call (.ref f) args) R s := by
  have X := X₀.keeps F.keep
  obtain ⟨oL, es, ep, hLg, _, hNs, FG, BG, st, DG⟩ := groundT B F N hA hf hke ktsDicts_nil
  refine codeAny_call_function hroom (X _ _ ho) rfl hco hgen rfl (codeRec_of X hcd) (hbind _ _ _ _ ?_)
  refine wpAny_newFunctionEnv_cells hk (kindsX hkind _) fun env' he s' x => ?_
  subst he
  refine ⟨(T.nolimit.keeps F.keep).keeps x.toInCall.keep, codeAny_func ?_⟩
  obtain ⟨h₁, tk, rfl, _⟩ := x.done
  have hk₁ := x.toInCall.keep
  obtain ⟨cells, NC, Y⟩ := Cl.news (h₀ := s.heap) (Nat.le_refl _) fun n c hm => ⟨x.cell n c (lookup_of_mem_nodup (cellsFrom_names scope.names 0 (s.heap.objs.size + 1) [] [] rfl ▸ hnd) hm), x.above n c hm⟩
  refine wpAny_mono (h _ s.heap.objs.size h₁ tk cells FG ⟨x.toInCall.ns, fun b o e => hk₁ b o (of_hideAll _ e), Nat.le_of_eq (hideAll_size _ _)⟩ (fun p hp => ?_) Y BG (X₀.keeps st) (T.keeps st) DG (fun p hp => Heap.lt_size (N p hp).1))
    (fun fl s' hl => back0 F hf hLg hNs st hl) fun _ _ y => y
  rcases List.mem_append.mp hp with hp | hp
  · refine ⟨(NC p hp).1, (NC p hp).2.1, ?_⟩
    cases q : (hideAll s.heap (news.map (·.1))).get? p.1 with
    | none => rfl
    | some o => have := of_hideAll _ q; rw [(NC p hp).2.2] at this; cases this
  · exact ⟨hk₁ _ _ (N p hp).1, Nat.ne_of_lt (Heap.lt_size (N p hp).1), hideAll_none _ (List.mem_map_of_mem hp)⟩
end
end
section
theorem words_32 : True := by
  w_top off
  k_with_none
  k_with "kst_mem" => first
    | (first
      | with_reducible assumption
      | with_reducible exact List.mem_cons_self
      | (with_reducible refine List.mem_cons_of_mem _ ?_; kst_mem)
      | (with_reducible refine List.mem_append.mpr (Or.inl ?_); kst_mem)
      | (with_reducible refine List.mem_append.mpr (Or.inr ?_); kst_mem)
      | fail "kst_mem")
    | fail
  k_with "k_mem" => first
    | (kst_mem)
    | fail
  k_with "k_all" => first
    | (first
      | with_reducible assumption
      | exact List.forall_mem_nil _
      | (with_reducible refine' Mine.less_sub ?h_2 ?m_2; (case h_2 => with_reducible assumption); (case m_2 => (intro p9 h9; kst_mem)))
      | (with_reducible refine' Mine.less_sub1 ?h_2 ?m_2; (case h_2 => with_reducible assumption); (case m_2 => (intro p9 h9; kst_mem)))
      | (with_reducible refine' Mine.less_sub2 ?h_2 ?m_2; (case h_2 => with_reducible assumption); (case m_2 => (intro p9 h9; kst_mem)))
      | (with_reducible refine' Mine.less_sub3 ?h_2 ?m_2; (case h_2 => with_reducible assumption); (case m_2 => (intro p9 h9; kst_mem)))
      | (with_reducible refine' Mine.less_sub4 ?h_2 ?m_2; (case h_2 => with_reducible assumption); (case m_2 => (intro p9 h9; kst_mem)))
      | (with_reducible refine' Mine.less_sub5 ?h_2 ?m_2; (case h_2 => with_reducible assumption); (case m_2 => (intro p9 h9; kst_mem)))
      | (refine' List.forall_mem_cons.mpr ⟨?a_2, ?b_2⟩; (case a_2 => k_ne); (case b_2 => k_all))
      | exact Mine.allLt_ne (by with_reducible assumption)
      | exact Mine.fresh_ne (by with_reducible assumption) (by k_mem)
      | (refine' List.forall_mem_append.mpr ⟨?_, ?_⟩ <;> k_all))
    | fail
  k_with "kqd_sub" => first
    | (first
      | exact fun _ h => h
      | exact List.forall_mem_nil _
      | (refine' List.forall_mem_cons.mpr ⟨?kqa_3, ?kqb_3⟩; (case kqa_3 => k_mem); (case kqb_3 => kqd_sub))
      | (refine' List.forall_mem_append.mpr ⟨?_, ?_⟩ <;> kqd_sub)
      | (intro p9 h9; k_mem))
    | fail
  k_with "ktr_enter" => first
    | (refine' code_defC ?k1_4 ?k2_4 ?k3_4 ?k4_4 ?k5_4 ?kA_4 ?kF_4 ?kK_4 ?k6_4 ?k7_4 ?k8_4 ?k9_4 ?kB_4 ?kD_4 ?_ ?c2_4 ?c3_4 ?c4_4; (case kA_4 => exact rfl); (case kF_4 => exact rfl); (case kK_4 => assumption); (case k1_4 => k_asm); (case k2_4 => k_asm); (case k3_4 => k_asm); (case k4_4 => k_asm); (case k5_4 => k_asm); (case k6_4 => k_is); (case k7_4 => k_is); (case k8_4 => ktr_room); (case k9_4 => exact BindsTo.of_eq rfl); (case kB_4 => exact rfl); (case kD_4 => decide +kernel); (case c2_4 => exact rfl); (case c3_4 => exact rfl); (case c4_4 => exact rfl); k_whole; intro g' L' h' tk' cells' FG' F' N' Y' B' X' T' l1; (try k_lt l1); k_cells Y'; (try simp only [List.cons_append, List.nil_append] at N'); (try dsimp only); (try k_fold))
    | fail
  k_with "tb_start" => first
    | (first
      | with_reducible exact Mine.Apart.ne (by with_reducible assumption)
      | with_reducible exact Mine.Apart.en (by with_reducible assumption)
      | with_reducible exact Mine.succ_ne1
      | with_reducible exact Mine.succ_ne2
      | (with_reducible refine' Mine.less_ne ?h_5 ?m_5; (case h_5 => with_reducible assumption); (case m_5 => kst_mem))
      | (with_reducible refine' Mine.less_en ?h_5 ?m_5; (case h_5 => with_reducible assumption); (case m_5 => kst_mem))
      | (with_reducible refine' Mine.less_ne1 ?h_5 ?m_5; (case h_5 => with_reducible assumption); (case m_5 => kst_mem))
      | (with_reducible refine' Mine.less_en1 ?h_5 ?m_5; (case h_5 => with_reducible assumption); (case m_5 => kst_mem))
      | (with_reducible refine' Mine.less_ne2 ?h_5 ?m_5; (case h_5 => with_reducible assumption); (case m_5 => kst_mem))
      | (with_reducible refine' Mine.less_en2 ?h_5 ?m_5; (case h_5 => with_reducible assumption); (case m_5 => kst_mem))
      | (with_reducible refine' Mine.less_ne3 ?h_5 ?m_5; (case h_5 => with_reducible assumption); (case m_5 => kst_mem))
      | (with_reducible refine' Mine.less_en3 ?h_5 ?m_5; (case h_5 => with_reducible assumption); (case m_5 => kst_mem))
      | (with_reducible refine' Mine.less_ne4 ?h_5 ?m_5; (case h_5 => with_reducible assumption); (case m_5 => kst_mem))
      | (with_reducible refine' Mine.less_en4 ?h_5 ?m_5; (case h_5 => with_reducible assumption); (case m_5 => kst_mem))
      | (with_reducible refine' Mine.less_ne5 ?h_5 ?m_5; (case h_5 => with_reducible assumption); (case m_5 => kst_mem))
      | (with_reducible refine' Mine.less_en5 ?h_5 ?m_5; (case h_5 => with_reducible assumption); (case m_5 => kst_mem))
      | (with_reducible refine' Mine.lt_ne2 ?k_5 ?h_5 ?m_5; (case k_5 => with_reducible assumption); (case h_5 => with_reducible assumption); (case m_5 => kst_mem))
      | (with_reducible refine' Mine.lt_en2 ?k_5 ?h_5 ?m_5; (case k_5 => with_reducible assumption); (case h_5 => with_reducible assumption); (case m_5 => kst_mem)))
    | fail
  k_with "k_ne" => first
    | (first | tb_start | ((try dsimp only); (refine neN ?_); first | tb_start | omega))
    | fail
  trivial
/-- what a table of nested codes holds: nothing, or one triple -/
def TabOk (ln cl : Nat) (qual : Str) (l : List (Addr × Obj)) (ps : Array Value) : Prop :=
  ps = #[] ∨ ∃ (c' : Addr) (oc : Obj) (vs : Array Value) (t : Tok), ps = #[rawInt ln, rawInt cl, .ref c'] ∧ (c', oc) ∈ l ∧ oc.data = .fields vs ∧ vs[1]? = some (.str qual t)
/-- what a call made of it: nothing new, or the one triple -/
def TabGo (ln cl : Nat) (qual : Str) (tl : List (Addr × Obj)) (ps ps' : Array Value) : Prop :=
  (ps' = ps ∧ ps ≠ #[]) ∨ (ps = #[] ∧ ∃ (c' : Addr) (oc : Obj) (vs : Array Value) (t : Tok), ps' = #[rawInt ln, rawInt cl, .ref c'] ∧ (c', oc) ∈ tl ∧ oc.data = .fields vs ∧ vs[1]? = some (.str qual t))
theorem TabOk.mono {ln cl : Nat} {qual : Str} {l l' : List (Addr × Obj)} {ps : Array Value} (h : TabOk ln cl qual l ps) (hs : ∀ p ∈ l, p ∈ l') : TabOk ln cl qual l' ps := by
  rcases h with h | ⟨c', oc, vs, t, e, hm, r⟩
  · exact .inl h
  · exact .inr ⟨c', oc, vs, t, e, hs _ hm, r⟩
theorem TabGo.mono {ln cl : Nat} {qual : Str} {tl tl' : List (Addr × Obj)} {ps ps' : Array Value} (h : TabGo ln cl qual tl ps ps') (hs : ∀ p ∈ tl, p ∈ tl') : TabGo ln cl qual tl' ps ps' := by
  rcases h with h | ⟨h, c', oc, vs, t, e, hm, r⟩
  · exact .inl h
  · exact .inr ⟨h, c', oc, vs, t, e, hs _ hm, r⟩
section
variable {M : Model} {A : Around} {E : Value → Shared → Prop} {s : Shared} {h₀ : Heap} {L a c P : Addr} {m mg mb : Str → Option Value} {cn : Str} {cs : Scope} {ccd : Value} {cl : List (Str × Addr)} {news : List (Addr × Obj)} {g : Obj → List (Addr × Obj)}
  {p : Program} {loose : List Str} {mean : ExcName → Option Value} {name qual : Str} {params : Arguments} {scope : Scope} {ps : Array Value} {pos : Pos} {firstLine : Nat} {clos : List (Str × Addr)}
theorem tab_among {c' : Addr} (pos : Pos) : codeAmong pos [rawInt pos.line, rawInt pos.col, .ref c'] = some (.ref c') := by simp [codeAmong, rawInt]
theorem tab_ok3 {ln cl : Nat} {v : Value} : TriplesOk [rawInt ln, rawInt cl, v] := by simp [TriplesOk, rawInt]
theorem nestAny {body : List Stmt} {Q : Value → Shared → Prop} (F : Fr h₀ L s.heap m) (N : News h₀ L s.heap news) (T : Top p loose mean mg mb h₀) (C : CodeHd h₀ c P) (hcd : ccd = .ref c) (U : UpdF P (tabObj ps) news g) (ok : TabOk pos.line pos.col qual news ps)
    (hcl : closureFor scope (envX cn cs L a ccd cl) = pure clos)
    (h : ∀ f c' oc vs t ctv doc h' tk tl ps', Fr h₀ L h' m → News h₀ L h' (g (tabObj ps') ++ tl) → (f, fnMade name qual params body scope clos doc ((mg "__name__").getD .none) c' ctv) ∈ tl → (c', oc) ∈ g (tabObj ps') ++ tl →
      oc.data = .fields vs → vs[1]? = some (.str qual t) → TabGo pos.line pos.col qual tl ps ps' → (∀ q ∈ news, ∀ p ∈ tl, q.1 < p.1) → Q (.ref f) { s with heap := h', toks := tk }) :
    wpAny M A (makeFunction name qual params (.stmts body) scope (envX cn cs L a ccd cl) [] [] [] pos firstLine) Q E s := by
  obtain ⟨pre, post, e0, hg, u1, u2⟩ := U.split
  rcases ok with rfl | ⟨c', oc, vs, t, rfl, hm, hd, hv⟩
  · refine nest_K F N T C hcd U True.intro rfl hcl fun f c' oc vs t ctv doc h' tk F' N' hd hv l1 l2 => ?_
    refine h f c' oc vs t ctv doc h' tk [(f, _), (c', oc)] _ F' (News.sub N' fun q hq => ?_) (.head _) (List.mem_append.mpr (.inr (.tail _ (.head _)))) hd hv (.inr ⟨rfl, c', oc, vs, t, rfl, .tail _ (.head _), hd, hv⟩) (fun q hq p hp => ?_)
    · rcases List.mem_append.mp hq with hq | hq
      · exact .tail _ (.tail _ hq)
      rcases List.mem_cons.mp hq with rfl | hq
      · exact .head _
      rcases List.mem_cons.mp hq with rfl | hq
      · exact .tail _ (.head _)
      · cases hq
    · rcases List.mem_cons.mp hp with rfl | hp
      · exact Nat.lt_trans (l1 q hq) l2
      rcases List.mem_cons.mp hp with rfl | hp
      · exact l1 q hq
      · cases hp
  · refine nestHit_K F N T C hcd (by rw [e0]; exact List.mem_append.mpr (.inr (.head _))) tab_ok3 (tab_among pos) hcl fun f ctv doc h' tk F' N' l1 => ?_
    have hgn : g (tabObj #[rawInt pos.line, rawInt pos.col, .ref c']) = news := by rw [hg, e0]
    refine h f c' oc vs t ctv doc h' tk [(f, _)] _ F' (News.sub N' fun q hq => ?_) (.head _) (List.mem_append.mpr (.inl (hgn ▸ hm))) hd hv (.inl ⟨rfl, by simp⟩) (fun q hq p hp => ?_)
    · rw [hgn] at hq
      rcases List.mem_append.mp hq with hq | hq
      · exact .tail _ hq
      rcases List.mem_cons.mp hq with rfl | hq
      · exact .head _
      · cases hq
    · rcases List.mem_cons.mp hp with rfl | hp
      · exact l1 q hq
      · cases hp
theorem lamAny {body : PySem.Expr} {Q : Value → Shared → Prop} (F : Fr h₀ L s.heap m) (N : News h₀ L s.heap news) (T : Top p loose mean mg mb h₀) (C : CodeHd h₀ c P) (hcd : ccd = .ref c) (U : UpdF P (tabObj ps) news g) (ok : TabOk pos.line pos.col qual news ps)
    (hcl : closureFor scope (envX cn cs L a ccd cl) = pure clos)
    (h : ∀ f c' oc vs t ctv h' tk tl ps', Fr h₀ L h' m → News h₀ L h' (g (tabObj ps') ++ tl) → (f, kla_obj name qual params body scope clos ((mg "__name__").getD .none) c' ctv) ∈ tl → (c', oc) ∈ g (tabObj ps') ++ tl →
      oc.data = .fields vs → vs[1]? = some (.str qual t) → TabGo pos.line pos.col qual tl ps ps' → (∀ q ∈ news, ∀ p ∈ tl, q.1 < p.1) → Q (.ref f) { s with heap := h', toks := tk }) :
    wpAny M A (makeFunction name qual params (.expr body) scope (envX cn cs L a ccd cl) [] [] [] pos firstLine) Q E s := by
  obtain ⟨pre, post, e0, hg, u1, u2⟩ := U.split
  rcases ok with rfl | ⟨c', oc, vs, t, rfl, hm, hd, hv⟩
  · refine kla_nest F N T C hcd U True.intro rfl hcl fun f c' oc vs t ctv h' tk F' N' hd hv l1 l2 => ?_
    refine h f c' oc vs t ctv h' tk [(f, _), (c', oc)] _ F' (News.sub N' fun q hq => ?_) (.head _) (List.mem_append.mpr (.inr (.tail _ (.head _)))) hd hv (.inr ⟨rfl, c', oc, vs, t, rfl, .tail _ (.head _), hd, hv⟩) (fun q hq p hp => ?_)
    · rcases List.mem_append.mp hq with hq | hq
      · exact .tail _ (.tail _ hq)
      rcases List.mem_cons.mp hq with rfl | hq
      · exact .head _
      rcases List.mem_cons.mp hq with rfl | hq
      · exact .tail _ (.head _)
      · cases hq
    · rcases List.mem_cons.mp hp with rfl | hp
      · exact Nat.lt_trans (l1 q hq) l2
      rcases List.mem_cons.mp hp with rfl | hp
      · exact l1 q hq
      · cases hp
  · refine kla_hit F N T C hcd (by rw [e0]; exact List.mem_append.mpr (.inr (.head _))) tab_ok3 (tab_among pos) hcl fun f ctv h' tk F' N' l1 => ?_
    have hgn : g (tabObj #[rawInt pos.line, rawInt pos.col, .ref c']) = news := by rw [hg, e0]
    refine h f c' oc vs t ctv h' tk [(f, _)] _ F' (News.sub N' fun q hq => ?_) (.head _) (List.mem_append.mpr (.inl (hgn ▸ hm))) hd hv (.inl ⟨rfl, by simp⟩) (fun q hq p hp => ?_)
    · rw [hgn] at hq
      rcases List.mem_append.mp hq with hq | hq
      · exact .tail _ hq
      rcases List.mem_cons.mp hq with rfl | hq
      · exact .head _
      · cases hq
    · rcases List.mem_cons.mp hp with rfl | hp
      · exact l1 q hq
      · cases hp
end
theorem mem_sub {α : Type} {x : α} {l l' : List α} (h : x ∈ l) (hs : ∀ p ∈ l, p ∈ l') : x ∈ l' := hs x h
end
section
theorem words_33 : True := by
  w_top off
  k_with_none
  k_with "kst_mem" => first
    | (first
      | with_reducible assumption
      | with_reducible exact List.mem_cons_self
      | (with_reducible refine List.mem_cons_of_mem _ ?_; kst_mem)
      | (with_reducible refine List.mem_append.mpr (Or.inl ?_); kst_mem)
      | (with_reducible refine List.mem_append.mpr (Or.inr ?_); kst_mem)
      | fail "kst_mem")
    | fail
  k_with "k_mem" => first
    | (kst_mem)
    | fail
  k_with "k_all" => first
    | (first
      | with_reducible assumption
      | exact List.forall_mem_nil _
      | (with_reducible refine' Mine.less_sub ?h_2 ?m_2; (case h_2 => with_reducible assumption); (case m_2 => (intro p9 h9; kst_mem)))
      | (with_reducible refine' Mine.less_sub1 ?h_2 ?m_2; (case h_2 => with_reducible assumption); (case m_2 => (intro p9 h9; kst_mem)))
      | (with_reducible refine' Mine.less_sub2 ?h_2 ?m_2; (case h_2 => with_reducible assumption); (case m_2 => (intro p9 h9; kst_mem)))
      | (with_reducible refine' Mine.less_sub3 ?h_2 ?m_2; (case h_2 => with_reducible assumption); (case m_2 => (intro p9 h9; kst_mem)))
      | (with_reducible refine' Mine.less_sub4 ?h_2 ?m_2; (case h_2 => with_reducible assumption); (case m_2 => (intro p9 h9; kst_mem)))
      | (with_reducible refine' Mine.less_sub5 ?h_2 ?m_2; (case h_2 => with_reducible assumption); (case m_2 => (intro p9 h9; kst_mem)))
      | (refine' List.forall_mem_cons.mpr ⟨?a_2, ?b_2⟩; (case a_2 => k_ne); (case b_2 => k_all))
      | exact Mine.allLt_ne (by with_reducible assumption)
      | exact Mine.fresh_ne (by with_reducible assumption) (by k_mem)
      | (refine' List.forall_mem_append.mpr ⟨?_, ?_⟩ <;> k_all))
    | fail
  k_with "kqd_sub" => first
    | (first
      | exact fun _ h => h
      | exact List.forall_mem_nil _
      | (refine' List.forall_mem_cons.mpr ⟨?kqa_3, ?kqb_3⟩; (case kqa_3 => k_mem); (case kqb_3 => kqd_sub))
      | (refine' List.forall_mem_append.mpr ⟨?_, ?_⟩ <;> kqd_sub)
      | (intro p9 h9; k_mem))
    | fail
  k_with "ktr_enter" => first
    | (refine' code_defC ?k1_4 ?k2_4 ?k3_4 ?k4_4 ?k5_4 ?kA_4 ?kF_4 ?kK_4 ?k6_4 ?k7_4 ?k8_4 ?k9_4 ?kB_4 ?kD_4 ?_ ?c2_4 ?c3_4 ?c4_4; (case kA_4 => exact rfl); (case kF_4 => exact rfl); (case kK_4 => assumption); (case k1_4 => k_asm); (case k2_4 => k_asm); (case k3_4 => k_asm); (case k4_4 => k_asm); (case k5_4 => k_asm); (case k6_4 => k_is); (case k7_4 => k_is); (case k8_4 => ktr_room); (case k9_4 => exact BindsTo.of_eq rfl); (case kB_4 => exact rfl); (case kD_4 => decide +kernel); (case c2_4 => exact rfl); (case c3_4 => exact rfl); (case c4_4 => exact rfl); k_whole; intro g' L' h' tk' cells' FG' F' N' Y' B' X' T' l1; (try k_lt l1); k_cells Y'; (try simp only [List.cons_append, List.nil_append] at N'); (try dsimp only); (try k_fold))
    | fail
  k_with "tb_start" => first
    | (first
      | with_reducible exact Mine.Apart.ne (by with_reducible assumption)
      | with_reducible exact Mine.Apart.en (by with_reducible assumption)
      | with_reducible exact Mine.succ_ne1
      | with_reducible exact Mine.succ_ne2
      | (with_reducible refine' Mine.less_ne ?h_5 ?m_5; (case h_5 => with_reducible assumption); (case m_5 => kst_mem))
      | (with_reducible refine' Mine.less_en ?h_5 ?m_5; (case h_5 => with_reducible assumption); (case m_5 => kst_mem))
      | (with_reducible refine' Mine.less_ne1 ?h_5 ?m_5; (case h_5 => with_reducible assumption); (case m_5 => kst_mem))
      | (with_reducible refine' Mine.less_en1 ?h_5 ?m_5; (case h_5 => with_reducible assumption); (case m_5 => kst_mem))
      | (with_reducible refine' Mine.less_ne2 ?h_5 ?m_5; (case h_5 => with_reducible assumption); (case m_5 => kst_mem))
      | (with_reducible refine' Mine.less_en2 ?h_5 ?m_5; (case h_5 => with_reducible assumption); (case m_5 => kst_mem))
      | (with_reducible refine' Mine.less_ne3 ?h_5 ?m_5; (case h_5 => with_reducible assumption); (case m_5 => kst_mem))
      | (with_reducible refine' Mine.less_en3 ?h_5 ?m_5; (case h_5 => with_reducible assumption); (case m_5 => kst_mem))
      | (with_reducible refine' Mine.less_ne4 ?h_5 ?m_5; (case h_5 => with_reducible assumption); (case m_5 => kst_mem))
      | (with_reducible refine' Mine.less_en4 ?h_5 ?m_5; (case h_5 => with_reducible assumption); (case m_5 => kst_mem))
      | (with_reducible refine' Mine.less_ne5 ?h_5 ?m_5; (case h_5 => with_reducible assumption); (case m_5 => kst_mem))
      | (with_reducible refine' Mine.less_en5 ?h_5 ?m_5; (case h_5 => with_reducible assumption); (case m_5 => kst_mem))
      | (with_reducible refine' Mine.lt_ne2 ?k_5 ?h_5 ?m_5; (case k_5 => with_reducible assumption); (case h_5 => with_reducible assumption); (case m_5 => kst_mem))
      | (with_reducible refine' Mine.lt_en2 ?k_5 ?h_5 ?m_5; (case k_5 => with_reducible assumption); (case h_5 => with_reducible assumption); (case m_5 => kst_mem)))
    | fail
  k_with "k_ne" => first
    | (first | tb_start | ((try dsimp only); (refine neN ?_); first | tb_start | omega))
    | fail
  trivial
def Rv.dat : Rv → Dat
  | .none => .none
  | .str x => .str x
  | .int i => .int i
theorem Rv.dat_inj {r q : Rv} : r.dat = q.dat ↔ r = q := by
  cases r <;> cases q <;> simp [Rv.dat]
theorem RV.datIn {l : List (Addr × Obj)} {v : Value} {r : Rv} (h : RV v r) : DatIn l v r.dat := by
  cases h with
  | none => exact .none
  | str x t _ => exact .str _ _
  | int i t => exact .int _ _
theorem RVs.datAll {l : List (Addr × Obj)} {vs : List Value} {rs : List Rv} (h : RVs vs rs) : DatAll l vs (rs.map Rv.dat) := by
  induction h with
  | nil => exact .nil
  | cons a _ ih => exact .cons a.datIn ih
theorem RV.ok {v : Value} {r : Rv} (h : RV v r) : kqdOk 8 r.dat = true := by
  cases h with
  | none => rfl
  | str x t e => simpa [Rv.dat, kqdOk] using e
  | int i t => rfl
theorem RVs.ok {vs : List Value} {rs : List Rv} (h : RVs vs rs) : ∀ d ∈ rs.map Rv.dat, kqdOk 8 d = true := by
  induction h with
  | nil => exact fun _ h => nomatch h
  | cons a _ ih =>
    intro d hd
    rcases List.mem_cons.mp hd with rfl | hd
    · exact a.ok
    · exact ih d hd
open Classical in
noncomputable def rvIn (r : Rv) (rs : List Rv) : Bool := decide (r ∈ rs)
open Classical in
theorem rvIn_iff {r : Rv} {rs : List Rv} : rvIn r rs = true ↔ r ∈ rs := by unfold rvIn; exact decide_eq_true_iff
open Classical in
theorem rvIn_not {r : Rv} {rs : List Rv} : rvIn r rs = false ↔ r ∉ rs := by unfold rvIn; exact decide_eq_false_iff_not
section
variable {prog : Program} {w : World} {A : Around} {E : Value → Shared → Prop} {s : Shared} {h₀ : Heap} {L a b : Addr} {l : List (Addr × Obj)} {xs ys : List Value} {k k2 : Nat} {rs : List Rv} {r : Rv} {x : Value} {Q : Value → Shared → Prop}
theorem rv_mem {r : Rv} {rs : List Rv} : r.dat ∈ rs.map Rv.dat ↔ r ∈ rs := by
  constructor
  · intro h
    obtain ⟨q, hq, e⟩ := List.mem_map.mp h
    exact Rv.dat_inj.mp e ▸ hq
  · exact fun h => List.mem_map_of_mem h
open Classical in
theorem rv_in (N : News h₀ L s.heap l) (ma : (a, listOf xs.toArray k) ∈ l) (hs : RVs xs rs) (hx : RV x r) (hu : A.units + 64 < cLine) (h : Q (.bool (rvIn r rs)) s) : wpAny (model prog w) A (compareOp .In x (.ref a)) Q E s := by
  refine kqd_isIn N ma rfl rfl hs.datAll (fun _ h => h) hx.datIn (fun _ h => h) hs.ok hx.ok hu ?_
  by_cases c : r ∈ rs
  · rw [rvIn_iff.mpr c] at h
    rw [decide_eq_true (rv_mem.mpr c)]; exact h
  · rw [rvIn_not.mpr c] at h
    rw [decide_eq_false fun z => c (rv_mem.mp z)]; exact h
open Classical in
theorem rv_notIn (N : News h₀ L s.heap l) (ma : (a, listOf xs.toArray k) ∈ l) (hs : RVs xs rs) (hx : RV x r) (hu : A.units + 64 < cLine) (h : Q (.bool (!rvIn r rs)) s) : wpAny (model prog w) A (compareOp .NotIn x (.ref a)) Q E s := by
  refine kqd_notIn N ma rfl rfl hs.datAll (fun _ h => h) hx.datIn (fun _ h => h) hs.ok hx.ok hu ?_
  by_cases c : r ∈ rs
  · rw [rvIn_iff.mpr c] at h
    rw [decide_eq_true (rv_mem.mpr c)]; exact h
  · rw [rvIn_not.mpr c] at h
    rw [decide_eq_false fun z => c (rv_mem.mp z)]; exact h
open Classical in
theorem rv_eqL (N : News h₀ L s.heap l) (ma : (a, listOf xs.toArray k) ∈ l) (mb : (b, listOf ys.toArray k2) ∈ l) (hx : RVs xs rs) (hy : RVs ys rs) (hu : A.units + 64 < cLine) (h : Q (.bool true) s) : wpAny (model prog w) A (compareOp .Eq (.ref a) (.ref b)) Q E s := by
  refine kqd_eq N ma rfl rfl hx.datAll (fun _ h => h) mb rfl rfl hy.datAll (fun _ h => h) hx.ok hy.ok hu ?_
  rw [decide_eq_true rfl]; exact h
theorem name_in {x : Str} {tx t : Tok} (N : News h₀ L s.heap l) (ma : (a, listOf [Value.none, .str (Str.ofString "'_") t].toArray k) ∈ l) (hx : PyData.strOk x = true) (hu : A.units + 64 < cLine) (h : Q (.bool (x == Str.ofString "'_")) s) :
    wpAny (model prog w) A (compareOp .In (.str x tx) (.ref a)) Q E s := by
  refine rv_in (rs := [.none, .str (Str.ofString "'_")]) (r := .str x) N ma (.cons .none (.cons (.str _ _ (by decide +kernel)) .nil)) (.str _ _ hx) hu ?_
  by_cases c : x = Str.ofString "'_"
  · subst c
    rw [rvIn_iff.mpr (.tail _ (.head _))]
    rwa [beq_self_eq_true] at h
  · rw [rvIn_not.mpr fun z => by
      rcases List.mem_cons.mp z with z | z
      · cases z
      rcases List.mem_cons.mp z with z | z
      · cases z; exact c rfl
      · cases z]
    rwa [beq_eq_false_iff_ne.mpr c] at h
theorem none_in {t : Tok} (N : News h₀ L s.heap l) (ma : (a, listOf [Value.none, .str (Str.ofString "'_") t].toArray k) ∈ l) (hu : A.units + 64 < cLine) (h : Q (.bool true) s) :
    wpAny (model prog w) A (compareOp .In .none (.ref a)) Q E s := by
  refine rv_in (rs := [.none, .str (Str.ofString "'_")]) (r := .none) N ma (.cons .none (.cons (.str _ _ (by decide +kernel)) .nil)) .none hu ?_
  rw [rvIn_iff.mpr (.head _)]
  exact h
end
theorem sl_ge (n : Nat) (h : 3 ≤ n) : PySem.Builtin.Str.strSliceIndices none (some 2) 1 n = [0, 1] := by
  unfold PySem.Builtin.Str.strSliceIndices sliceRange
  have e : max (0 : Int) (min 2 (n : Int)) = 2 := by omega
  simp only [show ((1 : Int) > 0) = True by simp, if_true, show ¬ ((2 : Int) < 0) by decide, if_false, e]
  rfl
theorem sl_lt (n : Nat) (h : n ≤ 2) : (PySem.Builtin.Str.strSliceIndices none (some 2) 1 n).length = n := by
  rcases (show n = 0 ∨ n = 1 ∨ n = 2 by omega) with rfl | rfl | rfl <;> rfl
theorem tri_slice3 (a b c : Nat) (r : List Nat) : Txt.slice ⟨(a :: b :: c :: r).toArray⟩ none (some 2) = ⟨#[a, b]⟩ := by
  unfold Txt.slice
  have hl : (⟨(a :: b :: c :: r).toArray⟩ : Str).length = r.length + 3 := by
    show (a :: b :: c :: r).toArray.size = _
    simp
  rw [hl, sl_ge _ (by omega)]
  rw [if_neg (by simp)]
  simp
theorem tri_slice2 (x : Str) (h : x.length ≤ 2) : Txt.slice x none (some 2) = x := by
  unfold Txt.slice
  rw [sl_lt _ h]
  simp
theorem q1 : Str.ofString "'_" = ⟨#[39, 95]⟩ := by decide +kernel
theorem q2 : Str.ofString "'" = ⟨#[39]⟩ := by decide +kernel
theorem q3 : Str.ofString "_" = ⟨#[95]⟩ := by decide +kernel
theorem tri_item0 (a b c : Nat) (r : List Nat) : Txt.item ⟨(a :: b :: c :: r).toArray⟩ 0 = ⟨#[a]⟩ := by
  unfold Txt.item Txt.charAt seqIndex?
  have h : (0 : Int) < (r.length : Int) + 1 + 1 + 1 := by omega
  simp [Str.length, h]
theorem tri_item1 (a b c : Nat) (r : List Nat) : Txt.item ⟨(a :: b :: c :: r).toArray⟩ 1 = ⟨#[b]⟩ := by
  unfold Txt.item Txt.charAt seqIndex?
  have h : (1 : Int) < (r.length : Int) + 1 + 1 + 1 := by omega
  simp [Str.length, h]
theorem tri (x : Str) (hne : (x == Str.ofString "'_") = false) : (Txt.slice x none (some 2) == Str.ofString "'_") = true ↔ ((2 : Int) < x.length ∧ (Txt.item x 0 == Str.ofString "'") = true ∧ (Txt.item x 1 == Str.ofString "_") = true) := by
  obtain ⟨⟨l⟩⟩ := x
  rcases l with _ | ⟨a, _ | ⟨b, _ | ⟨c, r⟩⟩⟩
  · rw [tri_slice2 _ (Nat.le_of_ble_eq_true rfl), hne]
    constructor
    · intro h; cases h
    · rintro ⟨h, _⟩; exact absurd h (by simp [Str.length])
  · rw [tri_slice2 _ (Nat.le_of_ble_eq_true rfl), hne]
    constructor
    · intro h; cases h
    · rintro ⟨h, _⟩; exact absurd h (by simp [Str.length])
  · rw [tri_slice2 _ (Nat.le_of_ble_eq_true rfl), hne]
    constructor
    · intro h; cases h
    · rintro ⟨h, _⟩; exact absurd h (by simp [Str.length])
  · rw [tri_slice3, tri_item0, tri_item1, q1, q2, q3]
    have hl : (⟨(a :: b :: c :: r).toArray⟩ : Str).length = r.length + 3 := by
      show (a :: b :: c :: r).toArray.size = _
      simp
    rw [hl]
    constructor
    · intro h
      have e := beq_iff_eq.mp h
      have e2 := congrArg (fun s : Str => s.cps.toList) e
      simp only [List.cons.injEq, and_true] at e2
      obtain ⟨rfl, rfl⟩ := e2
      exact ⟨by omega, by decide, by decide⟩
    · rintro ⟨_, h1, h2⟩
      have e1 := congrArg (fun s : Str => s.cps.toList) (beq_iff_eq.mp h1)
      have e2 := congrArg (fun s : Str => s.cps.toList) (beq_iff_eq.mp h2)
      simp only [List.cons.injEq, and_true] at e1 e2
      subst e1 e2
      decide
theorem tri_a {P : Prop} {x : Str} (h0 : (x == Str.ofString "'_") = false) (h : (Txt.slice x none (some 2) == Str.ofString "'_") = false) (h1 : (2 : Int) < x.length) (h2 : (Txt.item x 0 == Str.ofString "'") = true) (h3 : (Txt.item x 1 == Str.ofString "_") = true) : P := by
  have := (tri x h0).mpr ⟨h1, h2, h3⟩
  rw [h] at this; cases this
theorem tri_b {P : Prop} {x : Str} (h0 : (x == Str.ofString "'_") = false) (h : (Txt.slice x none (some 2) == Str.ofString "'_") = true) (h1 : ¬ (2 : Int) < x.length) : P := absurd ((tri x h0).mp h).1 h1
theorem tri_c {P : Prop} {x : Str} (h0 : (x == Str.ofString "'_") = false) (h : (Txt.slice x none (some 2) == Str.ofString "'_") = true) (h2 : (Txt.item x 0 == Str.ofString "'") = false) : P := by
  have := ((tri x h0).mp h).2.1
  rw [h2] at this; cases this
theorem tri_d {P : Prop} {x : Str} (h0 : (x == Str.ofString "'_") = false) (h : (Txt.slice x none (some 2) == Str.ofString "'_") = true) (h2 : (Txt.item x 1 == Str.ofString "_") = false) : P := by
  have := ((tri x h0).mp h).2.2
  rw [h2] at this; cases this
theorem tri_f {P : Prop} {x : Str} (h : (x == Str.ofString "'_") = true) (k : (x == Str.ofString "'_") = false) : P := by rw [h] at k; cases k
section
variable {w : World} {A : Around} {E : Value → Shared → Prop} {s : Shared} {h₀ : Heap} {L : Addr} {m : Str → Option Value} {l : List (Addr × Obj)}
theorem nf_ga : findIn (hd.heap_1 w.params) (.ref 45) "__getattribute__" = some (some (.builtin "BaseException.__getattribute__")) := by k_is
theorem nf_gh : findIn (hd.heap_1 w.params) (.ref 45) "__getattr__" = some none := by k_is
theorem nf_bx : mroIn (hd.heap_1 w.params) 45 (.type "BaseException") = some true := by k_is
theorem nf_hd : hasDictIn (hd.heap_1 w.params) 45 = true := by k_is
theorem nf_get {x : Addr} {ox : Obj} {es : List DictEntry} {n : Nat} {name : Str} {v : Value} {expr : Bool} {Q : Value → Shared → Prop} (X : (hd.heap_1 w.params).In s.heap) (I : InstAt s.heap x ox 45 (some (dictOf es n))) (hf : findIn (hd.heap_1 w.params) (.ref 45) name = some none)
    (hl : lookIn name (dictOf es n) = some (some v)) (hv : handedIn v = true) (h : Q v { s with toks := s.toks + 1 }) : wpAny (model PySem.Challenge.rw_xm0577_01.row.prog w) A (getAttr (.ref x) name expr) Q E s := by
  have hfo : findObj (hd.heap_1 w.params) 45 (some (dictOf es n)) name = some (.value v) := findObj_own nf_hd hf rfl hl
  obtain ⟨hh, g, d, t, os⟩ := s
  have L0 := I.type (M := model PySem.Challenge.rw_xm0577_01.row.prog w)
  have L1 := looks_findIn (M := model PySem.Challenge.rw_xm0577_01.row.prog w) X nf_ga
  have L2 := looks_hook (M := model PySem.Challenge.rw_xm0577_01.row.prog w) (mc := .ref 45) X (r := none) (by rw [if_pos (show onTheHeap (Value.ref 45) = true from rfl)]; exact nf_gh)
  have L3 := looks_find (M := model PySem.Challenge.rw_xm0577_01.row.prog w) X I hfo
  have L4 : Looks (model PySem.Challenge.rw_xm0577_01.row.prog w) hh (isInstance (.ref x) (.type "BaseException")) true := L0.andThen (looks_mroIn X nf_bx)
  have FB := PySem.F.attr_Exception
  unfold getAttr getAttrBy
  refine wpAny_bind (wpAny_mkText (wpAny_holding (wpAny_bind (L0.at (wpAny_bind (L1.at ?_))))))
  have hx2 : (Value.builtin "BaseException.__getattribute__" == Value.builtin "object.__getattribute__") = false := by decide +kernel
  dsimp only
  rw [hx2, Bool.and_false, if_neg Bool.false_ne_true]
  unfold getAttrByItsOwn callGetattribute boundAndCalled
  have hx0 : (expr && onTheHeap (Value.builtin "BaseException.__getattribute__")) = false := by cases expr <;> rfl
  refine wpAny_bind (L2.at ?_)
  rw [hx0, if_neg Bool.false_ne_true, FB.ga.bind]
  repeat (any_goals (first | assumption | wp_step))
  refine codeAny_call_builtin FB.ga.plain F.entry_bexc_ga (@check_slot (model PySem.Challenge.rw_xm0577_01.row.prog w) _ _ _ "BaseException.__getattribute__" "BaseException" "__getattribute__" (.ref x) [.str name t] [] _ (by decide +kernel) (by decide +kernel) L4 (F.args_bexc_ga _ _) ?_)
  refine wpAny_bind (wpAny_pure (wpAny_bind (wpAny_pure (wpAny_bind (L0.at (wpAny_bind (L3.at ?_)))))))
  dsimp only
  refine wpAny_pure ?_
  repeat (any_goals (first | assumption | wp_step))
  show wpAny _ _ (handedOut v) _ _ _
  rw [handedOut_of hv]
  exact wpAny_pure h
theorem nf_getM {e dx : Addr} {vs : Array Value} {sl : Array (Option Value)} {x : Str} {k1 tx k2 ts : Tok} {sp : Int} {expr : Bool} {Q : Value → Shared → Prop} (F : Fr h₀ L s.heap m) (X : (hd.heap_1 w.params).In h₀) (N : News h₀ L s.heap l)
    (hm : (e, (⟨.ref 45, some dx, .fields vs, sl⟩ : Obj)) ∈ l) (hd : (dx, nfDict w x k1 tx sp k2 ts) ∈ l) (h : Q (.str x tx) { s with toks := s.toks + 1 }) :
    wpAny (model PySem.Challenge.rw_xm0577_01.row.prog w) A (getAttr (.ref e) (Str.ofString "message") expr) Q E s :=
  nf_get (X.keeps F.keep) ⟨(N _ hm).1, rfl, rfl, (N _ hd).1⟩ nf_e2 rfl rfl h
theorem nf_getS {e dx : Addr} {vs : Array Value} {sl : Array (Option Value)} {x : Str} {k1 tx k2 ts : Tok} {sp : Int} {expr : Bool} {Q : Value → Shared → Prop} (F : Fr h₀ L s.heap m) (X : (hd.heap_1 w.params).In h₀) (N : News h₀ L s.heap l)
    (hm : (e, (⟨.ref 45, some dx, .fields vs, sl⟩ : Obj)) ∈ l) (hd : (dx, nfDict w x k1 tx sp k2 ts) ∈ l) (h : Q (.int sp ts) { s with toks := s.toks + 1 }) :
    wpAny (model PySem.Challenge.rw_xm0577_01.row.prog w) A (getAttr (.ref e) (Str.ofString "spot") expr) Q E s :=
  nf_get (X.keeps F.keep) ⟨(N _ hm).1, rfl, rfl, (N _ hd).1⟩ nf_e3 rfl rfl h
end
section
variable {prog : Program} {w : World} {A : Around} {E : Value → Shared → Prop} {s : Shared} {h₀ : Heap} {L a b : Addr} {l : List (Addr × Obj)} {xs ys : List Value} {k k2 : Nat} {rs : List Rv} {Q : Value → Shared → Prop}
theorem rv_eqT (N : News h₀ L s.heap l) (ma : (a, tupO xs k) ∈ l) (mb : (b, tupO ys k2) ∈ l) (hx : RVs xs rs) (hy : RVs ys rs) (hu : A.units + 64 < cLine) (h : Q (.bool true) s) : wpAny (model prog w) A (compareOp .Eq (.ref a) (.ref b)) Q E s := by
  have rx := hx.reads (h := s.heap)
  have ry := hy.reads (h := s.heap)
  have lay : (PyData.tuple (pds rs)).canLay0 = true := by simpa [PyData.canLay0] using rx.2.1
  have sh : SeqAt.shaped (.tuple (pds rs)) = true := by
    unfold SeqAt.shaped
    rw [lay, Bool.true_and]
    refine decide_eq_true ?_
    simp only [PyData.depth, rx.2.2]
    omega
  refine eq_dataH (reads_tuple_at (N _ ma).1 rfl rfl (by simpa using rx.1)) (reads_tuple_at (N _ mb).1 rfl rfl (by simpa using ry.1)) sh sh hu ?_
  rw [SeqAt.eqv_refl _ lay]
  exact h
theorem strOk_app {a b : Str} (ha : PyData.strOk a = true) (hb : PyData.strOk b = true) : PyData.strOk (a ++ b) = true := by
  obtain ⟨a⟩ := a
  obtain ⟨b⟩ := b
  show (a ++ b).all _ = true
  have ha' : a.all (· < 0x110000) = true := ha
  have hb' : b.all (· < 0x110000) = true := hb
  rw [Array.all_append, ha', hb']; rfl
theorem noName_ok {x : Str} (h : PyData.strOk x = true) : PyData.strOk (noName x) = true := strOk_app (by decide +kernel) h
end
end
section
theorem words_34 : True := by
  w_top off
  k_with_none
  k_with "kst_mem" => first
    | (first
      | with_reducible assumption
      | with_reducible exact List.mem_cons_self
      | (with_reducible refine List.mem_cons_of_mem _ ?_; kst_mem)
      | (with_reducible refine List.mem_append.mpr (Or.inl ?_); kst_mem)
      | (with_reducible refine List.mem_append.mpr (Or.inr ?_); kst_mem)
      | fail "kst_mem")
    | fail
  k_with "k_mem" => first
    | (kst_mem)
    | fail
  k_with "k_all" => first
    | (first
      | with_reducible assumption
      | exact List.forall_mem_nil _
      | (with_reducible refine' Mine.less_sub ?h_2 ?m_2; (case h_2 => with_reducible assumption); (case m_2 => (intro p9 h9; kst_mem)))
      | (with_reducible refine' Mine.less_sub1 ?h_2 ?m_2; (case h_2 => with_reducible assumption); (case m_2 => (intro p9 h9; kst_mem)))
      | (with_reducible refine' Mine.less_sub2 ?h_2 ?m_2; (case h_2 => with_reducible assumption); (case m_2 => (intro p9 h9; kst_mem)))
      | (with_reducible refine' Mine.less_sub3 ?h_2 ?m_2; (case h_2 => with_reducible assumption); (case m_2 => (intro p9 h9; kst_mem)))
      | (with_reducible refine' Mine.less_sub4 ?h_2 ?m_2; (case h_2 => with_reducible assumption); (case m_2 => (intro p9 h9; kst_mem)))
      | (with_reducible refine' Mine.less_sub5 ?h_2 ?m_2; (case h_2 => with_reducible assumption); (case m_2 => (intro p9 h9; kst_mem)))
      | (refine' List.forall_mem_cons.mpr ⟨?a_2, ?b_2⟩; (case a_2 => k_ne); (case b_2 => k_all))
      | exact Mine.allLt_ne (by with_reducible assumption)
      | exact Mine.fresh_ne (by with_reducible assumption) (by k_mem)
      | (refine' List.forall_mem_append.mpr ⟨?_, ?_⟩ <;> k_all))
    | fail
  k_with "kqd_sub" => first
    | (first
      | exact fun _ h => h
      | exact List.forall_mem_nil _
      | (refine' List.forall_mem_cons.mpr ⟨?kqa_3, ?kqb_3⟩; (case kqa_3 => k_mem); (case kqb_3 => kqd_sub))
      | (refine' List.forall_mem_append.mpr ⟨?_, ?_⟩ <;> kqd_sub)
      | (intro p9 h9; k_mem))
    | fail
  k_with "ktr_enter" => first
    | (refine' code_defC ?k1_4 ?k2_4 ?k3_4 ?k4_4 ?k5_4 ?kA_4 ?kF_4 ?kK_4 ?k6_4 ?k7_4 ?k8_4 ?k9_4 ?kB_4 ?kD_4 ?_ ?c2_4 ?c3_4 ?c4_4; (case kA_4 => exact rfl); (case kF_4 => exact rfl); (case kK_4 => assumption); (case k1_4 => k_asm); (case k2_4 => k_asm); (case k3_4 => k_asm); (case k4_4 => k_asm); (case k5_4 => k_asm); (case k6_4 => k_is); (case k7_4 => k_is); (case k8_4 => ktr_room); (case k9_4 => exact BindsTo.of_eq rfl); (case kB_4 => exact rfl); (case kD_4 => decide +kernel); (case c2_4 => exact rfl); (case c3_4 => exact rfl); (case c4_4 => exact rfl); k_whole; intro g' L' h' tk' cells' FG' F' N' Y' B' X' T' l1; (try k_lt l1); k_cells Y'; (try simp only [List.cons_append, List.nil_append] at N'); (try dsimp only); (try k_fold))
    | fail
  k_with "tb_start" => first
    | (first
      | with_reducible exact Mine.Apart.ne (by with_reducible assumption)
      | with_reducible exact Mine.Apart.en (by with_reducible assumption)
      | with_reducible exact Mine.succ_ne1
      | with_reducible exact Mine.succ_ne2
      | (with_reducible refine' Mine.less_ne ?h_5 ?m_5; (case h_5 => with_reducible assumption); (case m_5 => kst_mem))
      | (with_reducible refine' Mine.less_en ?h_5 ?m_5; (case h_5 => with_reducible assumption); (case m_5 => kst_mem))
      | (with_reducible refine' Mine.less_ne1 ?h_5 ?m_5; (case h_5 => with_reducible assumption); (case m_5 => kst_mem))
      | (with_reducible refine' Mine.less_en1 ?h_5 ?m_5; (case h_5 => with_reducible assumption); (case m_5 => kst_mem))
      | (with_reducible refine' Mine.less_ne2 ?h_5 ?m_5; (case h_5 => with_reducible assumption); (case m_5 => kst_mem))
      | (with_reducible refine' Mine.less_en2 ?h_5 ?m_5; (case h_5 => with_reducible assumption); (case m_5 => kst_mem))
      | (with_reducible refine' Mine.less_ne3 ?h_5 ?m_5; (case h_5 => with_reducible assumption); (case m_5 => kst_mem))
      | (with_reducible refine' Mine.less_en3 ?h_5 ?m_5; (case h_5 => with_reducible assumption); (case m_5 => kst_mem))
      | (with_reducible refine' Mine.less_ne4 ?h_5 ?m_5; (case h_5 => with_reducible assumption); (case m_5 => kst_mem))
      | (with_reducible refine' Mine.less_en4 ?h_5 ?m_5; (case h_5 => with_reducible assumption); (case m_5 => kst_mem))
      | (with_reducible refine' Mine.less_ne5 ?h_5 ?m_5; (case h_5 => with_reducible assumption); (case m_5 => kst_mem))
      | (with_reducible refine' Mine.less_en5 ?h_5 ?m_5; (case h_5 => with_reducible assumption); (case m_5 => kst_mem))
      | (with_reducible refine' Mine.lt_ne2 ?k_5 ?h_5 ?m_5; (case k_5 => with_reducible assumption); (case h_5 => with_reducible assumption); (case m_5 => kst_mem))
      | (with_reducible refine' Mine.lt_en2 ?k_5 ?h_5 ?m_5; (case k_5 => with_reducible assumption); (case h_5 => with_reducible assumption); (case m_5 => kst_mem)))
    | fail
  k_with "k_ne" => first
    | (first | tb_start | ((try dsimp only); (refine neN ?_); first | tb_start | omega))
    | fail
  trivial
inductive Rows (N : List (Addr × Obj)) : List Value → List Value → List Value → Prop where
  | nil : Rows N [] [] []
  | cons {p : Addr} {u v : Value} {np : Nat} {ys us ws : List Value} : (p, tupO [u, v] np) ∈ N → Rows N ys us ws → Rows N (.ref p :: ys) (u :: us) (v :: ws)
theorem Rows.mono {N N' : List (Addr × Obj)} {ys us ws : List Value} (h : Rows N ys us ws) (s : ∀ p ∈ N, p ∈ N') : Rows N' ys us ws := by
  induction h with
  | nil => exact .nil
  | cons a _ ih => exact .cons (s _ a) ih
theorem Rows.snoc {N : List (Addr × Obj)} {p : Addr} {u v : Value} {np : Nat} {ys us ws : List Value} (h : Rows N ys us ws) (a : (p, tupO [u, v] np) ∈ N) : Rows N (ys ++ [.ref p]) (us ++ [u]) (ws ++ [v]) := by
  induction h with
  | nil => exact .cons a .nil
  | cons b _ ih => exact .cons b ih
theorem Rows.len {N : List (Addr × Obj)} {ys us ws : List Value} (h : Rows N ys us ws) : us.length = ys.length ∧ ws.length = ys.length := by
  induction h with
  | nil => exact ⟨rfl, rfl⟩
  | cons _ _ ih => simp [ih.1, ih.2]
theorem Rows.get {N : List (Addr × Obj)} {ys us ws : List Value} (h : Rows N ys us ws) : ∀ {i : Nat} {y : Value}, ys[i]? = some y → ∃ p u v np, y = .ref p ∧ (p, tupO [u, v] np) ∈ N ∧ us[i]? = some u ∧ ws[i]? = some v := by
  induction h with
  | nil => intro i y e; simp at e
  | cons a _ ih =>
    intro i y e
    cases i with
    | zero => simp at e; exact ⟨_, _, _, _, e.symm, a, by simp, by simp⟩
    | succ i => simp at e; obtain ⟨p, u, v, np, h1, h2, h3, h4⟩ := ih e; exact ⟨p, u, v, np, h1, h2, by simpa using h3, by simpa using h4⟩
def RowLen (d i n : Nat) : Prop := n + 2 * i ≤ i * (2 * 2 ^ d)
theorem RowLen.next {d i n k : Nat} (h : RowLen d i n) (e : k + 2 ≤ 2 * 2 ^ d) : RowLen d (i + 1) (n + k) := by
  unfold RowLen at *
  rw [Nat.add_mul, Nat.one_mul]
  omega
theorem RowLen.le {d i n : Nat} (h : RowLen d i n) (hi : i ≤ 2) : n + 4 ≤ 4 * 2 ^ d := by
  unfold RowLen at h
  have hp : 1 ≤ 2 ^ d := Nat.one_le_two_pow
  have : i = 0 ∨ i = 1 ∨ i = 2 := by omega
  rcases this with rfl | rfl | rfl <;> omega
theorem RowLen.le1 {d i n : Nat} (h : RowLen d i n) (hi : i < 2) : n + 2 ≤ 2 * 2 ^ d := by
  unfold RowLen at h
  have hp : 1 ≤ 2 ^ d := Nat.one_le_two_pow
  have : i = 0 ∨ i = 1 := by omega
  rcases this with rfl | rfl <;> omega
def RowPost (vs : List Value) (d n : Nat) (g2 : Obj → Obj → List (Addr × Obj)) (i : Nat) (ys : List Value) (l : List (Addr × Obj)) : Prop :=
  ∃ a b ta tb xs ka tl us ws ts, l = g2 (srcObj a b ta tb n) (listOf (List.toArray (vs ++ xs)) ka) ++ tl ∧ 0 ≤ a ∧ 0 ≤ b ∧ b < 2147483647 ∧ ys.length = i ∧ Rows tl ys us ws ∧ Kids tl us ts ∧ Kids tl ws (numL vs.length ts) ∧ RVs xs (regsL ts) ∧ (∀ t ∈ ts, t.ht ≤ d) ∧ RowLen d i xs.length ∧ ∀ o o2, ∀ q ∈ g2 o o2, ∀ p ∈ tl, @LT.lt Nat _ q.1 p.1
section
variable {prog : Program} {w : World} {A : Around} {h₀ : Heap} {L : Addr} {m : Str → Option Value} {env : Env} {s : Shared}
theorem row_end {I C D p : Addr} {s₁ : Shared} {oI oC oD : Obj} {u v : Value} {h' : Heap} {tk n i ka d np : Nat} {vs ys us ws xs xs9 : List Value} {ts : List Tr} {t : Tr} {g2 : Obj → Obj → List (Addr × Obj)} {all l₀ tl tl9 : List (Addr × Obj)} {o1 o2 o3 : Obj} {a b : Int} {ta tb : Tok}
    (F : Fr h₀ L h' m) (N : News h₀ L h' all) (hRw : Rows tl ys us ws) (hK : Kids tl us ts) (hK2 : Kids tl ws (numL vs.length ts)) (hR : RVs xs (regsL ts)) (hT : ∀ t ∈ ts, t.ht ≤ d) (hL : RowLen d ys.length xs.length) (hp : (p, tupO [u, v] np) ∈ tl9) (ht : TrIn tl9 u t) (hd : ∀ k, k = (vs ++ xs).length → TrIn tl9 v (t.num k)) (hx : RVs xs9 t.regs) (hh : t.ht ≤ d) (hl : t.regs.length + 2 ≤ 2 * 2 ^ d)
    (f9 : ∀ q ∈ l₀, ∀ p ∈ tl9, q.1 < p.1) (mI : (I, o1) ∈ l₀) (mC : (C, o2) ∈ l₀) (mD : (D, o3) ∈ l₀) (hl0 : ∀ o o2, ∀ q ∈ g2 o o2, ∃ o', (q.1, o') ∈ l₀) (hq : ∀ o o2, ∀ q ∈ g2 o o2, ∀ p ∈ tl, @LT.lt Nat _ q.1 p.1)
    (offA : ∀ o o2, LCg.Off3 I C D (g2 o o2)) (offt : LCg.Off3 I C D tl) (m1 : (I, oI) ∈ all) (m2 : (C, oC) ∈ all) (m3 : (D, oD) ∈ all) (hs : ∀ p ∈ g2 (srcObj a b ta tb n) (listOf (vs ++ (xs ++ xs9)).toArray ka), p ∈ all) (hs1 : ∀ p ∈ tl, p ∈ all) (hs2 : ∀ p ∈ tl9, p ∈ all)
    (ha : 0 ≤ a) (hb : 0 ≤ b) (hb2 : b < 2147483647) (hi : ys.length + 1 = i) :
    LCg.CompEnd h₀ L m s₁ I oI C oC D oD (fun _ => True) (fun y news' => RowPost vs d n g2 i (ys ++ [y]) news') (.ref p) { s₁ with heap := h', toks := tk } := by
  have f9' : ∀ o o2, ∀ q ∈ g2 o o2, ∀ p ∈ tl9, @LT.lt Nat _ q.1 p.1 := fun o o2 q hqm p hp => by
    obtain ⟨o', ho'⟩ := hl0 o o2 q hqm
    exact f9 _ ho' p hp
  have inl : ∀ p ∈ tl, p ∈ tl ++ tl9 := fun p hp => List.mem_append.mpr (.inl hp)
  have inr : ∀ p ∈ tl9, p ∈ tl ++ tl9 := fun p hp => List.mem_append.mpr (.inr hp)
  refine LCg.CompEnd.intro F N (g2 (srcObj a b ta tb n) (listOf (vs ++ (xs ++ xs9)).toArray ka) ++ (tl ++ tl9)) (fun p hp => ?_) (LCg.Off3.of fun p hp => ?_) trivial ?_
  · rcases List.mem_cons.mp hp with rfl | hp
    · exact m1
    rcases List.mem_cons.mp hp with rfl | hp
    · exact m2
    rcases List.mem_cons.mp hp with rfl | hp
    · exact m3
    rcases List.mem_append.mp hp with hp | hp
    · exact hs p hp
    rcases List.mem_append.mp hp with hp | hp
    · exact hs1 p hp
    · exact hs2 p hp
  · rcases List.mem_append.mp hp with hp | hp
    · exact (offA _ _).mem p hp
    rcases List.mem_append.mp hp with hp | hp
    · exact offt.mem p hp
    · exact ⟨Nat.ne_of_gt (f9 _ mI p hp), Nat.ne_of_gt (f9 _ mC p hp), Nat.ne_of_gt (f9 _ mD p hp)⟩
  · refine ⟨a, b, ta, tb, xs ++ xs9, ka, tl ++ tl9, us ++ [u], ws ++ [v], ts ++ [t], rfl, ha, hb, hb2, by simp [← hi], (hRw.mono inl).snoc (inr _ hp), (hK.mono inl).snoc (ht.mono inr), ?_, ?_, ?_, ?_, ?_⟩
    · rw [numL_snoc]; exact (hK2.mono inl).snoc ((hd _ (by rw [List.length_append, hR.length])).mono inr)
    · rw [regsL_snoc]; exact hR.append hx
    · intro t' h'
      rcases List.mem_append.mp h' with h' | h'
      · exact hT _ h'
      · rw [List.mem_singleton.mp h']; exact hh
    · rw [← hi, List.length_append, hx.length]; exact hL.next hl
    · intro o o2 q hqm p hp
      rcases List.mem_append.mp hp with hp | hp
      · exact hq o o2 q hqm p hp
      · exact f9' o o2 q hqm p hp
theorem comp_rows {elt : PySem.Expr} {x : Str} {scope : Scope} {cl : List (Str × Addr)} {Fin : Shared → List Value → List (Addr × Obj) → Prop} {r src ask : Addr} {k a b : Int} {t u v ta tb : Tok} {n nk d : Nat} {vs : List Value} {as : List Rv} {l : List (Addr × Obj)} {g1 : Obj → List (Addr × Obj)} {g2 : Obj → Obj → List (Addr × Obj)}
    (hh : A.handled = none) (_sa : Apart src ask) (F : Fr h₀ L s.heap m) (N : News h₀ L s.heap l) (hvs : RVs vs as) (hr : IsRange s.heap r 0 k 1 t u v) (U : UpdF src (srcObj a b ta tb n) l g1) (U2 : ∀ o, UpdF ask (listOf vs.toArray nk) (g1 o) (g2 o)) (hk0 : 0 ≤ k) (hk1 : k < 3) (hlen : vs.length + 4 * 2 ^ d ≤ 1002) (ha : 0 ≤ a) (hb : 0 ≤ b) (hb2 : b < 2147483647)
    (turn : ∀ ys us ws ts a b ta tb xs ka tl v I oI C oC D m₂ h tk (E' : Value → Shared → Prop), 0 ≤ a → 0 ≤ b → b < 2147483647 → Rows tl ys us ws → Kids tl us ts → Kids tl ws (numL vs.length ts) → RVs xs (regsL ts) → RVs (vs ++ xs) (as ++ regsL ts) → vs.length + xs.length + 2 * 2 ^ d ≤ 1000 → (∀ t ∈ ts, t.ht ≤ d) → RowLen d ys.length xs.length → LCg.NsObj oC m₂ → m₂ x = some v → Fr h₀ L h m → News h₀ L h ((I, oI) :: (C, oC) :: (D, LCg.lst ys) :: (g2 (srcObj a b ta tb n) (listOf (List.toArray (vs ++ xs)) ka) ++ tl)) → LCg.Off3 I C D (g2 (srcObj a b ta tb n) (listOf (List.toArray (vs ++ xs)) ka)) → LCg.Off3 I C D tl → (∀ o o2, LCg.Off3 I C D (g2 o o2)) → Apart I C → Apart I D → Apart C D →
      (∀ o o2, ∀ q ∈ g2 o o2, ∀ p ∈ tl, @LT.lt Nat _ q.1 p.1) → (∀ q ∈ g2 (srcObj a b ta tb n) (listOf (List.toArray (vs ++ xs)) ka), ∀ p ∈ tl, @LT.lt Nat _ q.1 p.1) → (∀ o o2, ∀ q ∈ g2 o o2, ∃ o', (q.1, o') ∈ (I, oI) :: (C, oC) :: (D, LCg.lst ys) :: (g2 (srcObj a b ta tb n) (listOf (List.toArray (vs ++ xs)) ka) ++ tl)) →
      wpAny (model prog w) A (eval elt (compEnvC scope cl C env)) (LCg.CompEnd h₀ L m { s with heap := h, toks := tk } I oI C oC D (LCg.lst ys) (fun _ => True) (fun y news' => RowPost vs d n g2 (ys.length + 1) (ys ++ [y]) news')) E' { s with heap := h, toks := tk })
    (done : ∀ g' ys us ws ts a b ta tb xs ka tl, 0 ≤ a → 0 ≤ b → b < 2147483647 → Rows tl ys us ws → ys.length ≤ 2 → us.length = ys.length → ws.length = ys.length → ts.length ≤ 2 → Kids tl us ts → Kids tl ws (numL vs.length ts) → RVs xs (regsL ts) → (∀ t ∈ ts, t.ht ≤ d) → xs.length + 4 ≤ 4 * 2 ^ d → (∀ q ∈ g2 (srcObj a b ta tb n) (listOf (List.toArray (vs ++ xs)) ka), ∀ p ∈ tl, @LT.lt Nat _ q.1 p.1) → ∀ l', l' = g2 (srcObj a b ta tb n) (listOf (List.toArray (vs ++ xs)) ka) ++ tl → Fin { s with heap := g' } ys l') :
    LCg.CompSrc prog w A h₀ L m env elt x scope cl Fin (.ref r) s := by
  have hsmall : Builtin.Range.small 0 k 1 = true := small_one (by decide) (by decide) (by omega) (by omega)
  have hn : Builtin.Range.rangeSize 0 k 1 = (k.toNat : Int) := by rw [rangeSize_nat]; simp
  have same : ∀ o o2 o' o2', ∀ q ∈ g2 o o2, ∃ z, (q.1, z) ∈ g2 o' o2' := fun o o2 o' o2' q hq => by
    obtain ⟨z1, hz1⟩ := UpdF.addr (U2 o) hq
    obtain ⟨z2, hz2⟩ := UpdF.swap U (o2 := o') (p := (q.1, z1)) hz1
    have : ∃ z, (q.1, z) ∈ g2 o' (listOf vs.toArray nk) := ⟨z2, by rw [UpdF.same (U2 o')]; exact hz2⟩
    obtain ⟨z3, hz3⟩ := this
    exact UpdF.swap (U2 o') (o2 := o2') (p := (q.1, z3)) hz3
  refine LCg.CompSrc.range hh F N hr hsmall hn (by rw [sizeLine_eq]; omega) fun g' => ?_
  refine comp_inv (s := { s with heap := g' }) (n := k.toNat) (fun i ys news => RowPost vs d n g2 i ys news) ?_ ?_ k.toNat 0 [] l (by omega) ⟨a, b, ta, tb, [], nk, [], [], [], [], ?_, ha, hb, hb2, rfl, .nil, .nil, .nil, .nil, (fun _ h => nomatch h), (by unfold RowLen; simp), (fun _ _ _ _ _ h => nomatch h)⟩
  · rintro i ys news v I oI C oC D m₂ h tk E' hi ⟨a, b, ta, tb, xs, ka, tl, us, ws, ts, rfl, x1, x2, x3, rfl, hRw, hK, hK2, hR, hT, hL, hq⟩ _ hC hx F' N' off ne
    have offg := (off_app off).1
    have offA : ∀ o o2, LCg.Off3 I C D (g2 o o2) := fun o o2 => LCg.Off3.of fun p hp => by
      obtain ⟨z, hz⟩ := same o o2 (srcObj a b ta tb n) (listOf (List.toArray (vs ++ xs)) ka) p hp
      exact offg.mem (p.1, z) hz
    have l1 := hL.le1 (by omega)
    refine turn ys us ws ts a b ta tb xs ka tl v I oI C oC D m₂ h tk E' x1 x2 x3 hRw hK hK2 hR (hvs.append hR) (by omega) hT hL hC hx F' N' offg (off_app off).2 offA ne.1 ne.2.1 ne.2.2 hq (hq _ _) fun o o2 q hqm => ?_
    obtain ⟨z, hz⟩ := same o o2 (srcObj a b ta tb n) (listOf (List.toArray (vs ++ xs)) ka) q hqm
    exact ⟨z, .tail _ (.tail _ (.tail _ (List.mem_append.mpr (.inl hz))))⟩
  · rintro ys news ⟨a, b, ta, tb, xs, ka, tl, us, ws, ts, rfl, x1, x2, x3, hl, hRw, hK, hK2, hR, hT, hL, hq⟩
    exact done g' ys us ws ts a b ta tb xs ka tl x1 x2 x3 hRw (by omega) hRw.len.1 hRw.len.2 (by have := hRw.len.1; have := hK.length; omega) hK hK2 hR hT (hL.le (by omega)) (hq _ _) _ rfl
  · rw [List.append_nil, List.append_nil, UpdF.same (U2 _), UpdF.same U]
/-- [row[0] for row in rows], [row[1] for row in rows] -/
theorem pick_end {I C D : Addr} {s₁ : Shared} {oI oC oD : Obj} {y : Value} {h' : Heap} {tk i : Nat} {zs pk : List Value} {S : List (Addr × Obj) → Prop} {all l : List (Addr × Obj)}
    (F : Fr h₀ L h' m) (N : News h₀ L h' all) (hS : S l) (hz : zs = pk.take i) (hy : pk[i]? = some y) (off : LCg.Off3 I C D l) (m1 : (I, oI) ∈ all) (m2 : (C, oC) ∈ all) (m3 : (D, oD) ∈ all) (hs : ∀ p ∈ l, p ∈ all) :
    LCg.CompEnd h₀ L m s₁ I oI C oC D oD S (fun y news' => news' = l ∧ zs ++ [y] = pk.take (i + 1)) y { s₁ with heap := h', toks := tk } := by
  refine LCg.CompEnd.intro F N l (fun p hp => ?_) off hS ⟨rfl, by rw [take_snoc hy, hz]⟩
  rcases List.mem_cons.mp hp with rfl | hp
  · exact m1
  rcases List.mem_cons.mp hp with rfl | hp
  · exact m2
  rcases List.mem_cons.mp hp with rfl | hp
  · exact m3
  · exact hs p hp
theorem comp_pick {elt : PySem.Expr} {x : Str} {scope : Scope} {cl : List (Str × Addr)} {Fin : Shared → List Value → List (Addr × Obj) → Prop} {R : Addr} {ys us ws pk : List Value} {kR : Nat} {tl l : List (Addr × Obj)}
    (hh : A.handled = none) (F : Fr h₀ L s.heap m) (N : News h₀ L s.heap l) (hRw : Rows tl ys us ws) (hm : (R, listOf ys.toArray kR) ∈ l) (hsub : ∀ p ∈ tl, p ∈ l) (hsz : ys.length ≤ 2) (hpk : pk.length = ys.length)
    (turn : ∀ i p u v np zs I oI C oC D m₂ h tk (E' : Value → Shared → Prop), zs = pk.take i → us[i]? = some u → ws[i]? = some v → (p, tupO [u, v] np) ∈ l → LCg.NsObj oC m₂ → m₂ x = some (.ref p) → Fr h₀ L h m → News h₀ L h ((I, oI) :: (C, oC) :: (D, LCg.lst zs) :: l) → LCg.Off3 I C D l → Apart I C → Apart I D → Apart C D → LCg.SrcAt h₀ R ys.toArray l →
      wpAny (model prog w) A (eval elt (compEnvC scope cl C env)) (LCg.CompEnd h₀ L m { s with heap := h, toks := tk } I oI C oC D (LCg.lst zs) (LCg.SrcAt h₀ R ys.toArray) (fun y news' => news' = l ∧ zs ++ [y] = pk.take (i + 1))) E' { s with heap := h, toks := tk })
    (done : ∀ g', Fin { s with heap := g' } pk l) :
    LCg.CompSrc prog w A h₀ L m env elt x scope cl Fin (.ref R) s := by
  refine LCg.CompSrc.ledger hh F N hm (by rw [List.size_toArray, sizeLine_eq]; omega) fun g' => ?_
  rw [List.size_toArray]
  refine comp_inv (s := { s with heap := g' }) (n := ys.length) (fun i zs news => news = l ∧ zs = pk.take i) ?_ ?_ ys.length 0 [] l (by omega) ⟨rfl, rfl⟩
  · rintro i zs news v I oI C oC D m₂ h tk E' hi ⟨rfl, hz⟩ hv hC hx F' N' off ne
    have hv' : ys[i]? = some v := by simpa using hv
    obtain ⟨p, u, v', np, rfl, hp, h1, h2⟩ := hRw.get hv'
    exact turn i p u v' np zs I oI C oC D m₂ h tk E' hz h1 h2 (hsub _ hp) hC hx F' N' off ne.1 ne.2.1 ne.2.2 (.inr ⟨_, hm, rfl, _, rfl⟩)
  · rintro zs news ⟨rfl, hz⟩
    rw [hz, ← hpk, List.take_length]
    exact done g'
end
end
section
theorem words_35 : True := by
  w_top off
  k_with_none
  k_with "kst_mem" => first
    | (first
      | with_reducible assumption
      | with_reducible exact List.mem_cons_self
      | (with_reducible refine List.mem_cons_of_mem _ ?_; kst_mem)
      | (with_reducible refine List.mem_append.mpr (Or.inl ?_); kst_mem)
      | (with_reducible refine List.mem_append.mpr (Or.inr ?_); kst_mem)
      | fail "kst_mem")
    | fail
  k_with "k_mem" => first
    | (kst_mem)
    | fail
  k_with "k_all" => first
    | (first
      | with_reducible assumption
      | exact List.forall_mem_nil _
      | (with_reducible refine' Mine.less_sub ?h_2 ?m_2; (case h_2 => with_reducible assumption); (case m_2 => (intro p9 h9; kst_mem)))
      | (with_reducible refine' Mine.less_sub1 ?h_2 ?m_2; (case h_2 => with_reducible assumption); (case m_2 => (intro p9 h9; kst_mem)))
      | (with_reducible refine' Mine.less_sub2 ?h_2 ?m_2; (case h_2 => with_reducible assumption); (case m_2 => (intro p9 h9; kst_mem)))
      | (with_reducible refine' Mine.less_sub3 ?h_2 ?m_2; (case h_2 => with_reducible assumption); (case m_2 => (intro p9 h9; kst_mem)))
      | (with_reducible refine' Mine.less_sub4 ?h_2 ?m_2; (case h_2 => with_reducible assumption); (case m_2 => (intro p9 h9; kst_mem)))
      | (with_reducible refine' Mine.less_sub5 ?h_2 ?m_2; (case h_2 => with_reducible assumption); (case m_2 => (intro p9 h9; kst_mem)))
      | (refine' List.forall_mem_cons.mpr ⟨?a_2, ?b_2⟩; (case a_2 => k_ne); (case b_2 => k_all))
      | exact Mine.allLt_ne (by with_reducible assumption)
      | exact Mine.fresh_ne (by with_reducible assumption) (by k_mem)
      | (refine' List.forall_mem_append.mpr ⟨?_, ?_⟩ <;> k_all))
    | fail
  k_with "kqd_sub" => first
    | (first
      | exact fun _ h => h
      | exact List.forall_mem_nil _
      | (refine' List.forall_mem_cons.mpr ⟨?kqa_3, ?kqb_3⟩; (case kqa_3 => k_mem); (case kqb_3 => kqd_sub))
      | (refine' List.forall_mem_append.mpr ⟨?_, ?_⟩ <;> kqd_sub)
      | (intro p9 h9; k_mem))
    | fail
  k_with "ktr_enter" => first
    | (refine' code_defC ?k1_4 ?k2_4 ?k3_4 ?k4_4 ?k5_4 ?kA_4 ?kF_4 ?kK_4 ?k6_4 ?k7_4 ?k8_4 ?k9_4 ?kB_4 ?kD_4 ?_ ?c2_4 ?c3_4 ?c4_4; (case kA_4 => exact rfl); (case kF_4 => exact rfl); (case kK_4 => assumption); (case k1_4 => k_asm); (case k2_4 => k_asm); (case k3_4 => k_asm); (case k4_4 => k_asm); (case k5_4 => k_asm); (case k6_4 => k_is); (case k7_4 => k_is); (case k8_4 => ktr_room); (case k9_4 => exact BindsTo.of_eq rfl); (case kB_4 => exact rfl); (case kD_4 => decide +kernel); (case c2_4 => exact rfl); (case c3_4 => exact rfl); (case c4_4 => exact rfl); k_whole; intro g' L' h' tk' cells' FG' F' N' Y' B' X' T' l1; (try k_lt l1); k_cells Y'; (try simp only [List.cons_append, List.nil_append] at N'); (try dsimp only); (try k_fold))
    | fail
  k_with "tb_start" => first
    | (first
      | with_reducible exact Mine.Apart.ne (by with_reducible assumption)
      | with_reducible exact Mine.Apart.en (by with_reducible assumption)
      | with_reducible exact Mine.succ_ne1
      | with_reducible exact Mine.succ_ne2
      | (with_reducible refine' Mine.less_ne ?h_5 ?m_5; (case h_5 => with_reducible assumption); (case m_5 => kst_mem))
      | (with_reducible refine' Mine.less_en ?h_5 ?m_5; (case h_5 => with_reducible assumption); (case m_5 => kst_mem))
      | (with_reducible refine' Mine.less_ne1 ?h_5 ?m_5; (case h_5 => with_reducible assumption); (case m_5 => kst_mem))
      | (with_reducible refine' Mine.less_en1 ?h_5 ?m_5; (case h_5 => with_reducible assumption); (case m_5 => kst_mem))
      | (with_reducible refine' Mine.less_ne2 ?h_5 ?m_5; (case h_5 => with_reducible assumption); (case m_5 => kst_mem))
      | (with_reducible refine' Mine.less_en2 ?h_5 ?m_5; (case h_5 => with_reducible assumption); (case m_5 => kst_mem))
      | (with_reducible refine' Mine.less_ne3 ?h_5 ?m_5; (case h_5 => with_reducible assumption); (case m_5 => kst_mem))
      | (with_reducible refine' Mine.less_en3 ?h_5 ?m_5; (case h_5 => with_reducible assumption); (case m_5 => kst_mem))
      | (with_reducible refine' Mine.less_ne4 ?h_5 ?m_5; (case h_5 => with_reducible assumption); (case m_5 => kst_mem))
      | (with_reducible refine' Mine.less_en4 ?h_5 ?m_5; (case h_5 => with_reducible assumption); (case m_5 => kst_mem))
      | (with_reducible refine' Mine.less_ne5 ?h_5 ?m_5; (case h_5 => with_reducible assumption); (case m_5 => kst_mem))
      | (with_reducible refine' Mine.less_en5 ?h_5 ?m_5; (case h_5 => with_reducible assumption); (case m_5 => kst_mem))
      | (with_reducible refine' Mine.lt_ne2 ?k_5 ?h_5 ?m_5; (case k_5 => with_reducible assumption); (case h_5 => with_reducible assumption); (case m_5 => kst_mem))
      | (with_reducible refine' Mine.lt_en2 ?k_5 ?h_5 ?m_5; (case k_5 => with_reducible assumption); (case h_5 => with_reducible assumption); (case m_5 => kst_mem)))
    | fail
  k_with "k_ne" => first
    | (first | tb_start | ((try dsimp only); (refine neN ?_); first | tb_start | omega))
    | fail
  k_with "tb_rel" => first
    | (first
      | with_reducible exact Mine.Sim.nil
      | (refine' Mine.Sim.loc ?v_31 ?a_31 ?b_31 ?r_31; (case a_31 => rfl); (case b_31 => rfl); (case v_31 => rfl); (case r_31 => tb_rel))
      | (refine' Mine.Sim.cell ?c_31 ?m_31 ?d_31 ?a_31 ?b_31 ?r_31; (case a_31 => rfl); (case b_31 => rfl); (case c_31 => rfl); (case m_31 => kst_mem); (case d_31 => k_asm); (case r_31 => tb_rel))
      | (refine' Mine.Sim.str ?r_31; (case r_31 => tb_rel))
      | (refine' Mine.Sim.int ?r_31; (case r_31 => tb_rel)))
    | fail
  k_with "m eval Call" => first
    | (k_here; (with_reducible show wpAny _ _ (eval (Expr.Call (Expr.Name _ _) (_ :: _) [] _) _) _ _ _); k_dflt (refine' Mine.call_sim ?F_32 ?N_32 ?X_32 ?T_32 ?hk_32 ?hx_32 ?hd_32 ?en_32 ?kp_32 ?S_32 ?_; (case F_32 => k_asm); (case N_32 => k_asm); (case X_32 => k_asm); (case T_32 => k_asm); (case hk_32 => rfl); (case hx_32 => rfl); (case hd_32 => rfl); (case en_32 => k_is); (case kp_32 => k_is); (case S_32 => tb_rel); k_whole))
    | fail
  k_with "m eval Tuple" => first
    | (k_here; k_dflt (refine' Mine.tuple_sim ?F_33 ?N_33 ?hk_33 ?S_33 ?hz_33 ?_; (case F_33 => k_asm); (case N_33 => k_asm); (case hk_33 => rfl); (case S_33 => tb_rel); (case hz_33 => exact Nat.le_of_ble_eq_true rfl); k_whole); intro D' h' F' N' l1; (try k_lt l1); (try k_sweep))
    | fail
  k_with "m spliced" => first
    | (k_here; k_dflt (refine' Mine.args_simS ?F_34 ?N_34 ?hk_34 ?S_34 ?_; (case F_34 => k_asm); (case N_34 => k_asm); (case hk_34 => rfl); (case S_34 => tb_rel); k_whole))
    | fail
  k_with "m eval Subscript" => first
    | (k_here; (with_reducible show wpAny _ _ (eval (Expr.Subscript (Expr.Name _ _) (Expr.Constant (Const.int _) _ _) _) _) _ _ _); k_dflt (refine' Mine.sub_sim ?F_35 ?N_35 ?hk_35 ?hx_35 ?hd_35 ?hm_35 ?ht_35 ?hi_35 ?hj_35 ?_ ?hl_35; (case F_35 => k_asm); (case N_35 => k_asm); (case hk_35 => rfl); (case hx_35 => rfl); (case hd_35 => rfl); (case hm_35 => rfl); (case ht_35 => kst_mem); (case hi_35 => rfl); (case hj_35 => rfl); (case hl_35 => exact Nat.le_of_ble_eq_true rfl); k_whole))
    | fail
  k_with "m execs cons" => first
    | (k_here; k_dflt (first
      | ((with_reducible show wpAny _ _ (execs (Stmt.If (Expr.Compare (Expr.Name _ _) [CmpOp.Eq] [Expr.Constant (Const.str _) _ _] _) _ _ _ :: _) _) _ _ _); first
        | (refine' Mine.skip_if ?F_36 ?hk_36 ?hx_36 ?hd_36 ?hm_36 ?hc_36 ?_; (case F_36 => k_asm); (case hk_36 => rfl); (case hx_36 => rfl); (case hd_36 => rfl); (case hm_36 => rfl); (case hc_36 => decide); k_whole)
        | (refine' Mine.take_if ?F_36 ?hk_36 ?hx_36 ?hd_36 ?hm_36 ?hc_36 ?_; (case F_36 => k_asm); (case hk_36 => rfl); (case hx_36 => rfl); (case hd_36 => rfl); (case hm_36 => rfl); (case hc_36 => decide); k_whole))
      | ((with_reducible show wpAny _ _ (execs (Stmt.Assign [Expr.Name _ _] _ _ :: _) _) _ _ _); refine' Mine.assign_one ?_ ?hs_36; (case hs_36 => with_unfolding_all rfl))))
    | fail
  k_with "m call builtin:list.append" => first
    | (k_here; (with_reducible show wpAny _ _ (call (Value.builtin _) (_ ++ _)) _ _ _); simp only [List.cons_append, List.nil_append])
    | fail
  k_with "m call builtin:list.extend" => first
    | (k_here; (with_reducible show wpAny _ _ (call (Value.builtin _) (_ ++ _)) _ _ _); simp only [List.cons_append, List.nil_append])
    | fail
  k_with "m call ref" => first
    | (k_here; (with_reducible show wpAny _ _ (call (Value.ref 87) _) _ _ _); k_dflt (refine' Mine.take_use ?k1_7 ?k2_7 ?k3_7 ?k4_7 ?k5_7 ?k6_7 ?k7_7 ?k8_7 ?k9_7 ?k10_7 ?k11_7 ?k12_7 ?k13_7 ?k14_7 ?_; (case k1_7 => k_asm); (case k2_7 => k_asm); (case k3_7 => k_asm); (case k4_7 => k_asm); (case k5_7 => k_asm); (case k6_7 => first | exact rfl | assumption); (case k7_7 => k_updF); (case k8_7 => assumption); (case k9_7 => assumption); (case k10_7 => assumption); (case k11_7 => omega); (case k12_7 => omega); (case k13_7 => ktr_room); (case k14_7 => ktr_units); k_whole); intro k9 a9 b9 t9 ta9 tb9 h9 tk9 F9 N9 x19 x29 x39 x49 x59; (try dsimp only at N9); (try k_sweep); (try k_fold))
    | fail
  k_with "m call ref" => first
    | (k_here; (with_reducible show wpAny _ _ (call (Value.ref 94) _) _ _ _); k_dflt (refine' Mine.one_use ?k1_10 ?k2_10 ?k3_10 ?k4_10 ?k5_10 ?k6_10 ?k7_10 ?kth_10 ?kne_10 ?kv0_10 ?kv1_10 ?k8_10 ?k9_10 ?k10_10 ?k13_10 ?k14_10 ?_; (case k1_10 => k_asm); (case k2_10 => k_asm); (case k3_10 => k_asm); (case k4_10 => k_asm); (case k5_10 => k_asm); (case k6_10 => first | exact rfl | assumption); (case k7_10 => k_updF); (case kth_10 => k_mem); (case kne_10 => first | assumption | k_ne); (case kv0_10 => first | assumption | (simp only [List.length_cons, List.length_nil]; omega)); (case kv1_10 => first | assumption | (simp only [List.length_cons, List.length_nil]; omega)); (case k8_10 => assumption); (case k9_10 => assumption); (case k10_10 => assumption); (case k13_10 => ktr_room); (case k14_10 => ktr_units); k_whole); intro r9 k9 a9 b9 ta9 tb9 h9 tk9 F9 N9 hv9 hg9 x39 x49 x59; (try dsimp only at N9); (try k_sweep); (try k_fold))
    | fail
  k_with "ktn_lt" => first
    | (first
      | (refine' Mine.Fresh3.of ?f_11 ?a_11 ?b_11 ?c_11; (case f_11 => assumption); (case a_11 => k_mem); (case b_11 => k_mem); (case c_11 => (intro p9 h9; k_mem)))
      | (refine' Mine.Fresh3.app ?_ ?_ <;> ktn_lt))
    | fail
  k_with "ktn_ord" => first
    | (first
      | exact Mine.Rest.nil
      | (refine' Mine.Rest.app _ ?z_12; (case z_12 => ktn_lt))
      | (refine' Mine.Rest.keep ?z_12 ?a_12 ?b_12 ?c_12; (case a_12 => first | (with_reducible refine' Mine.less_allLt ?h_12 ?m_12; (case h_12 => with_reducible assumption); (case m_12 => (intro p9 h9; kst_mem))) | assumption | exact Mine.allLt_left (by assumption)); (case b_12 => first | (with_reducible refine' Mine.less_lt ?h_12 ?m_12; (case h_12 => with_reducible assumption); (case m_12 => kst_mem)) | ((try dsimp only); omega)); (case c_12 => first | (with_reducible refine' Mine.less_lt ?h_12 ?m_12; (case h_12 => with_reducible assumption); (case m_12 => kst_mem)) | ((try dsimp only); omega)); (case z_12 => ktn_ord))
      | (refine' Mine.Rest.drop ?z_12; (case z_12 => ktn_ord)))
    | fail
  k_with "m call ref" => first
    | (k_here; (with_reducible show wpAny _ _ (call (Value.ref 94) _) _ _ _); k_dflt (refine' Mine.oneR_use ?k1_13 ?k2_13 ?k3_13 ?k4_13 ?k5_13 ?k6_13 ?k7_13 ?kth_13 ?kne_13 ?krv_13 ?kv0_13 ?kv1_13 ?k8_13 ?k9_13 ?k10_13 ?k13_13 ?k14_13 ?_; (case k1_13 => k_asm); (case k2_13 => k_asm); (case k3_13 => k_asm); (case k4_13 => k_asm); (case k5_13 => k_asm); (case k6_13 => first | exact rfl | assumption); (case k7_13 => k_updF); (case kth_13 => k_mem); (case kne_13 => first | with_reducible exact Mine.Apart.ne (by with_reducible assumption) | with_reducible assumption | k_ne); (case krv_13 => with_reducible assumption); (case kv0_13 => assumption); (case kv1_13 => assumption); (case k8_13 => assumption); (case k9_13 => assumption); (case k10_13 => assumption); (case k13_13 => ktr_room); (case k14_13 => ktr_units); k_whole); intro r9 q9 a9 b9 ta9 tb9 h9 tk9 hq9 F9 N9 x39 x49 x59; (try dsimp only at N9); (try k_sweep); (try k_fold))
    | fail
  k_with "ktn_open" => first
    | (first
      | (refine' Mine.trIn_due ?h_14 ?e_14 ?s_14; (case h_14 => with_reducible assumption); (case e_14 => first | with_reducible rfl | ((simp only [List.length_append, List.length_cons, List.length_nil, Nat.zero_add]); done) | ((simp only [List.length_append, List.length_cons, List.length_nil, Nat.zero_add]); omega) | omega); (case s_14 => kqd_sub))
      | (refine' Mine.TrIn.mono ?s_14 ?h_14; (case h_14 => with_reducible assumption); (case s_14 => kqd_sub))
      | (with_reducible refine' Mine.TrIn.b ?a0_14; (case a0_14 => kst_mem))
      | (with_reducible refine' Mine.TrIn.i ?a0_14; (case a0_14 => kst_mem))
      | (with_reducible refine' Mine.TrIn.p ?a0_14; (case a0_14 => kst_mem))
      | (with_reducible refine' Mine.TrIn.nv ?a0_14; (case a0_14 => kst_mem))
      | (with_reducible refine' Mine.TrIn.inf ?a0_14; (case a0_14 => kst_mem))
      | (with_reducible refine' Mine.TrIn.ref ?a0_14 ?a1_14 ?a2_14; (case a0_14 => kst_mem); (case a1_14 => ked_reads); (case a2_14 => ktn_open))
      | (with_reducible refine' Mine.TrIn.box ?a0_14 ?a1_14; (case a0_14 => kst_mem); (case a1_14 => ktn_open))
      | (with_reducible refine' Mine.TrIn.arr ?a0_14 ?a1_14; (case a0_14 => kst_mem); (case a1_14 => ktn_open))
      | (with_reducible refine' Mine.TrIn.tup0 ?a0_14 ?a1_14; (case a0_14 => kst_mem); (case a1_14 => kst_mem))
      | (with_reducible refine' Mine.TrIn.tup1 ?a0_14 ?a1_14 ?a2_14; (case a0_14 => kst_mem); (case a1_14 => kst_mem); (case a2_14 => ktn_open))
      | (with_reducible refine' Mine.TrIn.tup2 ?a0_14 ?a1_14 ?_ ?_; (case a0_14 => kst_mem); (case a1_14 => kst_mem); all_goals ktn_open)
      | (with_reducible refine' Mine.TrIn.adt0 ?a0_14 ?a1_14 ?a2_14 ?a3_14 ?a4_14; (case a0_14 => kst_mem); (case a1_14 => kst_mem); (case a2_14 => ked_reads); (case a3_14 => exact Nat.le_of_ble_eq_true rfl); (case a4_14 => kst_mem))
      | (with_reducible refine' Mine.TrIn.adt1 ?a0_14 ?a1_14 ?a2_14 ?a3_14 ?a4_14 ?a5_14; (case a0_14 => kst_mem); (case a1_14 => kst_mem); (case a2_14 => ked_reads); (case a3_14 => exact Nat.le_of_ble_eq_true rfl); (case a4_14 => kst_mem); (case a5_14 => ktn_open))
      | (with_reducible refine' Mine.TrIn.adt2 ?a0_14 ?a1_14 ?a2_14 ?a3_14 ?a4_14 ?_ ?_; (case a0_14 => kst_mem); (case a1_14 => kst_mem); (case a2_14 => ked_reads); (case a3_14 => exact Nat.le_of_ble_eq_true rfl); (case a4_14 => kst_mem); all_goals ktn_open))
    | fail
  k_with "ked_reads" => first
    | (first
      | with_reducible exact Mine.RV.none
      | (with_reducible refine' Mine.RV.str _ _ ?e_15; (case e_15 => decide +kernel))
      | with_reducible exact Mine.RVs.nil
      | (with_reducible refine' Mine.RVs.cons ?ca_15 ?cb_15; (case ca_15 => ked_reads); (case cb_15 => ked_reads))
      | with_reducible assumption
      | (with_reducible refine' Mine.RVs.append ?pa_15 ?pb_15; (case pa_15 => ked_reads); (case pb_15 => ked_reads))
      | (with_reducible refine' Mine.RV.int' ?e_15; (case e_15 => first | with_reducible rfl | ((simp only [List.length_append, List.length_cons, List.length_nil, Nat.zero_add]); done) | ((simp only [List.length_append, List.length_cons, List.length_nil, Nat.zero_add]); omega) | omega)))
    | fail
  k_with "m call ref" => first
    | (k_here; (with_reducible show wpAny _ _ (call (Value.ref 99) _) _ _ _); k_dflt (refine' Mine.tw_use ?kC_16 ?k1_16 ?k2_16 ?k3_16 ?k4_16 ?k5_16 ?k6_16 ?k7_16 ?kU2_16 ?ksa_16 ?kth_16 ?kne_16 ?kne2_16 ?krv_16 ?kv0_16 ?kv1_16 ?k8_16 ?k9_16 ?k10_16 ?kvs_16 ?klen_16 ?kdv_16 ?k13_16 ?k14_16 ?_; (case kC_16 => with_reducible assumption); (case k1_16 => k_asm); (case k2_16 => k_asm); (case k3_16 => k_asm); (case k4_16 => k_asm); (case k5_16 => k_asm); (case k6_16 => first | exact rfl | assumption); (case k7_16 => k_updF); (case kU2_16 => intro o9; k_updF); (case ksa_16 => first | with_reducible exact Mine.Apart.ne (by with_reducible assumption) | with_reducible assumption | k_ne); (case kth_16 => k_mem); (case kne_16 => first | with_reducible exact Mine.Apart.ne (by with_reducible assumption) | with_reducible assumption | k_ne); (case kne2_16 => first | with_reducible exact Mine.Apart.ne (by with_reducible assumption) | with_reducible assumption | k_ne); (case krv_16 => first | with_reducible assumption | ked_reads); (case kv0_16 => first | assumption | exact Nat.le_of_ble_eq_true rfl); (case kv1_16 => first | assumption | exact Nat.le_of_ble_eq_true rfl); (case k8_16 => assumption); (case k9_16 => assumption); (case k10_16 => assumption); (case kvs_16 => ked_reads); (case klen_16 => first | decide | ((try simp only [List.length_append, List.length_cons, List.length_nil, Nat.pow_succ] at *); omega)); (case kdv_16 => omega); (case k13_16 => ktr_room); (case k14_16 => ktr_units); k_whole); intro p9 told9 due9 t9 a9 b9 ta9 tb9 tl9 xs9 nk9 np9 h9 tk9 F9 N9 x19 x29 x39 hp9 ht9 hd9 hx9 hvx9 hxl9 hh9 hl9 hf9; (try dsimp only at N9); (try simp only [List.cons_append, List.nil_append, List.append_assoc] at N9); (try simp only [List.append_assoc] at hvx9); (try k_sweep); (try k_fold))
    | fail
  k_with "tb_start" => first
    | (first
      | (with_reducible refine' Mine.off_I ?h_17 ?m_17; (case h_17 => with_reducible assumption); (case m_17 => kst_mem))
      | (with_reducible refine' Mine.off_C ?h_17 ?m_17; (case h_17 => with_reducible assumption); (case m_17 => kst_mem))
      | (with_reducible refine' Mine.off_D ?h_17 ?m_17; (case h_17 => with_reducible assumption); (case m_17 => kst_mem))
      | (with_reducible refine' Mine.of_I ?h_17 ?m_17; (case h_17 => with_reducible assumption); (case m_17 => kst_mem))
      | (with_reducible refine' Mine.of_C ?h_17 ?m_17; (case h_17 => with_reducible assumption); (case m_17 => kst_mem))
      | (with_reducible refine' Mine.of_D ?h_17 ?m_17; (case h_17 => with_reducible assumption); (case m_17 => kst_mem)))
    | fail
  k_with "m call builtin:list.append" => first
    | (k_here; (with_reducible show wpAny _ _ (call (Value.builtin _) [Value.ref _, _]) _ _ _); k_dflt (refine' Mine.append_L ?k1_18 ?k2_18 ?k3_18 ?z_18 ?_; (case k1_18 => k_asm); (case k2_18 => k_asm); (case k3_18 => k_updF); (case z_18 => ((try simp only [List.length_append, List.length_cons, List.length_nil]); omega)); k_whole); intro h' F' N'; (try dsimp only at N'); (try simp only [List.append_assoc, List.cons_append, List.nil_append] at N'); (try k_sweep))
    | fail
  k_with "m call builtin:len" => first
    | (k_here; (with_reducible show wpAny _ _ (call (Value.builtin "len") [Value.ref _]) _ _ _); k_dflt (refine' Mine.len_at ?k1_19 ?k2_19 ?k3_19 ?_; (case k1_19 => k_asm); (case k2_19 => kst_mem); (case k3_19 => ((try simp only [List.length_append, List.length_cons, List.length_nil]); omega)); k_whole))
    | fail
  k_with "lcg_off" => first
    | (first
      | assumption
      | (refine' Mine.off3_fresh ?f_20 ?a_20 ?b_20 ?c_20; (case f_20 => assumption); (case a_20 => kst_mem); (case b_20 => kst_mem); (case c_20 => kst_mem))
      | (refine' Mine.off3_app ?_ ?_ <;> lcg_off)
      | (refine' Mine.off3_sub ?a_20 ?b_20; (case a_20 => assumption); (case b_20 => (intro p9 h9; kst_mem))))
    | fail
  k_with "lcg_sub" => first
    | (first
      | (with_reducible refine' Mine.Out3.outI ?z_21; (case z_21 => lcg_sub))
      | (with_reducible refine' Mine.Out3.outC ?z_21; (case z_21 => lcg_sub))
      | (with_reducible refine' Mine.Out3.outD ?z_21; (case z_21 => lcg_sub))
      | (with_reducible refine' Mine.Out3.keep ?a_21 ?b_21 ?c_21 ?z_21; (case a_21 => k_ne); (case b_21 => k_ne); (case c_21 => k_ne); (case z_21 => lcg_sub))
      | (with_reducible refine' Mine.Out3.tail _ ?z_21; (case z_21 => lcg_off)))
    | fail
  k_with "m CompEnd" => first
    | (k_here; k_dflt (refine' Mine.comp_end ?F_22 ?N_22 ?m1_22 ?m2_22 ?m3_22 ?o_22 ?s_22 ?_; (case F_22 => k_asm); (case N_22 => k_asm); (case m1_22 => kst_mem); (case m2_22 => kst_mem); (case m3_22 => kst_mem); (case o_22 => lcg_sub); (case s_22 => lcg_src); k_whole))
    | fail
  k_with "m CompRest" => first
    | ((try simp only [List.nil_append, List.cons_append]); with_unfolding_all first
      | (refine LCg.CompRest.succ ?_; intro v' I' oI' C' oC' D' m' h' tk' E' hv' hC' hx' F' N' off' ne'; (first | lcg_open hv' | (obtain ⟨t9', hv9'⟩ := hv'; subst hv9')); have n19 : Mine.Apart _ _ := ne'.1; have n29 : Mine.Apart _ _ := ne'.2.1; have n39 : Mine.Apart _ _ := ne'.2.2; clear ne')
      | refine LCg.CompRest.zero ?_)
    | fail
  k_with "m eval ListComp" => first
    | (k_here; k_dflt (refine LCg.ListComp_U (F₀ := by k_asm) (by rfl) (by decide) (by rfl) (by decide) (by rfl) ?_))
    | fail
  k_with "m exec Assign cons ListComp" => first
    | (k_here; k_dflt (refine LCg.Assign_ListComp_U (F₀ := by k_asm) (by rfl) (by with_unfolding_all rfl) (by rfl) (by decide) (by rfl) (by decide) (by rfl) (by rfl) (by rfl) ?_))
    | fail
  k_with "m CompSrc" => first
    | (k_here; k_dflt (first
      | (refine LCg.CompSrc.ledger (by rfl) (by k_asm) (by k_asm) (by kst_mem) (by first | size_fits | exact Nat.le_of_ble_eq_true rfl) ?_; intro g'; lcg_lit)
      | (refine LCg.CompSrc.range (by rfl) (by k_asm) (by k_asm) (by assumption) (by first | decide | rfl) (by first | rfl | decide) (by first | size_fits | exact Nat.le_of_ble_eq_true rfl) ?_; intro g'; lcg_lit)))
    | fail
  k_with "k_subL" => first
    | (first
      | (with_reducible refine' Mine.Out1.out ?z_27; (case z_27 => k_subL))
      | (with_reducible refine' Mine.Out1.keep ?a_27 ?z_27; (case a_27 => k_ne); (case z_27 => k_subL))
      | (with_reducible refine' Mine.Out1.tail _ ?z_27; (case z_27 => k_all)))
    | fail
  k_with "m UnrEnd" => first
    | (k_here; k_dflt (refine' Mine.unr_end ?F_28 ?N_28 ?m1_28 ?o_28 ?_; (case F_28 => k_asm); (case N_28 => k_asm); (case m1_28 => kst_mem); (case o_28 => k_subL); k_whole))
    | fail
  k_with "m subscriptTail" => first
    | (k_here; (with_reducible show wpAny _ _ (subscriptTail _ _ (Value.ref _) (Value.int _ _)) _ _ _); k_dflt (refine' item_tupleT ?t_29 ?a_29 ?b_29 ?c_29 ?d_29 ?_; (case t_29 => refine' News.isTup ?N_29 ?m_29; (case N_29 => k_asm); (case m_29 => kst_mem)); (case a_29 => decide); (case b_29 => decide); (case c_29 => rfl); (case d_29 => rfl); k_whole))
    | fail
  k_with "m subscriptTail Name Constant ref int" => first
    | (k_here; (with_reducible show wpAny _ _ (subscriptTail _ _ (Value.ref _) (Value.int _ _)) _ _ _); k_dflt (refine' item_tupleT ?t_30 ?a_30 ?b_30 ?c_30 ?d_30 ?_; (case t_30 => refine' News.isTup ?N_30 ?m_30; (case N_30 => k_asm); (case m_30 => kst_mem)); (case a_30 => decide); (case b_30 => decide); (case c_30 => rfl); (case d_30 => rfl); k_whole))
    | fail
  trivial
section
theorem way56 {P : Prop} {k : Int} (a : k = 6) (b : k = 5) : P := by omega
theorem take3_use {w : World} {mean : ExcName → Option Value} {mg mb : Str → Option Value} {dp un : Nat} {gd : Option (List Code)} {cn : Str} {cs : Scope} {ca : Addr} {ccd : Value} {cl : List (Str × Addr)} {outer : List Env} {A₀ : Around} {base h₀ : Heap} {L : Addr} {m : Str → Option Value} {s : Shared} {Q E : Value → Shared → Prop}
    {src : Addr} {a b : Int} {ta tb tt : Tok} {n : Nat} {l : List (Addr × Obj)} {g : Obj → List (Addr × Obj)}
    (B : Below A₀ base outer h₀) (F : Fr h₀ L s.heap m) (X : (hd.heap_1 w.params).In h₀) (N : News h₀ L s.heap l) (T : Top topProg (looseW view [Str.ofString "LendError"] ++ (recsOf view).map (·.name) ++ (litsOf view).map (·.1) ++ (clssOf view (looseW view [Str.ofString "LendError"])).map (·.name)) mean mg mb h₀) (hk : cs.kind = .function)
    (U : UpdF src (srcObj a b ta tb n) l g) (ha : 0 ≤ a) (hb : 0 ≤ b) (hb2 : b < 2147483647) (hd : dp + 1 < recursionLimit) (hu : un + 20 < cLine)
    (r0 : ∀ a' b' t ta' tb' h' tk', Fr h₀ L h' m → News h₀ L h' (g (srcObj a' b' ta' tb' n)) → 0 ≤ a' → 0 ≤ b' → b' < 2147483647 → Q (.int 0 t) { s with heap := h', toks := tk' })
    (r1 : ∀ a' b' t ta' tb' h' tk', Fr h₀ L h' m → News h₀ L h' (g (srcObj a' b' ta' tb' n)) → 0 ≤ a' → 0 ≤ b' → b' < 2147483647 → Q (.int 1 t) { s with heap := h', toks := tk' })
    (r2 : ∀ a' b' t ta' tb' h' tk', Fr h₀ L h' m → News h₀ L h' (g (srcObj a' b' ta' tb' n)) → 0 ≤ a' → 0 ≤ b' → b' < 2147483647 → Q (.int 2 t) { s with heap := h', toks := tk' }) :
    wpAny (model PySem.Challenge.rw_xm0577_01.row.prog w) (ktrTop dp un gd cn cs L ca ccd cl outer) (call (.ref 87) [.ref src, .int 3 tt]) Q E s := by
  refine take_use B F X N T hk U ha hb hb2 (by decide) (by decide) hd hu fun k a' b' t ta' tb' h' tk' F' N' k0 k1 x3 x4 x5 => ?_
  rcases (show k = 0 ∨ k = 1 ∨ k = 2 by omega) with rfl | rfl | rfl
  · exact r0 a' b' t ta' tb' h' tk' F' N' x3 x4 x5
  · exact r1 a' b' t ta' tb' h' tk' F' N' x3 x4 x5
  · exact r2 a' b' t ta' tb' h' tk' F' N' x3 x4 x5
theorem words_36 : True := by
  k_with "m eval IfExp" => first
    | (k_here; (k_dflt (refine' Mine.ifexp_take ?p1_71 ?F_71 ?N_71 ?U_71 ?w_71 ?kwalk_71 ?kcont_71; (case w_71 => with_reducible assumption); (case p1_71 => with_reducible assumption); (case F_71 => k_asm); (case N_71 => k_asm); (case U_71 => k_updF); (case' kcont_71 => (intro k9 a9 b9 t9 ta9 tb9 h9 tk9 F9 N9 k69 x39 x49 x59; (try dsimp only at N9); (try k_sweep); (try k_fold))); k_whole)))
    | fail
  k_with "m IfPost" => first
    | (k_dflt (refine' Mine.ifPost_end ?F_72 ?N_72 ?kf_72 ?a0_72 ?b0_72 ?b1_72; (case F_72 => k_asm); (case N_72 => k_asm); (case kf_72 => first | exact ⟨by decide, by decide, fun h => by omega⟩ | exact ⟨by assumption, by assumption, fun h => by omega⟩); (case a0_72 => assumption); (case b0_72 => assumption); (case b1_72 => assumption)))
    | fail
  k_with "m call type:tuple" => first
    | (k_here; (with_reducible show wpAny _ _ (call (Value.type _) [Value.ref _]) _ _ _); k_dflt (refine' kde_tupleOf ?k1_73 ?k2_73 ?k3_73 ?k4_73 ?k5_73 ?_; (case k1_73 => k_asm); (case k2_73 => k_asm); (case k3_73 => (refine' News.isList ?n_73 ?m_73; (case n_73 => k_asm); (case m_73 => kst_mem))); (case k4_73 => ((simp only [List.size_toArray, List.length_cons, List.length_nil]); omega)); (case k5_73 => exact Mine.toArr_list _); k_whole); intro D' h' F' N' l1; (try k_lt l1); (try k_sweep))
    | fail
  k_with "m exec For Name Call cons nil" => first
    | (k_here; (rename Fr _ _ _ _ => lF'); (with_unfolding_all refine' For_invVF lF' ?k1_74 ?k2_74 ?_; (case k1_74 => exact rfl); (case k2_74 => exact rfl); k_whole))
    | fail
  k_with "m pyIter ref" => first
    | (k_here; (with_reducible show wpAny _ _ (pyIter (Value.ref _)) (fun it s₂ => LoopAtV _ _ _ _ _ _ _ _ _ it s₂) _ _); k_dflt (refine' Mine.loop_O ?hh_75 ?hr_75 ?k0_75 ?p1_75 ?p2_75 ?F_75 ?fn_75 ?fo_75 ?N_75 ?U1_75 ?U2_75 ?U3_75 ?U4_75 ?a0_75 ?b0_75 ?b1_75 ?kturn_75 ?kdone_75; (case hh_75 => exact rfl); (case F_75 => k_asm); (case p1_75 => with_reducible assumption); (case p2_75 => with_reducible assumption); (case fn_75 => exact rfl); (case fo_75 => exact rfl); (case N_75 => k_asm); (case hr_75 => with_reducible assumption); (case k0_75 => with_reducible assumption); (case U1_75 => k_updF); (case U2_75 => (intro o9; k_updF)); (case U3_75 => (intro o9 o8; k_updF)); (case U4_75 => (intro o9 o8 o7; k_updF)); (case a0_75 => assumption); (case b0_75 => assumption); (case b1_75 => assumption); (case' kturn_75 => (intro os9 rs9 ns9 a9 b9 ta9 tb9 ka9 kn9 ko9 v9 t9 I9 oI9 h9 tk9 ol9 rl9 nl9 rv9 rn9 x39 x49 x59 F9 N9 of9; (try dsimp only at N9 of9); (try k_lt of9); (try k_sweep))); (case' kdone_75 => (intro os9 rs9 ns9 a9 b9 ta9 tb9 ka9 kn9 ko9 h9 tk9 u9 vs9 ev9 el9 ok9 rl9 nl9 o29 rv9 rn9 x39 x49 x59 F9 N9; (try dsimp only at N9); (try k_sweep))); k_whole))
    | fail
  k_with "m subscriptTail Name UnaryOp ref int" => first
    | (k_here; (with_reducible show wpAny _ _ (subscriptTail _ _ (Value.ref _) (Value.int (-1) _)) _ _ _); k_dflt (refine' Mine.item_last ?N_76 ?m_76 ?s_76 ?_ ?hs_76; (case N_76 => k_asm); (case m_76 => kst_mem); (case s_76 => omega); (case hs_76 => with_unfolding_all rfl); k_whole))
    | fail
  k_with "m TurnG" => first
    | (k_dflt (refine' Mine.turnO_end ?F_77 ?hm_77 ?N_77 ?hs_77 ?a0_77 ?b0_77 ?b1_77 ?h1_77 ?h2_77 ?hi_77; (case F_77 => k_asm); (case hm_77 => (intro z hz; first | exact if_neg hz | (simp only [if_neg hz]))); (case N_77 => k_asm); (case hs_77 => ((try dsimp only); kqd_sub)); (case a0_77 => assumption); (case b0_77 => assumption); (case b1_77 => assumption); (case h1_77 => ked_reads); (case h2_77 => (refine' Mine.nums_snoc ?x_77 ?y_77; (case x_77 => with_reducible assumption); (case y_77 => ((simp only [List.length_append, List.length_cons, List.length_nil]); omega)))); (case hi_77 => (simp only [List.length_append, List.length_cons, List.length_nil]))))
    | fail
  k_with "ktn_open" => first
    | (first
      | (with_reducible refine' Mine.TrIn.b ?a0_78; (case a0_78 => kst_mem))
      | (with_reducible refine' Mine.TrIn.i ?a0_78; (case a0_78 => kst_mem))
      | (with_reducible refine' Mine.TrIn.p ?a0_78; (case a0_78 => kst_mem))
      | (with_reducible refine' Mine.TrIn.nv ?a0_78; (case a0_78 => kst_mem))
      | (with_reducible refine' Mine.TrIn.inf ?a0_78; (case a0_78 => kst_mem))
      | (with_reducible refine' Mine.TrIn.ref ?a0_78 ?a1_78 ?a2_78; (case a0_78 => kst_mem); (case a1_78 => ked_reads); (case a2_78 => ktn_open))
      | (with_reducible refine' Mine.TrIn.box ?a0_78 ?a1_78; (case a0_78 => kst_mem); (case a1_78 => ktn_open))
      | (with_reducible refine' Mine.TrIn.arr ?a0_78 ?a1_78; (case a0_78 => kst_mem); (case a1_78 => ktn_open))
      | (with_reducible refine' Mine.TrIn.tup0 ?a0_78 ?a1_78; (case a0_78 => kst_mem); (case a1_78 => kst_mem))
      | (with_reducible refine' Mine.TrIn.tup1 ?a0_78 ?a1_78 ?a2_78; (case a0_78 => kst_mem); (case a1_78 => kst_mem); (case a2_78 => ktn_open))
      | (with_reducible refine' Mine.TrIn.tup2 ?a0_78 ?a1_78 ?_ ?_; (case a0_78 => kst_mem); (case a1_78 => kst_mem); all_goals ktn_open)
      | (with_reducible refine' Mine.TrIn.adt0 ?a0_78 ?a1_78 ?a2_78 ?a3_78 ?a4_78; (case a0_78 => kst_mem); (case a1_78 => kst_mem); (case a2_78 => ked_reads); (case a3_78 => ((try simp only [Mine.numsFrom_len]); omega)); (case a4_78 => kst_mem))
      | (with_reducible refine' Mine.TrIn.adt1 ?a0_78 ?a1_78 ?a2_78 ?a3_78 ?a4_78 ?a5_78; (case a0_78 => kst_mem); (case a1_78 => kst_mem); (case a2_78 => ked_reads); (case a3_78 => ((try simp only [Mine.numsFrom_len]); omega)); (case a4_78 => kst_mem); (case a5_78 => ktn_open))
      | (with_reducible refine' Mine.TrIn.adt2 ?a0_78 ?a1_78 ?a2_78 ?a3_78 ?a4_78 ?_ ?_; (case a0_78 => kst_mem); (case a1_78 => kst_mem); (case a2_78 => ked_reads); (case a3_78 => ((try simp only [Mine.numsFrom_len]); omega)); (case a4_78 => kst_mem); all_goals ktn_open)
      | (refine' Mine.trIn_due ?h_78 ?e_78 ?s_78; (case h_78 => with_reducible assumption); (case e_78 => first | with_reducible rfl | ((simp only [List.length_append, List.length_cons, List.length_nil, Nat.zero_add]); done) | ((simp only [List.length_append, List.length_cons, List.length_nil, Nat.zero_add]); omega) | omega); (case s_78 => kqd_sub))
      | (refine' Mine.TrIn.mono ?s_78 ?h_78; (case h_78 => with_reducible assumption); (case s_78 => kqd_sub)))
    | fail
  k_with "m CompSrc" => first
    | (k_here; k_dflt (first
      | ((with_reducible show LCg.CompSrc _ _ _ _ _ _ _ (Expr.Subscript _ (Expr.Constant (Const.int 0) _ _) _) _ _ _ _ _ _); refine' Mine.comp_pick (pk := us9) ?hh_79 ?F_79 ?N_79 ?hRw_79 ?hm_79 ?hsub_79 ?hsz_79 ?hpk_79 ?_ ?_)
      | ((with_reducible show LCg.CompSrc _ _ _ _ _ _ _ (Expr.Subscript _ (Expr.Constant (Const.int 1) _ _) _) _ _ _ _ _ _); refine' Mine.comp_pick (pk := ws9) ?hh_79 ?F_79 ?N_79 ?hRw_79 ?hm_79 ?hsub_79 ?hsz_79 ?hpk_79 ?_ ?_)); (case hh_79 => exact rfl); (case F_79 => k_asm); (case N_79 => k_asm); (case hRw_79 => with_reducible assumption); (case hm_79 => kst_mem); (case hsub_79 => (intro p9 h9; kst_mem)); (case hsz_79 => assumption); (case hpk_79 => assumption); all_goals first | (intro i9 p9 w19 w29 np9 zs9 I9 oI9 C9 oC9 D9 m9 h9 tk9 E9 hz9 hu9 hw9 hp9 hC9 hx9 F9 N9 off99 n19 n29 n39 hS9; (try k_sweep)) | (intro g9; (try dsimp only)))
    | fail
  k_with "m CompSrc" => first
    | (k_here; k_dflt (refine' Mine.comp_rows (d := d) ?hh_80 ?sa_80 ?F_80 ?N_80 ?hvs_80 ?hr_80 ?U_80 ?U2_80 ?k0_80 ?k1_80 ?hlen_80 ?a0_80 ?b0_80 ?b1_80 ?kturn_80 ?kdone_80; (case hh_80 => exact rfl); (case sa_80 => exact hsa2); (case F_80 => k_asm); (case N_80 => k_asm); (case hvs_80 => exact ev9 ▸ RVs.append (by with_reducible assumption) (by with_reducible assumption)); (case hr_80 => with_reducible assumption); (case U_80 => k_updF); (case U2_80 => (intro o9; k_updF)); (case k0_80 => assumption); (case k1_80 => assumption); (case hlen_80 => omega); (case a0_80 => assumption); (case b0_80 => assumption); (case b1_80 => assumption); (case' kturn_80 => (intro ys9 us9 ws9 ts9 a9 b9 ta9 tb9 xs9 ka9 tl9 v9 I9 oI9 C9 oC9 D9 m9 h9 tk9 E9 x39 x49 x59 hRw9 hK9 hK29 hR9 hvx9 hl39 hT9 hL9 hC9 hx9 F9 N9 off9 offt9 offA9 n19 n29 n39 hq9 hq29 hl9; (try dsimp only at N9 off9 hq29 hl9); (try simp only [List.cons_append, List.nil_append, List.append_assoc] at N9 hl9); (have off99 := off9); (clear off9); (try k_sweep))); (case' kdone_80 => (intro g9 ys9 us9 ws9 ts9 a9 b9 ta9 tb9 xs9 ka9 tl9 x39 x49 x59 hRw9 yl9 ul9 wl9 sl9 hK9 hK29 hR9 hT9 hL9 hq29 l9 el29; (try dsimp only at hq29 el29); (try simp only [List.cons_append, List.nil_append, List.append_assoc] at el29); subst el29; (try dsimp only))); k_whole))
    | fail
  k_with "m CompEnd" => first
    | (k_here; k_dflt (first
      | (refine' Mine.pick_end ?F_81 ?N_81 ?hS_81 ?hz_81 ?hy_81 ?off_81 ?m1_81 ?m2_81 ?m3_81 ?hs_81; (case F_81 => k_asm); (case N_81 => k_asm); (case hS_81 => with_reducible assumption); (case hz_81 => with_reducible assumption); (case hy_81 => with_reducible assumption); (case off_81 => with_reducible assumption); (case m1_81 => kst_mem); (case m2_81 => kst_mem); (case m3_81 => kst_mem); (case hs_81 => (intro p9 h9; kst_mem)))
      | (refine' Mine.row_end ?F_81 ?N_81 ?hRw_81 ?hK_81 ?hK2_81 ?hR_81 ?hT_81 ?hL_81 ?hp_81 ?ht_81 ?hd_81 ?hx_81 ?hh_81 ?hl_81 ?f9_81 ?mI_81 ?mC_81 ?mD_81 ?hl0_81 ?hq_81 ?offA_81 ?offt_81 ?m1_81 ?m2_81 ?m3_81 ?hs_81 ?hs1_81 ?hs2_81 ?a0_81 ?b0_81 ?b1_81 ?hi_81; (case hi_81 => rfl); (case F_81 => k_asm); (case N_81 => k_asm); (case hRw_81 => with_reducible assumption); (case hK_81 => with_reducible assumption); (case hK2_81 => with_reducible assumption); (case hR_81 => with_reducible assumption); (case hT_81 => with_reducible assumption); (case hL_81 => with_reducible assumption); (case hp_81 => with_reducible assumption); (case ht_81 => with_reducible assumption); (case hd_81 => with_reducible assumption); (case hx_81 => with_reducible assumption); (case hh_81 => assumption); (case hl_81 => assumption); (case f9_81 => with_reducible assumption); (case mI_81 => kst_mem); (case mC_81 => kst_mem); (case mD_81 => kst_mem); (case hl0_81 => with_reducible assumption); (case hq_81 => with_reducible assumption); (case offA_81 => with_reducible assumption); (case offt_81 => with_reducible assumption); (case m1_81 => kst_mem); (case m2_81 => kst_mem); (case m3_81 => kst_mem); (case hs_81 => ((try dsimp only); kqd_sub)); (case hs1_81 => (intro p9 h9; kst_mem)); (case hs2_81 => (intro p9 h9; kst_mem)); (case a0_81 => assumption); (case b0_81 => assumption); (case b1_81 => assumption))))
    | fail
  trivial
theorem tw_succ {w : World} {mean : ExcName → Option Value} {mg mb : Str → Option Value} (d : Nat) (hd3 : d < 3) (IH : TwSpec w mean mg mb d) : TwSpec w mean mg mb (d + 1) := by
  unfold TwSpec
  intro src reg ask a b dv ta tb td n nr nk rvs vs rgs as R hR1 hR2 hsa hreg hrs hrv hr0 hr1 ha hb hb2 hvs hlen hdv
  have hpow : 2 ^ (d + 1) = 2 * 2 ^ d := by rw [Nat.pow_succ]; omega
  have hp1 : 1 ≤ 2 ^ d := Nat.one_le_two_pow
  have hra : Apart reg ask := hR2 _ hreg
  have hsa2 : Apart src ask := hsa
  have hrs2 : Apart reg src := hrs
  clear hsa hrs
  unfold Spec
  intro dp un gd cn cs ca ccd cl outer A₀ base h₀ L m s Q E B F X N T hk hd hu hret
  refine wpAny_call ?_
  k_dflt ktr_enter
  k_steps
  all_goals (try (
    rename (_ ∈ List.cons _ _) => hv
    simp only [List.mem_cons, List.not_mem_nil, or_false] at hv
    rcases hv with hv | hv | hv | hv | hv <;> subst hv))
  all_goals first
    | (refine' tw_end (xs := _) hret ?F ?N ?h1 ?h2 ?e2 ?z ?ha ?hb ?hb2 ?hp ?ht ?hd ?hx ?hh ?hl
       (case F => k_asm)
       (case N => k_asm)
       (case z => ktn_ord)
       (case h1 => kst_mem)
       (case h2 => kst_mem)
       (case ha => assumption)
       (case hb => assumption)
       (case hb2 => assumption)
       (case hp => kst_mem)
       (case e2 => first | with_reducible rfl | exact e2nil)
       (case ht => ktn_open)
       (case hd => (simp only [Tr.num, numsFrom]); ktn_open)
       (case hx => (simp only [Tr.regs, List.cons_append, List.nil_append]); ked_reads)
       (case hh => ((simp only [Tr.ht]); omega))
       (case hl => ((simp only [Tr.regs, List.length_append, List.length_cons, List.length_nil]); omega)))
    | (refine' Mine.with_nil ?x1 ?x2 ?x3 ?_; (case x2 => with_reducible assumption); (case x1 => with_reducible assumption); (case x3 => with_reducible assumption); intro e9; subst e9
       rw [List.append_nil] at ev9
       obtain ⟨t9, V9⟩ := Mine.tup_tree ts9 sl9
       have rl99 := hR9.length
       refine' tw_end (t := t9) (xs := _) hret ?F ?N ?h1 ?h2 ?e2 ?z ?ha ?hb ?hb2 ?hp ?ht ?hd ?hx ?hh ?hl
       (case F => k_asm)
       (case N => k_asm)
       (case z => ktn_ord)
       (case h1 => kst_mem)
       (case h2 => kst_mem)
       (case ha => assumption)
       (case hb => assumption)
       (case hb2 => assumption)
       (case hp => kst_mem)
       (case e2 => rw [ev9])
       (case ht => (refine' V9.bld ?o1 ?o2 ?o3; (case o1 => kst_mem); (case o2 => kst_mem); (case o3 => (refine' Kids.mono ?ok ?os; (case ok => with_reducible exact hK9); (case os => kqd_sub)))))
       (case hd => (refine' V9.out ?o1 ?o2 ?o3; (case o1 => kst_mem); (case o2 => kst_mem); (case o3 => (refine' Kids.mono ?ok ?os; (case ok => exact ev9 ▸ hK29); (case os => kqd_sub)))))
       (case hx => (rw [V9.regs]; exact hR9))
       (case hh => exact V9.hle hT9)
       (case hl => (rw [V9.regs]; omega)))
    | (obtain ⟨t9, V9⟩ := Mine.adt_tree rs9 ts9 sl9
       have rl99 := hR9.length
       refine' tw_end (t := t9) (xs := _) hret ?F ?N ?h1 ?h2 ?e2 ?z ?ha ?hb ?hb2 ?hp ?ht ?hd ?hx ?hh ?hl
       (case F => k_asm)
       (case N => k_asm)
       (case z => ktn_ord)
       (case h1 => kst_mem)
       (case h2 => kst_mem)
       (case ha => assumption)
       (case hb => assumption)
       (case hb2 => assumption)
       (case hp => kst_mem)
       (case e2 => rw [ev9, List.append_assoc])
       (case ht => (refine' V9.bld ?o1 ?o2 ?o3 ?o4 ?o5 ?o6; (case o1 => kst_mem); (case o2 => kst_mem); (case o3 => with_reducible assumption); (case o4 => omega); (case o5 => kst_mem); (case o6 => (refine' Kids.mono ?ok ?os; (case ok => with_reducible exact hK9); (case os => kqd_sub)))))
       (case hd => (refine' V9.out ?o1 ?o2 ?o3 ?o4 ?o5 ?o6 ?o7; (case o1 => kst_mem); (case o2 => kst_mem); (case o3 => with_reducible assumption); (case o4 => omega); (case o5 => kst_mem); (case o6 => (refine' Kids.mono ?ok ?os; (case ok => with_reducible exact hK29); (case os => kqd_sub))); (case o7 => omega)))
       (case hx => (rw [V9.regs]; ked_reads))
       (case hh => exact V9.hle hT9)
       (case hl => (rw [V9.regs, List.length_append]; omega)))
end
end
section
theorem words_37 : True := by
  w_top off
  k_with_none
  k_with "kst_mem" => first
    | (first
      | with_reducible assumption
      | with_reducible exact List.mem_cons_self
      | (with_reducible refine List.mem_cons_of_mem _ ?_; kst_mem)
      | (with_reducible refine List.mem_append.mpr (Or.inl ?_); kst_mem)
      | (with_reducible refine List.mem_append.mpr (Or.inr ?_); kst_mem)
      | fail "kst_mem")
    | fail
  k_with "k_mem" => first
    | (kst_mem)
    | fail
  k_with "k_all" => first
    | (first
      | with_reducible assumption
      | exact List.forall_mem_nil _
      | (with_reducible refine' Mine.less_sub ?h_2 ?m_2; (case h_2 => with_reducible assumption); (case m_2 => (intro p9 h9; kst_mem)))
      | (with_reducible refine' Mine.less_sub1 ?h_2 ?m_2; (case h_2 => with_reducible assumption); (case m_2 => (intro p9 h9; kst_mem)))
      | (with_reducible refine' Mine.less_sub2 ?h_2 ?m_2; (case h_2 => with_reducible assumption); (case m_2 => (intro p9 h9; kst_mem)))
      | (with_reducible refine' Mine.less_sub3 ?h_2 ?m_2; (case h_2 => with_reducible assumption); (case m_2 => (intro p9 h9; kst_mem)))
      | (with_reducible refine' Mine.less_sub4 ?h_2 ?m_2; (case h_2 => with_reducible assumption); (case m_2 => (intro p9 h9; kst_mem)))
      | (with_reducible refine' Mine.less_sub5 ?h_2 ?m_2; (case h_2 => with_reducible assumption); (case m_2 => (intro p9 h9; kst_mem)))
      | (refine' List.forall_mem_cons.mpr ⟨?a_2, ?b_2⟩; (case a_2 => k_ne); (case b_2 => k_all))
      | exact Mine.allLt_ne (by with_reducible assumption)
      | exact Mine.fresh_ne (by with_reducible assumption) (by k_mem)
      | (refine' List.forall_mem_append.mpr ⟨?_, ?_⟩ <;> k_all))
    | fail
  k_with "kqd_sub" => first
    | (first
      | exact fun _ h => h
      | exact List.forall_mem_nil _
      | (refine' List.forall_mem_cons.mpr ⟨?kqa_3, ?kqb_3⟩; (case kqa_3 => k_mem); (case kqb_3 => kqd_sub))
      | (refine' List.forall_mem_append.mpr ⟨?_, ?_⟩ <;> kqd_sub)
      | (intro p9 h9; k_mem))
    | fail
  k_with "ktr_enter" => first
    | (refine' code_defC ?k1_4 ?k2_4 ?k3_4 ?k4_4 ?k5_4 ?kA_4 ?kF_4 ?kK_4 ?k6_4 ?k7_4 ?k8_4 ?k9_4 ?kB_4 ?kD_4 ?_ ?c2_4 ?c3_4 ?c4_4; (case kA_4 => exact rfl); (case kF_4 => exact rfl); (case kK_4 => assumption); (case k1_4 => k_asm); (case k2_4 => k_asm); (case k3_4 => k_asm); (case k4_4 => k_asm); (case k5_4 => k_asm); (case k6_4 => k_is); (case k7_4 => k_is); (case k8_4 => ktr_room); (case k9_4 => exact BindsTo.of_eq rfl); (case kB_4 => exact rfl); (case kD_4 => decide +kernel); (case c2_4 => exact rfl); (case c3_4 => exact rfl); (case c4_4 => exact rfl); k_whole; intro g' L' h' tk' cells' FG' F' N' Y' B' X' T' l1; (try k_lt l1); k_cells Y'; (try simp only [List.cons_append, List.nil_append] at N'); (try dsimp only); (try k_fold))
    | fail
  k_with "tb_start" => first
    | (first
      | with_reducible exact Mine.Apart.ne (by with_reducible assumption)
      | with_reducible exact Mine.Apart.en (by with_reducible assumption)
      | with_reducible exact Mine.succ_ne1
      | with_reducible exact Mine.succ_ne2
      | (with_reducible refine' Mine.less_ne ?h_5 ?m_5; (case h_5 => with_reducible assumption); (case m_5 => kst_mem))
      | (with_reducible refine' Mine.less_en ?h_5 ?m_5; (case h_5 => with_reducible assumption); (case m_5 => kst_mem))
      | (with_reducible refine' Mine.less_ne1 ?h_5 ?m_5; (case h_5 => with_reducible assumption); (case m_5 => kst_mem))
      | (with_reducible refine' Mine.less_en1 ?h_5 ?m_5; (case h_5 => with_reducible assumption); (case m_5 => kst_mem))
      | (with_reducible refine' Mine.less_ne2 ?h_5 ?m_5; (case h_5 => with_reducible assumption); (case m_5 => kst_mem))
      | (with_reducible refine' Mine.less_en2 ?h_5 ?m_5; (case h_5 => with_reducible assumption); (case m_5 => kst_mem))
      | (with_reducible refine' Mine.less_ne3 ?h_5 ?m_5; (case h_5 => with_reducible assumption); (case m_5 => kst_mem))
      | (with_reducible refine' Mine.less_en3 ?h_5 ?m_5; (case h_5 => with_reducible assumption); (case m_5 => kst_mem))
      | (with_reducible refine' Mine.less_ne4 ?h_5 ?m_5; (case h_5 => with_reducible assumption); (case m_5 => kst_mem))
      | (with_reducible refine' Mine.less_en4 ?h_5 ?m_5; (case h_5 => with_reducible assumption); (case m_5 => kst_mem))
      | (with_reducible refine' Mine.less_ne5 ?h_5 ?m_5; (case h_5 => with_reducible assumption); (case m_5 => kst_mem))
      | (with_reducible refine' Mine.less_en5 ?h_5 ?m_5; (case h_5 => with_reducible assumption); (case m_5 => kst_mem))
      | (with_reducible refine' Mine.lt_ne2 ?k_5 ?h_5 ?m_5; (case k_5 => with_reducible assumption); (case h_5 => with_reducible assumption); (case m_5 => kst_mem))
      | (with_reducible refine' Mine.lt_en2 ?k_5 ?h_5 ?m_5; (case k_5 => with_reducible assumption); (case h_5 => with_reducible assumption); (case m_5 => kst_mem)))
    | fail
  k_with "k_ne" => first
    | (first | tb_start | ((try dsimp only); (refine neN ?_); first | tb_start | omega))
    | fail
  k_with "m leaving ref" => first
    | (k_here; k_dflt (refine' Mine.leave_onD ?K_82 ?F_82 ?R_82 ?U_82 ?_; (case R_82 => assumption); (case F_82 => assumption); (case K_82 => assumption); (case U_82 => assumption); k_whole); intro h9 R9 U9; (try dsimp only))
    | fail
  k_with "m noteFrame ref" => first
    | (k_here; k_dflt (refine' Mine.caughtD ?R_83 ?F_83 ?K_83 ?U_83 ?XB_83 ?TB_83 ?D_83 ?T0_83 ?_; (case R_83 => assumption); (case F_83 => assumption); (case K_83 => assumption); (case U_83 => assumption); (case XB_83 => assumption); (case TB_83 => assumption); (case D_83 => assumption); (case T0_83 => first | assumption | exact KtsTurn.refl); k_whole); intro h9 g9 oe9 vs9 tk9 T9 F9 N9 K9 X9 P9 D9; (try k_sweep))
    | fail
  k_with "m call ref" => first
    | (k_here; (with_reducible show wpAny _ _ (call (Value.ref 45) _) _ _ _); k_dflt (refine' Mine.nf_use ?k1_68 ?k2_68 ?k3_68 ?k4_68 ?k5_68 ?k6_68 ?k13_68 ?k14_68 ?_; (case k1_68 => k_asm); (case k2_68 => k_asm); (case k3_68 => k_asm); (case k4_68 => k_asm); (case k5_68 => k_asm); (case k6_68 => first | exact rfl | assumption); (case k13_68 => ktr_room); (case k14_68 => ktr_units); k_whole); intro e9 t9 dx9 k19 k29 h9 tk9 F9 N9 l9 l19 l29; (try k_lt l9); (try k_fold))
    | fail
  k_with "m exec Raise some none" => first
    | (k_here; k_dflt (refine' Mine.nf_raise ?hh_69 ?_; (case hh_69 => first | exact rfl | assumption); k_whole))
    | fail
  k_with "m RaiseAt" => first
    | (k_dflt (refine' Mine.RaiseAt.intro ?F_70 ?X_70 ?N_70 ?m_70 ?_; (case F_70 => k_asm); (case X_70 => k_asm); (case N_70 => k_asm); (case m_70 => kst_mem); k_whole); (try dsimp only))
    | fail
  k_with "m call ref" => first
    | (k_here; (with_reducible show wpAny _ _ (call (Value.ref 73) [Value.str _ _, Value.int _ _]) _ _ _); k_dflt (refine' Mine.told_use ?hx_84 ?hx2_84 ?k1_84 ?k2_84 ?k3_84 ?k4_84 ?k5_84 ?k6_84 ?k13_84 ?k14_84 ?_ ?_ ?_; (case hx_84 => assumption); (case hx2_84 => assumption); (case k1_84 => k_asm); (case k2_84 => k_asm); (case k3_84 => k_asm); (case k4_84 => k_asm); (case k5_84 => k_asm); (case k6_84 => first | exact rfl | assumption); (case k13_84 => ktr_room); (case k14_84 => ktr_units); k_whole) <;> first | (intro c9 c99 G9 e9 dx9 k19 k29 t9 h9 tk9 FG9 R9 U9 l9 l19; first | (exact Mine.tri_f (by assumption) c9) | (exact Mine.tri_b c9 c99 (by assumption)) | (exact Mine.tri_c c9 c99 (by assumption)) | (exact Mine.tri_d c9 c99 (by assumption)) | ((try k_lt l9); (try k_fold))) | (intro c9 c99 h9 tk9 F9 N9; first | (exact Mine.tri_f (by assumption) c9) | (exact Mine.tri_a c9 c99 (by assumption) (by assumption) (by assumption)) | (try k_fold)) | (intro c9 h9 tk9 F9 N9; first | (exact Mine.tri_f c9 (by assumption)) | (try k_fold)))
    | fail
  k_with "m call ref" => first
    | (k_here; (with_reducible show wpAny _ _ (call (Value.ref 73) [Value.none, Value.int _ _]) _ _ _); k_dflt (refine' Mine.told_none ?k1_85 ?k2_85 ?k3_85 ?k4_85 ?k5_85 ?k6_85 ?k13_85 ?k14_85 ?_; (case k1_85 => k_asm); (case k2_85 => k_asm); (case k3_85 => k_asm); (case k4_85 => k_asm); (case k5_85 => k_asm); (case k6_85 => first | exact rfl | assumption); (case k13_85 => ktr_room); (case k14_85 => ktr_units); k_whole); intro h9 tk9 F9 N9; try k_fold)
    | fail
  k_with "m call ref" => first
    | (k_here; (with_reducible show wpAny _ _ (call (Value.ref 113) _) _ _ _); (refine wpAny_call ?_); k_dflt (refine' Mine.code_plainT ?k1_86 ?k2_86 ?k3_86 ?k4_86 ?k5_86 ?XB_86 ?TB_86 ?D_86 ?T0_86 ?kA_86 ?kF_86 ?kK_86 ?k6_86 ?k7_86 ?k8_86 ?k9_86 ?kB_86 ?_ ?c2_86 ?c3_86 ?c4_86 ?c5_86; (case kA_86 => exact rfl); (case kF_86 => exact rfl); (case kK_86 => first | exact rfl | assumption); (case k2_86 => k_asm); (case k1_86 => k_asm); (case XB_86 => assumption); (case TB_86 => assumption); (case D_86 => assumption); (case T0_86 => first | assumption | exact KtsTurn.refl); (case k3_86 => k_asm); (case k4_86 => k_asm); (case k5_86 => k_asm); (case k6_86 => k_is); (case k7_86 => k_is); (case k8_86 => ktr_room); (case k9_86 => exact BindsTo.of_eq rfl); (case kB_86 => exact locs rfl); (case c2_86 => exact rfl); (case c3_86 => exact rfl); (case c4_86 => exact rfl); (case c5_86 => decide); k_whole); intro g' L' h' FG' F' N' B' X' T' D' l1; (try dsimp only); (try k_lt l1); (try k_fold))
    | fail
  k_with "m eval Lambda" => first
    | (k_here; kn_here; k_dflt (refine' kla_eval ?d0_87 ?_; (case d0_87 => exact rfl)); k_dflt (refine' Mine.lamAny ?F_87 ?N_87 ?T_87 ?C_87 ?cd_87 ?U_87 ?ok_87 ?cl_87 ?_; (case F_87 => k_asm); (case N_87 => k_asm); (case T_87 => k_asm); (case cd_87 => exact rfl); (case C_87 => kn_code); (case U_87 => k_updF); (case ok_87 => exact Mine.TabOk.mono (by assumption) (by kqd_sub)); (case cl_87 => exact rfl); k_whole); intro f' c' oc' vs' t' ct' h' tk' tl' ps' F' N' m1' m2' d1' d2' go' lt'; (try dsimp only at N' m2'); (try simp only [List.cons_append, List.nil_append, List.append_assoc] at N'))
    | fail
  k_with "m call ref" => first
    | (k_here; kn_here; (with_reducible show wpAny _ _ (call (Value.ref _) [] _) _ _ _); k_dflt (refine wpAny_call ?_; (refine' kla_code ?k1_88 ?k2_88 ?k3_88 ?k4_88 ?k5_88 ?kA_88 ?kF_88 ?kK_88 ?k6_88 ?k7_88 ?k8_88 ?k9_88 ?kB_88 ?_ ?c2_88 ?c3_88 ?c4_88 ?c5_88; (case kA_88 => exact rfl); (case kF_88 => exact rfl); (case kK_88 => exact rfl); (case k1_88 => k_asm); (case k2_88 => k_asm); (case k3_88 => k_asm); (case k4_88 => k_asm); (case k5_88 => k_asm); (case k6_88 => kst_mem); (case k7_88 => exact codeRec_news (by k_asm) (Mine.mem_sub (by assumption) (by kqd_sub)) (by assumption) (by assumption)); (case k8_88 => ktr_room); (case k9_88 => exact rfl); (case c5_88 => decide); (case kB_88 => exact locs rfl); (case c2_88 => exact rfl); (case c3_88 => exact rfl); (case c4_88 => exact rfl); k_whole; intro g' L' h' FG' F' N' B' X' T'; (try dsimp only); (try k_fold))))
    | fail
  k_with "m getAttr ref" => first
    | (k_here; (with_reducible show wpAny _ _ (getAttr (Value.ref _) (Str.ofString "message") _) _ _ _); k_dflt (refine' Mine.nf_getM ?F_89 ?X_89 ?N_89 ?m_89 ?d_89 ?_; (case F_89 => k_asm); (case X_89 => k_asm); (case N_89 => k_asm); (case m_89 => kst_mem); (case d_89 => kst_mem); k_whole))
    | fail
  k_with "m getAttr ref" => first
    | (k_here; (with_reducible show wpAny _ _ (getAttr (Value.ref _) (Str.ofString "spot") _) _ _ _); k_dflt (refine' Mine.nf_getS ?F_90 ?X_90 ?N_90 ?m_90 ?d_90 ?_; (case F_90 => k_asm); (case X_90 => k_asm); (case N_90 => k_asm); (case m_90 => kst_mem); (case d_90 => kst_mem); k_whole))
    | fail
  k_with "ktr_rel" => first
    | (first
      | with_reducible assumption
      | with_reducible exact Mine.RVs.nil
      | (with_reducible refine' Mine.RVs.cons ?a_91 ?b_91; (case a_91 => first | with_reducible assumption | with_reducible exact Mine.RV.none | with_reducible exact Mine.RV.int _ _ | (with_reducible refine' Mine.RV.str _ _ ?e_91; (case e_91 => first | assumption | exact Mine.noName_ok (by assumption) | decide +kernel))); (case b_91 => ktr_rel)))
    | fail
  k_with "m compareOp Eq ref ref" => first
    | (k_here; k_dflt (first
      | (refine' Mine.rv_eqT ?N_92 ?a_92 ?b_92 ?x_92 ?y_92 ?u_92 ?_; (case N_92 => k_asm); (case a_92 => kst_mem); (case b_92 => kst_mem); (case x_92 => ktr_rel); (case y_92 => ktr_rel); (case u_92 => ktr_units); k_whole)
      | (refine' Mine.rv_eqL ?N_92 ?a_92 ?b_92 ?x_92 ?y_92 ?u_92 ?_; (case N_92 => k_asm); (case a_92 => kst_mem); (case b_92 => kst_mem); (case x_92 => ktr_rel); (case y_92 => ktr_rel); (case u_92 => ktr_units); k_whole)))
    | fail
  trivial
theorem fresh_tl {l R tl : List (Addr × Obj)} (h : ∀ q ∈ l, ∀ p ∈ tl, q.1 < p.1) (hs : ∀ q ∈ R, q ∈ l) : ∀ q ∈ R, ∀ p ∈ tl, q.1 < p.1 := fun q hq p hp => h q (hs q hq) p hp
theorem fresh_at {l tl : List (Addr × Obj)} {a : Addr} {o : Obj} (h : ∀ q ∈ l, ∀ p ∈ tl, q.1 < p.1) (hs : (a, o) ∈ l) : ∀ p ∈ tl, @LT.lt Nat _ a p.1 := fun p hp => h _ hs p hp
section
theorem words_38 : True := by
  k_with "m compareOp In str ref" => first
    | (k_here; k_dflt (refine' Mine.name_in ?N_93 ?m_93 ?x_93 ?u_93 ?_; (case N_93 => k_asm); (case m_93 => kst_mem); (case x_93 => assumption); (case u_93 => ktr_units); k_whole))
    | fail
  k_with "m compareOp In none ref" => first
    | (k_here; k_dflt (refine' Mine.none_in ?N_94 ?m_94 ?u_94 ?_; (case N_94 => k_asm); (case m_94 => kst_mem); (case u_94 => ktr_units); k_whole))
    | fail
  k_with "m callWith ref" => first
    | (k_here; (with_reducible show wpAny _ _ (callWith _ (Value.ref 113) _ _ _) _ _ _); k_dflt (refine' callWith_K ?k1_95 ?k2_95 ?_; (case k1_95 => k_asm); (case k2_95 => k_is); k_whole))
    | fail
  k_with "m callWith ref" => first
    | (k_here; (with_reducible show wpAny _ _ (callWith _ (Value.ref 73) _ _ _) _ _ _); k_dflt (refine' callWith_K ?k1_96 ?k2_96 ?_; (case k1_96 => k_asm); (case k2_96 => k_is); k_whole))
    | fail
  k_with "ktr_enter" => first
    | (refine' code_cellsT ?k1_97 ?k2_97 ?k3_97 ?k4_97 ?k5_97 ?kA_97 ?kF_97 ?kK_97 ?k6_97 ?k7_97 ?k8_97 ?k9_97 ?kB_97 ?kD_97 ?_ ?c2_97 ?c3_97 ?c4_97; (case kA_97 => exact rfl); (case kF_97 => exact rfl); (case kK_97 => assumption); (case k1_97 => k_asm); (case k2_97 => k_asm); (case k3_97 => k_asm); (case k4_97 => k_asm); (case k5_97 => k_asm); (case k6_97 => k_is); (case k7_97 => k_is); (case k8_97 => ktr_room); (case k9_97 => exact BindsTo.of_eq rfl); (case kB_97 => exact rfl); (case kD_97 => decide +kernel); (case c2_97 => exact rfl); (case c3_97 => exact rfl); (case c4_97 => exact rfl); k_whole; intro g' L' h' tk' cells' FG' F' N' Y' B' X' T' D' l1; (try k_lt l1); k_cells Y'; (try simp only [List.cons_append, List.nil_append] at N'); (try dsimp only); (try k_fold))
    | fail
  trivial
abbrev qName : Str := Str.ofString "_law_name_right" ++ ".<locals>." ++ "<lambda>"
theorem name_str {w : World} {mean : ExcName → Option Value} {mg mb : Str → Option Value} {dp un : Nat} {gd : Option (List Code)} {cn : Str} {cs : Scope} {ca : Addr} {ccd : Value} {cl : List (Str × Addr)} {A₀ : Around} {h₀ : Heap} {L : Addr} {m : Str → Option Value} {s : Shared} {Q E : Value → Shared → Prop}
    {x : Str} {sp : Int} {tx ts : Tok} {ps : Array Value} {R : List (Addr × Obj)} (hx : x.length < 100) (hx2 : PyData.strOk x = true)
    (B : Below A₀ h₀ [] h₀) (F : Fr h₀ L s.heap m) (X : (hd.heap_1 w.params).In h₀) (hC : CodeHd h₀ 124 120) (N : News h₀ L s.heap ((120, tabObj ps) :: R)) (hR : ∀ p ∈ R, p.1 ≠ 120) (ok : TabOk 120 22 qName R ps)
    (T : Top topProg (looseW view [Str.ofString "LendError"] ++ (recsOf view).map (·.name) ++ (litsOf view).map (·.1) ++ (clssOf view (looseW view [Str.ofString "LendError"])).map (·.name)) mean mg mb h₀) (hk : cs.kind = .function) (hd : dp + 20 < recursionLimit) (hu : un + 500 < cLine)
    (ret : ∀ h' tk' tl ps', Fr h₀ L h' m → News h₀ L h' ((120, tabObj ps') :: (R ++ tl)) → TabGo 120 22 qName tl ps ps' → (∀ q ∈ R, ∀ p ∈ tl, q.1 < p.1) → (∀ p ∈ tl, @LT.lt Nat _ 120 p.1) → Q (.bool true) { s with heap := h', toks := tk' }) :
    wpAny (model PySem.Challenge.rw_xm0577_01.row.prog w) (ktrTop dp un gd cn cs L ca ccd cl []) (call (.ref 125) [.str x tx, .int sp ts]) Q E s := by
  refine wpAny_call ?_
  k_dflt ktr_enter
  k_steps
  all_goals (
    refine' ret _ _ _ _ ?F ?N ?go ?f1 ?f2
    (case go => assumption)
    (case F => k_asm)
    (case N => (refine' News.sub ?n ?m; (case n => k_asm); (case m => kqd_sub)))
    (case f1 => (refine' Mine.fresh_tl ?a ?b; (case a => assumption); (case b => kqd_sub)))
    (case f2 => (refine' Mine.fresh_at ?a ?b; (case a => assumption); (case b => kst_mem))))
theorem name_none {w : World} {mean : ExcName → Option Value} {mg mb : Str → Option Value} {dp un : Nat} {gd : Option (List Code)} {cn : Str} {cs : Scope} {ca : Addr} {ccd : Value} {cl : List (Str × Addr)} {A₀ : Around} {h₀ : Heap} {L : Addr} {m : Str → Option Value} {s : Shared} {Q E : Value → Shared → Prop}
    {sp : Int} {ts : Tok} {ps : Array Value} {R : List (Addr × Obj)}
    (B : Below A₀ h₀ [] h₀) (F : Fr h₀ L s.heap m) (X : (hd.heap_1 w.params).In h₀) (hC : CodeHd h₀ 124 120) (N : News h₀ L s.heap ((120, tabObj ps) :: R)) (hR : ∀ p ∈ R, p.1 ≠ 120) (ok : TabOk 120 22 qName R ps)
    (T : Top topProg (looseW view [Str.ofString "LendError"] ++ (recsOf view).map (·.name) ++ (litsOf view).map (·.1) ++ (clssOf view (looseW view [Str.ofString "LendError"])).map (·.name)) mean mg mb h₀) (hk : cs.kind = .function) (hd : dp + 20 < recursionLimit) (hu : un + 500 < cLine)
    (ret : ∀ h' tk' tl ps', Fr h₀ L h' m → News h₀ L h' ((120, tabObj ps') :: (R ++ tl)) → TabGo 120 22 qName tl ps ps' → (∀ q ∈ R, ∀ p ∈ tl, q.1 < p.1) → (∀ p ∈ tl, @LT.lt Nat _ 120 p.1) → Q (.bool true) { s with heap := h', toks := tk' }) :
    wpAny (model PySem.Challenge.rw_xm0577_01.row.prog w) (ktrTop dp un gd cn cs L ca ccd cl []) (call (.ref 125) [.none, .int sp ts]) Q E s := by
  refine wpAny_call ?_
  k_dflt ktr_enter
  k_steps
  all_goals (
    refine' ret _ _ _ _ ?F ?N ?go ?f1 ?f2
    (case go => assumption)
    (case F => k_asm)
    (case N => (refine' News.sub ?n ?m; (case n => k_asm); (case m => kqd_sub)))
    (case f1 => (refine' Mine.fresh_tl ?a ?b; (case a => assumption); (case b => kqd_sub)))
    (case f2 => (refine' Mine.fresh_at ?a ?b; (case a => assumption); (case b => kst_mem))))
end
end
section
theorem words_39 : True := by
  w_top off
  k_with_none
  k_with "kst_mem" => first
    | (first
      | with_reducible assumption
      | with_reducible exact List.mem_cons_self
      | (with_reducible refine List.mem_cons_of_mem _ ?_; kst_mem)
      | (with_reducible refine List.mem_append.mpr (Or.inl ?_); kst_mem)
      | (with_reducible refine List.mem_append.mpr (Or.inr ?_); kst_mem)
      | fail "kst_mem")
    | fail
  k_with "k_mem" => first
    | (kst_mem)
    | fail
  k_with "k_all" => first
    | (first
      | with_reducible assumption
      | exact List.forall_mem_nil _
      | (with_reducible refine' Mine.less_sub ?h_2 ?m_2; (case h_2 => with_reducible assumption); (case m_2 => (intro p9 h9; kst_mem)))
      | (with_reducible refine' Mine.less_sub1 ?h_2 ?m_2; (case h_2 => with_reducible assumption); (case m_2 => (intro p9 h9; kst_mem)))
      | (with_reducible refine' Mine.less_sub2 ?h_2 ?m_2; (case h_2 => with_reducible assumption); (case m_2 => (intro p9 h9; kst_mem)))
      | (with_reducible refine' Mine.less_sub3 ?h_2 ?m_2; (case h_2 => with_reducible assumption); (case m_2 => (intro p9 h9; kst_mem)))
      | (with_reducible refine' Mine.less_sub4 ?h_2 ?m_2; (case h_2 => with_reducible assumption); (case m_2 => (intro p9 h9; kst_mem)))
      | (with_reducible refine' Mine.less_sub5 ?h_2 ?m_2; (case h_2 => with_reducible assumption); (case m_2 => (intro p9 h9; kst_mem)))
      | (refine' List.forall_mem_cons.mpr ⟨?a_2, ?b_2⟩; (case a_2 => k_ne); (case b_2 => k_all))
      | exact Mine.allLt_ne (by with_reducible assumption)
      | exact Mine.fresh_ne (by with_reducible assumption) (by k_mem)
      | (refine' List.forall_mem_append.mpr ⟨?_, ?_⟩ <;> k_all))
    | fail
  k_with "kqd_sub" => first
    | (first
      | exact fun _ h => h
      | exact List.forall_mem_nil _
      | (refine' List.forall_mem_cons.mpr ⟨?kqa_3, ?kqb_3⟩; (case kqa_3 => k_mem); (case kqb_3 => kqd_sub))
      | (refine' List.forall_mem_append.mpr ⟨?_, ?_⟩ <;> kqd_sub)
      | (intro p9 h9; k_mem))
    | fail
  k_with "ktr_enter" => first
    | (refine' code_defC ?k1_4 ?k2_4 ?k3_4 ?k4_4 ?k5_4 ?kA_4 ?kF_4 ?kK_4 ?k6_4 ?k7_4 ?k8_4 ?k9_4 ?kB_4 ?kD_4 ?_ ?c2_4 ?c3_4 ?c4_4; (case kA_4 => exact rfl); (case kF_4 => exact rfl); (case kK_4 => assumption); (case k1_4 => k_asm); (case k2_4 => k_asm); (case k3_4 => k_asm); (case k4_4 => k_asm); (case k5_4 => k_asm); (case k6_4 => k_is); (case k7_4 => k_is); (case k8_4 => ktr_room); (case k9_4 => exact BindsTo.of_eq rfl); (case kB_4 => exact rfl); (case kD_4 => decide +kernel); (case c2_4 => exact rfl); (case c3_4 => exact rfl); (case c4_4 => exact rfl); k_whole; intro g' L' h' tk' cells' FG' F' N' Y' B' X' T' l1; (try k_lt l1); k_cells Y'; (try simp only [List.cons_append, List.nil_append] at N'); (try dsimp only); (try k_fold))
    | fail
  k_with "tb_start" => first
    | (first
      | with_reducible exact Mine.Apart.ne (by with_reducible assumption)
      | with_reducible exact Mine.Apart.en (by with_reducible assumption)
      | with_reducible exact Mine.succ_ne1
      | with_reducible exact Mine.succ_ne2
      | (with_reducible refine' Mine.less_ne ?h_5 ?m_5; (case h_5 => with_reducible assumption); (case m_5 => kst_mem))
      | (with_reducible refine' Mine.less_en ?h_5 ?m_5; (case h_5 => with_reducible assumption); (case m_5 => kst_mem))
      | (with_reducible refine' Mine.less_ne1 ?h_5 ?m_5; (case h_5 => with_reducible assumption); (case m_5 => kst_mem))
      | (with_reducible refine' Mine.less_en1 ?h_5 ?m_5; (case h_5 => with_reducible assumption); (case m_5 => kst_mem))
      | (with_reducible refine' Mine.less_ne2 ?h_5 ?m_5; (case h_5 => with_reducible assumption); (case m_5 => kst_mem))
      | (with_reducible refine' Mine.less_en2 ?h_5 ?m_5; (case h_5 => with_reducible assumption); (case m_5 => kst_mem))
      | (with_reducible refine' Mine.less_ne3 ?h_5 ?m_5; (case h_5 => with_reducible assumption); (case m_5 => kst_mem))
      | (with_reducible refine' Mine.less_en3 ?h_5 ?m_5; (case h_5 => with_reducible assumption); (case m_5 => kst_mem))
      | (with_reducible refine' Mine.less_ne4 ?h_5 ?m_5; (case h_5 => with_reducible assumption); (case m_5 => kst_mem))
      | (with_reducible refine' Mine.less_en4 ?h_5 ?m_5; (case h_5 => with_reducible assumption); (case m_5 => kst_mem))
      | (with_reducible refine' Mine.less_ne5 ?h_5 ?m_5; (case h_5 => with_reducible assumption); (case m_5 => kst_mem))
      | (with_reducible refine' Mine.less_en5 ?h_5 ?m_5; (case h_5 => with_reducible assumption); (case m_5 => kst_mem))
      | (with_reducible refine' Mine.lt_ne2 ?k_5 ?h_5 ?m_5; (case k_5 => with_reducible assumption); (case h_5 => with_reducible assumption); (case m_5 => kst_mem))
      | (with_reducible refine' Mine.lt_en2 ?k_5 ?h_5 ?m_5; (case k_5 => with_reducible assumption); (case h_5 => with_reducible assumption); (case m_5 => kst_mem)))
    | fail
  k_with "k_ne" => first
    | (first | tb_start | ((try dsimp only); (refine neN ?_); first | tb_start | omega))
    | fail
  k_with "tb_rel" => first
    | (first
      | with_reducible exact Mine.Sim.nil
      | (refine' Mine.Sim.loc ?v_31 ?a_31 ?b_31 ?r_31; (case a_31 => rfl); (case b_31 => rfl); (case v_31 => rfl); (case r_31 => tb_rel))
      | (refine' Mine.Sim.cell ?c_31 ?m_31 ?d_31 ?a_31 ?b_31 ?r_31; (case a_31 => rfl); (case b_31 => rfl); (case c_31 => rfl); (case m_31 => kst_mem); (case d_31 => k_asm); (case r_31 => tb_rel))
      | (refine' Mine.Sim.str ?r_31; (case r_31 => tb_rel))
      | (refine' Mine.Sim.int ?r_31; (case r_31 => tb_rel)))
    | fail
  k_with "m eval Call" => first
    | (k_here; (with_reducible show wpAny _ _ (eval (Expr.Call (Expr.Name _ _) (_ :: _) [] _) _) _ _ _); k_dflt (refine' Mine.call_sim ?F_32 ?N_32 ?X_32 ?T_32 ?hk_32 ?hx_32 ?hd_32 ?en_32 ?kp_32 ?S_32 ?_; (case F_32 => k_asm); (case N_32 => k_asm); (case X_32 => k_asm); (case T_32 => k_asm); (case hk_32 => rfl); (case hx_32 => rfl); (case hd_32 => rfl); (case en_32 => k_is); (case kp_32 => k_is); (case S_32 => tb_rel); k_whole))
    | fail
  k_with "m eval Tuple" => first
    | (k_here; k_dflt (refine' Mine.tuple_sim ?F_33 ?N_33 ?hk_33 ?S_33 ?hz_33 ?_; (case F_33 => k_asm); (case N_33 => k_asm); (case hk_33 => rfl); (case S_33 => tb_rel); (case hz_33 => exact Nat.le_of_ble_eq_true rfl); k_whole); intro D' h' F' N' l1; (try k_lt l1); (try k_sweep))
    | fail
  k_with "m spliced" => first
    | (k_here; k_dflt (refine' Mine.args_simS ?F_34 ?N_34 ?hk_34 ?S_34 ?_; (case F_34 => k_asm); (case N_34 => k_asm); (case hk_34 => rfl); (case S_34 => tb_rel); k_whole))
    | fail
  k_with "m eval Subscript" => first
    | (k_here; (with_reducible show wpAny _ _ (eval (Expr.Subscript (Expr.Name _ _) (Expr.Constant (Const.int _) _ _) _) _) _ _ _); k_dflt (refine' Mine.sub_sim ?F_35 ?N_35 ?hk_35 ?hx_35 ?hd_35 ?hm_35 ?ht_35 ?hi_35 ?hj_35 ?_ ?hl_35; (case F_35 => k_asm); (case N_35 => k_asm); (case hk_35 => rfl); (case hx_35 => rfl); (case hd_35 => rfl); (case hm_35 => rfl); (case ht_35 => kst_mem); (case hi_35 => rfl); (case hj_35 => rfl); (case hl_35 => exact Nat.le_of_ble_eq_true rfl); k_whole))
    | fail
  k_with "m execs cons" => first
    | (k_here; k_dflt (first
      | ((with_reducible show wpAny _ _ (execs (Stmt.If (Expr.Compare (Expr.Name _ _) [CmpOp.Eq] [Expr.Constant (Const.str _) _ _] _) _ _ _ :: _) _) _ _ _); first
        | (refine' Mine.skip_if ?F_36 ?hk_36 ?hx_36 ?hd_36 ?hm_36 ?hc_36 ?_; (case F_36 => k_asm); (case hk_36 => rfl); (case hx_36 => rfl); (case hd_36 => rfl); (case hm_36 => rfl); (case hc_36 => decide); k_whole)
        | (refine' Mine.take_if ?F_36 ?hk_36 ?hx_36 ?hd_36 ?hm_36 ?hc_36 ?_; (case F_36 => k_asm); (case hk_36 => rfl); (case hx_36 => rfl); (case hd_36 => rfl); (case hm_36 => rfl); (case hc_36 => decide); k_whole))
      | ((with_reducible show wpAny _ _ (execs (Stmt.Assign [Expr.Name _ _] _ _ :: _) _) _ _ _); refine' Mine.assign_one ?_ ?hs_36; (case hs_36 => with_unfolding_all rfl))))
    | fail
  k_with "m call builtin:list.append" => first
    | (k_here; (with_reducible show wpAny _ _ (call (Value.builtin _) (_ ++ _)) _ _ _); simp only [List.cons_append, List.nil_append])
    | fail
  k_with "m call builtin:list.extend" => first
    | (k_here; (with_reducible show wpAny _ _ (call (Value.builtin _) (_ ++ _)) _ _ _); simp only [List.cons_append, List.nil_append])
    | fail
  k_with "m call ref" => first
    | (k_here; (with_reducible show wpAny _ _ (call (Value.ref 87) _) _ _ _); k_dflt (refine' Mine.take_use ?k1_7 ?k2_7 ?k3_7 ?k4_7 ?k5_7 ?k6_7 ?k7_7 ?k8_7 ?k9_7 ?k10_7 ?k11_7 ?k12_7 ?k13_7 ?k14_7 ?_; (case k1_7 => k_asm); (case k2_7 => k_asm); (case k3_7 => k_asm); (case k4_7 => k_asm); (case k5_7 => k_asm); (case k6_7 => first | exact rfl | assumption); (case k7_7 => k_updF); (case k8_7 => assumption); (case k9_7 => assumption); (case k10_7 => assumption); (case k11_7 => omega); (case k12_7 => omega); (case k13_7 => ktr_room); (case k14_7 => ktr_units); k_whole); intro k9 a9 b9 t9 ta9 tb9 h9 tk9 F9 N9 x19 x29 x39 x49 x59; (try dsimp only at N9); (try k_sweep); (try k_fold))
    | fail
  k_with "m call ref" => first
    | (k_here; (with_reducible show wpAny _ _ (call (Value.ref 94) _) _ _ _); k_dflt (refine' Mine.one_use ?k1_10 ?k2_10 ?k3_10 ?k4_10 ?k5_10 ?k6_10 ?k7_10 ?kth_10 ?kne_10 ?kv0_10 ?kv1_10 ?k8_10 ?k9_10 ?k10_10 ?k13_10 ?k14_10 ?_; (case k1_10 => k_asm); (case k2_10 => k_asm); (case k3_10 => k_asm); (case k4_10 => k_asm); (case k5_10 => k_asm); (case k6_10 => first | exact rfl | assumption); (case k7_10 => k_updF); (case kth_10 => k_mem); (case kne_10 => first | assumption | k_ne); (case kv0_10 => first | assumption | (simp only [List.length_cons, List.length_nil]; omega)); (case kv1_10 => first | assumption | (simp only [List.length_cons, List.length_nil]; omega)); (case k8_10 => assumption); (case k9_10 => assumption); (case k10_10 => assumption); (case k13_10 => ktr_room); (case k14_10 => ktr_units); k_whole); intro r9 k9 a9 b9 ta9 tb9 h9 tk9 F9 N9 hv9 hg9 x39 x49 x59; (try dsimp only at N9); (try k_sweep); (try k_fold))
    | fail
  k_with "ktn_lt" => first
    | (first
      | (refine' Mine.Fresh3.of ?f_11 ?a_11 ?b_11 ?c_11; (case f_11 => assumption); (case a_11 => k_mem); (case b_11 => k_mem); (case c_11 => (intro p9 h9; k_mem)))
      | (refine' Mine.Fresh3.app ?_ ?_ <;> ktn_lt))
    | fail
  k_with "ktn_ord" => first
    | (first
      | exact Mine.Rest.nil
      | (refine' Mine.Rest.app _ ?z_12; (case z_12 => ktn_lt))
      | (refine' Mine.Rest.keep ?z_12 ?a_12 ?b_12 ?c_12; (case a_12 => first | (with_reducible refine' Mine.less_allLt ?h_12 ?m_12; (case h_12 => with_reducible assumption); (case m_12 => (intro p9 h9; kst_mem))) | assumption | exact Mine.allLt_left (by assumption)); (case b_12 => first | (with_reducible refine' Mine.less_lt ?h_12 ?m_12; (case h_12 => with_reducible assumption); (case m_12 => kst_mem)) | ((try dsimp only); omega)); (case c_12 => first | (with_reducible refine' Mine.less_lt ?h_12 ?m_12; (case h_12 => with_reducible assumption); (case m_12 => kst_mem)) | ((try dsimp only); omega)); (case z_12 => ktn_ord))
      | (refine' Mine.Rest.drop ?z_12; (case z_12 => ktn_ord)))
    | fail
  k_with "m call ref" => first
    | (k_here; (with_reducible show wpAny _ _ (call (Value.ref 94) _) _ _ _); k_dflt (refine' Mine.oneR_use ?k1_13 ?k2_13 ?k3_13 ?k4_13 ?k5_13 ?k6_13 ?k7_13 ?kth_13 ?kne_13 ?krv_13 ?kv0_13 ?kv1_13 ?k8_13 ?k9_13 ?k10_13 ?k13_13 ?k14_13 ?_; (case k1_13 => k_asm); (case k2_13 => k_asm); (case k3_13 => k_asm); (case k4_13 => k_asm); (case k5_13 => k_asm); (case k6_13 => first | exact rfl | assumption); (case k7_13 => k_updF); (case kth_13 => k_mem); (case kne_13 => first | with_reducible exact Mine.Apart.ne (by with_reducible assumption) | with_reducible assumption | k_ne); (case krv_13 => with_reducible assumption); (case kv0_13 => assumption); (case kv1_13 => assumption); (case k8_13 => assumption); (case k9_13 => assumption); (case k10_13 => assumption); (case k13_13 => ktr_room); (case k14_13 => ktr_units); k_whole); intro r9 q9 a9 b9 ta9 tb9 h9 tk9 hq9 F9 N9 x39 x49 x59; (try dsimp only at N9); (try k_sweep); (try k_fold))
    | fail
  k_with "ktn_open" => first
    | (first
      | (refine' Mine.trIn_due ?h_14 ?e_14 ?s_14; (case h_14 => with_reducible assumption); (case e_14 => first | with_reducible rfl | ((simp only [List.length_append, List.length_cons, List.length_nil, Nat.zero_add]); done) | ((simp only [List.length_append, List.length_cons, List.length_nil, Nat.zero_add]); omega) | omega); (case s_14 => kqd_sub))
      | (refine' Mine.TrIn.mono ?s_14 ?h_14; (case h_14 => with_reducible assumption); (case s_14 => kqd_sub))
      | (with_reducible refine' Mine.TrIn.b ?a0_14; (case a0_14 => kst_mem))
      | (with_reducible refine' Mine.TrIn.i ?a0_14; (case a0_14 => kst_mem))
      | (with_reducible refine' Mine.TrIn.p ?a0_14; (case a0_14 => kst_mem))
      | (with_reducible refine' Mine.TrIn.nv ?a0_14; (case a0_14 => kst_mem))
      | (with_reducible refine' Mine.TrIn.inf ?a0_14; (case a0_14 => kst_mem))
      | (with_reducible refine' Mine.TrIn.ref ?a0_14 ?a1_14 ?a2_14; (case a0_14 => kst_mem); (case a1_14 => ked_reads); (case a2_14 => ktn_open))
      | (with_reducible refine' Mine.TrIn.box ?a0_14 ?a1_14; (case a0_14 => kst_mem); (case a1_14 => ktn_open))
      | (with_reducible refine' Mine.TrIn.arr ?a0_14 ?a1_14; (case a0_14 => kst_mem); (case a1_14 => ktn_open))
      | (with_reducible refine' Mine.TrIn.tup0 ?a0_14 ?a1_14; (case a0_14 => kst_mem); (case a1_14 => kst_mem))
      | (with_reducible refine' Mine.TrIn.tup1 ?a0_14 ?a1_14 ?a2_14; (case a0_14 => kst_mem); (case a1_14 => kst_mem); (case a2_14 => ktn_open))
      | (with_reducible refine' Mine.TrIn.tup2 ?a0_14 ?a1_14 ?_ ?_; (case a0_14 => kst_mem); (case a1_14 => kst_mem); all_goals ktn_open)
      | (with_reducible refine' Mine.TrIn.adt0 ?a0_14 ?a1_14 ?a2_14 ?a3_14 ?a4_14; (case a0_14 => kst_mem); (case a1_14 => kst_mem); (case a2_14 => ked_reads); (case a3_14 => exact Nat.le_of_ble_eq_true rfl); (case a4_14 => kst_mem))
      | (with_reducible refine' Mine.TrIn.adt1 ?a0_14 ?a1_14 ?a2_14 ?a3_14 ?a4_14 ?a5_14; (case a0_14 => kst_mem); (case a1_14 => kst_mem); (case a2_14 => ked_reads); (case a3_14 => exact Nat.le_of_ble_eq_true rfl); (case a4_14 => kst_mem); (case a5_14 => ktn_open))
      | (with_reducible refine' Mine.TrIn.adt2 ?a0_14 ?a1_14 ?a2_14 ?a3_14 ?a4_14 ?_ ?_; (case a0_14 => kst_mem); (case a1_14 => kst_mem); (case a2_14 => ked_reads); (case a3_14 => exact Nat.le_of_ble_eq_true rfl); (case a4_14 => kst_mem); all_goals ktn_open))
    | fail
  k_with "ked_reads" => first
    | (first
      | with_reducible exact Mine.RV.none
      | (with_reducible refine' Mine.RV.str _ _ ?e_15; (case e_15 => decide +kernel))
      | with_reducible exact Mine.RVs.nil
      | (with_reducible refine' Mine.RVs.cons ?ca_15 ?cb_15; (case ca_15 => ked_reads); (case cb_15 => ked_reads))
      | with_reducible assumption
      | (with_reducible refine' Mine.RVs.append ?pa_15 ?pb_15; (case pa_15 => ked_reads); (case pb_15 => ked_reads))
      | (with_reducible refine' Mine.RV.int' ?e_15; (case e_15 => first | with_reducible rfl | ((simp only [List.length_append, List.length_cons, List.length_nil, Nat.zero_add]); done) | ((simp only [List.length_append, List.length_cons, List.length_nil, Nat.zero_add]); omega) | omega)))
    | fail
  k_with "m call ref" => first
    | (k_here; (with_reducible show wpAny _ _ (call (Value.ref 99) _) _ _ _); k_dflt (refine' Mine.tw_use ?kC_16 ?k1_16 ?k2_16 ?k3_16 ?k4_16 ?k5_16 ?k6_16 ?k7_16 ?kU2_16 ?ksa_16 ?kth_16 ?kne_16 ?kne2_16 ?krv_16 ?kv0_16 ?kv1_16 ?k8_16 ?k9_16 ?k10_16 ?kvs_16 ?klen_16 ?kdv_16 ?k13_16 ?k14_16 ?_; (case kC_16 => with_reducible assumption); (case k1_16 => k_asm); (case k2_16 => k_asm); (case k3_16 => k_asm); (case k4_16 => k_asm); (case k5_16 => k_asm); (case k6_16 => first | exact rfl | assumption); (case k7_16 => k_updF); (case kU2_16 => intro o9; k_updF); (case ksa_16 => first | with_reducible exact Mine.Apart.ne (by with_reducible assumption) | with_reducible assumption | k_ne); (case kth_16 => k_mem); (case kne_16 => first | with_reducible exact Mine.Apart.ne (by with_reducible assumption) | with_reducible assumption | k_ne); (case kne2_16 => first | with_reducible exact Mine.Apart.ne (by with_reducible assumption) | with_reducible assumption | k_ne); (case krv_16 => first | with_reducible assumption | ked_reads); (case kv0_16 => first | assumption | exact Nat.le_of_ble_eq_true rfl); (case kv1_16 => first | assumption | exact Nat.le_of_ble_eq_true rfl); (case k8_16 => assumption); (case k9_16 => assumption); (case k10_16 => assumption); (case kvs_16 => ked_reads); (case klen_16 => first | decide | ((try simp only [List.length_append, List.length_cons, List.length_nil, Nat.pow_succ] at *); omega)); (case kdv_16 => omega); (case k13_16 => ktr_room); (case k14_16 => ktr_units); k_whole); intro p9 told9 due9 t9 a9 b9 ta9 tb9 tl9 xs9 nk9 np9 h9 tk9 F9 N9 x19 x29 x39 hp9 ht9 hd9 hx9 hvx9 hxl9 hh9 hl9 hf9; (try dsimp only at N9); (try simp only [List.cons_append, List.nil_append, List.append_assoc] at N9); (try simp only [List.append_assoc] at hvx9); (try k_sweep); (try k_fold))
    | fail
  k_with "tb_start" => first
    | (first
      | (with_reducible refine' Mine.off_I ?h_17 ?m_17; (case h_17 => with_reducible assumption); (case m_17 => kst_mem))
      | (with_reducible refine' Mine.off_C ?h_17 ?m_17; (case h_17 => with_reducible assumption); (case m_17 => kst_mem))
      | (with_reducible refine' Mine.off_D ?h_17 ?m_17; (case h_17 => with_reducible assumption); (case m_17 => kst_mem))
      | (with_reducible refine' Mine.of_I ?h_17 ?m_17; (case h_17 => with_reducible assumption); (case m_17 => kst_mem))
      | (with_reducible refine' Mine.of_C ?h_17 ?m_17; (case h_17 => with_reducible assumption); (case m_17 => kst_mem))
      | (with_reducible refine' Mine.of_D ?h_17 ?m_17; (case h_17 => with_reducible assumption); (case m_17 => kst_mem)))
    | fail
  k_with "m call builtin:list.append" => first
    | (k_here; (with_reducible show wpAny _ _ (call (Value.builtin _) [Value.ref _, _]) _ _ _); k_dflt (refine' Mine.append_L ?k1_18 ?k2_18 ?k3_18 ?z_18 ?_; (case k1_18 => k_asm); (case k2_18 => k_asm); (case k3_18 => k_updF); (case z_18 => ((try simp only [List.length_append, List.length_cons, List.length_nil]); omega)); k_whole); intro h' F' N'; (try dsimp only at N'); (try simp only [List.append_assoc, List.cons_append, List.nil_append] at N'); (try k_sweep))
    | fail
  k_with "m call builtin:len" => first
    | (k_here; (with_reducible show wpAny _ _ (call (Value.builtin "len") [Value.ref _]) _ _ _); k_dflt (refine' Mine.len_at ?k1_19 ?k2_19 ?k3_19 ?_; (case k1_19 => k_asm); (case k2_19 => kst_mem); (case k3_19 => ((try simp only [List.length_append, List.length_cons, List.length_nil]); omega)); k_whole))
    | fail
  k_with "lcg_off" => first
    | (first
      | assumption
      | (refine' Mine.off3_fresh ?f_20 ?a_20 ?b_20 ?c_20; (case f_20 => assumption); (case a_20 => kst_mem); (case b_20 => kst_mem); (case c_20 => kst_mem))
      | (refine' Mine.off3_app ?_ ?_ <;> lcg_off)
      | (refine' Mine.off3_sub ?a_20 ?b_20; (case a_20 => assumption); (case b_20 => (intro p9 h9; kst_mem))))
    | fail
  k_with "lcg_sub" => first
    | (first
      | (with_reducible refine' Mine.Out3.outI ?z_21; (case z_21 => lcg_sub))
      | (with_reducible refine' Mine.Out3.outC ?z_21; (case z_21 => lcg_sub))
      | (with_reducible refine' Mine.Out3.outD ?z_21; (case z_21 => lcg_sub))
      | (with_reducible refine' Mine.Out3.keep ?a_21 ?b_21 ?c_21 ?z_21; (case a_21 => k_ne); (case b_21 => k_ne); (case c_21 => k_ne); (case z_21 => lcg_sub))
      | (with_reducible refine' Mine.Out3.tail _ ?z_21; (case z_21 => lcg_off)))
    | fail
  k_with "m CompEnd" => first
    | (k_here; k_dflt (refine' Mine.comp_end ?F_22 ?N_22 ?m1_22 ?m2_22 ?m3_22 ?o_22 ?s_22 ?_; (case F_22 => k_asm); (case N_22 => k_asm); (case m1_22 => kst_mem); (case m2_22 => kst_mem); (case m3_22 => kst_mem); (case o_22 => lcg_sub); (case s_22 => lcg_src); k_whole))
    | fail
  k_with "m CompRest" => first
    | ((try simp only [List.nil_append, List.cons_append]); with_unfolding_all first
      | (refine LCg.CompRest.succ ?_; intro v' I' oI' C' oC' D' m' h' tk' E' hv' hC' hx' F' N' off' ne'; (first | lcg_open hv' | (obtain ⟨t9', hv9'⟩ := hv'; subst hv9')); have n19 : Mine.Apart _ _ := ne'.1; have n29 : Mine.Apart _ _ := ne'.2.1; have n39 : Mine.Apart _ _ := ne'.2.2; clear ne')
      | refine LCg.CompRest.zero ?_)
    | fail
  k_with "m eval ListComp" => first
    | (k_here; k_dflt (refine LCg.ListComp_U (F₀ := by k_asm) (by rfl) (by decide) (by rfl) (by decide) (by rfl) ?_))
    | fail
  k_with "m exec Assign cons ListComp" => first
    | (k_here; k_dflt (refine LCg.Assign_ListComp_U (F₀ := by k_asm) (by rfl) (by with_unfolding_all rfl) (by rfl) (by decide) (by rfl) (by decide) (by rfl) (by rfl) (by rfl) ?_))
    | fail
  k_with "m CompSrc" => first
    | (k_here; k_dflt (first
      | (refine LCg.CompSrc.ledger (by rfl) (by k_asm) (by k_asm) (by kst_mem) (by first | size_fits | exact Nat.le_of_ble_eq_true rfl) ?_; intro g'; lcg_lit)
      | (refine LCg.CompSrc.range (by rfl) (by k_asm) (by k_asm) (by assumption) (by first | decide | rfl) (by first | rfl | decide) (by first | size_fits | exact Nat.le_of_ble_eq_true rfl) ?_; intro g'; lcg_lit)))
    | fail
  k_with "k_subL" => first
    | (first
      | (with_reducible refine' Mine.Out1.out ?z_27; (case z_27 => k_subL))
      | (with_reducible refine' Mine.Out1.keep ?a_27 ?z_27; (case a_27 => k_ne); (case z_27 => k_subL))
      | (with_reducible refine' Mine.Out1.tail _ ?z_27; (case z_27 => k_all)))
    | fail
  k_with "m UnrEnd" => first
    | (k_here; k_dflt (refine' Mine.unr_end ?F_28 ?N_28 ?m1_28 ?o_28 ?_; (case F_28 => k_asm); (case N_28 => k_asm); (case m1_28 => kst_mem); (case o_28 => k_subL); k_whole))
    | fail
  k_with "m subscriptTail" => first
    | (k_here; (with_reducible show wpAny _ _ (subscriptTail _ _ (Value.ref _) (Value.int _ _)) _ _ _); k_dflt (refine' item_tupleT ?t_29 ?a_29 ?b_29 ?c_29 ?d_29 ?_; (case t_29 => refine' News.isTup ?N_29 ?m_29; (case N_29 => k_asm); (case m_29 => kst_mem)); (case a_29 => decide); (case b_29 => decide); (case c_29 => rfl); (case d_29 => rfl); k_whole))
    | fail
  k_with "m subscriptTail Name Constant ref int" => first
    | (k_here; (with_reducible show wpAny _ _ (subscriptTail _ _ (Value.ref _) (Value.int _ _)) _ _ _); k_dflt (refine' item_tupleT ?t_30 ?a_30 ?b_30 ?c_30 ?d_30 ?_; (case t_30 => refine' News.isTup ?N_30 ?m_30; (case N_30 => k_asm); (case m_30 => kst_mem)); (case a_30 => decide); (case b_30 => decide); (case c_30 => rfl); (case d_30 => rfl); k_whole))
    | fail
  k_with "m call ref" => first
    | (k_here; k_dflt (refine' Mine.turn_use ?kC_39 ?k1_39 ?k2_39 ?k3_39 ?k4_39 ?k5_39 ?k6_39 ?k7_39 ?kF_39 ?kF2_39 ?klen_39 ?k13_39 ?k14_39 ?_; (case kC_39 => with_reducible assumption); (case k1_39 => k_asm); (case k2_39 => k_asm); (case k3_39 => k_asm); (case k4_39 => k_asm); (case k5_39 => k_asm); (case k6_39 => first | exact rfl | assumption); (case k7_39 => k_updF); (case kF_39 => (refine' Mine.sub_in ?h_39 ?k_39; (case h_39 => with_reducible assumption); (case k_39 => (intro p9 h9; kst_mem)))); (case kF2_39 => with_reducible assumption); (case klen_39 => ((try simp only [List.length_append, List.length_cons, List.length_nil]); omega)); (case k13_39 => ktr_room); (case k14_39 => ktr_units); k_whole); intro t9 n9 h9 tk9 F9 N9; (try dsimp only at N9); (try simp only [List.cons_append, List.nil_append, List.append_assoc] at N9); (try k_sweep); (try k_fold))
    | fail
  k_with "m call ref" => first
    | (k_here; (with_reducible show wpAny _ _ (call (Value.ref 59) _) _ _ _); k_dflt (refine' Mine.td_use ?kC_40 ?kCt_40 ?kCq_40 ?k1_40 ?k2_40 ?k3_40 ?k4_40 ?k5_40 ?k6_40 ?k7_40 ?kF_40 ?kF2_40 ?kT_40 ?kT2_40 ?kv_40 ?klen_40 ?k13_40 ?k14_40 ?_; (case kCt_40 => with_reducible assumption); (case kCq_40 => with_reducible assumption); (case kv_40 => with_reducible assumption); (case kC_40 => with_reducible assumption); (case k1_40 => k_asm); (case k2_40 => k_asm); (case k3_40 => k_asm); (case k4_40 => k_asm); (case k5_40 => k_asm); (case k6_40 => first | exact rfl | assumption); (case k7_40 => k_updF); (case kF_40 => (refine' Mine.sub_in ?h_40 ?k_40; (case h_40 => with_reducible assumption); (case k_40 => (intro p9 h9; kst_mem)))); (case kF2_40 => with_reducible assumption); (case kT_40 => (refine' Mine.sub_in ?h_40 ?k_40; (case h_40 => with_reducible assumption); (case k_40 => (intro p9 h9; kst_mem)))); (case kT2_40 => with_reducible assumption); (case klen_40 => ((try simp only [List.length_append, List.length_cons, List.length_nil]); omega)); (case k13_40 => ktr_room); (case k14_40 => ktr_units); k_whole); intro r9 tl9 xs9 n9 h9 tk9 F9 N9 hd9 hx9 hxl9 hf9; (try dsimp only at N9); (try simp only [List.cons_append, List.nil_append, List.append_assoc] at N9); (try k_sweep); (try k_fold))
    | fail
  k_with "m callWith ref" => first
    | (k_here; k_dflt (first
      | (refine' callWith_F ?k1_41 ?_; (case k1_41 => exact FnAt.of (by k_asm) (by kst_mem)); k_whole)
      | (refine' callWith_F0 ?k1_41 ?_; (case k1_41 => exact FnAt.of (by k_asm) (by kst_mem)); k_whole; try dsimp only [List.nil_append, List.cons_append])))
    | fail
  k_with "k_all" => first
    | (first
      | exact Mine.allLt_ne1 (by assumption)
      | exact Mine.allLt_ne2 (by assumption)
      | exact Mine.allLt_ne3 (by assumption))
    | fail
  k_with "m compareOp Eq ref ref" => first
    | (k_here; (with_reducible show wpAny _ _ (compareOp CmpOp.Eq _ _) _ _ _); k_dflt (refine' Mine.tree_eq ?N_99 ?hT_99 ?hT2_99 ?a_99 ?b_99 ?hh_99 ?hu_99 ?_; (case N_99 => k_asm); (case a_99 => with_reducible assumption); (case b_99 => with_reducible assumption); (case hT_99 => kqd_sub); (case hT2_99 => kqd_sub); (case hh_99 => omega); (case hu_99 => ktr_units); k_whole))
    | fail
  k_with "m eval Lambda" => first
    | (k_here; kn_here; k_dflt (refine' kla_eval ?d0_87 ?_; (case d0_87 => exact rfl)); k_dflt (refine' Mine.lamAny ?F_87 ?N_87 ?T_87 ?C_87 ?cd_87 ?U_87 ?ok_87 ?cl_87 ?_; (case F_87 => k_asm); (case N_87 => k_asm); (case T_87 => k_asm); (case cd_87 => exact rfl); (case C_87 => kn_code); (case U_87 => k_updF); (case ok_87 => exact Mine.TabOk.mono (by assumption) (by kqd_sub)); (case cl_87 => exact rfl); k_whole); intro f' c' oc' vs' t' ct' h' tk' tl' ps' F' N' m1' m2' d1' d2' go' lt'; (try dsimp only at N' m2'); (try simp only [List.cons_append, List.nil_append, List.append_assoc] at N'))
    | fail
  k_with "m call ref" => first
    | (k_here; kn_here; (with_reducible show wpAny _ _ (call (Value.ref _) [] _) _ _ _); k_dflt (refine wpAny_call ?_; (refine' kla_code ?k1_88 ?k2_88 ?k3_88 ?k4_88 ?k5_88 ?kA_88 ?kF_88 ?kK_88 ?k6_88 ?k7_88 ?k8_88 ?k9_88 ?kB_88 ?_ ?c2_88 ?c3_88 ?c4_88 ?c5_88; (case kA_88 => exact rfl); (case kF_88 => exact rfl); (case kK_88 => exact rfl); (case k1_88 => k_asm); (case k2_88 => k_asm); (case k3_88 => k_asm); (case k4_88 => k_asm); (case k5_88 => k_asm); (case k6_88 => kst_mem); (case k7_88 => exact codeRec_news (by k_asm) (Mine.mem_sub (by assumption) (by kqd_sub)) (by assumption) (by assumption)); (case k8_88 => ktr_room); (case k9_88 => exact rfl); (case c5_88 => decide); (case kB_88 => exact locs rfl); (case c2_88 => exact rfl); (case c3_88 => exact rfl); (case c4_88 => exact rfl); k_whole; intro g' L' h' FG' F' N' B' X' T'; (try dsimp only); (try k_fold))))
    | fail
  k_with "m getAttr ref" => first
    | (k_here; (with_reducible show wpAny _ _ (getAttr (Value.ref _) (Str.ofString "message") _) _ _ _); k_dflt (refine' Mine.nf_getM ?F_89 ?X_89 ?N_89 ?m_89 ?d_89 ?_; (case F_89 => k_asm); (case X_89 => k_asm); (case N_89 => k_asm); (case m_89 => kst_mem); (case d_89 => kst_mem); k_whole))
    | fail
  k_with "m getAttr ref" => first
    | (k_here; (with_reducible show wpAny _ _ (getAttr (Value.ref _) (Str.ofString "spot") _) _ _ _); k_dflt (refine' Mine.nf_getS ?F_90 ?X_90 ?N_90 ?m_90 ?d_90 ?_; (case F_90 => k_asm); (case X_90 => k_asm); (case N_90 => k_asm); (case m_90 => kst_mem); (case d_90 => kst_mem); k_whole))
    | fail
  k_with "ktr_rel" => first
    | (first
      | with_reducible assumption
      | with_reducible exact Mine.RVs.nil
      | (with_reducible refine' Mine.RVs.cons ?a_91 ?b_91; (case a_91 => first | with_reducible assumption | with_reducible exact Mine.RV.none | with_reducible exact Mine.RV.int _ _ | (with_reducible refine' Mine.RV.str _ _ ?e_91; (case e_91 => first | assumption | exact Mine.noName_ok (by assumption) | decide +kernel))); (case b_91 => ktr_rel)))
    | fail
  k_with "m compareOp Eq ref ref" => first
    | (k_here; k_dflt (first
      | (refine' Mine.rv_eqT ?N_92 ?a_92 ?b_92 ?x_92 ?y_92 ?u_92 ?_; (case N_92 => k_asm); (case a_92 => kst_mem); (case b_92 => kst_mem); (case x_92 => ktr_rel); (case y_92 => ktr_rel); (case u_92 => ktr_units); k_whole)
      | (refine' Mine.rv_eqL ?N_92 ?a_92 ?b_92 ?x_92 ?y_92 ?u_92 ?_; (case N_92 => k_asm); (case a_92 => kst_mem); (case b_92 => kst_mem); (case x_92 => ktr_rel); (case y_92 => ktr_rel); (case u_92 => ktr_units); k_whole)))
    | fail
  trivial
theorem Tr.num_ht : ∀ (t : Tr) (n : Nat), (t.num n).ht = t.ht := by
  intro t
  induction t with
  | b => intro _; rfl
  | i => intro _; rfl
  | p => intro _; rfl
  | nv => intro _; rfl
  | inf => intro _; rfl
  | ref r m x ih => intro n; simp only [Tr.num, Tr.ht, ih]
  | box x ih => intro n; simp only [Tr.num, Tr.ht, ih]
  | arr x k ih => intro n; simp only [Tr.num, Tr.ht, ih]
  | tup0 => intro _; rfl
  | tup1 x ih => intro n; simp only [Tr.num, Tr.ht, ih]
  | tup2 x y ih ih2 => intro n; simp only [Tr.num, Tr.ht, ih, ih2]
  | adt0 rs => intro _; rfl
  | adt1 rs x ih => intro n; simp only [Tr.num, Tr.ht, ih]
  | adt2 rs x y ih ih2 => intro n; simp only [Tr.num, Tr.ht, ih, ih2]
theorem at0 {T : List (Addr × Obj)} {v : Value} {t : Tr} (h : ∀ k, k = ([] : List Value).length → TrIn T v (t.num k)) : TrIn T v (t.num 0) := h 0 rfl
theorem td_made {w : World} {mean : ExcName → Option Value} {mg mb : Str → Option Value} {dp un : Nat} {gd : Option (List Code)} {cn : Str} {cs : Scope} {ca : Addr} {ccd : Value} {cl : List (Str × Addr)} {outer : List Env} {A₀ : Around} {base h₀ : Heap} {L : Addr} {m : Str → Option Value} {s : Shared} {Q E : Value → Shared → Prop}
    {t : Tr} {q hrd c' ce : Addr} {T' : List (Addr × Obj)} {v : Value} {hs : List Value} {n : Nat} {l : List (Addr × Obj)} {g : Obj → List (Addr × Obj)} {oc : Value} {od : Option Addr} {fd : FuncData} {sl : Array (Option Value)} {oc' oC : Obj} {vs : Array Value} {tk : Tok} {qual : Str}
    (mq : (q, (⟨oc, od, .func fd, sl⟩ : Obj)) ∈ l) (d1 : oc'.data = .fields vs) (d2 : vs[1]? = some (.str qual tk)) (mc : (c', oc') ∈ l) (d3 : oC.data = .cell (some (.ref hrd))) (me : (ce, oC) ∈ l) (n1 : @Ne Nat q hrd) (n2 : @Ne Nat c' hrd) (n3 : @Ne Nat ce hrd)
    (Ct : oc'.data = .fields vs → vs[1]? = some (.str qual tk) → oC.data = .cell (some (.ref hrd)) → TurnSpec w mean mg mb q hrd [(q, (⟨oc, od, .func fd, sl⟩ : Obj)), (c', oc'), (ce, oC)])
    (B : Below A₀ base outer h₀) (F : Fr h₀ L s.heap m) (X : (hd.heap_1 w.params).In h₀) (N : News h₀ L s.heap l) (T : Top topProg (looseW view [Str.ofString "LendError"] ++ (recsOf view).map (·.name) ++ (litsOf view).map (·.1) ++ (clssOf view (looseW view [Str.ofString "LendError"])).map (·.name)) mean mg mb h₀) (hk : cs.kind = .function)
    (U : UpdF hrd (listOf hs.toArray n) l g) (hT : ∀ p ∈ T', p ∈ l) (hT2 : ∀ p ∈ T', p.1 ≠ hrd) (hv : TrIn T' v t) (hlen : hs.length + t.regs.length < 1000) (hd : dp + (t.ht + 4) < recursionLimit) (hu : un + (80 + 30 * t.ht) < cLine)
    (ret : ∀ r tl xs n' h' tk', Fr h₀ L h' m → News h₀ L h' (g (listOf (hs ++ xs).toArray n') ++ tl) → (∀ k, k = hs.length → TrIn (T' ++ tl) r (t.num k)) → RVs xs t.regs → xs.length = t.regs.length → (∀ q ∈ l, ∀ p ∈ tl, q.1 < p.1) → Q r { s with heap := h', toks := tk' }) :
    wpAny (model PySem.Challenge.rw_xm0577_01.row.prog w) (ktrTop dp un gd cn cs L ca ccd cl outer) (call (.ref 59) [v, .ref q]) Q E s :=
  td_use (td_all t) (Ct d1 d2 d3) (.head _) B F X N T hk U (fun p hp => by
    rcases List.mem_cons.mp hp with rfl | hp
    · exact mq
    rcases List.mem_cons.mp hp with rfl | hp
    · exact mc
    rcases List.mem_cons.mp hp with rfl | hp
    · exact me
    · cases hp) (fun p hp => by
    rcases List.mem_cons.mp hp with rfl | hp
    · exact n1
    rcases List.mem_cons.mp hp with rfl | hp
    · exact n2
    rcases List.mem_cons.mp hp with rfl | hp
    · exact n3
    · cases hp) hT hT2 hv hlen hd hu ret
theorem ne_of_data {N : List (Addr × Obj)} {h₀ h : Heap} {L a b : Addr} {o o' : Obj} (X : News h₀ L h N) (ha : (a, o) ∈ N) (hb : (b, o') ∈ N) (hne : o ≠ o') : @Ne Nat a b := fun e => hne (by
  have e' : a = b := e
  have := (X _ ha).1
  rw [show (a, o).1 = b from e', (X _ hb).1] at this
  exact (Option.some.inj this).symm)
theorem ne_fresh {l tl : List (Addr × Obj)} {a b : Addr} {o o' : Obj} (h : ∀ q ∈ l, ∀ p ∈ tl, q.1 < p.1) (hq : (b, o') ∈ l) (hp : (a, o) ∈ tl) : @Ne Nat a b := Nat.ne_of_gt (h _ hq _ hp)
theorem len_at2 {prog : Program} {w : World} {A : Around} {E : Value → Shared → Prop} {s : Shared} {h₀ : Heap} {L th : Addr} {news : List (Addr × Obj)} {vs : List Value} {n : Nat} {Q : Value → Shared → Prop} (N : News h₀ L s.heap news) (hm : (th, listOf vs.toArray n) ∈ news) (hs : vs.length < 2000)
    (h : Q (.int (vs.length : Nat) (s.toks + 1)) { s with toks := s.toks + 1 + 1 }) : wpAny (model prog w) A (call (.builtin "len") [.ref th]) Q E s := by
  have e : vs.toArray.size = vs.length := by simp
  refine Calls.call_len_list (PySem.IsL.isList (n := n) (N _ hm).1) (by omega) ?_
  rw [e]
  exact h
abbrev qTurn : Str := Str.ofString "_law_turned_right" ++ ".<locals>." ++ Str.ofString "turn"
section
theorem words_40 : True := by
  k_with "ktr_step" => first
    | (
        (repeat (rename News _ _ _ _ => zz; clear zz)); (repeat (rename Fr _ _ _ _ => zz; clear zz)); (repeat (rename Below _ _ _ _ => zz; clear zz)); (repeat (rename Frag.In _ _ => zz; clear zz)); (repeat (rename Top _ _ _ _ _ _ => zz; clear zz));
        intro hd1 hd2 hd3 v hs n R0 hFx hR0 hlen;
        (have m1 := hFx _ (List.Mem.head _)); (have m2 := hFx _ (List.Mem.tail _ (List.Mem.head _))); (have m3 := hFx _ (List.Mem.tail _ (List.Mem.tail _ (List.Mem.head _)))); clear hFx;
        unfold Spec; intro dp un gd cn cs ca ccd cl outer A₀ base h₀ L m s Q E B F X N T hk hd hu hret;
        refine wpAny_call ?_;
        k_dflt (refine' code_nest ?k1_100 ?k2_100 ?k3_100 ?k4_100 ?k5_100 ?kA_100 ?kF_100 ?kK_100 ?k6_100 ?k7_100 ?k8_100 ?k9_100 ?kB_100 ?_ ?c2_100 ?c3_100 ?c4_100 ?c5_100; (case kA_100 => exact rfl); (case kF_100 => exact rfl); (case kK_100 => assumption); (case k1_100 => k_asm); (case k2_100 => k_asm); (case k3_100 => k_asm); (case k4_100 => k_asm); (case k5_100 => k_asm); (case k6_100 => kst_mem); (case k7_100 => exact codeRec_news (by k_asm) (by kst_mem) hd1 hd2); (case k8_100 => ktr_room); (case k9_100 => exact BindsTo.of_eq rfl); (case c5_100 => decide); (case kB_100 => exact locs rfl); (case c2_100 => exact rfl); (case c3_100 => exact rfl); (case c4_100 => exact rfl); k_whole; intro g' L' h' FG' F' N' B' X' T'; (try dsimp only); (try k_fold));
        k_steps;
        refine hret _ _ _ _ (by k_asm) (by k_asm) ⟨_, _, by rw [List.length_append]; rfl, rfl⟩)
    | fail
  k_with "m exec FunctionDef" => first
    | (k_here; kn_here; k_dflt (refine' nestDef_K ?d0_101 ?k0_101 ?a0_101 ?_; (case d0_101 => exact rfl); (case k0_101 => exact rfl); (case a0_101 => exact rfl)); k_dflt (refine' Mine.nestAny ?F_101 ?N_101 ?T_101 ?C_101 ?cd_101 ?U_101 ?ok_101 ?cl_101 ?_; (case F_101 => k_asm); (case N_101 => k_asm); (case T_101 => k_asm); (case cd_101 => exact rfl); (case C_101 => kn_code); (case U_101 => k_updF); (case ok_101 => exact Mine.TabOk.mono (qual := Mine.qTurn) (by assumption) (by kqd_sub)); (case cl_101 => exact rfl); k_whole); intro f' c' oc' vs' t' ct' dc' h' tk' tl' ps' F' N' m1' m2' d1' d2' go' lt'; (try dsimp only at N' m2'); (try simp only [List.cons_append, List.nil_append, List.append_assoc] at N'))
    | fail
  k_with "m call ref" => first
    | (k_here; (with_reducible show wpAny _ _ (call (Value.ref 59) _) _ _ _); k_dflt (refine' Mine.td_made ?mq_102 ?d1_102 ?d2_102 ?mc_102 ?d3_102 ?me_102 ?n1_102 ?n2_102 ?n3_102 ?kCt_102 ?k1_102 ?k2_102 ?k3_102 ?k4_102 ?k5_102 ?k6_102 ?k7_102 ?kT_102 ?kT2_102 ?kv_102 ?klen_102 ?k13_102 ?k14_102 ?_; (case k1_102 => k_asm); (case k2_102 => k_asm); (case k3_102 => k_asm); (case k4_102 => k_asm); (case k5_102 => k_asm); (case k6_102 => first | exact rfl | assumption); (case mq_102 => kst_mem); (case d1_102 => assumption); (case d2_102 => assumption); (case mc_102 => exact Mine.mem_sub (by assumption) (by kqd_sub)); (case d3_102 => assumption); (case me_102 => kst_mem); (case k7_102 => k_updF); (case n1_102 => (refine' Mine.ne_fresh ?h_102 ?q_102 ?p_102; (case p_102 => with_reducible assumption); (case h_102 => assumption); (case q_102 => kst_mem))); (case n2_102 => exact Mine.ne_of_data (by k_asm) (Mine.mem_sub (by assumption) (by kqd_sub)) (by kst_mem) (by intro e9; rename (Obj.data _ = Data.fields _) => d9; rw [e9] at d9; cases d9)); (case n3_102 => first | k_ne | omega); (case kv_102 => with_reducible assumption); (case kT_102 => kqd_sub); (case kT2_102 => k_all); (case klen_102 => ((try simp only [List.length_nil]); omega)); (case k13_102 => ktr_room); (case k14_102 => ktr_units); (case kCt_102 => ktr_step); k_whole); intro r9 tl9 xs9 n9 h9 tk9 F9 N9 hd9 hx9 hxl9 hf9; (try dsimp only at N9); (try simp only [List.cons_append, List.nil_append, List.append_assoc] at N9); (try k_sweep); (try k_fold))
    | fail
  k_with "m call builtin:len" => first
    | (k_here; (with_reducible show wpAny _ _ (call (Value.builtin "len") [Value.ref _]) _ _ _); k_dflt (refine' Mine.len_at2 ?k1_103 ?k2_103 ?k3_103 ?_; (case k1_103 => k_asm); (case k2_103 => kst_mem); (case k3_103 => ((try simp only [List.length_append, List.length_cons, List.length_nil]); omega)); k_whole))
    | fail
  k_with "m compareOp Eq" => first
    | (k_here; k_dflt (refine' Mine.tree_eq ?N_104 ?hT_104 ?hT2_104 ?a_104 ?b_104 ?hh_104 ?hu_104 ?_; (case N_104 => k_asm); (case a_104 => exact Mine.at0 (by assumption)); (case b_104 => exact Mine.at0 (by assumption)); (case hT_104 => kqd_sub); (case hT2_104 => kqd_sub); (case hh_104 => rw [Mine.Tr.num_ht]; omega); (case hu_104 => ktr_units); k_whole))
    | fail
  k_with "m compareOp Eq ref ref" => first
    | (k_here; k_dflt (first
      | (refine' Mine.tree_eq ?N_105 ?hT_105 ?hT2_105 ?a_105 ?b_105 ?hh_105 ?hu_105 ?_; (case N_105 => k_asm); (case a_105 => exact Mine.at0 (by assumption)); (case b_105 => exact Mine.at0 (by assumption)); (case hT_105 => kqd_sub); (case hT2_105 => kqd_sub); (case hh_105 => rw [Mine.Tr.num_ht]; omega); (case hu_105 => ktr_units); k_whole)
      | (refine' Mine.rv_eqL ?N_105 ?a_105 ?b_105 ?x_105 ?y_105 ?u_105 ?_; (case N_105 => k_asm); (case a_105 => kst_mem); (case b_105 => kst_mem); (case x_105 => ktr_rel); (case y_105 => ktr_rel); (case u_105 => ktr_units); k_whole)))
    | fail
  trivial
theorem tr_any {w : World} {mean : ExcName → Option Value} {mg mb : Str → Option Value} (IT : TwSpec w mean mg mb 3) {dp un : Nat} {gd : Option (List Code)} {cn : Str} {cs : Scope} {ca : Addr} {ccd : Value} {cl : List (Str × Addr)} {outer : List Env} {A₀ : Around} {base h₀ : Heap} {L : Addr} {m : Str → Option Value} {s : Shared} {Q E : Value → Shared → Prop}
    {src : Addr} {a b : Int} {ta tb : Tok} {n : Nat} {ps : Array Value} {R : List (Addr × Obj)}
    (B : Below A₀ base outer h₀) (F : Fr h₀ L s.heap m) (X : (hd.heap_1 w.params).In h₀) (hC : CodeHd base 105 101) (N : News h₀ L s.heap ((src, srcObj a b ta tb n) :: (101, tabObj ps) :: R)) (hR : ∀ p ∈ R, p.1 ≠ src) (hR2 : ∀ p ∈ R, p.1 ≠ 101) (hsa : Apart src 101) (ok : TabOk 98 4 qTurn R ps) (ha : 0 ≤ a) (hb : 0 ≤ b) (hb2 : b < 2147483647)
    (T : Top topProg (looseW view [Str.ofString "LendError"] ++ (recsOf view).map (·.name) ++ (litsOf view).map (·.1) ++ (clssOf view (looseW view [Str.ofString "LendError"])).map (·.name)) mean mg mb h₀) (hk : cs.kind = .function) (hd : dp + 20 < recursionLimit) (hu : un + 500 < cLine)
    (ret : ∀ a' b' ta' tb' ps' tl h' tk', Fr h₀ L h' m → News h₀ L h' ((src, srcObj a' b' ta' tb' n) :: (101, tabObj ps') :: (R ++ tl)) → 0 ≤ a' → 0 ≤ b' → b' < 2147483647 → TabGo 98 4 qTurn tl ps ps' → (∀ q ∈ R, ∀ p ∈ tl, q.1 < p.1) → (∀ p ∈ tl, @LT.lt Nat _ src p.1) → (∀ p ∈ tl, @LT.lt Nat _ 101 p.1) → Q (.bool true) { s with heap := h', toks := tk' }) :
    wpAny (model PySem.Challenge.rw_xm0577_01.row.prog w) (ktrTop dp un gd cn cs L ca ccd cl outer) (call (.ref 106) [.ref src]) Q E s := by
  refine wpAny_call ?_
  k_dflt ktr_enter
  k_steps
  all_goals (
    refine' ret _ _ _ _ _ _ _ _ ?F ?N ?ha ?hb ?hb2 ?go ?f1 ?f2 ?f3
    (case go => assumption)
    (case F => k_asm)
    (case N => (refine' News.sub ?zn ?zm; (case zn => k_asm); (case zm => kqd_sub)))
    (case ha => assumption)
    (case hb => assumption)
    (case hb2 => assumption)
    (case f1 => (refine' Mine.fresh_tl ?za ?zb; (case za => assumption); (case zb => kqd_sub)))
    (case f2 => (refine' Mine.fresh_at ?za ?zb; (case za => assumption); (case zb => kst_mem)))
    (case f3 => (refine' Mine.fresh_at ?za ?zb; (case za => assumption); (case zb => kst_mem))))
end
end
section
theorem words_41 : True := by
  w_top off
  k_with_none
  k_with "kst_mem" => first
    | (first
      | with_reducible assumption
      | with_reducible exact List.mem_cons_self
      | (with_reducible refine List.mem_cons_of_mem _ ?_; kst_mem)
      | (with_reducible refine List.mem_append.mpr (Or.inl ?_); kst_mem)
      | (with_reducible refine List.mem_append.mpr (Or.inr ?_); kst_mem)
      | fail "kst_mem")
    | fail
  k_with "k_mem" => first
    | (kst_mem)
    | fail
  k_with "k_all" => first
    | (first
      | with_reducible assumption
      | exact List.forall_mem_nil _
      | (with_reducible refine' Mine.less_sub ?h_2 ?m_2; (case h_2 => with_reducible assumption); (case m_2 => (intro p9 h9; kst_mem)))
      | (with_reducible refine' Mine.less_sub1 ?h_2 ?m_2; (case h_2 => with_reducible assumption); (case m_2 => (intro p9 h9; kst_mem)))
      | (with_reducible refine' Mine.less_sub2 ?h_2 ?m_2; (case h_2 => with_reducible assumption); (case m_2 => (intro p9 h9; kst_mem)))
      | (with_reducible refine' Mine.less_sub3 ?h_2 ?m_2; (case h_2 => with_reducible assumption); (case m_2 => (intro p9 h9; kst_mem)))
      | (with_reducible refine' Mine.less_sub4 ?h_2 ?m_2; (case h_2 => with_reducible assumption); (case m_2 => (intro p9 h9; kst_mem)))
      | (with_reducible refine' Mine.less_sub5 ?h_2 ?m_2; (case h_2 => with_reducible assumption); (case m_2 => (intro p9 h9; kst_mem)))
      | (refine' List.forall_mem_cons.mpr ⟨?a_2, ?b_2⟩; (case a_2 => k_ne); (case b_2 => k_all))
      | exact Mine.allLt_ne (by with_reducible assumption)
      | exact Mine.fresh_ne (by with_reducible assumption) (by k_mem)
      | (refine' List.forall_mem_append.mpr ⟨?_, ?_⟩ <;> k_all))
    | fail
  k_with "kqd_sub" => first
    | (first
      | exact fun _ h => h
      | exact List.forall_mem_nil _
      | (refine' List.forall_mem_cons.mpr ⟨?kqa_3, ?kqb_3⟩; (case kqa_3 => k_mem); (case kqb_3 => kqd_sub))
      | (refine' List.forall_mem_append.mpr ⟨?_, ?_⟩ <;> kqd_sub)
      | (intro p9 h9; k_mem))
    | fail
  k_with "ktr_enter" => first
    | (refine' code_defC ?k1_4 ?k2_4 ?k3_4 ?k4_4 ?k5_4 ?kA_4 ?kF_4 ?kK_4 ?k6_4 ?k7_4 ?k8_4 ?k9_4 ?kB_4 ?kD_4 ?_ ?c2_4 ?c3_4 ?c4_4; (case kA_4 => exact rfl); (case kF_4 => exact rfl); (case kK_4 => assumption); (case k1_4 => k_asm); (case k2_4 => k_asm); (case k3_4 => k_asm); (case k4_4 => k_asm); (case k5_4 => k_asm); (case k6_4 => k_is); (case k7_4 => k_is); (case k8_4 => ktr_room); (case k9_4 => exact BindsTo.of_eq rfl); (case kB_4 => exact rfl); (case kD_4 => decide +kernel); (case c2_4 => exact rfl); (case c3_4 => exact rfl); (case c4_4 => exact rfl); k_whole; intro g' L' h' tk' cells' FG' F' N' Y' B' X' T' l1; (try k_lt l1); k_cells Y'; (try simp only [List.cons_append, List.nil_append] at N'); (try dsimp only); (try k_fold))
    | fail
  k_with "tb_start" => first
    | (first
      | with_reducible exact Mine.Apart.ne (by with_reducible assumption)
      | with_reducible exact Mine.Apart.en (by with_reducible assumption)
      | with_reducible exact Mine.succ_ne1
      | with_reducible exact Mine.succ_ne2
      | (with_reducible refine' Mine.less_ne ?h_5 ?m_5; (case h_5 => with_reducible assumption); (case m_5 => kst_mem))
      | (with_reducible refine' Mine.less_en ?h_5 ?m_5; (case h_5 => with_reducible assumption); (case m_5 => kst_mem))
      | (with_reducible refine' Mine.less_ne1 ?h_5 ?m_5; (case h_5 => with_reducible assumption); (case m_5 => kst_mem))
      | (with_reducible refine' Mine.less_en1 ?h_5 ?m_5; (case h_5 => with_reducible assumption); (case m_5 => kst_mem))
      | (with_reducible refine' Mine.less_ne2 ?h_5 ?m_5; (case h_5 => with_reducible assumption); (case m_5 => kst_mem))
      | (with_reducible refine' Mine.less_en2 ?h_5 ?m_5; (case h_5 => with_reducible assumption); (case m_5 => kst_mem))
      | (with_reducible refine' Mine.less_ne3 ?h_5 ?m_5; (case h_5 => with_reducible assumption); (case m_5 => kst_mem))
      | (with_reducible refine' Mine.less_en3 ?h_5 ?m_5; (case h_5 => with_reducible assumption); (case m_5 => kst_mem))
      | (with_reducible refine' Mine.less_ne4 ?h_5 ?m_5; (case h_5 => with_reducible assumption); (case m_5 => kst_mem))
      | (with_reducible refine' Mine.less_en4 ?h_5 ?m_5; (case h_5 => with_reducible assumption); (case m_5 => kst_mem))
      | (with_reducible refine' Mine.less_ne5 ?h_5 ?m_5; (case h_5 => with_reducible assumption); (case m_5 => kst_mem))
      | (with_reducible refine' Mine.less_en5 ?h_5 ?m_5; (case h_5 => with_reducible assumption); (case m_5 => kst_mem))
      | (with_reducible refine' Mine.lt_ne2 ?k_5 ?h_5 ?m_5; (case k_5 => with_reducible assumption); (case h_5 => with_reducible assumption); (case m_5 => kst_mem))
      | (with_reducible refine' Mine.lt_en2 ?k_5 ?h_5 ?m_5; (case k_5 => with_reducible assumption); (case h_5 => with_reducible assumption); (case m_5 => kst_mem)))
    | fail
  k_with "k_ne" => first
    | (first | tb_start | ((try dsimp only); (refine neN ?_); first | tb_start | omega))
    | fail
  k_with "tb_rel" => first
    | (first
      | with_reducible exact Mine.Sim.nil
      | (refine' Mine.Sim.loc ?v_31 ?a_31 ?b_31 ?r_31; (case a_31 => rfl); (case b_31 => rfl); (case v_31 => rfl); (case r_31 => tb_rel))
      | (refine' Mine.Sim.cell ?c_31 ?m_31 ?d_31 ?a_31 ?b_31 ?r_31; (case a_31 => rfl); (case b_31 => rfl); (case c_31 => rfl); (case m_31 => kst_mem); (case d_31 => k_asm); (case r_31 => tb_rel))
      | (refine' Mine.Sim.str ?r_31; (case r_31 => tb_rel))
      | (refine' Mine.Sim.int ?r_31; (case r_31 => tb_rel)))
    | fail
  k_with "m eval Call" => first
    | (k_here; (with_reducible show wpAny _ _ (eval (Expr.Call (Expr.Name _ _) (_ :: _) [] _) _) _ _ _); k_dflt (refine' Mine.call_sim ?F_32 ?N_32 ?X_32 ?T_32 ?hk_32 ?hx_32 ?hd_32 ?en_32 ?kp_32 ?S_32 ?_; (case F_32 => k_asm); (case N_32 => k_asm); (case X_32 => k_asm); (case T_32 => k_asm); (case hk_32 => rfl); (case hx_32 => rfl); (case hd_32 => rfl); (case en_32 => k_is); (case kp_32 => k_is); (case S_32 => tb_rel); k_whole))
    | fail
  k_with "m eval Tuple" => first
    | (k_here; k_dflt (refine' Mine.tuple_sim ?F_33 ?N_33 ?hk_33 ?S_33 ?hz_33 ?_; (case F_33 => k_asm); (case N_33 => k_asm); (case hk_33 => rfl); (case S_33 => tb_rel); (case hz_33 => exact Nat.le_of_ble_eq_true rfl); k_whole); intro D' h' F' N' l1; (try k_lt l1); (try k_sweep))
    | fail
  k_with "m spliced" => first
    | (k_here; k_dflt (refine' Mine.args_simS ?F_34 ?N_34 ?hk_34 ?S_34 ?_; (case F_34 => k_asm); (case N_34 => k_asm); (case hk_34 => rfl); (case S_34 => tb_rel); k_whole))
    | fail
  k_with "m eval Subscript" => first
    | (k_here; (with_reducible show wpAny _ _ (eval (Expr.Subscript (Expr.Name _ _) (Expr.Constant (Const.int _) _ _) _) _) _ _ _); k_dflt (refine' Mine.sub_sim ?F_35 ?N_35 ?hk_35 ?hx_35 ?hd_35 ?hm_35 ?ht_35 ?hi_35 ?hj_35 ?_ ?hl_35; (case F_35 => k_asm); (case N_35 => k_asm); (case hk_35 => rfl); (case hx_35 => rfl); (case hd_35 => rfl); (case hm_35 => rfl); (case ht_35 => kst_mem); (case hi_35 => rfl); (case hj_35 => rfl); (case hl_35 => exact Nat.le_of_ble_eq_true rfl); k_whole))
    | fail
  k_with "m execs cons" => first
    | (k_here; k_dflt (first
      | ((with_reducible show wpAny _ _ (execs (Stmt.If (Expr.Compare (Expr.Name _ _) [CmpOp.Eq] [Expr.Constant (Const.str _) _ _] _) _ _ _ :: _) _) _ _ _); first
        | (refine' Mine.skip_if ?F_36 ?hk_36 ?hx_36 ?hd_36 ?hm_36 ?hc_36 ?_; (case F_36 => k_asm); (case hk_36 => rfl); (case hx_36 => rfl); (case hd_36 => rfl); (case hm_36 => rfl); (case hc_36 => decide); k_whole)
        | (refine' Mine.take_if ?F_36 ?hk_36 ?hx_36 ?hd_36 ?hm_36 ?hc_36 ?_; (case F_36 => k_asm); (case hk_36 => rfl); (case hx_36 => rfl); (case hd_36 => rfl); (case hm_36 => rfl); (case hc_36 => decide); k_whole))
      | ((with_reducible show wpAny _ _ (execs (Stmt.Assign [Expr.Name _ _] _ _ :: _) _) _ _ _); refine' Mine.assign_one ?_ ?hs_36; (case hs_36 => with_unfolding_all rfl))))
    | fail
  k_with "m call builtin:list.append" => first
    | (k_here; (with_reducible show wpAny _ _ (call (Value.builtin _) (_ ++ _)) _ _ _); simp only [List.cons_append, List.nil_append])
    | fail
  k_with "m call builtin:list.extend" => first
    | (k_here; (with_reducible show wpAny _ _ (call (Value.builtin _) (_ ++ _)) _ _ _); simp only [List.cons_append, List.nil_append])
    | fail
  k_with "tb_start" => first
    | (first
      | (with_reducible refine' Mine.off_I ?h_17 ?m_17; (case h_17 => with_reducible assumption); (case m_17 => kst_mem))
      | (with_reducible refine' Mine.off_C ?h_17 ?m_17; (case h_17 => with_reducible assumption); (case m_17 => kst_mem))
      | (with_reducible refine' Mine.off_D ?h_17 ?m_17; (case h_17 => with_reducible assumption); (case m_17 => kst_mem))
      | (with_reducible refine' Mine.of_I ?h_17 ?m_17; (case h_17 => with_reducible assumption); (case m_17 => kst_mem))
      | (with_reducible refine' Mine.of_C ?h_17 ?m_17; (case h_17 => with_reducible assumption); (case m_17 => kst_mem))
      | (with_reducible refine' Mine.of_D ?h_17 ?m_17; (case h_17 => with_reducible assumption); (case m_17 => kst_mem)))
    | fail
  k_with "m call builtin:list.append" => first
    | (k_here; (with_reducible show wpAny _ _ (call (Value.builtin _) [Value.ref _, _]) _ _ _); k_dflt (refine' Mine.append_L ?k1_18 ?k2_18 ?k3_18 ?z_18 ?_; (case k1_18 => k_asm); (case k2_18 => k_asm); (case k3_18 => k_updF); (case z_18 => ((try simp only [List.length_append, List.length_cons, List.length_nil]); omega)); k_whole); intro h' F' N'; (try dsimp only at N'); (try simp only [List.append_assoc, List.cons_append, List.nil_append] at N'); (try k_sweep))
    | fail
  k_with "m call builtin:len" => first
    | (k_here; (with_reducible show wpAny _ _ (call (Value.builtin "len") [Value.ref _]) _ _ _); k_dflt (refine' Mine.len_at ?k1_19 ?k2_19 ?k3_19 ?_; (case k1_19 => k_asm); (case k2_19 => kst_mem); (case k3_19 => ((try simp only [List.length_append, List.length_cons, List.length_nil]); omega)); k_whole))
    | fail
  k_with "lcg_off" => first
    | (first
      | assumption
      | (refine' Mine.off3_fresh ?f_20 ?a_20 ?b_20 ?c_20; (case f_20 => assumption); (case a_20 => kst_mem); (case b_20 => kst_mem); (case c_20 => kst_mem))
      | (refine' Mine.off3_app ?_ ?_ <;> lcg_off)
      | (refine' Mine.off3_sub ?a_20 ?b_20; (case a_20 => assumption); (case b_20 => (intro p9 h9; kst_mem))))
    | fail
  k_with "lcg_sub" => first
    | (first
      | (with_reducible refine' Mine.Out3.outI ?z_21; (case z_21 => lcg_sub))
      | (with_reducible refine' Mine.Out3.outC ?z_21; (case z_21 => lcg_sub))
      | (with_reducible refine' Mine.Out3.outD ?z_21; (case z_21 => lcg_sub))
      | (with_reducible refine' Mine.Out3.keep ?a_21 ?b_21 ?c_21 ?z_21; (case a_21 => k_ne); (case b_21 => k_ne); (case c_21 => k_ne); (case z_21 => lcg_sub))
      | (with_reducible refine' Mine.Out3.tail _ ?z_21; (case z_21 => lcg_off)))
    | fail
  k_with "m CompEnd" => first
    | (k_here; k_dflt (refine' Mine.comp_end ?F_22 ?N_22 ?m1_22 ?m2_22 ?m3_22 ?o_22 ?s_22 ?_; (case F_22 => k_asm); (case N_22 => k_asm); (case m1_22 => kst_mem); (case m2_22 => kst_mem); (case m3_22 => kst_mem); (case o_22 => lcg_sub); (case s_22 => lcg_src); k_whole))
    | fail
  k_with "m CompRest" => first
    | ((try simp only [List.nil_append, List.cons_append]); with_unfolding_all first
      | (refine LCg.CompRest.succ ?_; intro v' I' oI' C' oC' D' m' h' tk' E' hv' hC' hx' F' N' off' ne'; (first | lcg_open hv' | (obtain ⟨t9', hv9'⟩ := hv'; subst hv9')); have n19 : Mine.Apart _ _ := ne'.1; have n29 : Mine.Apart _ _ := ne'.2.1; have n39 : Mine.Apart _ _ := ne'.2.2; clear ne')
      | refine LCg.CompRest.zero ?_)
    | fail
  k_with "m eval ListComp" => first
    | (k_here; k_dflt (refine LCg.ListComp_U (F₀ := by k_asm) (by rfl) (by decide) (by rfl) (by decide) (by rfl) ?_))
    | fail
  k_with "m exec Assign cons ListComp" => first
    | (k_here; k_dflt (refine LCg.Assign_ListComp_U (F₀ := by k_asm) (by rfl) (by with_unfolding_all rfl) (by rfl) (by decide) (by rfl) (by decide) (by rfl) (by rfl) (by rfl) ?_))
    | fail
  k_with "m CompSrc" => first
    | (k_here; k_dflt (first
      | (refine LCg.CompSrc.ledger (by rfl) (by k_asm) (by k_asm) (by kst_mem) (by first | size_fits | exact Nat.le_of_ble_eq_true rfl) ?_; intro g'; lcg_lit)
      | (refine LCg.CompSrc.range (by rfl) (by k_asm) (by k_asm) (by assumption) (by first | decide | rfl) (by first | rfl | decide) (by first | size_fits | exact Nat.le_of_ble_eq_true rfl) ?_; intro g'; lcg_lit)))
    | fail
  k_with "k_subL" => first
    | (first
      | (with_reducible refine' Mine.Out1.out ?z_27; (case z_27 => k_subL))
      | (with_reducible refine' Mine.Out1.keep ?a_27 ?z_27; (case a_27 => k_ne); (case z_27 => k_subL))
      | (with_reducible refine' Mine.Out1.tail _ ?z_27; (case z_27 => k_all)))
    | fail
  k_with "m UnrEnd" => first
    | (k_here; k_dflt (refine' Mine.unr_end ?F_28 ?N_28 ?m1_28 ?o_28 ?_; (case F_28 => k_asm); (case N_28 => k_asm); (case m1_28 => kst_mem); (case o_28 => k_subL); k_whole))
    | fail
  k_with "m subscriptTail" => first
    | (k_here; (with_reducible show wpAny _ _ (subscriptTail _ _ (Value.ref _) (Value.int _ _)) _ _ _); k_dflt (refine' item_tupleT ?t_29 ?a_29 ?b_29 ?c_29 ?d_29 ?_; (case t_29 => refine' News.isTup ?N_29 ?m_29; (case N_29 => k_asm); (case m_29 => kst_mem)); (case a_29 => decide); (case b_29 => decide); (case c_29 => rfl); (case d_29 => rfl); k_whole))
    | fail
  k_with "m subscriptTail Name Constant ref int" => first
    | (k_here; (with_reducible show wpAny _ _ (subscriptTail _ _ (Value.ref _) (Value.int _ _)) _ _ _); k_dflt (refine' item_tupleT ?t_30 ?a_30 ?b_30 ?c_30 ?d_30 ?_; (case t_30 => refine' News.isTup ?N_30 ?m_30; (case N_30 => k_asm); (case m_30 => kst_mem)); (case a_30 => decide); (case b_30 => decide); (case c_30 => rfl); (case d_30 => rfl); k_whole))
    | fail
  k_with "m call ref" => first
    | (k_here; (with_reducible show wpAny _ _ (call (Value.ref 54) _) _ _ _); k_dflt (refine' Mine.ro_use ?kC_52 ?k1_52 ?k2_52 ?k3_52 ?k4_52 ?k5_52 ?k6_52 ?kT_52 ?kv_52 ?klen_52 ?k13_52 ?k14_52 ?_; (case kv_52 => with_reducible assumption); (case kC_52 => with_reducible assumption); (case k1_52 => k_asm); (case k2_52 => k_asm); (case k3_52 => k_asm); (case k4_52 => k_asm); (case k5_52 => k_asm); (case k6_52 => first | exact rfl | assumption); (case kT_52 => (refine' Mine.sub_in ?h_52 ?k_52; (case h_52 => with_reducible assumption); (case k_52 => (intro p9 h9; kst_mem)))); (case klen_52 => omega); (case k13_52 => ktr_room); (case k14_52 => ktr_units); k_whole); intro p9 tl9 xs9 n9 h9 tk9 F9 N9 hp9 hx9 hxl9 hf9; (try dsimp only at N9); (try simp only [List.cons_append, List.nil_append, List.append_assoc] at N9); (try k_sweep); (try k_fold))
    | fail
  k_with "kwd_rel" => first
    | (first
      | (refine' Mine.fresh_sub ?a_53 ?b_53; (case a_53 => assumption); (case b_53 => (intro p9 h9; kst_mem)))
      | (refine' Mine.fresh_app ?_ ?_ <;> kwd_rel))
    | fail
  k_with "kwd_inv" => first
    | (first
      | with_reducible exact Mine.Rest1.nil
      | (with_reducible refine' Mine.Rest1.app _ ?z_54; (case z_54 => kwd_rel))
      | (with_reducible refine' Mine.Rest1.keep ?z_54 ?a_54; (case a_54 => first | (with_reducible refine' Mine.less_allLt ?h_54 ?m_54; (case h_54 => with_reducible assumption); (case m_54 => (intro p9 h9; kst_mem))) | assumption | exact Mine.allLt_left (by assumption)); (case z_54 => kwd_inv))
      | (with_reducible refine' Mine.Rest1.drop ?z_54; (case z_54 => kwd_inv)))
    | fail
  k_with "m call builtin:list.extend" => first
    | (k_here; (with_reducible show wpAny _ _ (call (Value.builtin _) [Value.ref _, Value.ref _]) _ _ _); k_dflt (refine' Mine.extend_L ?k1_55 ?k2_55 ?hb_55 ?k3_55 ?z_55 ?_; (case k1_55 => k_asm); (case k2_55 => k_asm); (case hb_55 => kst_mem); (case k3_55 => k_updF); (case z_55 => ((try simp only [List.length_append, List.length_cons, List.length_nil]); omega)); k_whole); intro h' n9 F' N'; (try dsimp only at N'); (try simp only [List.append_assoc, List.cons_append, List.nil_append] at N'); (try k_sweep))
    | fail
  k_with "m binaryOp Add ref ref" => first
    | (k_here; (with_reducible show wpAny _ _ (binaryOp Operator.Add (Value.ref _) (Value.ref _)) _ _ _); k_dflt (refine' Mine.addL_at ?F_56 ?N_56 ?a_56 ?b_56 ?z_56 ?_; (case F_56 => k_asm); (case N_56 => k_asm); (case a_56 => kst_mem); (case b_56 => kst_mem); (case z_56 => ((try simp only [List.length_append, List.length_cons, List.length_nil]); omega)); k_whole); intro p' h' F' N' l1; (try simp only [List.append_assoc, List.cons_append, List.nil_append] at N'); (try k_lt l1); (try k_sweep))
    | fail
  k_with "m UnrEndW" => first
    | (k_here; k_dflt (refine' Mine.unrW_end ?F_57 ?N_57 ?m1_57 ?o_57 ?_; (case F_57 => k_asm); (case N_57 => k_asm); (case m1_57 => kst_mem); (case o_57 => k_subL); k_whole); refine And.intro (And.intro (by kst_mem) True.intro) ?_)
    | fail
  k_with "m call ref" => first
    | (k_here; (with_reducible show wpAny _ _ (call (Value.ref 45) _) _ _ _); k_dflt (refine' Mine.nf_use ?k1_68 ?k2_68 ?k3_68 ?k4_68 ?k5_68 ?k6_68 ?k13_68 ?k14_68 ?_; (case k1_68 => k_asm); (case k2_68 => k_asm); (case k3_68 => k_asm); (case k4_68 => k_asm); (case k5_68 => k_asm); (case k6_68 => first | exact rfl | assumption); (case k13_68 => ktr_room); (case k14_68 => ktr_units); k_whole); intro e9 t9 dx9 k19 k29 h9 tk9 F9 N9 l9 l19 l29; (try k_lt l9); (try k_fold))
    | fail
  k_with "m exec Raise some none" => first
    | (k_here; k_dflt (refine' Mine.nf_raise ?hh_69 ?_; (case hh_69 => first | exact rfl | assumption); k_whole))
    | fail
  k_with "m RaiseAt" => first
    | (k_dflt (refine' Mine.RaiseAt.intro ?F_70 ?X_70 ?N_70 ?m_70 ?_; (case F_70 => k_asm); (case X_70 => k_asm); (case N_70 => k_asm); (case m_70 => kst_mem); k_whole); (try dsimp only))
    | fail
  trivial
open Classical in
noncomputable def addNew (qs : List Rv) (r : Rv) : List Rv := if r ∈ qs then qs else qs ++ [r]
theorem addNew_in {qs : List Rv} {r : Rv} (h : rvIn r qs = true) : addNew qs r = qs := by unfold addNew; rw [if_pos (rvIn_iff.mp h)]
theorem addNew_out {qs : List Rv} {r : Rv} (h : rvIn r qs = false) : addNew qs r = qs ++ [r] := by unfold addNew; rw [if_neg (rvIn_not.mp h)]
def TurnR (h₀ : Heap) (L : Addr) (m₀ : Str → Option Value) (x : Str) (I : Addr) (oI : Obj) (g : Obj → List (Addr × Obj)) (qs' : List Rv) (n : Nat) (s₁ : Shared) (f : Flow) (s₂ : Shared) : Prop :=
  f = .next ∧ ∃ h' tk' m' fs' kf', s₂ = { s₁ with heap := h', toks := tk' } ∧ Fr h₀ L h' m' ∧ (∀ z, z ≠ x → m' z = m₀ z) ∧ News h₀ L h' ((I, oI) :: g (listOf (List.toArray fs') kf')) ∧ RVs fs' qs' ∧ fs'.length ≤ n + 1
theorem TurnR.intro {h₀ : Heap} {L : Addr} {m₀ m' : Str → Option Value} {x : Str} {I : Addr} {oI : Obj} {g : Obj → List (Addr × Obj)} {qs' : List Rv} {n : Nat} {s₁ : Shared} {h' : Heap} {tk' : Nat} {fs' : List Value} {kf' : Nat} {l : List (Addr × Obj)}
    (F : Fr h₀ L h' m') (hm : ∀ z, z ≠ x → m' z = m₀ z) (N : News h₀ L h' l) (hs : ∀ p ∈ (I, oI) :: g (listOf (List.toArray fs') kf'), p ∈ l) (hr : RVs fs' qs') (hn : fs'.length ≤ n + 1) : TurnR h₀ L m₀ x I oI g qs' n s₁ .next { s₁ with heap := h', toks := tk' } :=
  ⟨rfl, h', tk', m', fs', kf', rfl, F, hm, News.sub N hs, hr, hn⟩
theorem RVs.get {vs : List Value} {rs : List Rv} (h : RVs vs rs) : ∀ {i : Nat} {v : Value}, vs[i]? = some v → ∃ r, rs[i]? = some r ∧ RV v r := by
  induction h with
  | nil => intro i v e; simp at e
  | cons a _ ih =>
    intro i v e
    cases i with
    | zero => simp at e; subst e; exact ⟨_, by simp, a⟩
    | succ i => simp at e; obtain ⟨r, h1, h2⟩ := ih e; exact ⟨r, by simpa using h1, h2⟩
section
variable {prog : Program} {w : World} {A : Around} {E : Value → Shared → Prop} {s : Shared} {env : Env} {h₀ : Heap} {x : Str} {body : List Stmt} {Q : Flow → Shared → Prop}
theorem loop_R {lr found : Addr} {vs fs0 : List Value} {rs qs0 : List Rv} {k k0 : Nat} {m₀ : Str → Option Value} {l : List (Addr × Obj)} {g : Obj → List (Addr × Obj)}
    (hh : A.handled = none) (F : Fr h₀ env.locals s.heap m₀) (_hfn : m₀ (Str.ofString "found") = some (.ref found)) (N : News h₀ env.locals s.heap l) (hl : (lr, listOf vs.toArray k) ∈ l) (U : UpdF found (listOf fs0.toArray k0) l g) (hlr : @Ne Nat lr found) (hv : RVs vs rs) (h0 : RVs fs0 qs0) (hlen : fs0.length + vs.length < 900)
    (turn : ∀ v r fs qs kf I oI h tk, RV v r → RVs fs qs → fs.length < 900 → Fr h₀ env.locals h (fun y => if y = x then some v else m₀ y) → News h₀ env.locals h ((I, oI) :: g (listOf fs.toArray kf)) → (∀ p ∈ g (listOf fs.toArray kf), @LT.lt Nat _ p.1 I) →
      wpAny (model prog w) A (execs body env) (TurnR h₀ env.locals m₀ x I oI g (addNew qs r) fs.length { s with heap := h, toks := tk }) E { s with heap := h, toks := tk })
    (done : ∀ fs kf h tk (u : Str → Option Value), RVs fs (rs.foldl addNew qs0) → fs.length ≤ fs0.length + vs.length → Fr h₀ env.locals h (fun y => if y = x then u y else m₀ y) → News h₀ env.locals h (g (listOf fs.toArray kf)) → Q .next { s with heap := h, toks := tk }) :
    wpAny (model prog w) A (pyIter (.ref lr)) (fun it s₂ => LoopAtV prog w A h₀ env x body Q E it s₂) E s := by
  obtain ⟨pre, post, el, hg, u1, u2⟩ := U.split
  have hls : s.heap.IsList lr vs.toArray := PySem.IsL.isList (n := k) (N _ hl).1
  have hlt : lr < s.heap.objs.size := Heap.lt_size (N _ hl).1
  have hne : lr ≠ s.heap.objs.size := Nat.ne_of_lt hlt
  have hlg : ∀ o, (lr, listOf vs.toArray k) ∈ g o := fun o => by
    rw [el] at hl
    rw [hg]
    rcases List.mem_append.mp hl with h | h
    · exact List.mem_append.mpr (.inl h)
    rcases List.mem_cons.mp h with h | h
    · exact absurd (congrArg Prod.fst h) hlr
    · exact List.mem_append.mpr (.inr (.tail _ h))
  have ltg : ∀ o, ∀ p ∈ g o, @LT.lt Nat _ p.1 s.heap.objs.size := fun o p hp => by
    have key : ∃ o', (p.1, o') ∈ l := by
      rw [hg] at hp
      rw [el]
      rcases List.mem_append.mp hp with h | h
      · exact ⟨p.2, List.mem_append.mpr (.inl h)⟩
      rcases List.mem_cons.mp h with h | h
      · exact ⟨_, by rw [h]; exact List.mem_append.mpr (.inr (.head _))⟩
      · exact ⟨p.2, List.mem_append.mpr (.inr (.tail _ h))⟩
    obtain ⟨o', ho'⟩ := key
    exact Heap.lt_size (N _ ho').1
  refine wpAny_pyIter_list hls ?_
  have W := Walks.list (prog := prog) (w := w) hh s.heap.objs.size lr hne vs.toArray
  have hsz : vs.toArray.size = vs.length := by simp
  rw [hsz] at W
  let J : Nat → (Str → Option Value) → List (Addr × Obj) → Prop := fun i m nx => ∃ fs qs kf, RVs fs qs ∧ qs = (rs.take i).foldl addNew qs0 ∧ fs.length ≤ fs0.length + i ∧ nx = g (listOf (List.toArray fs) kf) ∧ ∀ z, z ≠ x → m z = m₀ z
  have hgl : g (listOf fs0.toArray k0) = l := by rw [hg, el]
  refine ⟨_, _, _, vs.length, _, _, m₀, l, J, rfl, W, ?_, ?_, ?_, ⟨⟨_, Heap.get?_push_size _ rfl, rfl, rfl⟩, hls.at fun o e => Heap.get?_push_of_some _ e⟩, F.push _, (fun p hp => ⟨Heap.get?_push_of_some _ (N p hp).1, (N p hp).2⟩), ⟨fs0, qs0, k0, h0, by simp, by omega, hgl.symm, fun _ _ => rfl⟩, ?_, ?_⟩
  · intro hm
    rcases List.mem_cons.mp hm with e | hm
    · exact absurd F.ns.lt (e ▸ Nat.lt_irrefl _)
    · exact absurd (List.mem_singleton.mp hm).symm (N _ hl).2.1
  · intro b hb
    rw [List.mem_singleton.mp hb]
    exact next_is_new F
  · intro p hp hI
    exact absurd (Heap.lt_size (N p hp).1) ((List.mem_singleton.mp hI) ▸ Nat.lt_irrefl _)
  · rintro i v m₁ nx s₁ own ⟨hh', tk', rfl⟩ hi hP ⟨fs, qs, kf, r1, r2, r3, rfl, hm⟩ hoff hown hget hall hst F₁ N₁
    have hlt' : i < vs.length := hi
    have hvi : vs[i]? = some v := by
      have hP' : vs.toArray[i]? = some v := hP
      simpa using hP'
    obtain ⟨r, hr, rv⟩ := hv.get hvi
    have hq : (rs.take (i + 1)).foldl addNew qs0 = addNew qs r := by
      rw [List.take_add_one, hr, r2]; simp
    have eF : (fun y => if y = x then some v else m₁ y) = fun y => if y = x then some v else m₀ y := by
      funext y
      by_cases h1 : y = x
      · simp [h1]
      · simp only [if_neg h1]; exact hm y h1
    rw [eF] at F₁
    have hI : h₀.get? s.heap.objs.size = none := next_is_new F
    obtain ⟨oI, hoI⟩ : ∃ o, hh'.get? s.heap.objs.size = some o := by
      obtain ⟨⟨o, e, _⟩, _⟩ := hst
      exact ⟨o, e⟩
    have mI : (s.heap.objs.size, oI) ∈ own := hall _ (.head _) hI oI hoI
    have N₂ : News h₀ env.locals hh' ((s.heap.objs.size, oI) :: g (listOf fs.toArray kf)) := fun p hp => N₁ p (by
      rcases List.mem_cons.mp hp with rfl | hp
      · exact List.mem_append.mpr (.inl mI)
      · exact List.mem_append.mpr (.inr hp))
    have ownIn : ∀ p ∈ own, p ∈ (s.heap.objs.size, oI) :: g (listOf fs.toArray kf) := fun p hp => by
      obtain ⟨a, o⟩ := p
      rcases List.mem_cons.mp (hown _ hp) with e | e
      · have e1 : a = s.heap.objs.size := e
        subst e1
        have e2 : oI = o := Option.some.inj (hoI.symm.trans (hget _ hp))
        subst e2
        exact .head _
      · have e1 : a = lr := List.mem_singleton.mp e
        subst e1
        have e2 : listOf vs.toArray k = o := Option.some.inj ((N₁ _ (List.mem_append.mpr (.inr (hlg (listOf fs.toArray kf))))).1.symm.trans (hget _ hp))
        subst e2
        exact .tail _ (hlg _)
    refine wpAny_mono (turn v r fs qs kf _ oI hh' tk' rv r1 (by omega) F₁ N₂ (fun p hp => ltg _ p hp)) (fun f s₂ q => ?_) fun _ _ e => e
    obtain ⟨rfl, h', tk, m', fs', kf', e, F', hm', N', r', hn'⟩ := q
    refine .next ⟨rfl, h', tk, m', g (listOf fs'.toArray kf'), e, F', fun p hp => ?_, fun p hp hq => ?_, ?_⟩
    · rcases List.mem_append.mp hp with hp | hp
      · rcases List.mem_cons.mp (ownIn p hp) with e | hp2
        · exact e ▸ N' _ (.head _)
        · -- the list walked
          obtain ⟨a, o⟩ := p
          rcases List.mem_cons.mp (hown _ hp) with e | e
          · have e1 : a = s.heap.objs.size := e
            subst e1
            have e2 : oI = o := Option.some.inj (hoI.symm.trans (hget _ hp))
            subst e2
            exact N' _ (.head _)
          · have e1 : a = lr := List.mem_singleton.mp e
            subst e1
            have e2 : listOf vs.toArray k = o := Option.some.inj ((N₁ _ (List.mem_append.mpr (.inr (hlg (listOf fs.toArray kf))))).1.symm.trans (hget _ hp))
            subst e2
            exact N' _ (.tail _ (hlg _))
      · exact N' _ (.tail _ hp)
    · have e1 : p.1 = s.heap.objs.size := List.mem_singleton.mp hq
      rw [hg] at hp
      have old : ∃ o, (p.1, o) ∈ g (listOf fs.toArray kf) := by
        rw [hg]
        rcases List.mem_append.mp hp with h | h
        · exact ⟨p.2, List.mem_append.mpr (.inl h)⟩
        rcases List.mem_cons.mp h with h | h
        · exact ⟨_, by rw [h]; exact List.mem_append.mpr (.inr (.head _))⟩
        · exact ⟨p.2, List.mem_append.mpr (.inr (.tail _ h))⟩
      obtain ⟨o, ho⟩ := old
      exact hoff _ ho (by show p.1 ∈ _; rw [e1]; exact .head _)
    · exact ⟨fs', _, kf', r', hq.symm, by omega, rfl, hm'⟩
  · rintro h' tk m' nx F' N' _ ⟨fs, qs, kf, r1, r2, r3, rfl, hm⟩
    have hrl : rs.length = vs.length := hv.length.symm
    rw [← hrl, List.take_length] at r2
    subst r2
    refine done fs kf h' tk m' r1 r3 ?_ N'
    have e : (fun y => if y = x then m' y else m₀ y) = m' := by
      funext y
      by_cases h1 : y = x
      · simp [h1]
      · simp only [if_neg h1]; exact (hm y h1).symm
    rw [e]; exact F'
end
theorem turn_in {fs : List Value} {qs : List Rv} {r : Rv} (h : rvIn r qs = true) (a : RVs fs qs) : RVs fs (addNew qs r) := by
  rw [addNew_in h]; exact a
theorem turn_out {fs : List Value} {qs : List Rv} {r : Rv} {v : Value} (h : rvIn r qs = false) (a : RVs fs qs) (b : RV v r) : RVs (fs ++ [v]) (addNew qs r) := by
  rw [addNew_out h]; exact a.append (.cons b .nil)
noncomputable def distN (ls : List (List Rv)) : List Rv := ls.foldl (fun q l => l.foldl addNew q) []
abbrev mOne : Str := Str.ofString "a region of the result has to be told"
theorem one_of {fs : List Value} {qs : List Rv} {v : Value} (h : RVs fs qs) (e : (fs.length : Int) = 1) (g : fs[Int.toNat 0]? = some v) : ∃ r, qs = [r] ∧ RV v r := by
  cases h with
  | nil => simp at e
  | cons a t =>
    cases t with
    | nil =>
      have g' : some _ = some v := g
      cases g'
      exact ⟨_, rfl, a⟩
    | cons b t => simp only [List.length_cons] at e; omega
theorem not_one {fs : List Value} {qs : List Rv} (h : RVs fs qs) (e : (fs.length : Int) ≠ 1) : qs.length ≠ 1 := by rw [← h.length]; omega
theorem RaisedD.sub {base G : Heap} {l : List Env} {e dx : Addr} {news news' : List (Addr × Obj)} {h : Heap} (R : RaisedD base G l e dx news h) (hs : ∀ p ∈ news', p ∈ news) : RaisedD base G l e dx news' h :=
  let ⟨B, a, b, c, d⟩ := R; ⟨B, a, b, fun q hq => c q (hs q hq), d⟩
section
theorem words_42 : True := by
  k_with "m exec For Name Name cons nil" => first
    | (k_here; (rename Fr _ _ _ _ => lF'); (with_unfolding_all refine' For_turns lF' ?_; k_whole))
    | fail
  k_with "m pyIter ref" => first
    | (k_here; (with_reducible show wpAny _ _ (pyIter (Value.ref _)) (fun it s₂ => TurnsAt _ _ _ _ _ _ _ _ _ it s₂) _ _); k_dflt (refine' iter_tupTurns ?hh_60 ?F_60 ?N_60 ?hm_60 ?hc_60 ?hd_60 ?_; (case hh_60 => exact rfl); (case F_60 => k_asm); (case N_60 => k_asm); (case hm_60 => kst_mem); (case hc_60 => exact rfl); (case hd_60 => exact rfl); k_whole); intro I' l1; (try k_lt l1))
    | fail
  k_with "m exec For Name Call cons nil" => first
    | (k_here; (rename Fr _ _ _ _ => lF'); (with_unfolding_all refine' For_invVF lF' ?k1_74 ?k2_74 ?_; (case k1_74 => exact rfl); (case k2_74 => exact rfl); k_whole))
    | fail
  k_with "m pyIter ref" => first
    | (k_here; (with_reducible show wpAny _ _ (pyIter (Value.ref _)) (fun it s₂ => LoopAtV _ _ _ _ _ _ _ _ _ it s₂) _ _); k_dflt (refine' Mine.loop_R ?hh_106 ?F_106 ?fn_106 ?N_106 ?hl_106 ?U_106 ?hlr_106 ?hv_106 ?h0_106 ?hlen_106 ?_ ?_; (case hh_106 => exact rfl); (case F_106 => k_asm); (case fn_106 => exact rfl); (case N_106 => k_asm); (case hl_106 => kst_mem); (case U_106 => k_updF); (case hlr_106 => (refine' Mine.ne_fresh ?zh_106 ?zq_106 ?zp_106; (case zp_106 => with_reducible assumption); (case zh_106 => assumption); (case zq_106 => kst_mem))); (case hv_106 => with_reducible assumption); (case h0_106 => first | with_reducible assumption | exact Mine.RVs.nil); (case hlen_106 => ((try simp only [List.length_nil]); omega)); k_whole) <;> first | (intro v9 r9 fs9 qs9 kf9 I9 oI9 h9 tk9 rv9 rs9 ln9 F9 N9 of9; (try dsimp only at N9 of9); (try k_lt of9); (try k_sweep)) | (intro fs9 kf9 h9 tk9 u9 rs9 ln9 F9 N9; (try simp only [List.length_nil, Nat.zero_add] at ln9); (try dsimp only at N9); (try k_sweep)))
    | fail
  k_with "m subscriptTail Name Constant ref int" => first
    | (k_here; (with_reducible show wpAny _ _ (subscriptTail _ _ (Value.ref _) (Value.int _ _)) _ _ _); k_dflt (refine' Mine.item_at ?k1_107 ?k2_107 ?k3_107 ?k4_107 ?k5_107 ?_ ?k6_107; (case k1_107 => k_asm); (case k2_107 => kst_mem); (case k3_107 => omega); (case k4_107 => decide); (case k5_107 => omega); (case k6_107 => with_unfolding_all rfl); k_whole); intro v9 hg9 hv9)
    | fail
  k_with "m compareOp NotIn" => first
    | (k_here; k_dflt (refine' Mine.rv_notIn ?N_108 ?a_108 ?x_108 ?y_108 ?u_108 ?_; (case N_108 => k_asm); (case a_108 => kst_mem); (case x_108 => with_reducible assumption); (case y_108 => with_reducible assumption); (case u_108 => ktr_units); k_whole))
    | fail
  k_with "m TurnR" => first
    | (k_dflt (refine' Mine.TurnR.intro ?F_109 ?hm_109 ?N_109 ?hs_109 ?hr_109 ?hn_109; (case F_109 => k_asm); (case hm_109 => (intro z hz; first | exact if_neg hz | (simp only [if_neg hz]))); (case N_109 => k_asm); (case hr_109 => first | exact Mine.turn_out (by assumption) (by assumption) (by assumption) | exact Mine.turn_in (by assumption) (by assumption)); (case hs_109 => ((try dsimp only); kqd_sub)); (case hn_109 => ((try simp only [List.length_append, List.length_cons, List.length_nil]); omega))))
    | fail
  k_with "m call ref" => first
    | (k_here; (with_reducible show wpAny _ _ (call (Value.ref 54) _) _ _ _); k_dflt (refine' Mine.ro_use (Mine.ro_all _) ?k1_110 ?k2_110 ?k3_110 ?k4_110 ?k5_110 ?k6_110 ?kT_110 ?kv_110 ?klen_110 ?k13_110 ?k14_110 ?_; (case kv_110 => with_reducible assumption); (case k1_110 => k_asm); (case k2_110 => k_asm); (case k3_110 => k_asm); (case k4_110 => k_asm); (case k5_110 => k_asm); (case k6_110 => first | exact rfl | assumption); (case kT_110 => (refine' Mine.sub_in ?h_110 ?k_110; (case h_110 => with_reducible assumption); (case k_110 => (intro p9 h9; kst_mem)))); (case klen_110 => omega); (case k13_110 => ktr_room); (case k14_110 => ktr_units); k_whole); intro p9 tl9 xs9 n9 h9 tk9 F9 N9 hp9 hx9 hxl9 hf9; (try dsimp only at N9); (try simp only [List.cons_append, List.nil_append, List.append_assoc] at N9); (try k_sweep); (try k_fold))
    | fail
  trivial
theorem only_0 {w : World} {mean : ExcName → Option Value} {mg mb : Str → Option Value} {dp un : Nat} {gd : Option (List Code)} {cn : Str} {cs : Scope} {ca : Addr} {ccd : Value} {cl : List (Str × Addr)} {outer : List Env} {A₀ : Around} {base h₀ : Heap} {L : Addr} {m : Str → Option Value} {s : Shared} {Q E : Value → Shared → Prop}
    {a : Addr}  {n : Nat} {TL : List (Addr × Obj)} {sp : Int} {ts : Tok} {R : List (Addr × Obj)} (ha : (a, tupO [] n) ∈ R) (hT : ∀ p ∈ TL, p ∈ R) 
    (B : Below A₀ base outer h₀) (F : Fr h₀ L s.heap m) (X : (hd.heap_1 w.params).In h₀) (N : News h₀ L s.heap R) (T : Top topProg (looseW view [Str.ofString "LendError"] ++ (recsOf view).map (·.name) ++ (litsOf view).map (·.1) ++ (clssOf view (looseW view [Str.ofString "LendError"])).map (·.name)) mean mg mb h₀) (hk : cs.kind = .function) (hd : dp + 20 < recursionLimit) (hu : un + 500 < cLine)
    (ok : ∀ v r h' tk', RV v r → distN [] = [r] → Fr h₀ L h' m → News h₀ L h' R → Q v { s with heap := h', toks := tk' })
    (bad : (distN []).length ≠ 1 → ∀ G e dx k1 k2 t' h' tk', Fr h₀ L G m → RaisedD base G (envX cn cs L ca ccd cl :: outer) e dx ((dx, nfDict w mOne k1 t' sp k2 ts) :: R) h' → G.UpToSlots h' → (∀ p ∈ R, p.1 < e) → @LT.lt Nat _ e dx → E (.ref e) { s with heap := h', toks := tk' }) :
    wpAny (model PySem.Challenge.rw_xm0577_01.row.prog w) (ktrTop dp un gd cn cs L ca ccd cl outer) (call (.ref 66) [.ref a, .int sp ts]) Q E s := by
  refine wpAny_call ?_
  k_dflt ktr_enter
  k_steps
  all_goals first
    | (refine' leave_nf ?K ?F ?N ?l9 ?h1 ?h2 ?_ rfl
       (case K => assumption)
       (case F => k_asm)
       (case N => k_asm)
       (case h1 => assumption)
       (case h2 => assumption)
       (case l9 => first | with_reducible assumption | (with_reducible refine' Mine.less_all ?zh8 ?zs8; (case zh8 => with_reducible assumption); (case zs8 => (intro p9 h9; kst_mem))) | (refine' Mine.allLt_all ?zz; (simp only [AllLt, and_true]); assumption))
       intro h' R' U'
       dsimp only
       refine' bad ?b0 _ _ _ _ _ _ _ _ ?b1 ?b2 ?b3 ?b4 ?b5
       (case b1 => assumption)
       (case b3 => exact U')
       (case b2 => (refine' R'.sub ?zs; kqd_sub))
       (case b0 => simp [distN])
       (case b4 => first | (with_reducible refine' Mine.less_all ?zh8 ?zs8; (case zh8 => with_reducible assumption); (case zs8 => (intro p9 h9; kst_mem))) | exact Mine.allLt_all (by assumption) | exact fun p hp => Mine.allLt_all (by assumption) p (List.mem_append_left _ hp))
       (case b5 => exact Nat.lt_trans (by assumption) (by assumption)))
    | (contradiction)
theorem only_1 {w : World} {mean : ExcName → Option Value} {mg mb : Str → Option Value} {dp un : Nat} {gd : Option (List Code)} {cn : Str} {cs : Scope} {ca : Addr} {ccd : Value} {cl : List (Str × Addr)} {outer : List Env} {A₀ : Around} {base h₀ : Heap} {L : Addr} {m : Str → Option Value} {s : Shared} {Q E : Value → Shared → Prop}
    {a : Addr} {v1 : Value} {t1 : Tr} {n : Nat} {TL : List (Addr × Obj)} {sp : Int} {ts : Tok} {R : List (Addr × Obj)} (ha : (a, tupO [v1] n) ∈ R) (hT : ∀ p ∈ TL, p ∈ R) (hv1 : TrIn TL v1 t1) (hl1 : t1.regs.length ≤ 10) (hh1 : t1.ht ≤ 4)
    (B : Below A₀ base outer h₀) (F : Fr h₀ L s.heap m) (X : (hd.heap_1 w.params).In h₀) (N : News h₀ L s.heap R) (T : Top topProg (looseW view [Str.ofString "LendError"] ++ (recsOf view).map (·.name) ++ (litsOf view).map (·.1) ++ (clssOf view (looseW view [Str.ofString "LendError"])).map (·.name)) mean mg mb h₀) (hk : cs.kind = .function) (hd : dp + 20 < recursionLimit) (hu : un + 500 < cLine)
    (ok : ∀ v r h' tk', RV v r → distN [t1.regs] = [r] → Fr h₀ L h' m → News h₀ L h' R → Q v { s with heap := h', toks := tk' })
    (bad : (distN [t1.regs]).length ≠ 1 → ∀ G e dx k1 k2 t' h' tk', Fr h₀ L G m → RaisedD base G (envX cn cs L ca ccd cl :: outer) e dx ((dx, nfDict w mOne k1 t' sp k2 ts) :: R) h' → G.UpToSlots h' → (∀ p ∈ R, p.1 < e) → @LT.lt Nat _ e dx → E (.ref e) { s with heap := h', toks := tk' }) :
    wpAny (model PySem.Challenge.rw_xm0577_01.row.prog w) (ktrTop dp un gd cn cs L ca ccd cl outer) (call (.ref 66) [.ref a, .int sp ts]) Q E s := by
  refine wpAny_call ?_
  k_dflt ktr_enter
  k_steps
  all_goals first
    | (refine' leave_nf ?K ?F ?N ?l9 ?h1 ?h2 ?_ rfl
       (case K => assumption)
       (case F => k_asm)
       (case N => k_asm)
       (case h1 => assumption)
       (case h2 => assumption)
       (case l9 => first | with_reducible assumption | (with_reducible refine' Mine.less_all ?zh8 ?zs8; (case zh8 => with_reducible assumption); (case zs8 => (intro p9 h9; kst_mem))) | (refine' Mine.allLt_all ?zz; (simp only [AllLt, and_true]); assumption))
       intro h' R' U'
       dsimp only
       refine' bad ?b0 _ _ _ _ _ _ _ _ ?b1 ?b2 ?b3 ?b4 ?b5
       (case b1 => assumption)
       (case b3 => exact U')
       (case b2 => (refine' R'.sub ?zs; kqd_sub))
       (case b0 => exact Mine.not_one (by assumption) (by assumption))
       (case b4 => first | (with_reducible refine' Mine.less_all ?zh8 ?zs8; (case zh8 => with_reducible assumption); (case zs8 => (intro p9 h9; kst_mem))) | exact Mine.allLt_all (by assumption) | exact fun p hp => Mine.allLt_all (by assumption) p (List.mem_append_left _ hp))
       (case b5 => exact Nat.lt_trans (by assumption) (by assumption)))
    | (obtain ⟨r, e1, e2⟩ := Mine.one_of (by assumption) (by assumption) (by assumption); exact ok _ _ _ _ e2 e1 (by k_asm) (News.sub (by k_asm) (by kqd_sub)))
theorem only_2 {w : World} {mean : ExcName → Option Value} {mg mb : Str → Option Value} {dp un : Nat} {gd : Option (List Code)} {cn : Str} {cs : Scope} {ca : Addr} {ccd : Value} {cl : List (Str × Addr)} {outer : List Env} {A₀ : Around} {base h₀ : Heap} {L : Addr} {m : Str → Option Value} {s : Shared} {Q E : Value → Shared → Prop}
    {a : Addr} {v1 : Value} {t1 : Tr} {v2 : Value} {t2 : Tr} {n : Nat} {TL : List (Addr × Obj)} {sp : Int} {ts : Tok} {R : List (Addr × Obj)} (ha : (a, tupO [v1, v2] n) ∈ R) (hT : ∀ p ∈ TL, p ∈ R) (hv1 : TrIn TL v1 t1) (hl1 : t1.regs.length ≤ 10) (hh1 : t1.ht ≤ 4) (hv2 : TrIn TL v2 t2) (hl2 : t2.regs.length ≤ 10) (hh2 : t2.ht ≤ 4)
    (B : Below A₀ base outer h₀) (F : Fr h₀ L s.heap m) (X : (hd.heap_1 w.params).In h₀) (N : News h₀ L s.heap R) (T : Top topProg (looseW view [Str.ofString "LendError"] ++ (recsOf view).map (·.name) ++ (litsOf view).map (·.1) ++ (clssOf view (looseW view [Str.ofString "LendError"])).map (·.name)) mean mg mb h₀) (hk : cs.kind = .function) (hd : dp + 20 < recursionLimit) (hu : un + 500 < cLine)
    (ok : ∀ v r h' tk', RV v r → distN [t1.regs, t2.regs] = [r] → Fr h₀ L h' m → News h₀ L h' R → Q v { s with heap := h', toks := tk' })
    (bad : (distN [t1.regs, t2.regs]).length ≠ 1 → ∀ G e dx k1 k2 t' h' tk', Fr h₀ L G m → RaisedD base G (envX cn cs L ca ccd cl :: outer) e dx ((dx, nfDict w mOne k1 t' sp k2 ts) :: R) h' → G.UpToSlots h' → (∀ p ∈ R, p.1 < e) → @LT.lt Nat _ e dx → E (.ref e) { s with heap := h', toks := tk' }) :
    wpAny (model PySem.Challenge.rw_xm0577_01.row.prog w) (ktrTop dp un gd cn cs L ca ccd cl outer) (call (.ref 66) [.ref a, .int sp ts]) Q E s := by
  refine wpAny_call ?_
  k_dflt ktr_enter
  k_steps
  all_goals first
    | (refine' leave_nf ?K ?F ?N ?l9 ?h1 ?h2 ?_ rfl
       (case K => assumption)
       (case F => k_asm)
       (case N => k_asm)
       (case h1 => assumption)
       (case h2 => assumption)
       (case l9 => first | with_reducible assumption | (with_reducible refine' Mine.less_all ?zh8 ?zs8; (case zh8 => with_reducible assumption); (case zs8 => (intro p9 h9; kst_mem))) | (refine' Mine.allLt_all ?zz; (simp only [AllLt, and_true]); assumption))
       intro h' R' U'
       dsimp only
       refine' bad ?b0 _ _ _ _ _ _ _ _ ?b1 ?b2 ?b3 ?b4 ?b5
       (case b1 => assumption)
       (case b3 => exact U')
       (case b2 => (refine' R'.sub ?zs; kqd_sub))
       (case b0 => exact Mine.not_one (by assumption) (by assumption))
       (case b4 => first | (with_reducible refine' Mine.less_all ?zh8 ?zs8; (case zh8 => with_reducible assumption); (case zs8 => (intro p9 h9; kst_mem))) | exact Mine.allLt_all (by assumption) | exact fun p hp => Mine.allLt_all (by assumption) p (List.mem_append_left _ hp))
       (case b5 => exact Nat.lt_trans (by assumption) (by assumption)))
    | (obtain ⟨r, e1, e2⟩ := Mine.one_of (by assumption) (by assumption) (by assumption); exact ok _ _ _ _ e2 e1 (by k_asm) (News.sub (by k_asm) (by kqd_sub)))
theorem only_3 {w : World} {mean : ExcName → Option Value} {mg mb : Str → Option Value} {dp un : Nat} {gd : Option (List Code)} {cn : Str} {cs : Scope} {ca : Addr} {ccd : Value} {cl : List (Str × Addr)} {outer : List Env} {A₀ : Around} {base h₀ : Heap} {L : Addr} {m : Str → Option Value} {s : Shared} {Q E : Value → Shared → Prop}
    {a : Addr} {v1 : Value} {t1 : Tr} {v2 : Value} {t2 : Tr} {v3 : Value} {t3 : Tr} {n : Nat} {TL : List (Addr × Obj)} {sp : Int} {ts : Tok} {R : List (Addr × Obj)} (ha : (a, tupO [v1, v2, v3] n) ∈ R) (hT : ∀ p ∈ TL, p ∈ R) (hv1 : TrIn TL v1 t1) (hl1 : t1.regs.length ≤ 10) (hh1 : t1.ht ≤ 4) (hv2 : TrIn TL v2 t2) (hl2 : t2.regs.length ≤ 10) (hh2 : t2.ht ≤ 4) (hv3 : TrIn TL v3 t3) (hl3 : t3.regs.length ≤ 10) (hh3 : t3.ht ≤ 4)
    (B : Below A₀ base outer h₀) (F : Fr h₀ L s.heap m) (X : (hd.heap_1 w.params).In h₀) (N : News h₀ L s.heap R) (T : Top topProg (looseW view [Str.ofString "LendError"] ++ (recsOf view).map (·.name) ++ (litsOf view).map (·.1) ++ (clssOf view (looseW view [Str.ofString "LendError"])).map (·.name)) mean mg mb h₀) (hk : cs.kind = .function) (hd : dp + 20 < recursionLimit) (hu : un + 500 < cLine)
    (ok : ∀ v r h' tk', RV v r → distN [t1.regs, t2.regs, t3.regs] = [r] → Fr h₀ L h' m → News h₀ L h' R → Q v { s with heap := h', toks := tk' })
    (bad : (distN [t1.regs, t2.regs, t3.regs]).length ≠ 1 → ∀ G e dx k1 k2 t' h' tk', Fr h₀ L G m → RaisedD base G (envX cn cs L ca ccd cl :: outer) e dx ((dx, nfDict w mOne k1 t' sp k2 ts) :: R) h' → G.UpToSlots h' → (∀ p ∈ R, p.1 < e) → @LT.lt Nat _ e dx → E (.ref e) { s with heap := h', toks := tk' }) :
    wpAny (model PySem.Challenge.rw_xm0577_01.row.prog w) (ktrTop dp un gd cn cs L ca ccd cl outer) (call (.ref 66) [.ref a, .int sp ts]) Q E s := by
  refine wpAny_call ?_
  k_dflt ktr_enter
  k_steps
  all_goals first
    | (refine' leave_nf ?K ?F ?N ?l9 ?h1 ?h2 ?_ rfl
       (case K => assumption)
       (case F => k_asm)
       (case N => k_asm)
       (case h1 => assumption)
       (case h2 => assumption)
       (case l9 => first | with_reducible assumption | (with_reducible refine' Mine.less_all ?zh8 ?zs8; (case zh8 => with_reducible assumption); (case zs8 => (intro p9 h9; kst_mem))) | (refine' Mine.allLt_all ?zz; (simp only [AllLt, and_true]); assumption))
       intro h' R' U'
       dsimp only
       refine' bad ?b0 _ _ _ _ _ _ _ _ ?b1 ?b2 ?b3 ?b4 ?b5
       (case b1 => assumption)
       (case b3 => exact U')
       (case b2 => (refine' R'.sub ?zs; kqd_sub))
       (case b0 => exact Mine.not_one (by assumption) (by assumption))
       (case b4 => first | (with_reducible refine' Mine.less_all ?zh8 ?zs8; (case zh8 => with_reducible assumption); (case zs8 => (intro p9 h9; kst_mem))) | exact Mine.allLt_all (by assumption) | exact fun p hp => Mine.allLt_all (by assumption) p (List.mem_append_left _ hp))
       (case b5 => exact Nat.lt_trans (by assumption) (by assumption)))
    | (obtain ⟨r, e1, e2⟩ := Mine.one_of (by assumption) (by assumption) (by assumption); exact ok _ _ _ _ e2 e1 (by k_asm) (News.sub (by k_asm) (by kqd_sub)))
end
end
section
theorem words_43 : True := by
  w_top off
  k_with_none
  k_with "kst_mem" => first
    | (first
      | with_reducible assumption
      | with_reducible exact List.mem_cons_self
      | (with_reducible refine List.mem_cons_of_mem _ ?_; kst_mem)
      | (with_reducible refine List.mem_append.mpr (Or.inl ?_); kst_mem)
      | (with_reducible refine List.mem_append.mpr (Or.inr ?_); kst_mem)
      | fail "kst_mem")
    | fail
  k_with "k_mem" => first
    | (kst_mem)
    | fail
  k_with "k_all" => first
    | (first
      | with_reducible assumption
      | exact List.forall_mem_nil _
      | (with_reducible refine' Mine.less_sub ?h_2 ?m_2; (case h_2 => with_reducible assumption); (case m_2 => (intro p9 h9; kst_mem)))
      | (with_reducible refine' Mine.less_sub1 ?h_2 ?m_2; (case h_2 => with_reducible assumption); (case m_2 => (intro p9 h9; kst_mem)))
      | (with_reducible refine' Mine.less_sub2 ?h_2 ?m_2; (case h_2 => with_reducible assumption); (case m_2 => (intro p9 h9; kst_mem)))
      | (with_reducible refine' Mine.less_sub3 ?h_2 ?m_2; (case h_2 => with_reducible assumption); (case m_2 => (intro p9 h9; kst_mem)))
      | (with_reducible refine' Mine.less_sub4 ?h_2 ?m_2; (case h_2 => with_reducible assumption); (case m_2 => (intro p9 h9; kst_mem)))
      | (with_reducible refine' Mine.less_sub5 ?h_2 ?m_2; (case h_2 => with_reducible assumption); (case m_2 => (intro p9 h9; kst_mem)))
      | (refine' List.forall_mem_cons.mpr ⟨?a_2, ?b_2⟩; (case a_2 => k_ne); (case b_2 => k_all))
      | exact Mine.allLt_ne (by with_reducible assumption)
      | exact Mine.fresh_ne (by with_reducible assumption) (by k_mem)
      | (refine' List.forall_mem_append.mpr ⟨?_, ?_⟩ <;> k_all))
    | fail
  k_with "kqd_sub" => first
    | (first
      | exact fun _ h => h
      | exact List.forall_mem_nil _
      | (refine' List.forall_mem_cons.mpr ⟨?kqa_3, ?kqb_3⟩; (case kqa_3 => k_mem); (case kqb_3 => kqd_sub))
      | (refine' List.forall_mem_append.mpr ⟨?_, ?_⟩ <;> kqd_sub)
      | (intro p9 h9; k_mem))
    | fail
  k_with "ktr_enter" => first
    | (refine' code_defC ?k1_4 ?k2_4 ?k3_4 ?k4_4 ?k5_4 ?kA_4 ?kF_4 ?kK_4 ?k6_4 ?k7_4 ?k8_4 ?k9_4 ?kB_4 ?kD_4 ?_ ?c2_4 ?c3_4 ?c4_4; (case kA_4 => exact rfl); (case kF_4 => exact rfl); (case kK_4 => assumption); (case k1_4 => k_asm); (case k2_4 => k_asm); (case k3_4 => k_asm); (case k4_4 => k_asm); (case k5_4 => k_asm); (case k6_4 => k_is); (case k7_4 => k_is); (case k8_4 => ktr_room); (case k9_4 => exact BindsTo.of_eq rfl); (case kB_4 => exact rfl); (case kD_4 => decide +kernel); (case c2_4 => exact rfl); (case c3_4 => exact rfl); (case c4_4 => exact rfl); k_whole; intro g' L' h' tk' cells' FG' F' N' Y' B' X' T' l1; (try k_lt l1); k_cells Y'; (try simp only [List.cons_append, List.nil_append] at N'); (try dsimp only); (try k_fold))
    | fail
  k_with "tb_start" => first
    | (first
      | with_reducible exact Mine.Apart.ne (by with_reducible assumption)
      | with_reducible exact Mine.Apart.en (by with_reducible assumption)
      | with_reducible exact Mine.succ_ne1
      | with_reducible exact Mine.succ_ne2
      | (with_reducible refine' Mine.less_ne ?h_5 ?m_5; (case h_5 => with_reducible assumption); (case m_5 => kst_mem))
      | (with_reducible refine' Mine.less_en ?h_5 ?m_5; (case h_5 => with_reducible assumption); (case m_5 => kst_mem))
      | (with_reducible refine' Mine.less_ne1 ?h_5 ?m_5; (case h_5 => with_reducible assumption); (case m_5 => kst_mem))
      | (with_reducible refine' Mine.less_en1 ?h_5 ?m_5; (case h_5 => with_reducible assumption); (case m_5 => kst_mem))
      | (with_reducible refine' Mine.less_ne2 ?h_5 ?m_5; (case h_5 => with_reducible assumption); (case m_5 => kst_mem))
      | (with_reducible refine' Mine.less_en2 ?h_5 ?m_5; (case h_5 => with_reducible assumption); (case m_5 => kst_mem))
      | (with_reducible refine' Mine.less_ne3 ?h_5 ?m_5; (case h_5 => with_reducible assumption); (case m_5 => kst_mem))
      | (with_reducible refine' Mine.less_en3 ?h_5 ?m_5; (case h_5 => with_reducible assumption); (case m_5 => kst_mem))
      | (with_reducible refine' Mine.less_ne4 ?h_5 ?m_5; (case h_5 => with_reducible assumption); (case m_5 => kst_mem))
      | (with_reducible refine' Mine.less_en4 ?h_5 ?m_5; (case h_5 => with_reducible assumption); (case m_5 => kst_mem))
      | (with_reducible refine' Mine.less_ne5 ?h_5 ?m_5; (case h_5 => with_reducible assumption); (case m_5 => kst_mem))
      | (with_reducible refine' Mine.less_en5 ?h_5 ?m_5; (case h_5 => with_reducible assumption); (case m_5 => kst_mem))
      | (with_reducible refine' Mine.lt_ne2 ?k_5 ?h_5 ?m_5; (case k_5 => with_reducible assumption); (case h_5 => with_reducible assumption); (case m_5 => kst_mem))
      | (with_reducible refine' Mine.lt_en2 ?k_5 ?h_5 ?m_5; (case k_5 => with_reducible assumption); (case h_5 => with_reducible assumption); (case m_5 => kst_mem)))
    | fail
  k_with "k_ne" => first
    | (first | tb_start | ((try dsimp only); (refine neN ?_); first | tb_start | omega))
    | fail
  trivial
section
open Classical in
noncomputable def rvEq (a b : Rv) : Bool := decide (a = b)
open Classical in
theorem rvEq_t {a b : Rv} (h : rvEq a b = true) : a = b := of_decide_eq_true h
open Classical in
theorem rvEq_f {a b : Rv} (h : rvEq a b = false) : a ≠ b := of_decide_eq_false h
def hd0 (rs : List Rv) : Rv := rs.headD .none
theorem RVs.hd {xs : List Value} {rs : List Rv} {v : Value} (h : RVs xs rs) (g : xs[Int.toNat 0]? = some v) : RV v (hd0 rs) := by
  cases h with
  | nil => cases g
  | cons a t =>
    have g' : some _ = some v := g
    cases g'
    exact a
noncomputable def keepHd (r0 : Rv) (l : List Rv) (r : Rv) : List Rv := if rvEq r r0 = true then l ++ [r] else l
noncomputable def alikes (rs : List Rv) : List Rv := rs.foldl (keepHd (hd0 rs)) []
def nonE (xs : List Value) : Bool := decide (0 < xs.length)
theorem nonE_pos {xs : List Value} (h : nonE xs = true) : (0 : Int) < (xs.length : Nat) := by have := of_decide_eq_true h; omega
open Classical in
theorem keep_len (r0 : Rv) : ∀ (rs l : List Rv), (rs.foldl (keepHd r0) l).length ≤ l.length + rs.length ∧ ((rs.foldl (keepHd r0) l).length = l.length + rs.length ↔ ∀ r ∈ rs, r = r0) := by
  intro rs
  induction rs with
  | nil => intro l; simp
  | cons x t ih =>
    intro l
    simp only [List.foldl_cons, List.length_cons]
    by_cases c : rvEq x r0 = true
    · have e : keepHd r0 l x = l ++ [x] := if_pos c
      rw [e]
      have := ih (l ++ [x])
      simp only [List.length_append, List.length_cons, List.length_nil] at this
      refine ⟨by omega, ?_⟩
      have c' := rvEq_t c
      constructor
      · intro h r hr
        rcases List.mem_cons.mp hr with rfl | hr
        · exact c'
        · exact this.2.mp (by omega) r hr
      · intro h
        have := this.2.mpr fun r hr => h r (.tail _ hr)
        omega
    · have e : keepHd r0 l x = l := if_neg c
      rw [e]
      have := ih l
      refine ⟨by omega, ?_⟩
      constructor
      · intro h; omega
      · intro h
        exact absurd (decide_eq_true (h x (.head _))) c
theorem fold_hd (r0 : Rv) : ∀ rs : List Rv, (∀ r ∈ rs, r = r0) → rs.foldl addNew [r0] = [r0] := by
  intro rs
  induction rs with
  | nil => intro _; rfl
  | cons x t ih =>
    intro h
    have e : x = r0 := h x (.head _)
    subst e
    rw [List.foldl_cons]
    have : addNew [x] x = [x] := by unfold addNew; rw [if_pos (.head _)]
    rw [this]
    exact ih fun r hr => h r (.tail _ hr)
theorem fold_mem : ∀ (rs qs : List Rv) (r : Rv), r ∈ qs ∨ r ∈ rs → r ∈ rs.foldl addNew qs := by
  intro rs
  induction rs with
  | nil => intro qs r h; exact h.elim id fun h => nomatch h
  | cons x t ih =>
    intro qs r h
    rw [List.foldl_cons]
    refine ih _ _ ?_
    unfold addNew
    by_cases c : x ∈ qs
    · rw [if_pos c]
      rcases h with h | h
      · exact .inl h
      rcases List.mem_cons.mp h with rfl | h
      · exact .inl c
      · exact .inr h
    · rw [if_neg c]
      rcases h with h | h
      · exact .inl (List.mem_append.mpr (.inl h))
      rcases List.mem_cons.mp h with rfl | h
      · exact .inl (List.mem_append.mpr (.inr (.head _)))
      · exact .inr h
theorem dist_flat : ∀ (ls : List (List Rv)) (q : List Rv), ls.foldl (fun q l => l.foldl addNew q) q = ls.flatten.foldl addNew q := by
  intro ls
  induction ls with
  | nil => intro q; rfl
  | cons x t ih => intro q; rw [List.foldl_cons, ih, List.flatten_cons, List.foldl_append]
theorem dist_one {rs : List Rv} {ls : List (List Rv)} (hl : ls.flatten = rs) (hne : rs ≠ []) (h : (alikes rs).length = rs.length) : distN ls = [hd0 rs] := by
  unfold distN
  rw [dist_flat, hl]
  have ha := (keep_len (hd0 rs) rs []).2.mp (by unfold alikes at h; simpa using h)
  cases rs with
  | nil => exact absurd rfl hne
  | cons x t =>
    rw [List.foldl_cons]
    have : addNew [] x = [x] := by unfold addNew; rw [if_neg (by simp)]; rfl
    rw [this]
    exact fold_hd x t fun r hr => ha r (.tail _ hr)
theorem dist_not {rs : List Rv} {ls : List (List Rv)} {r : Rv} (hl : ls.flatten = rs) (h : distN ls = [r]) : rs ≠ [] ∧ (alikes rs).length = rs.length := by
  unfold distN at h
  rw [dist_flat, hl] at h
  cases rs with
  | nil => cases h
  | cons x t =>
    refine ⟨by simp, ?_⟩
    have key : ∀ y ∈ x :: t, y = r := fun y hy => by
      have := fold_mem (x :: t) [] y (.inr hy)
      rw [h] at this
      simpa using this
    have := (keep_len (hd0 (x :: t)) (x :: t) []).2.mpr fun y hy => (key y hy).trans (key x (.head _)).symm
    unfold alikes
    simpa using this
theorem RVs.ne {xs : List Value} {rs : List Rv} (h : RVs xs rs) (e : nonE xs = true) : rs ≠ [] := by
  have := of_decide_eq_true e
  rw [h.length] at this
  intro z; rw [z] at this; simp at this
/-- told one region and the law says one: the same -/
theorem al_same {xs fs : List Value} {rs : List Rv} {ls : List (List Rv)} {r : Rv} (e : nonE xs = true) (q : (fs.length : Int) = (xs.length : Nat)) (hx : RVs xs rs) (hf : RVs fs (alikes rs)) (hl : ls.flatten = rs) (c : distN ls = [r]) : r = hd0 rs := by
  have := dist_one hl (hx.ne e) (by rw [← hf.length, ← hx.length]; omega)
  rw [this] at c
  exact (List.cons.inj c).1.symm
theorem al_badA {P : Prop} {xs fs : List Value} {rs : List Rv} {ls : List (List Rv)} (e : nonE xs = true) (q : (fs.length : Int) = (xs.length : Nat)) (hx : RVs xs rs) (hf : RVs fs (alikes rs)) (hl : ls.flatten = rs) (c : (distN ls).length ≠ 1) : P := by
  have := dist_one hl (hx.ne e) (by rw [← hf.length, ← hx.length]; omega)
  rw [this] at c
  exact absurd rfl c
theorem al_badE {P : Prop} {xs : List Value} {rs : List Rv} {ls : List (List Rv)} {r : Rv} (e : nonE xs = false) (hx : RVs xs rs) (hl : ls.flatten = rs) (c : distN ls = [r]) : P := by
  have := (dist_not hl c).1
  have e' := of_decide_eq_false e
  rw [hx.length] at e'
  cases rs with
  | nil => exact absurd rfl this
  | cons x t => simp at e'
theorem al_badN {P : Prop} {xs fs : List Value} {rs : List Rv} {ls : List (List Rv)} {r : Rv} (q : (fs.length : Int) ≠ (xs.length : Nat)) (hx : RVs xs rs) (hf : RVs fs (alikes rs)) (hl : ls.flatten = rs) (c : distN ls = [r]) : P := by
  have := (dist_not hl c).2
  rw [← hf.length, ← hx.length] at this
  exact absurd (by omega) q
theorem dist_nil {P : Prop} {r : Rv} (c : distN [] = [r]) : P := by unfold distN at c; cases c
section
variable {prog : Program} {w : World} {A : Around} {E : Value → Shared → Prop} {s : Shared} {h₀ : Heap} {L a b : Addr} {l : List (Addr × Obj)} {xs ys : List Value} {k k2 : Nat} {rs : List Rv} {Q : Value → Shared → Prop}
open Classical in
theorem rv_eqV {v v' : Value} {r r' : Rv} (hv : RV v r) (hv' : RV v' r') (hu : A.units + 64 < cLine) (h : Q (.bool (rvEq r r')) s) : wpAny (model prog w) A (compareOp .Eq v v') Q E s := by
  obtain ⟨lv, dv⟩ : Reads s.heap v r.pd [] ∧ r.pd.canLay0 = true ∧ r.pd.depth = 0 := hv.reads
  obtain ⟨lw, dw⟩ : Reads s.heap v' r'.pd [] ∧ r'.pd.canLay0 = true ∧ r'.pd.depth = 0 := hv'.reads
  refine eq_dataH lv lw ?_ ?_ hu ?_
  · unfold SeqAt.shaped; rw [dv.1, Bool.true_and, dv.2]; rfl
  · unfold SeqAt.shaped; rw [dw.1, Bool.true_and, dw.2]; rfl
  · have e : PyData.eqv r.pd r'.pd = rvEq r r' := by
      have q := kqd_eqv 8 r.dat r'.dat 8 hv.ok hv'.ok
      have p1 : kqdP r.dat = r.pd := by cases r <;> rfl
      have p2 : kqdP r'.dat = r'.pd := by cases r' <;> rfl
      rw [p1, p2, Rv.dat_inj] at q
      by_cases c : r = r'
      · rw [q.mpr c]; exact (decide_eq_true c).symm
      · rw [Bool.eq_false_iff.mpr fun x => c (q.mp x)]; exact (decide_eq_false c).symm
    rw [e]; exact h
open Classical in
theorem rv_neL (N : News h₀ L s.heap l) (ma : (a, listOf xs.toArray k) ∈ l) (mb : (b, listOf ([] : List Value).toArray k2) ∈ l) (hx : RVs xs rs) (hu : A.units + 64 < cLine) (h : Q (.bool (nonE xs)) s) : wpAny (model prog w) A (compareOp .NotEq (.ref a) (.ref b)) Q E s := by
  refine kqd_ne N ma rfl rfl hx.datAll (fun _ h => h) mb rfl rfl RVs.nil.datAll (fun _ h => h) hx.ok RVs.nil.ok hu ?_
  have e : (!decide (rs.map Rv.dat = ([] : List Rv).map Rv.dat)) = nonE xs := by
    unfold nonE
    rw [hx.length]
    cases rs with
    | nil => simp
    | cons x t => simp
  rw [e]; exact h
end
theorem rv_ne00 {prog : Program} {w : World} {A : Around} {E : Value → Shared → Prop} {s : Shared} {h₀ : Heap} {L a b : Addr} {l : List (Addr × Obj)} {k k2 : Nat} {Q : Value → Shared → Prop} (N : News h₀ L s.heap l) (ma : (a, listOf ([] : List Value).toArray k) ∈ l) (mb : (b, listOf ([] : List Value).toArray k2) ∈ l) (hu : A.units + 64 < cLine) (h : Q (.bool false) s) : wpAny (model prog w) A (compareOp .NotEq (.ref a) (.ref b)) Q E s :=
  rv_neL N ma mb .nil hu h
def AlEl (news : List (Addr × Obj)) (r r0 : Rv) (y : Value) (news' : List (Addr × Obj)) : Prop := news' = news ∧ RV y r ∧ rvEq r r0 = true
def AlNo (news : List (Addr × Obj)) (r r0 : Rv) (news' : List (Addr × Obj)) : Prop := news' = news ∧ rvEq r r0 = false
theorem AlEl.intro {news news' : List (Addr × Obj)} {r r0 : Rv} {y : Value} (a : RV y r) (b : rvEq r r0 = true) (e : news' = news) : AlEl news r r0 y news' := ⟨e, a, b⟩
theorem AlNo.intro {news news' : List (Addr × Obj)} {r r0 : Rv} (b : rvEq r r0 = false) (e : news' = news) : AlNo news r r0 news' := ⟨e, b⟩
theorem RVs.at {vs : List Value} {rs : List Rv} (h : RVs vs rs) : ∀ (i : Nat) (v : Value), vs[i]? = some v → ∃ r, rs[i]? = some r ∧ RV v r := by
  induction h with
  | nil => intro i v e; simp at e
  | cons a _ ih =>
    intro i v e
    cases i with
    | zero => simp at e; subst e; exact ⟨_, rfl, a⟩
    | succ i => simpa using ih i v (by simpa using e)
section
variable {prog : Program} {w : World} {A : Around} {h₀ : Heap} {L : Addr} {m : Str → Option Value} {env : Env} {ct elt : PySem.Expr} {x : Str} {scope : Scope} {cl : List (Str × Addr)} {s : Shared} {S : List (Addr × Obj) → Prop} {Fin : List Value → List (Addr × Obj) → Prop} {news : List (Addr × Obj)}
theorem al_list {vs : List Value} {rs : List Rv} (hi : RVs vs rs)
    (turn : ∀ v r I oI C oC D m₂ ys h tk (E' : Value → Shared → Prop), RV v r → (0 : Int) < (vs.length : Nat) → LCg.NsObj oC m₂ → m₂ x = some v → Fr h₀ L h m → News h₀ L h ((I, oI) :: (C, oC) :: (D, LCg.lst ys) :: news) → LCg.Off3 I C D news → ((@Ne Nat I C) ∧ (@Ne Nat I D) ∧ (@Ne Nat C D)) →
      wpAny (model prog w) A (isTrue ct (compEnvC scope cl C env) (eval ct (compEnvC scope cl C env))) (fun b s' => if b = true then wpAny (model prog w) A (eval elt (compEnvC scope cl C env)) (LCg.CompEnd h₀ L m { s with heap := h, toks := tk } I oI C oC D (LCg.lst ys) S (fun y news' => AlEl news r (hd0 rs) y news')) E' s'
        else LCg.CompEnd h₀ L m { s with heap := h, toks := tk } I oI C oC D (LCg.lst ys) S (fun _ news' => AlNo news r (hd0 rs) news') Value.none s') E' { s with heap := h, toks := tk })
    (fin : ∀ ys, RVs ys (alikes rs) → ys.length ≤ vs.length → Fin ys news) : LCt.CompRestT prog w A h₀ L m env ct elt x scope cl s S (fun i v => vs.toArray[i]? = some v) Fin vs.toArray.size 0 [] news := by
  have hks : rs.length = vs.toArray.size := by rw [List.size_toArray]; exact hi.length.symm
  have key : ∀ (j i : Nat) (ys : List Value), i + j = vs.toArray.size → RVs ys ((rs.take i).foldl (keepHd (hd0 rs)) []) → LCt.CompRestT prog w A h₀ L m env ct elt x scope cl s S (fun i v => vs.toArray[i]? = some v) Fin j i ys news := by
    intro j
    induction j with
    | zero =>
      intro i ys hi' hy
      have e : i = rs.length := by omega
      subst e
      rw [List.take_length] at hy
      refine LCt.CompRestT.zero (fin ys hy ?_)
      have h1 := (keep_len (hd0 rs) rs []).1
      rw [hy.length, hi.length]
      simpa using h1
    | succ j ih =>
      intro i ys hi' hy
      refine LCt.CompRestT.succ ?_
      intro v I oI C oC D m₂ h tk E' hv hC hx F N off ne
      obtain ⟨r, hr, hvr⟩ := hi.at i v (by simpa using hv)
      have hs : (rs.take (i + 1)).foldl (keepHd (hd0 rs)) [] = keepHd (hd0 rs) ((rs.take i).foldl (keepHd (hd0 rs)) []) r := by
        rw [List.take_add_one, hr]; simp
      have h0 : (0 : Int) < (vs.length : Nat) := by rw [List.size_toArray] at hi'; omega
      refine wpAny_mono (turn v r I oI C oC D m₂ ys h tk E' hvr h0 hC hx F N off ne) (fun b s₂ hq => ?_) fun _ _ e => e
      cases b with
      | true =>
        simp only [if_true] at hq ⊢
        refine wpAny_mono hq (fun y s₃ hr' => ?_) fun _ _ e => e
        obtain ⟨h', tk', nw, e, F', N', off', hS, hn, hy', hr2⟩ := hr'
        rw [hn] at N' off' hS
        refine ⟨h', tk', news, e, F', N', off', hS, ih (i + 1) _ (by omega) ?_⟩
        rw [hs]
        unfold keepHd
        rw [if_pos hr2]
        exact hy.append (.cons hy' .nil)
      | false =>
        simp only [Bool.false_eq_true, if_false] at hq ⊢
        obtain ⟨h', tk', nw, e, F', N', off', hS, hn, hr2⟩ := hq
        rw [hn] at N' off' hS
        refine ⟨h', tk', news, e, F', N', off', hS, ih (i + 1) _ (by omega) ?_⟩
        rw [hs]
        unfold keepHd
        rw [if_neg (by rw [hr2]; decide)]
        exact hy
  exact key _ 0 [] (by omega) (by simp only [List.take_zero, List.foldl_nil]; exact .nil)
end
theorem oneL_use {w : World} {mean : ExcName → Option Value} {mg mb : Str → Option Value} {dp un : Nat} {gd : Option (List Code)} {cn : Str} {cs : Scope} {ca : Addr} {ccd : Value} {cl : List (Str × Addr)} {outer : List Env} {A₀ : Around} {base h₀ : Heap} {L : Addr} {m : Str → Option Value} {s : Shared} {Q E : Value → Shared → Prop}
    {src th ask l1 l2 l3 l4 : Addr} {a b : Int} {ta tb : Tok} {n nn nk n1 n2 n3 n4 : Nat} {vs1 vs2 vs3 vs4 : List Value} {rs1 rs2 rs3 rs4 : List Rv} {l : List (Addr × Obj)} {g : Obj → List (Addr × Obj)}
    (B : Below A₀ base outer h₀) (F : Fr h₀ L s.heap m) (X : (hd.heap_1 w.params).In h₀) (N : News h₀ L s.heap l) (T : Top topProg (looseW view [Str.ofString "LendError"] ++ (recsOf view).map (·.name) ++ (litsOf view).map (·.1) ++ (clssOf view (looseW view [Str.ofString "LendError"])).map (·.name)) mean mg mb h₀) (hk : cs.kind = .function)
    (U : UpdF src (srcObj a b ta tb n) l g) (hth : (th, listOf [.ref l1, .ref l2, .ref l3, .ref l4].toArray nn) ∈ l) (hne : @Ne Nat th src) (hask : (ask, listOf ([] : List Value).toArray nk) ∈ l)
    (m1 : (l1, listOf vs1.toArray n1) ∈ l) (m2 : (l2, listOf vs2.toArray n2) ∈ l) (m3 : (l3, listOf vs3.toArray n3) ∈ l) (m4 : (l4, listOf vs4.toArray n4) ∈ l)
    (r1 : RVs vs1 rs1) (r2 : RVs vs2 rs2) (r3 : RVs vs3 rs3) (r4 : RVs vs4 rs4)
    (z1 : 0 < vs1.length ∧ vs1.length < 1000) (z2 : 0 < vs2.length ∧ vs2.length < 1000) (z3 : 0 < vs3.length ∧ vs3.length < 1000) (z4 : 0 < vs4.length ∧ vs4.length < 1000)
    (x1 : @Ne Nat l1 src ∧ @LT.lt Nat _ ask l1) (x2 : @Ne Nat l2 src ∧ @LT.lt Nat _ ask l2) (x3 : @Ne Nat l3 src ∧ @LT.lt Nat _ ask l3) (x4 : @Ne Nat l4 src ∧ @LT.lt Nat _ ask l4)
    (ha : 0 ≤ a) (hb : 0 ≤ b) (hb2 : b < 2147483647) (hd : dp + 2 < recursionLimit) (hu : un + 60 < cLine)
    (ret : ∀ reg vs rs nr a' b' ta' tb' h' tk', Fr h₀ L h' m → News h₀ L h' ((reg, listOf (List.toArray vs) nr) :: g (srcObj a' b' ta' tb' n)) → RVs vs rs → 0 < vs.length → vs.length < 1000 → Apart reg src → Apart reg ask → @LT.lt Nat _ ask reg → 0 ≤ a' → 0 ≤ b' → b' < 2147483647 → Q (.ref reg) { s with heap := h', toks := tk' }) :
    wpAny (model PySem.Challenge.rw_xm0577_01.row.prog w) (ktrTop dp un gd cn cs L ca ccd cl outer) (call (.ref 94) [.ref src, .ref th]) Q E s := by
  obtain ⟨R, hR, hg, hl⟩ := UpdF.out U
  refine one_use B F X N T hk U hth hne (Nat.le_of_ble_eq_true rfl) (Nat.le_of_ble_eq_true rfl) ha hb hb2 hd hu fun r k a' b' ta' tb' h' tk' F' N' hv hg' y1 y2 y3 => ?_
  have keep : ∀ (x : Addr) (o : Obj), (x, o) ∈ l → @Ne Nat x src → (x, o) ∈ g (srcObj a' b' ta' tb' n) := fun x o hm hx =>
    (hg _ _).mpr (.tail _ ((List.mem_cons.mp ((hl _).mp hm)).resolve_left fun h => hx (congrArg Prod.fst h)))
  have put : ∀ (x : Addr) (o : Obj), (x, o) ∈ l → @Ne Nat x src → News h₀ L h' ((x, o) :: g (srcObj a' b' ta' tb' n)) := fun x o hm hx p hp => by
    rcases List.mem_cons.mp hp with rfl | hp
    · exact N' _ (keep x o hm hx)
    · exact N' p hp
  simp only [List.mem_cons, List.not_mem_nil, or_false] at hv
  rcases hv with rfl | rfl | rfl | rfl
  · exact ret _ _ _ _ _ _ _ _ _ _ F' (put _ _ m1 x1.1) r1 z1.1 z1.2 x1.1 (Nat.ne_of_gt x1.2) x1.2 y1 y2 y3
  · exact ret _ _ _ _ _ _ _ _ _ _ F' (put _ _ m2 x2.1) r2 z2.1 z2.2 x2.1 (Nat.ne_of_gt x2.2) x2.2 y1 y2 y3
  · exact ret _ _ _ _ _ _ _ _ _ _ F' (put _ _ m3 x3.1) r3 z3.1 z3.2 x3.1 (Nat.ne_of_gt x3.2) x3.2 y1 y2 y3
  · exact ret _ _ _ _ _ _ _ _ _ _ F' (put _ _ m4 x4.1) r4 z4.1 z4.2 x4.1 (Nat.ne_of_gt x4.2) x4.2 y1 y2 y3
theorem take4_use {w : World} {mean : ExcName → Option Value} {mg mb : Str → Option Value} {dp un : Nat} {gd : Option (List Code)} {cn : Str} {cs : Scope} {ca : Addr} {ccd : Value} {cl : List (Str × Addr)} {outer : List Env} {A₀ : Around} {base h₀ : Heap} {L : Addr} {m : Str → Option Value} {s : Shared} {Q E : Value → Shared → Prop}
    {src : Addr} {a b : Int} {ta tb tt : Tok} {n : Nat} {l : List (Addr × Obj)} {g : Obj → List (Addr × Obj)}
    (B : Below A₀ base outer h₀) (F : Fr h₀ L s.heap m) (X : (hd.heap_1 w.params).In h₀) (N : News h₀ L s.heap l) (T : Top topProg (looseW view [Str.ofString "LendError"] ++ (recsOf view).map (·.name) ++ (litsOf view).map (·.1) ++ (clssOf view (looseW view [Str.ofString "LendError"])).map (·.name)) mean mg mb h₀) (hk : cs.kind = .function)
    (U : UpdF src (srcObj a b ta tb n) l g) (ha : 0 ≤ a) (hb : 0 ≤ b) (hb2 : b < 2147483647) (hd : dp + 1 < recursionLimit) (hu : un + 20 < cLine)
    (r0 : ∀ a' b' t ta' tb' h' tk', Fr h₀ L h' m → News h₀ L h' (g (srcObj a' b' ta' tb' n)) → 0 ≤ a' → 0 ≤ b' → b' < 2147483647 → Q (.int 0 t) { s with heap := h', toks := tk' })
    (r1 : ∀ a' b' t ta' tb' h' tk', Fr h₀ L h' m → News h₀ L h' (g (srcObj a' b' ta' tb' n)) → 0 ≤ a' → 0 ≤ b' → b' < 2147483647 → Q (.int 1 t) { s with heap := h', toks := tk' })
    (r2 : ∀ a' b' t ta' tb' h' tk', Fr h₀ L h' m → News h₀ L h' (g (srcObj a' b' ta' tb' n)) → 0 ≤ a' → 0 ≤ b' → b' < 2147483647 → Q (.int 2 t) { s with heap := h', toks := tk' })
    (r3 : ∀ a' b' t ta' tb' h' tk', Fr h₀ L h' m → News h₀ L h' (g (srcObj a' b' ta' tb' n)) → 0 ≤ a' → 0 ≤ b' → b' < 2147483647 → Q (.int 3 t) { s with heap := h', toks := tk' }) :
    wpAny (model PySem.Challenge.rw_xm0577_01.row.prog w) (ktrTop dp un gd cn cs L ca ccd cl outer) (call (.ref 87) [.ref src, .int 4 tt]) Q E s := by
  refine take_use B F X N T hk U ha hb hb2 (by decide) (by decide) hd hu fun k a' b' t ta' tb' h' tk' F' N' k0 k1 x3 x4 x5 => ?_
  rcases (show k = 0 ∨ k = 1 ∨ k = 2 ∨ k = 3 by omega) with rfl | rfl | rfl | rfl
  · exact r0 a' b' t ta' tb' h' tk' F' N' x3 x4 x5
  · exact r1 a' b' t ta' tb' h' tk' F' N' x3 x4 x5
  · exact r2 a' b' t ta' tb' h' tk' F' N' x3 x4 x5
  · exact r3 a' b' t ta' tb' h' tk' F' N' x3 x4 x5
theorem allLt_ne4 {d : Addr} {l : List (Addr × Obj)} (h : AllLt d l) : ∀ p ∈ l, p.1 ≠ d + 1 + 1 + 1 + 1 := fun p hp => Nat.ne_of_lt (Nat.lt_succ_of_lt (Nat.lt_succ_of_lt (Nat.lt_succ_of_lt (Nat.lt_succ_of_lt (allLt_all h p hp)))))
theorem allLt_ne5 {d : Addr} {l : List (Addr × Obj)} (h : AllLt d l) : ∀ p ∈ l, p.1 ≠ d + 1 + 1 + 1 + 1 + 1 := fun p hp => Nat.ne_of_lt (Nat.lt_succ_of_lt (Nat.lt_succ_of_lt (Nat.lt_succ_of_lt (Nat.lt_succ_of_lt (Nat.lt_succ_of_lt (allLt_all h p hp))))))
abbrev qOnly : Str := Str.ofString "_law_only_right" ++ ".<locals>." ++ "<lambda>"
end
end
section
theorem words_44 : True := by
  w_top off
  k_with_none
  k_with "kst_mem" => first
    | (first
      | with_reducible assumption
      | with_reducible exact List.mem_cons_self
      | (with_reducible refine List.mem_cons_of_mem _ ?_; kst_mem)
      | (with_reducible refine List.mem_append.mpr (Or.inl ?_); kst_mem)
      | (with_reducible refine List.mem_append.mpr (Or.inr ?_); kst_mem)
      | fail "kst_mem")
    | fail
  k_with "k_mem" => first
    | (kst_mem)
    | fail
  k_with "k_all" => first
    | (first
      | with_reducible assumption
      | exact List.forall_mem_nil _
      | (with_reducible refine' Mine.less_sub ?h_2 ?m_2; (case h_2 => with_reducible assumption); (case m_2 => (intro p9 h9; kst_mem)))
      | (with_reducible refine' Mine.less_sub1 ?h_2 ?m_2; (case h_2 => with_reducible assumption); (case m_2 => (intro p9 h9; kst_mem)))
      | (with_reducible refine' Mine.less_sub2 ?h_2 ?m_2; (case h_2 => with_reducible assumption); (case m_2 => (intro p9 h9; kst_mem)))
      | (with_reducible refine' Mine.less_sub3 ?h_2 ?m_2; (case h_2 => with_reducible assumption); (case m_2 => (intro p9 h9; kst_mem)))
      | (with_reducible refine' Mine.less_sub4 ?h_2 ?m_2; (case h_2 => with_reducible assumption); (case m_2 => (intro p9 h9; kst_mem)))
      | (with_reducible refine' Mine.less_sub5 ?h_2 ?m_2; (case h_2 => with_reducible assumption); (case m_2 => (intro p9 h9; kst_mem)))
      | (refine' List.forall_mem_cons.mpr ⟨?a_2, ?b_2⟩; (case a_2 => k_ne); (case b_2 => k_all))
      | exact Mine.allLt_ne (by with_reducible assumption)
      | exact Mine.fresh_ne (by with_reducible assumption) (by k_mem)
      | (refine' List.forall_mem_append.mpr ⟨?_, ?_⟩ <;> k_all))
    | fail
  k_with "kqd_sub" => first
    | (first
      | exact fun _ h => h
      | exact List.forall_mem_nil _
      | (refine' List.forall_mem_cons.mpr ⟨?kqa_3, ?kqb_3⟩; (case kqa_3 => k_mem); (case kqb_3 => kqd_sub))
      | (refine' List.forall_mem_append.mpr ⟨?_, ?_⟩ <;> kqd_sub)
      | (intro p9 h9; k_mem))
    | fail
  k_with "ktr_enter" => first
    | (refine' code_defC ?k1_4 ?k2_4 ?k3_4 ?k4_4 ?k5_4 ?kA_4 ?kF_4 ?kK_4 ?k6_4 ?k7_4 ?k8_4 ?k9_4 ?kB_4 ?kD_4 ?_ ?c2_4 ?c3_4 ?c4_4; (case kA_4 => exact rfl); (case kF_4 => exact rfl); (case kK_4 => assumption); (case k1_4 => k_asm); (case k2_4 => k_asm); (case k3_4 => k_asm); (case k4_4 => k_asm); (case k5_4 => k_asm); (case k6_4 => k_is); (case k7_4 => k_is); (case k8_4 => ktr_room); (case k9_4 => exact BindsTo.of_eq rfl); (case kB_4 => exact rfl); (case kD_4 => decide +kernel); (case c2_4 => exact rfl); (case c3_4 => exact rfl); (case c4_4 => exact rfl); k_whole; intro g' L' h' tk' cells' FG' F' N' Y' B' X' T' l1; (try k_lt l1); k_cells Y'; (try simp only [List.cons_append, List.nil_append] at N'); (try dsimp only); (try k_fold))
    | fail
  k_with "tb_start" => first
    | (first
      | with_reducible exact Mine.Apart.ne (by with_reducible assumption)
      | with_reducible exact Mine.Apart.en (by with_reducible assumption)
      | with_reducible exact Mine.succ_ne1
      | with_reducible exact Mine.succ_ne2
      | (with_reducible refine' Mine.less_ne ?h_5 ?m_5; (case h_5 => with_reducible assumption); (case m_5 => kst_mem))
      | (with_reducible refine' Mine.less_en ?h_5 ?m_5; (case h_5 => with_reducible assumption); (case m_5 => kst_mem))
      | (with_reducible refine' Mine.less_ne1 ?h_5 ?m_5; (case h_5 => with_reducible assumption); (case m_5 => kst_mem))
      | (with_reducible refine' Mine.less_en1 ?h_5 ?m_5; (case h_5 => with_reducible assumption); (case m_5 => kst_mem))
      | (with_reducible refine' Mine.less_ne2 ?h_5 ?m_5; (case h_5 => with_reducible assumption); (case m_5 => kst_mem))
      | (with_reducible refine' Mine.less_en2 ?h_5 ?m_5; (case h_5 => with_reducible assumption); (case m_5 => kst_mem))
      | (with_reducible refine' Mine.less_ne3 ?h_5 ?m_5; (case h_5 => with_reducible assumption); (case m_5 => kst_mem))
      | (with_reducible refine' Mine.less_en3 ?h_5 ?m_5; (case h_5 => with_reducible assumption); (case m_5 => kst_mem))
      | (with_reducible refine' Mine.less_ne4 ?h_5 ?m_5; (case h_5 => with_reducible assumption); (case m_5 => kst_mem))
      | (with_reducible refine' Mine.less_en4 ?h_5 ?m_5; (case h_5 => with_reducible assumption); (case m_5 => kst_mem))
      | (with_reducible refine' Mine.less_ne5 ?h_5 ?m_5; (case h_5 => with_reducible assumption); (case m_5 => kst_mem))
      | (with_reducible refine' Mine.less_en5 ?h_5 ?m_5; (case h_5 => with_reducible assumption); (case m_5 => kst_mem))
      | (with_reducible refine' Mine.lt_ne2 ?k_5 ?h_5 ?m_5; (case k_5 => with_reducible assumption); (case h_5 => with_reducible assumption); (case m_5 => kst_mem))
      | (with_reducible refine' Mine.lt_en2 ?k_5 ?h_5 ?m_5; (case k_5 => with_reducible assumption); (case h_5 => with_reducible assumption); (case m_5 => kst_mem)))
    | fail
  k_with "k_ne" => first
    | (first | tb_start | ((try dsimp only); (refine neN ?_); first | tb_start | omega))
    | fail
  trivial
inductive TrsIn (N : List (Addr × Obj)) : List Value → List Tr → Prop where
  | nil : TrsIn N [] []
  | cons {v : Value} {t : Tr} {ys : List Value} {ts : List Tr} : TrIn N v t → t.regs.length ≤ 10 → t.ht ≤ 4 → TrsIn N ys ts → TrsIn N (v :: ys) (t :: ts)
theorem TrsIn.snoc {N : List (Addr × Obj)} {v : Value} {t : Tr} {ys : List Value} {ts : List Tr} (h : TrsIn N ys ts) (a : TrIn N v t) (b : t.regs.length ≤ 10) (c : t.ht ≤ 4) : TrsIn N (ys ++ [v]) (ts ++ [t]) := by
  induction h with
  | nil => exact .cons a b c .nil
  | cons x y z _ ih => exact .cons x y z ih
theorem TrsIn.mono {N N' : List (Addr × Obj)} (s : ∀ p ∈ N, p ∈ N') {ys : List Value} {ts : List Tr} (h : TrsIn N ys ts) : TrsIn N' ys ts := by
  induction h with
  | nil => exact .nil
  | cons x y z _ ih => exact .cons (x.mono s) y z ih
noncomputable abbrev flatR (ts : List Tr) : List Rv := (ts.map Tr.regs).flatten
theorem flatR_snoc (ts : List Tr) (t : Tr) : flatR (ts ++ [t]) = flatR ts ++ t.regs := by simp [flatR]
/-- only_region for at most three trees -/
theorem only_sym {w : World} {mean : ExcName → Option Value} {mg mb : Str → Option Value} {dp un : Nat} {gd : Option (List Code)} {cn : Str} {cs : Scope} {ca : Addr} {ccd : Value} {cl : List (Str × Addr)} {outer : List Env} {A₀ : Around} {base h₀ : Heap} {L : Addr} {m : Str → Option Value} {s : Shared} {Q E : Value → Shared → Prop}
    {a : Addr} {ys : List Value} {trs : List Tr} {n : Nat} {TL : List (Addr × Obj)} {sp : Int} {ts : Tok} {R : List (Addr × Obj)} (hv : TrsIn TL ys trs) (hl3 : ys.length ≤ 3) (ha : (a, tupO ys n) ∈ R) (hT : ∀ p ∈ TL, p ∈ R)
    (B : Below A₀ base outer h₀) (F : Fr h₀ L s.heap m) (X : (hd.heap_1 w.params).In h₀) (N : News h₀ L s.heap R) (T : Top topProg (looseW view [Str.ofString "LendError"] ++ (recsOf view).map (·.name) ++ (litsOf view).map (·.1) ++ (clssOf view (looseW view [Str.ofString "LendError"])).map (·.name)) mean mg mb h₀) (hk : cs.kind = .function) (hd : dp + 20 < recursionLimit) (hu : un + 500 < cLine)
    (ok : ∀ v r h' tk', RV v r → distN (trs.map Tr.regs) = [r] → Fr h₀ L h' m → News h₀ L h' R → Q v { s with heap := h', toks := tk' })
    (bad : (distN (trs.map Tr.regs)).length ≠ 1 → ∀ G e dx k1 k2 t' h' tk', Fr h₀ L G m → RaisedD base G (envX cn cs L ca ccd cl :: outer) e dx ((dx, nfDict w mOne k1 t' sp k2 ts) :: R) h' → G.UpToSlots h' → (∀ p ∈ R, p.1 < e) → @LT.lt Nat _ e dx → E (.ref e) { s with heap := h', toks := tk' }) :
    wpAny (model PySem.Challenge.rw_xm0577_01.row.prog w) (ktrTop dp un gd cn cs L ca ccd cl outer) (call (.ref 66) [.ref a, .int sp ts]) Q E s := by
  cases hv with
  | nil => exact only_0 ha hT B F X N T hk hd hu ok bad
  | cons x1 y1 z1 hv =>
    cases hv with
    | nil => exact only_1 ha hT x1 y1 z1 B F X N T hk hd hu ok bad
    | cons x2 y2 z2 hv =>
      cases hv with
      | nil => exact only_2 ha hT x1 y1 z1 x2 y2 z2 B F X N T hk hd hu ok bad
      | cons x3 y3 z3 hv =>
        cases hv with
        | nil => exact only_3 ha hT x1 y1 z1 x2 y2 z2 x3 y3 z3 B F X N T hk hd hu ok bad
        | cons _ _ _ _ => simp at hl3
def InPost (n : Nat) (g2 : Obj → Obj → List (Addr × Obj)) (i : Nat) (ys : List Value) (l : List (Addr × Obj)) : Prop :=
  ∃ a b ta tb as ka tl ts, l = g2 (srcObj a b ta tb n) (listOf (List.toArray as) ka) ++ tl ∧ 0 ≤ a ∧ 0 ≤ b ∧ b < 2147483647 ∧ ys.length = i ∧ TrsIn tl ys ts ∧ RVs as (flatR ts) ∧ as.length ≤ 6 * i ∧ ∀ o o2, ∀ q ∈ g2 o o2, ∀ p ∈ tl, @LT.lt Nat _ q.1 p.1
section
variable {prog : Program} {w : World} {A : Around} {h₀ : Heap} {L : Addr} {m : Str → Option Value} {env : Env} {s : Shared}
theorem in_end {I C D : Addr} {s₁ : Shared} {oI oC oD : Obj} {y : Value} {h' : Heap} {tk n i ka : Nat} {ys as xs : List Value} {ts : List Tr} {t : Tr} {g2 : Obj → Obj → List (Addr × Obj)} {all l₀ tl tl9 : List (Addr × Obj)} {o1 o2 o3 : Obj} {a b : Int} {ta tb : Tok}
    (F : Fr h₀ L h' m) (N : News h₀ L h' all) (hT : TrsIn tl ys ts) (hR : RVs as (flatR ts)) (la : as.length ≤ 6 * ys.length) (ht : TrIn tl9 y t) (hx : RVs xs t.regs) (hh : t.ht ≤ 2) (hl : t.regs.length + 2 ≤ 2 * 2 ^ 2)
    (f9 : ∀ q ∈ l₀, ∀ p ∈ tl9, q.1 < p.1) (mI : (I, o1) ∈ l₀) (mC : (C, o2) ∈ l₀) (mD : (D, o3) ∈ l₀) (hl0 : ∀ o o2, ∀ q ∈ g2 o o2, ∃ o', (q.1, o') ∈ l₀) (hq : ∀ o o2, ∀ q ∈ g2 o o2, ∀ p ∈ tl, @LT.lt Nat _ q.1 p.1)
    (offA : ∀ o o2, LCg.Off3 I C D (g2 o o2)) (offt : LCg.Off3 I C D tl) (m1 : (I, oI) ∈ all) (m2 : (C, oC) ∈ all) (m3 : (D, oD) ∈ all) (hs : ∀ p ∈ g2 (srcObj a b ta tb n) (listOf (as ++ xs).toArray ka), p ∈ all) (hs1 : ∀ p ∈ tl, p ∈ all) (hs2 : ∀ p ∈ tl9, p ∈ all)
    (ha : 0 ≤ a) (hb : 0 ≤ b) (hb2 : b < 2147483647) (hi : ys.length + 1 = i) :
    LCg.CompEnd h₀ L m s₁ I oI C oC D oD (fun _ => True) (fun y news' => InPost n g2 i (ys ++ [y]) news') y { s₁ with heap := h', toks := tk } := by
  have f9' : ∀ o o2, ∀ q ∈ g2 o o2, ∀ p ∈ tl9, @LT.lt Nat _ q.1 p.1 := fun o o2 q hqm p hp => by
    obtain ⟨o', ho'⟩ := hl0 o o2 q hqm
    exact f9 _ ho' p hp
  have hl' : t.regs.length ≤ 6 := by omega
  refine LCg.CompEnd.intro F N (g2 (srcObj a b ta tb n) (listOf (as ++ xs).toArray ka) ++ (tl ++ tl9)) (fun p hp => ?_) (LCg.Off3.of fun p hp => ?_) trivial ?_
  · rcases List.mem_cons.mp hp with rfl | hp
    · exact m1
    rcases List.mem_cons.mp hp with rfl | hp
    · exact m2
    rcases List.mem_cons.mp hp with rfl | hp
    · exact m3
    rcases List.mem_append.mp hp with hp | hp
    · exact hs p hp
    rcases List.mem_append.mp hp with hp | hp
    · exact hs1 p hp
    · exact hs2 p hp
  · rcases List.mem_append.mp hp with hp | hp
    · exact (offA _ _).mem p hp
    rcases List.mem_append.mp hp with hp | hp
    · exact offt.mem p hp
    · exact ⟨Nat.ne_of_gt (f9 _ mI p hp), Nat.ne_of_gt (f9 _ mC p hp), Nat.ne_of_gt (f9 _ mD p hp)⟩
  · refine ⟨a, b, ta, tb, as ++ xs, ka, tl ++ tl9, ts ++ [t], rfl, ha, hb, hb2, ?_, ?_, ?_, ?_, ?_⟩
    · simp only [List.length_append, List.length_cons, List.length_nil]; omega
    · exact (hT.mono fun p hp => List.mem_append.mpr (.inl hp)).snoc (ht.mono fun p hp => List.mem_append.mpr (.inr hp)) (by omega) (by omega)
    · rw [flatR_snoc]; exact hR.append hx
    · rw [List.length_append, hx.length]; omega
    · intro o o2 q hqm p hp
      rcases List.mem_append.mp hp with hp | hp
      · exact hq o o2 q hqm p hp
      · exact f9' o o2 q hqm p hp
theorem comp_ins {elt : PySem.Expr} {x : Str} {scope : Scope} {cl : List (Str × Addr)} {Fin : Shared → List Value → List (Addr × Obj) → Prop} {r src ask : Addr} {k a b : Int} {t u v ta tb : Tok} {n nk : Nat} {l : List (Addr × Obj)} {g1 : Obj → List (Addr × Obj)} {g2 : Obj → Obj → List (Addr × Obj)}
    (hh : A.handled = none) (F : Fr h₀ L s.heap m) (N : News h₀ L s.heap l) (_hsrc : (src, srcObj a b ta tb n) ∈ l) (_hask : (ask, listOf [].toArray nk) ∈ l) (hr : IsRange s.heap r 0 k 1 t u v) (U : UpdF src (srcObj a b ta tb n) l g1) (U2 : ∀ o, UpdF ask (listOf [].toArray nk) (g1 o) (g2 o)) (hk0 : 0 ≤ k) (hk1 : k < 4) (ha : 0 ≤ a) (hb : 0 ≤ b) (hb2 : b < 2147483647)
    (turn : ∀ ys ts a b ta tb as ka tl v I oI C oC D m₂ h tk (E' : Value → Shared → Prop), 0 ≤ a → 0 ≤ b → b < 2147483647 → TrsIn tl ys ts → RVs as (flatR ts) → as.length ≤ 6 * ys.length → ys.length < 3 → LCg.NsObj oC m₂ → m₂ x = some v → Fr h₀ L h m → News h₀ L h ((I, oI) :: (C, oC) :: (D, LCg.lst ys) :: (g2 (srcObj a b ta tb n) (listOf (List.toArray as) ka) ++ tl)) → LCg.Off3 I C D (g2 (srcObj a b ta tb n) (listOf (List.toArray as) ka)) → LCg.Off3 I C D tl → (∀ o o2, LCg.Off3 I C D (g2 o o2)) → Apart I C → Apart I D → Apart C D →
      (∀ o o2, ∀ q ∈ g2 o o2, ∀ p ∈ tl, @LT.lt Nat _ q.1 p.1) → (∀ q ∈ g2 (srcObj a b ta tb n) (listOf (List.toArray as) ka), ∀ p ∈ tl, @LT.lt Nat _ q.1 p.1) → (∀ o o2, ∀ q ∈ g2 o o2, ∃ o', (q.1, o') ∈ (I, oI) :: (C, oC) :: (D, LCg.lst ys) :: (g2 (srcObj a b ta tb n) (listOf (List.toArray as) ka) ++ tl)) →
      wpAny (model prog w) A (eval elt (compEnvC scope cl C env)) (LCg.CompEnd h₀ L m { s with heap := h, toks := tk } I oI C oC D (LCg.lst ys) (fun _ => True) (fun y news' => InPost n g2 (ys.length + 1) (ys ++ [y]) news')) E' { s with heap := h, toks := tk })
    (done : ∀ g' ys ts a b ta tb as ka tl, 0 ≤ a → 0 ≤ b → b < 2147483647 → TrsIn tl ys ts → ys.length ≤ 3 → RVs as (flatR ts) → as.length ≤ 18 → (∀ q ∈ g2 (srcObj a b ta tb n) (listOf (List.toArray as) ka), ∀ p ∈ tl, @LT.lt Nat _ q.1 p.1) → ∀ l', l' = g2 (srcObj a b ta tb n) (listOf (List.toArray as) ka) ++ tl → Fin { s with heap := g' } ys l') :
    LCg.CompSrc prog w A h₀ L m env elt x scope cl Fin (.ref r) s := by
  have hsmall : Builtin.Range.small 0 k 1 = true := small_one (by decide) (by decide) (by omega) (by omega)
  have hn : Builtin.Range.rangeSize 0 k 1 = (k.toNat : Int) := by rw [rangeSize_nat]; simp
  have same : ∀ o o2 o' o2', ∀ q ∈ g2 o o2, ∃ z, (q.1, z) ∈ g2 o' o2' := fun o o2 o' o2' q hq => by
    have hz : ∃ z, (q.1, z) ∈ l := by
      obtain ⟨q', hq'⟩ := UpdF.addr (U2 _) hq
      exact UpdF.addr (p := (q.1, q')) U hq'
    obtain ⟨z, hz⟩ := hz
    have hz1 : ∃ y, (q.1, y) ∈ g1 o' := by
      obtain ⟨R, _, hg, hl⟩ := UpdF.out U
      rcases List.mem_cons.mp ((hl _).mp hz) with e | h
      · exact ⟨o', (hg o' _).mpr (by have : q.1 = src := congrArg Prod.fst e; rw [this]; exact .head _)⟩
      · exact ⟨z, (hg o' _).mpr (.tail _ h)⟩
    obtain ⟨y, hy⟩ := hz1
    obtain ⟨R, _, hg, hl⟩ := UpdF.out (U2 o')
    rcases List.mem_cons.mp ((hl _).mp hy) with e | h
    · exact ⟨o2', (hg o2' _).mpr (by have : q.1 = ask := congrArg Prod.fst e; rw [this]; exact .head _)⟩
    · exact ⟨y, (hg o2' _).mpr (.tail _ h)⟩
  refine LCg.CompSrc.range hh F N hr hsmall hn (by rw [sizeLine_eq]; omega) fun g' => ?_
  refine comp_inv (s := { s with heap := g' }) (n := k.toNat) (fun i ys news => InPost n g2 i ys news) ?_ ?_ k.toNat 0 [] l (by omega) ⟨a, b, ta, tb, [], nk, [], [], ?_, ha, hb, hb2, rfl, .nil, .nil, Nat.le_refl _, fun _ _ _ _ _ h => nomatch h⟩
  · rintro i ys news v I oI C oC D m₂ h tk E' hi ⟨a, b, ta, tb, as, ka, tl, ts, rfl, x1, x2, x3, rfl, hT, hR, la, hq⟩ _ hC hx F' N' off ne
    have offg : LCg.Off3 I C D (g2 (srcObj a b ta tb n) (listOf (List.toArray as) ka)) := LCg.Off3.of fun p hp => off.mem p (List.mem_append.mpr (.inl hp))
    have offA : ∀ o o2, LCg.Off3 I C D (g2 o o2) := fun o o2 => LCg.Off3.of fun p hp => by
      obtain ⟨z, hz⟩ := same o o2 (srcObj a b ta tb n) (listOf (List.toArray as) ka) p hp
      exact offg.mem (p.1, z) hz
    refine turn ys ts a b ta tb as ka tl v I oI C oC D m₂ h tk E' x1 x2 x3 hT hR la (by omega) hC hx F' N' offg (LCg.Off3.of fun p hp => off.mem p (List.mem_append.mpr (.inr hp))) offA ne.1 ne.2.1 ne.2.2 hq (hq _ _) fun o o2 q hqm => ?_
    obtain ⟨z, hz⟩ := same o o2 (srcObj a b ta tb n) (listOf (List.toArray as) ka) q hqm
    exact ⟨z, .tail _ (.tail _ (.tail _ (List.mem_append.mpr (.inl hz))))⟩
  · rintro ys news ⟨a, b, ta, tb, as, ka, tl, ts, rfl, x1, x2, x3, hl, hT, hR, la, hq⟩
    exact done g' ys ts a b ta tb as ka tl x1 x2 x3 hT (by omega) hR (by omega) (hq _ _) _ rfl
  · rw [List.append_nil, UpdF.same (U2 _), UpdF.same U]
end
end
section
theorem words_45 : True := by
  w_top off
  k_with_none
  k_with "kst_mem" => first
    | (first
      | with_reducible assumption
      | with_reducible exact List.mem_cons_self
      | (with_reducible refine List.mem_cons_of_mem _ ?_; kst_mem)
      | (with_reducible refine List.mem_append.mpr (Or.inl ?_); kst_mem)
      | (with_reducible refine List.mem_append.mpr (Or.inr ?_); kst_mem)
      | fail "kst_mem")
    | fail
  k_with "k_mem" => first
    | (kst_mem)
    | fail
  k_with "k_all" => first
    | (first
      | with_reducible assumption
      | exact List.forall_mem_nil _
      | (with_reducible refine' Mine.less_sub ?h_2 ?m_2; (case h_2 => with_reducible assumption); (case m_2 => (intro p9 h9; kst_mem)))
      | (with_reducible refine' Mine.less_sub1 ?h_2 ?m_2; (case h_2 => with_reducible assumption); (case m_2 => (intro p9 h9; kst_mem)))
      | (with_reducible refine' Mine.less_sub2 ?h_2 ?m_2; (case h_2 => with_reducible assumption); (case m_2 => (intro p9 h9; kst_mem)))
      | (with_reducible refine' Mine.less_sub3 ?h_2 ?m_2; (case h_2 => with_reducible assumption); (case m_2 => (intro p9 h9; kst_mem)))
      | (with_reducible refine' Mine.less_sub4 ?h_2 ?m_2; (case h_2 => with_reducible assumption); (case m_2 => (intro p9 h9; kst_mem)))
      | (with_reducible refine' Mine.less_sub5 ?h_2 ?m_2; (case h_2 => with_reducible assumption); (case m_2 => (intro p9 h9; kst_mem)))
      | (refine' List.forall_mem_cons.mpr ⟨?a_2, ?b_2⟩; (case a_2 => k_ne); (case b_2 => k_all))
      | exact Mine.allLt_ne (by with_reducible assumption)
      | exact Mine.fresh_ne (by with_reducible assumption) (by k_mem)
      | (refine' List.forall_mem_append.mpr ⟨?_, ?_⟩ <;> k_all))
    | fail
  k_with "kqd_sub" => first
    | (first
      | exact fun _ h => h
      | exact List.forall_mem_nil _
      | (refine' List.forall_mem_cons.mpr ⟨?kqa_3, ?kqb_3⟩; (case kqa_3 => k_mem); (case kqb_3 => kqd_sub))
      | (refine' List.forall_mem_append.mpr ⟨?_, ?_⟩ <;> kqd_sub)
      | (intro p9 h9; k_mem))
    | fail
  k_with "ktr_enter" => first
    | (refine' code_defC ?k1_4 ?k2_4 ?k3_4 ?k4_4 ?k5_4 ?kA_4 ?kF_4 ?kK_4 ?k6_4 ?k7_4 ?k8_4 ?k9_4 ?kB_4 ?kD_4 ?_ ?c2_4 ?c3_4 ?c4_4; (case kA_4 => exact rfl); (case kF_4 => exact rfl); (case kK_4 => assumption); (case k1_4 => k_asm); (case k2_4 => k_asm); (case k3_4 => k_asm); (case k4_4 => k_asm); (case k5_4 => k_asm); (case k6_4 => k_is); (case k7_4 => k_is); (case k8_4 => ktr_room); (case k9_4 => exact BindsTo.of_eq rfl); (case kB_4 => exact rfl); (case kD_4 => decide +kernel); (case c2_4 => exact rfl); (case c3_4 => exact rfl); (case c4_4 => exact rfl); k_whole; intro g' L' h' tk' cells' FG' F' N' Y' B' X' T' l1; (try k_lt l1); k_cells Y'; (try simp only [List.cons_append, List.nil_append] at N'); (try dsimp only); (try k_fold))
    | fail
  k_with "tb_start" => first
    | (first
      | with_reducible exact Mine.Apart.ne (by with_reducible assumption)
      | with_reducible exact Mine.Apart.en (by with_reducible assumption)
      | with_reducible exact Mine.succ_ne1
      | with_reducible exact Mine.succ_ne2
      | (with_reducible refine' Mine.less_ne ?h_5 ?m_5; (case h_5 => with_reducible assumption); (case m_5 => kst_mem))
      | (with_reducible refine' Mine.less_en ?h_5 ?m_5; (case h_5 => with_reducible assumption); (case m_5 => kst_mem))
      | (with_reducible refine' Mine.less_ne1 ?h_5 ?m_5; (case h_5 => with_reducible assumption); (case m_5 => kst_mem))
      | (with_reducible refine' Mine.less_en1 ?h_5 ?m_5; (case h_5 => with_reducible assumption); (case m_5 => kst_mem))
      | (with_reducible refine' Mine.less_ne2 ?h_5 ?m_5; (case h_5 => with_reducible assumption); (case m_5 => kst_mem))
      | (with_reducible refine' Mine.less_en2 ?h_5 ?m_5; (case h_5 => with_reducible assumption); (case m_5 => kst_mem))
      | (with_reducible refine' Mine.less_ne3 ?h_5 ?m_5; (case h_5 => with_reducible assumption); (case m_5 => kst_mem))
      | (with_reducible refine' Mine.less_en3 ?h_5 ?m_5; (case h_5 => with_reducible assumption); (case m_5 => kst_mem))
      | (with_reducible refine' Mine.less_ne4 ?h_5 ?m_5; (case h_5 => with_reducible assumption); (case m_5 => kst_mem))
      | (with_reducible refine' Mine.less_en4 ?h_5 ?m_5; (case h_5 => with_reducible assumption); (case m_5 => kst_mem))
      | (with_reducible refine' Mine.less_ne5 ?h_5 ?m_5; (case h_5 => with_reducible assumption); (case m_5 => kst_mem))
      | (with_reducible refine' Mine.less_en5 ?h_5 ?m_5; (case h_5 => with_reducible assumption); (case m_5 => kst_mem))
      | (with_reducible refine' Mine.lt_ne2 ?k_5 ?h_5 ?m_5; (case k_5 => with_reducible assumption); (case h_5 => with_reducible assumption); (case m_5 => kst_mem))
      | (with_reducible refine' Mine.lt_en2 ?k_5 ?h_5 ?m_5; (case k_5 => with_reducible assumption); (case h_5 => with_reducible assumption); (case m_5 => kst_mem)))
    | fail
  k_with "k_ne" => first
    | (first | tb_start | ((try dsimp only); (refine neN ?_); first | tb_start | omega))
    | fail
  k_with "m call ref" => first
    | (k_here; (with_reducible show wpAny _ _ (call (Value.ref 87) _) _ _ _); k_dflt (refine' Mine.take_use ?k1_7 ?k2_7 ?k3_7 ?k4_7 ?k5_7 ?k6_7 ?k7_7 ?k8_7 ?k9_7 ?k10_7 ?k11_7 ?k12_7 ?k13_7 ?k14_7 ?_; (case k1_7 => k_asm); (case k2_7 => k_asm); (case k3_7 => k_asm); (case k4_7 => k_asm); (case k5_7 => k_asm); (case k6_7 => first | exact rfl | assumption); (case k7_7 => k_updF); (case k8_7 => assumption); (case k9_7 => assumption); (case k10_7 => assumption); (case k11_7 => omega); (case k12_7 => omega); (case k13_7 => ktr_room); (case k14_7 => ktr_units); k_whole); intro k9 a9 b9 t9 ta9 tb9 h9 tk9 F9 N9 x19 x29 x39 x49 x59; (try dsimp only at N9); (try k_sweep); (try k_fold))
    | fail
  k_with "ktn_lt" => first
    | (first
      | (refine' Mine.Fresh3.of ?f_11 ?a_11 ?b_11 ?c_11; (case f_11 => assumption); (case a_11 => k_mem); (case b_11 => k_mem); (case c_11 => (intro p9 h9; k_mem)))
      | (refine' Mine.Fresh3.app ?_ ?_ <;> ktn_lt))
    | fail
  k_with "ktn_ord" => first
    | (first
      | exact Mine.Rest.nil
      | (refine' Mine.Rest.app _ ?z_12; (case z_12 => ktn_lt))
      | (refine' Mine.Rest.keep ?z_12 ?a_12 ?b_12 ?c_12; (case a_12 => first | (with_reducible refine' Mine.less_allLt ?h_12 ?m_12; (case h_12 => with_reducible assumption); (case m_12 => (intro p9 h9; kst_mem))) | assumption | exact Mine.allLt_left (by assumption)); (case b_12 => first | (with_reducible refine' Mine.less_lt ?h_12 ?m_12; (case h_12 => with_reducible assumption); (case m_12 => kst_mem)) | ((try dsimp only); omega)); (case c_12 => first | (with_reducible refine' Mine.less_lt ?h_12 ?m_12; (case h_12 => with_reducible assumption); (case m_12 => kst_mem)) | ((try dsimp only); omega)); (case z_12 => ktn_ord))
      | (refine' Mine.Rest.drop ?z_12; (case z_12 => ktn_ord)))
    | fail
  k_with "m call ref" => first
    | (k_here; (with_reducible show wpAny _ _ (call (Value.ref 94) _) _ _ _); k_dflt (refine' Mine.oneR_use ?k1_13 ?k2_13 ?k3_13 ?k4_13 ?k5_13 ?k6_13 ?k7_13 ?kth_13 ?kne_13 ?krv_13 ?kv0_13 ?kv1_13 ?k8_13 ?k9_13 ?k10_13 ?k13_13 ?k14_13 ?_; (case k1_13 => k_asm); (case k2_13 => k_asm); (case k3_13 => k_asm); (case k4_13 => k_asm); (case k5_13 => k_asm); (case k6_13 => first | exact rfl | assumption); (case k7_13 => k_updF); (case kth_13 => k_mem); (case kne_13 => first | with_reducible exact Mine.Apart.ne (by with_reducible assumption) | with_reducible assumption | k_ne); (case krv_13 => with_reducible assumption); (case kv0_13 => assumption); (case kv1_13 => assumption); (case k8_13 => assumption); (case k9_13 => assumption); (case k10_13 => assumption); (case k13_13 => ktr_room); (case k14_13 => ktr_units); k_whole); intro r9 q9 a9 b9 ta9 tb9 h9 tk9 hq9 F9 N9 x39 x49 x59; (try dsimp only at N9); (try k_sweep); (try k_fold))
    | fail
  k_with "ktn_open" => first
    | (first
      | (refine' Mine.trIn_due ?h_14 ?e_14 ?s_14; (case h_14 => with_reducible assumption); (case e_14 => first | with_reducible rfl | ((simp only [List.length_append, List.length_cons, List.length_nil, Nat.zero_add]); done) | ((simp only [List.length_append, List.length_cons, List.length_nil, Nat.zero_add]); omega) | omega); (case s_14 => kqd_sub))
      | (refine' Mine.TrIn.mono ?s_14 ?h_14; (case h_14 => with_reducible assumption); (case s_14 => kqd_sub))
      | (with_reducible refine' Mine.TrIn.b ?a0_14; (case a0_14 => kst_mem))
      | (with_reducible refine' Mine.TrIn.i ?a0_14; (case a0_14 => kst_mem))
      | (with_reducible refine' Mine.TrIn.p ?a0_14; (case a0_14 => kst_mem))
      | (with_reducible refine' Mine.TrIn.nv ?a0_14; (case a0_14 => kst_mem))
      | (with_reducible refine' Mine.TrIn.inf ?a0_14; (case a0_14 => kst_mem))
      | (with_reducible refine' Mine.TrIn.ref ?a0_14 ?a1_14 ?a2_14; (case a0_14 => kst_mem); (case a1_14 => ked_reads); (case a2_14 => ktn_open))
      | (with_reducible refine' Mine.TrIn.box ?a0_14 ?a1_14; (case a0_14 => kst_mem); (case a1_14 => ktn_open))
      | (with_reducible refine' Mine.TrIn.arr ?a0_14 ?a1_14; (case a0_14 => kst_mem); (case a1_14 => ktn_open))
      | (with_reducible refine' Mine.TrIn.tup0 ?a0_14 ?a1_14; (case a0_14 => kst_mem); (case a1_14 => kst_mem))
      | (with_reducible refine' Mine.TrIn.tup1 ?a0_14 ?a1_14 ?a2_14; (case a0_14 => kst_mem); (case a1_14 => kst_mem); (case a2_14 => ktn_open))
      | (with_reducible refine' Mine.TrIn.tup2 ?a0_14 ?a1_14 ?_ ?_; (case a0_14 => kst_mem); (case a1_14 => kst_mem); all_goals ktn_open)
      | (with_reducible refine' Mine.TrIn.adt0 ?a0_14 ?a1_14 ?a2_14 ?a3_14 ?a4_14; (case a0_14 => kst_mem); (case a1_14 => kst_mem); (case a2_14 => ked_reads); (case a3_14 => exact Nat.le_of_ble_eq_true rfl); (case a4_14 => kst_mem))
      | (with_reducible refine' Mine.TrIn.adt1 ?a0_14 ?a1_14 ?a2_14 ?a3_14 ?a4_14 ?a5_14; (case a0_14 => kst_mem); (case a1_14 => kst_mem); (case a2_14 => ked_reads); (case a3_14 => exact Nat.le_of_ble_eq_true rfl); (case a4_14 => kst_mem); (case a5_14 => ktn_open))
      | (with_reducible refine' Mine.TrIn.adt2 ?a0_14 ?a1_14 ?a2_14 ?a3_14 ?a4_14 ?_ ?_; (case a0_14 => kst_mem); (case a1_14 => kst_mem); (case a2_14 => ked_reads); (case a3_14 => exact Nat.le_of_ble_eq_true rfl); (case a4_14 => kst_mem); all_goals ktn_open))
    | fail
  k_with "ked_reads" => first
    | (first
      | with_reducible exact Mine.RV.none
      | (with_reducible refine' Mine.RV.str _ _ ?e_15; (case e_15 => decide +kernel))
      | with_reducible exact Mine.RVs.nil
      | (with_reducible refine' Mine.RVs.cons ?ca_15 ?cb_15; (case ca_15 => ked_reads); (case cb_15 => ked_reads))
      | with_reducible assumption
      | (with_reducible refine' Mine.RVs.append ?pa_15 ?pb_15; (case pa_15 => ked_reads); (case pb_15 => ked_reads))
      | (with_reducible refine' Mine.RV.int' ?e_15; (case e_15 => first | with_reducible rfl | ((simp only [List.length_append, List.length_cons, List.length_nil, Nat.zero_add]); done) | ((simp only [List.length_append, List.length_cons, List.length_nil, Nat.zero_add]); omega) | omega)))
    | fail
  k_with "m call ref" => first
    | (k_here; (with_reducible show wpAny _ _ (call (Value.ref 99) _) _ _ _); k_dflt (refine' Mine.tw_use ?kC_16 ?k1_16 ?k2_16 ?k3_16 ?k4_16 ?k5_16 ?k6_16 ?k7_16 ?kU2_16 ?ksa_16 ?kth_16 ?kne_16 ?kne2_16 ?krv_16 ?kv0_16 ?kv1_16 ?k8_16 ?k9_16 ?k10_16 ?kvs_16 ?klen_16 ?kdv_16 ?k13_16 ?k14_16 ?_; (case kC_16 => with_reducible assumption); (case k1_16 => k_asm); (case k2_16 => k_asm); (case k3_16 => k_asm); (case k4_16 => k_asm); (case k5_16 => k_asm); (case k6_16 => first | exact rfl | assumption); (case k7_16 => k_updF); (case kU2_16 => intro o9; k_updF); (case ksa_16 => first | with_reducible exact Mine.Apart.ne (by with_reducible assumption) | with_reducible assumption | k_ne); (case kth_16 => k_mem); (case kne_16 => first | with_reducible exact Mine.Apart.ne (by with_reducible assumption) | with_reducible assumption | k_ne); (case kne2_16 => first | with_reducible exact Mine.Apart.ne (by with_reducible assumption) | with_reducible assumption | k_ne); (case krv_16 => first | with_reducible assumption | ked_reads); (case kv0_16 => first | assumption | exact Nat.le_of_ble_eq_true rfl); (case kv1_16 => first | assumption | exact Nat.le_of_ble_eq_true rfl); (case k8_16 => assumption); (case k9_16 => assumption); (case k10_16 => assumption); (case kvs_16 => ked_reads); (case klen_16 => first | decide | ((try simp only [List.length_append, List.length_cons, List.length_nil, Nat.pow_succ] at *); omega)); (case kdv_16 => omega); (case k13_16 => ktr_room); (case k14_16 => ktr_units); k_whole); intro p9 told9 due9 t9 a9 b9 ta9 tb9 tl9 xs9 nk9 np9 h9 tk9 F9 N9 x19 x29 x39 hp9 ht9 hd9 hx9 hvx9 hxl9 hh9 hl9 hf9; (try dsimp only at N9); (try simp only [List.cons_append, List.nil_append, List.append_assoc] at N9); (try simp only [List.append_assoc] at hvx9); (try k_sweep); (try k_fold))
    | fail
  k_with "tb_start" => first
    | (first
      | (with_reducible refine' Mine.off_I ?h_17 ?m_17; (case h_17 => with_reducible assumption); (case m_17 => kst_mem))
      | (with_reducible refine' Mine.off_C ?h_17 ?m_17; (case h_17 => with_reducible assumption); (case m_17 => kst_mem))
      | (with_reducible refine' Mine.off_D ?h_17 ?m_17; (case h_17 => with_reducible assumption); (case m_17 => kst_mem))
      | (with_reducible refine' Mine.of_I ?h_17 ?m_17; (case h_17 => with_reducible assumption); (case m_17 => kst_mem))
      | (with_reducible refine' Mine.of_C ?h_17 ?m_17; (case h_17 => with_reducible assumption); (case m_17 => kst_mem))
      | (with_reducible refine' Mine.of_D ?h_17 ?m_17; (case h_17 => with_reducible assumption); (case m_17 => kst_mem)))
    | fail
  k_with "m call builtin:list.append" => first
    | (k_here; (with_reducible show wpAny _ _ (call (Value.builtin _) [Value.ref _, _]) _ _ _); k_dflt (refine' Mine.append_L ?k1_18 ?k2_18 ?k3_18 ?z_18 ?_; (case k1_18 => k_asm); (case k2_18 => k_asm); (case k3_18 => k_updF); (case z_18 => ((try simp only [List.length_append, List.length_cons, List.length_nil]); omega)); k_whole); intro h' F' N'; (try dsimp only at N'); (try simp only [List.append_assoc, List.cons_append, List.nil_append] at N'); (try k_sweep))
    | fail
  k_with "m call builtin:len" => first
    | (k_here; (with_reducible show wpAny _ _ (call (Value.builtin "len") [Value.ref _]) _ _ _); k_dflt (refine' Mine.len_at ?k1_19 ?k2_19 ?k3_19 ?_; (case k1_19 => k_asm); (case k2_19 => kst_mem); (case k3_19 => ((try simp only [List.length_append, List.length_cons, List.length_nil]); omega)); k_whole))
    | fail
  k_with "lcg_off" => first
    | (first
      | assumption
      | (refine' Mine.off3_fresh ?f_20 ?a_20 ?b_20 ?c_20; (case f_20 => assumption); (case a_20 => kst_mem); (case b_20 => kst_mem); (case c_20 => kst_mem))
      | (refine' Mine.off3_app ?_ ?_ <;> lcg_off)
      | (refine' Mine.off3_sub ?a_20 ?b_20; (case a_20 => assumption); (case b_20 => (intro p9 h9; kst_mem))))
    | fail
  k_with "lcg_sub" => first
    | (first
      | (with_reducible refine' Mine.Out3.outI ?z_21; (case z_21 => lcg_sub))
      | (with_reducible refine' Mine.Out3.outC ?z_21; (case z_21 => lcg_sub))
      | (with_reducible refine' Mine.Out3.outD ?z_21; (case z_21 => lcg_sub))
      | (with_reducible refine' Mine.Out3.keep ?a_21 ?b_21 ?c_21 ?z_21; (case a_21 => k_ne); (case b_21 => k_ne); (case c_21 => k_ne); (case z_21 => lcg_sub))
      | (with_reducible refine' Mine.Out3.tail _ ?z_21; (case z_21 => lcg_off)))
    | fail
  k_with "m CompEnd" => first
    | (k_here; k_dflt (refine' Mine.comp_end ?F_22 ?N_22 ?m1_22 ?m2_22 ?m3_22 ?o_22 ?s_22 ?_; (case F_22 => k_asm); (case N_22 => k_asm); (case m1_22 => kst_mem); (case m2_22 => kst_mem); (case m3_22 => kst_mem); (case o_22 => lcg_sub); (case s_22 => lcg_src); k_whole))
    | fail
  k_with "m CompRest" => first
    | ((try simp only [List.nil_append, List.cons_append]); with_unfolding_all first
      | (refine LCg.CompRest.succ ?_; intro v' I' oI' C' oC' D' m' h' tk' E' hv' hC' hx' F' N' off' ne'; (first | lcg_open hv' | (obtain ⟨t9', hv9'⟩ := hv'; subst hv9')); have n19 : Mine.Apart _ _ := ne'.1; have n29 : Mine.Apart _ _ := ne'.2.1; have n39 : Mine.Apart _ _ := ne'.2.2; clear ne')
      | refine LCg.CompRest.zero ?_)
    | fail
  k_with "m eval ListComp" => first
    | (k_here; k_dflt (refine LCg.ListComp_U (F₀ := by k_asm) (by rfl) (by decide) (by rfl) (by decide) (by rfl) ?_))
    | fail
  k_with "m exec Assign cons ListComp" => first
    | (k_here; k_dflt (refine LCg.Assign_ListComp_U (F₀ := by k_asm) (by rfl) (by with_unfolding_all rfl) (by rfl) (by decide) (by rfl) (by decide) (by rfl) (by rfl) (by rfl) ?_))
    | fail
  k_with "m CompSrc" => first
    | (k_here; k_dflt (first
      | (refine LCg.CompSrc.ledger (by rfl) (by k_asm) (by k_asm) (by kst_mem) (by first | size_fits | exact Nat.le_of_ble_eq_true rfl) ?_; intro g'; lcg_lit)
      | (refine LCg.CompSrc.range (by rfl) (by k_asm) (by k_asm) (by assumption) (by first | decide | rfl) (by first | rfl | decide) (by first | size_fits | exact Nat.le_of_ble_eq_true rfl) ?_; intro g'; lcg_lit)))
    | fail
  k_with "k_subL" => first
    | (first
      | (with_reducible refine' Mine.Out1.out ?z_27; (case z_27 => k_subL))
      | (with_reducible refine' Mine.Out1.keep ?a_27 ?z_27; (case a_27 => k_ne); (case z_27 => k_subL))
      | (with_reducible refine' Mine.Out1.tail _ ?z_27; (case z_27 => k_all)))
    | fail
  k_with "m UnrEnd" => first
    | (k_here; k_dflt (refine' Mine.unr_end ?F_28 ?N_28 ?m1_28 ?o_28 ?_; (case F_28 => k_asm); (case N_28 => k_asm); (case m1_28 => kst_mem); (case o_28 => k_subL); k_whole))
    | fail
  k_with "m subscriptTail" => first
    | (k_here; (with_reducible show wpAny _ _ (subscriptTail _ _ (Value.ref _) (Value.int _ _)) _ _ _); k_dflt (refine' item_tupleT ?t_29 ?a_29 ?b_29 ?c_29 ?d_29 ?_; (case t_29 => refine' News.isTup ?N_29 ?m_29; (case N_29 => k_asm); (case m_29 => kst_mem)); (case a_29 => decide); (case b_29 => decide); (case c_29 => rfl); (case d_29 => rfl); k_whole))
    | fail
  k_with "m subscriptTail Name Constant ref int" => first
    | (k_here; (with_reducible show wpAny _ _ (subscriptTail _ _ (Value.ref _) (Value.int _ _)) _ _ _); k_dflt (refine' item_tupleT ?t_30 ?a_30 ?b_30 ?c_30 ?d_30 ?_; (case t_30 => refine' News.isTup ?N_30 ?m_30; (case N_30 => k_asm); (case m_30 => kst_mem)); (case a_30 => decide); (case b_30 => decide); (case c_30 => rfl); (case d_30 => rfl); k_whole))
    | fail
  k_with "m leaving ref" => first
    | (k_here; k_dflt (refine' Mine.leave_onD ?K_82 ?F_82 ?R_82 ?U_82 ?_; (case R_82 => assumption); (case F_82 => assumption); (case K_82 => assumption); (case U_82 => assumption); k_whole); intro h9 R9 U9; (try dsimp only))
    | fail
  k_with "m noteFrame ref" => first
    | (k_here; k_dflt (refine' Mine.caughtD ?R_83 ?F_83 ?K_83 ?U_83 ?XB_83 ?TB_83 ?D_83 ?T0_83 ?_; (case R_83 => assumption); (case F_83 => assumption); (case K_83 => assumption); (case U_83 => assumption); (case XB_83 => assumption); (case TB_83 => assumption); (case D_83 => assumption); (case T0_83 => first | assumption | exact KtsTurn.refl); k_whole); intro h9 g9 oe9 vs9 tk9 T9 F9 N9 K9 X9 P9 D9; (try k_sweep))
    | fail
  k_with "m call ref" => first
    | (k_here; (with_reducible show wpAny _ _ (call (Value.ref 113) _) _ _ _); (refine wpAny_call ?_); k_dflt (refine' Mine.code_plainT ?k1_86 ?k2_86 ?k3_86 ?k4_86 ?k5_86 ?XB_86 ?TB_86 ?D_86 ?T0_86 ?kA_86 ?kF_86 ?kK_86 ?k6_86 ?k7_86 ?k8_86 ?k9_86 ?kB_86 ?_ ?c2_86 ?c3_86 ?c4_86 ?c5_86; (case kA_86 => exact rfl); (case kF_86 => exact rfl); (case kK_86 => first | exact rfl | assumption); (case k2_86 => k_asm); (case k1_86 => k_asm); (case XB_86 => assumption); (case TB_86 => assumption); (case D_86 => assumption); (case T0_86 => first | assumption | exact KtsTurn.refl); (case k3_86 => k_asm); (case k4_86 => k_asm); (case k5_86 => k_asm); (case k6_86 => k_is); (case k7_86 => k_is); (case k8_86 => ktr_room); (case k9_86 => exact BindsTo.of_eq rfl); (case kB_86 => exact locs rfl); (case c2_86 => exact rfl); (case c3_86 => exact rfl); (case c4_86 => exact rfl); (case c5_86 => decide); k_whole); intro g' L' h' FG' F' N' B' X' T' D' l1; (try dsimp only); (try k_lt l1); (try k_fold))
    | fail
  k_with "m eval Lambda" => first
    | (k_here; kn_here; k_dflt (refine' kla_eval ?d0_87 ?_; (case d0_87 => exact rfl)); k_dflt (refine' Mine.lamAny ?F_87 ?N_87 ?T_87 ?C_87 ?cd_87 ?U_87 ?ok_87 ?cl_87 ?_; (case F_87 => k_asm); (case N_87 => k_asm); (case T_87 => k_asm); (case cd_87 => exact rfl); (case C_87 => kn_code); (case U_87 => k_updF); (case ok_87 => exact Mine.TabOk.mono (by assumption) (by kqd_sub)); (case cl_87 => exact rfl); k_whole); intro f' c' oc' vs' t' ct' h' tk' tl' ps' F' N' m1' m2' d1' d2' go' lt'; (try dsimp only at N' m2'); (try simp only [List.cons_append, List.nil_append, List.append_assoc] at N'))
    | fail
  k_with "m call ref" => first
    | (k_here; kn_here; (with_reducible show wpAny _ _ (call (Value.ref _) [] _) _ _ _); k_dflt (refine wpAny_call ?_; (refine' kla_code ?k1_88 ?k2_88 ?k3_88 ?k4_88 ?k5_88 ?kA_88 ?kF_88 ?kK_88 ?k6_88 ?k7_88 ?k8_88 ?k9_88 ?kB_88 ?_ ?c2_88 ?c3_88 ?c4_88 ?c5_88; (case kA_88 => exact rfl); (case kF_88 => exact rfl); (case kK_88 => exact rfl); (case k1_88 => k_asm); (case k2_88 => k_asm); (case k3_88 => k_asm); (case k4_88 => k_asm); (case k5_88 => k_asm); (case k6_88 => kst_mem); (case k7_88 => exact codeRec_news (by k_asm) (Mine.mem_sub (by assumption) (by kqd_sub)) (by assumption) (by assumption)); (case k8_88 => ktr_room); (case k9_88 => exact rfl); (case c5_88 => decide); (case kB_88 => exact locs rfl); (case c2_88 => exact rfl); (case c3_88 => exact rfl); (case c4_88 => exact rfl); k_whole; intro g' L' h' FG' F' N' B' X' T'; (try dsimp only); (try k_fold))))
    | fail
  k_with "m getAttr ref" => first
    | (k_here; (with_reducible show wpAny _ _ (getAttr (Value.ref _) (Str.ofString "message") _) _ _ _); k_dflt (refine' Mine.nf_getM ?F_89 ?X_89 ?N_89 ?m_89 ?d_89 ?_; (case F_89 => k_asm); (case X_89 => k_asm); (case N_89 => k_asm); (case m_89 => kst_mem); (case d_89 => kst_mem); k_whole))
    | fail
  k_with "m getAttr ref" => first
    | (k_here; (with_reducible show wpAny _ _ (getAttr (Value.ref _) (Str.ofString "spot") _) _ _ _); k_dflt (refine' Mine.nf_getS ?F_90 ?X_90 ?N_90 ?m_90 ?d_90 ?_; (case F_90 => k_asm); (case X_90 => k_asm); (case N_90 => k_asm); (case m_90 => kst_mem); (case d_90 => kst_mem); k_whole))
    | fail
  k_with "ktr_rel" => first
    | (first
      | with_reducible assumption
      | with_reducible exact Mine.RVs.nil
      | (with_reducible refine' Mine.RVs.cons ?a_91 ?b_91; (case a_91 => first | with_reducible assumption | with_reducible exact Mine.RV.none | with_reducible exact Mine.RV.int _ _ | (with_reducible refine' Mine.RV.str _ _ ?e_91; (case e_91 => first | assumption | exact Mine.noName_ok (by assumption) | decide +kernel))); (case b_91 => ktr_rel)))
    | fail
  k_with "m compareOp Eq ref ref" => first
    | (k_here; k_dflt (first
      | (refine' Mine.rv_eqT ?N_92 ?a_92 ?b_92 ?x_92 ?y_92 ?u_92 ?_; (case N_92 => k_asm); (case a_92 => kst_mem); (case b_92 => kst_mem); (case x_92 => ktr_rel); (case y_92 => ktr_rel); (case u_92 => ktr_units); k_whole)
      | (refine' Mine.rv_eqL ?N_92 ?a_92 ?b_92 ?x_92 ?y_92 ?u_92 ?_; (case N_92 => k_asm); (case a_92 => kst_mem); (case b_92 => kst_mem); (case x_92 => ktr_rel); (case y_92 => ktr_rel); (case u_92 => ktr_units); k_whole)))
    | fail
  trivial
section
theorem words_46 : True := by
  k_with "k_all" => first
    | (first
      | exact Mine.allLt_ne5 (by with_reducible assumption)
      | exact Mine.allLt_ne4 (by with_reducible assumption)
      | exact Mine.allLt_ne3 (by with_reducible assumption)
      | exact Mine.allLt_ne2 (by with_reducible assumption)
      | exact Mine.allLt_ne1 (by with_reducible assumption))
    | fail
  k_with "ktr_enter" => first
    | (refine' code_cellsT ?k1_97 ?k2_97 ?k3_97 ?k4_97 ?k5_97 ?kA_97 ?kF_97 ?kK_97 ?k6_97 ?k7_97 ?k8_97 ?k9_97 ?kB_97 ?kD_97 ?_ ?c2_97 ?c3_97 ?c4_97; (case kA_97 => exact rfl); (case kF_97 => exact rfl); (case kK_97 => assumption); (case k1_97 => k_asm); (case k2_97 => k_asm); (case k3_97 => k_asm); (case k4_97 => k_asm); (case k5_97 => k_asm); (case k6_97 => k_is); (case k7_97 => k_is); (case k8_97 => ktr_room); (case k9_97 => exact BindsTo.of_eq rfl); (case kB_97 => exact rfl); (case kD_97 => decide +kernel); (case c2_97 => exact rfl); (case c3_97 => exact rfl); (case c4_97 => exact rfl); k_whole; intro g' L' h' tk' cells' FG' F' N' Y' B' X' T' D' l1; (try k_lt l1); k_cells Y'; (try simp only [List.cons_append, List.nil_append] at N'); (try dsimp only); (try k_fold))
    | fail
  k_with "m callWith ref" => first
    | (k_here; (with_reducible show wpAny _ _ (callWith _ (Value.ref 113) _ _ _) _ _ _); k_dflt (refine' callWith_K ?k1_95 ?k2_95 ?_; (case k1_95 => k_asm); (case k2_95 => k_is); k_whole))
    | fail
  k_with "m callWith ref" => first
    | (k_here; (with_reducible show wpAny _ _ (callWith _ (Value.ref 66) _ _ _) _ _ _); k_dflt (refine' callWith_K ?k1_112 ?k2_112 ?_; (case k1_112 => k_asm); (case k2_112 => k_is); k_whole))
    | fail
  k_with "m callWith ref" => first
    | (k_here; (with_reducible show wpAny _ _ (callWith _ (Value.ref 87) _ _ _) _ _ _); k_dflt (refine' callWith_K ?k1_113 ?k2_113 ?_; (case k1_113 => k_asm); (case k2_113 => k_is); k_whole))
    | fail
  k_with "m callWith ref" => first
    | (k_here; (with_reducible show wpAny _ _ (callWith _ (Value.ref 94) _ _ _) _ _ _); k_dflt (refine' callWith_K ?k1_114 ?k2_114 ?_; (case k1_114 => k_asm); (case k2_114 => k_is); k_whole))
    | fail
  k_with "m callWith ref" => first
    | (k_here; (with_reducible show wpAny _ _ (callWith _ (Value.ref 99) _ _ _) _ _ _); k_dflt (refine' callWith_K ?k1_115 ?k2_115 ?_; (case k1_115 => k_asm); (case k2_115 => k_is); k_whole))
    | fail
  k_with "m call ref" => first
    | (k_here; (with_reducible show wpAny _ _ (call (Value.ref 94) _) _ _ _); k_dflt (refine' Mine.oneL_use ?k1_116 ?k2_116 ?k3_116 ?k4_116 ?k5_116 ?k6_116 ?k7_116 ?kth_116 ?kne_116 ?kas_116 ?m1_116 ?m2_116 ?m3_116 ?m4_116 ?r1_116 ?r2_116 ?r3_116 ?r4_116 ?z1_116 ?z2_116 ?z3_116 ?z4_116 ?x1_116 ?x2_116 ?x3_116 ?x4_116 ?k8_116 ?k9_116 ?k10_116 ?k13_116 ?k14_116 ?_; (case k1_116 => k_asm); (case k2_116 => k_asm); (case k3_116 => k_asm); (case k4_116 => k_asm); (case k5_116 => k_asm); (case k6_116 => first | exact rfl | assumption); (case k7_116 => k_updF); (case kth_116 => kst_mem); (case kne_116 => first | k_ne | omega); (case kas_116 => kst_mem); (case m1_116 => kst_mem); (case m2_116 => kst_mem); (case m3_116 => kst_mem); (case m4_116 => kst_mem); (case r1_116 => ktr_rel); (case r2_116 => ktr_rel); (case r3_116 => ktr_rel); (case r4_116 => ktr_rel); (case z1_116 => exact ⟨Nat.le_of_ble_eq_true rfl, Nat.le_of_ble_eq_true rfl⟩); (case z2_116 => exact ⟨Nat.le_of_ble_eq_true rfl, Nat.le_of_ble_eq_true rfl⟩); (case z3_116 => exact ⟨Nat.le_of_ble_eq_true rfl, Nat.le_of_ble_eq_true rfl⟩); (case z4_116 => exact ⟨Nat.le_of_ble_eq_true rfl, Nat.le_of_ble_eq_true rfl⟩); (case x1_116 => (constructor <;> first | k_ne | (with_reducible refine' Mine.less_lt ?hl1_116 ?hl2_116; (case hl1_116 => with_reducible assumption); (case hl2_116 => kst_mem)) | omega)); (case x2_116 => (constructor <;> first | k_ne | (with_reducible refine' Mine.less_lt ?hl1_116 ?hl2_116; (case hl1_116 => with_reducible assumption); (case hl2_116 => kst_mem)) | omega)); (case x3_116 => (constructor <;> first | k_ne | (with_reducible refine' Mine.less_lt ?hl1_116 ?hl2_116; (case hl1_116 => with_reducible assumption); (case hl2_116 => kst_mem)) | omega)); (case x4_116 => (constructor <;> first | k_ne | (with_reducible refine' Mine.less_lt ?hl1_116 ?hl2_116; (case hl1_116 => with_reducible assumption); (case hl2_116 => kst_mem)) | omega)); (case k8_116 => assumption); (case k9_116 => assumption); (case k10_116 => assumption); (case k13_116 => ktr_room); (case k14_116 => ktr_units); k_whole); intro r9 vs9 rs9 nr9 a9 b9 ta9 tb9 h9 tk9 F9 N9 hrv9 hr09 hr19 ap9 ap99 lt99 x39 x49 x59; (try dsimp only at N9); (try k_sweep); (try k_fold))
    | fail
  k_with "m subscriptTail Name Constant ref int" => first
    | (k_here; (with_reducible show wpAny _ _ (subscriptTail _ _ (Value.ref _) (Value.int _ _)) _ _ _); k_dflt (refine' Mine.item_at ?k1_117 ?k2_117 ?k3_117 ?k4_117 ?k5_117 ?_ ?k6_117; (case k1_117 => k_asm); (case k2_117 => kst_mem); (case k3_117 => ((try simp only [List.length_append]); omega)); (case k4_117 => decide); (case k5_117 => first | assumption | exact Mine.nonE_pos (by assumption)); (case k6_117 => with_unfolding_all rfl); k_whole); intro v9 hg9 hv9; (have rh9 := Mine.RVs.hd (by with_reducible assumption) hg9))
    | fail
  k_with "m subscriptTail" => first
    | (k_here; (with_reducible show wpAny _ _ (subscriptTail _ _ (Value.ref _) (Value.int _ _)) _ _ _); k_dflt (refine' item_tupleT ?t_29 ?a_29 ?b_29 ?c_29 ?d_29 ?_; (case t_29 => refine' News.isTup ?N_29 ?m_29; (case N_29 => k_asm); (case m_29 => kst_mem)); (case a_29 => decide); (case b_29 => decide); (case c_29 => rfl); (case d_29 => rfl); k_whole))
    | fail
  k_with "m compareOp Eq" => first
    | (k_here; k_dflt (refine' Mine.rv_eqV ?a_118 ?b_118 ?u_118 ?_; (case a_118 => with_reducible assumption); (case b_118 => with_reducible assumption); (case u_118 => ktr_units); k_whole))
    | fail
  k_with "m compareOp NotEq ref ref" => first
    | (k_here; k_dflt (first
      | (refine' Mine.rv_ne00 ?N_119 ?a_119 ?b_119 ?u_119 ?_; (case N_119 => k_asm); (case a_119 => kst_mem); (case b_119 => kst_mem); (case u_119 => ktr_units); k_whole)
      | (refine' Mine.rv_neL ?N_119 ?a_119 ?b_119 ?x_119 ?u_119 ?_; (case N_119 => k_asm); (case a_119 => kst_mem); (case b_119 => kst_mem); (case x_119 => with_reducible assumption); (case u_119 => ktr_units); k_whole)))
    | fail
  k_with "m CompSrcT" => first
    | (k_here; k_dflt (refine LCt.CompSrcT.ledger (by rfl) (by k_asm) (by k_asm) (by kst_mem) (by first | exact Nat.le_of_ble_eq_true rfl | (simp only [List.size_toArray, List.length_append, PySem.sizeLine_eq]; omega)) ?_); intro g'; first
      | lct_lit
      | ((refine' Mine.al_list ?hi_120 ?_ ?_; (case hi_120 => with_reducible assumption)) <;> first | (intro v' r' I' oI' C' oC' D' m' ys' h' tk' E' hv' h0' hC' hx' F' N' off' ne'; have n19 : Mine.Apart _ _ := ne'.1; have n29 : Mine.Apart _ _ := ne'.2.1; have n39 : Mine.Apart _ _ := ne'.2.2; clear ne') | (intro ys' hys' hyl')))
    | fail
  k_with "m eval ListComp" => first
    | (k_here; lct_look; lcg_calm; k_dflt (refine LCt.ListComp_T (F₀ := by k_asm) (by with_unfolding_all rfl) (by decide) (by rfl) (by decide) (by rfl) ?_); k_dflt lct_toSrc)
    | fail
  k_with "m exec Assign cons ListComp" => first
    | (k_here; lct_look; lcg_calm; k_dflt (refine LCt.Assign_ListComp_T (F₀ := by k_asm) (by rfl) (by with_unfolding_all rfl) (by with_unfolding_all rfl) (by decide) (by rfl) (by decide) (by rfl) (by rfl) (by rfl) ?_); k_dflt lct_toSrc)
    | fail
  k_with "m AlEl" => first
    | (refine Mine.AlEl.intro (by with_reducible assumption) (by with_reducible assumption) (by with_unfolding_all rfl))
    | fail
  k_with "m AlNo" => first
    | (refine Mine.AlNo.intro (by with_reducible assumption) (by with_unfolding_all rfl))
    | fail
  k_with "m call builtin:len" => first
    | (k_here; (with_reducible show wpAny _ _ (call (Value.builtin "len") [Value.ref _]) _ _ _); k_dflt (refine' Mine.len_at ?k1_125 ?k2_125 ?k3_125 ?_; (case k1_125 => k_asm); (case k2_125 => kst_mem); (case k3_125 => ((try simp only [List.length_append, List.length_cons, List.length_nil] at *); omega)); k_whole))
    | fail
  k_with "m call ref" => first
    | (k_here; (with_reducible show wpAny _ _ (call (Value.ref 66) _) _ _ _); k_dflt (refine' Mine.only_sym ?hv_126 ?hl3_126 ?ha_126 ?hT_126 ?k1_126 ?k2_126 ?k3_126 ?k4_126 ?k5_126 ?k6_126 ?k13_126 ?k14_126 ?_ ?_; (case k1_126 => k_asm); (case k2_126 => k_asm); (case k3_126 => k_asm); (case k4_126 => k_asm); (case k5_126 => k_asm); (case k6_126 => first | exact rfl | assumption); (case hv_126 => with_reducible assumption); (case hl3_126 => assumption); (case ha_126 => kst_mem); (case hT_126 => (intro p9 h9; kst_mem)); (case k13_126 => ktr_room); (case k14_126 => ktr_units); k_whole) <;> first
      | (intro c9 G9 e9 dx9 k19 k29 t9 h9 tk9 FG9 R9 U9 l9 l19; first
        | exact Mine.al_badA (by assumption) (by assumption) (by with_reducible assumption) (by with_reducible assumption) rfl c9
        | (try k_fold))
      | (intro v9 r9 h9 tk9 rv9 c9 F9 N9; first
        | exact Mine.al_badE (by assumption) (by with_reducible assumption) rfl c9
        | exact Mine.al_badN (by assumption) (by with_reducible assumption) (by with_reducible assumption) rfl c9
        | ((have e9 := Mine.al_same (by assumption) (by assumption) (by with_reducible assumption) (by with_reducible assumption) rfl c9); subst e9; (try k_fold))))
    | fail
  k_with "m callWith ref" => first
    | (k_here; (with_reducible show wpAny _ _ (callWith _ (Value.ref 87) _ _ _) _ _ _); k_dflt (refine' callWith_K ?k1_113 ?k2_113 ?_; (case k1_113 => k_asm); (case k2_113 => k_is); k_whole))
    | fail
  k_with "m CompSrc" => first
    | (k_here; k_dflt (refine' Mine.comp_ins ?hh_127 ?F_127 ?N_127 ?hs_127 ?hs2_127 ?hr_127 ?U_127 ?U2_127 ?k0_127 ?k1_127 ?a0_127 ?b0_127 ?b1_127 ?kturn_127 ?kdone_127; (case hh_127 => exact rfl); (case F_127 => k_asm); (case N_127 => k_asm); (case hs_127 => kst_mem); (case hs2_127 => kst_mem); (case hr_127 => with_reducible assumption); (case U_127 => k_updF); (case U2_127 => (intro o9; k_updF)); (case k0_127 => assumption); (case k1_127 => assumption); (case a0_127 => assumption); (case b0_127 => assumption); (case b1_127 => assumption); (case' kturn_127 => (intro ys9 ts9 a9 b9 ta9 tb9 as9 ka9 tl9 v9 I9 oI9 C9 oC9 D9 m9 h9 tk9 E9 x39 x49 x59 hT9 hR9 la9 yl9 hC9 hx9 F9 N9 off9 offt9 offA9 n19 n29 n39 hq9 hq29 hl9; (try dsimp only at N9 off9 hq29 hl9); (try simp only [List.cons_append, List.nil_append, List.append_assoc] at N9 hl9); (have off99 := off9); (clear off9); (try k_sweep))); (case' kdone_127 => (intro g9 ys9 ts9 a9 b9 ta9 tb9 as9 ka9 tl9 x39 x49 x59 hT9 yl9 hR9 la9 hq29 l9 el9; (try dsimp only at hq29 el9); (try simp only [List.cons_append, List.nil_append, List.append_assoc] at el9); subst el9; (try dsimp only))); k_whole))
    | fail
  k_with "m CompEnd" => first
    | (k_here; k_dflt (refine' Mine.in_end ?F_128 ?N_128 ?hT_128 ?hR_128 ?la_128 ?ht_128 ?hx_128 ?hh_128 ?hl_128 ?f9_128 ?mI_128 ?mC_128 ?mD_128 ?hl0_128 ?hq_128 ?offA_128 ?offt_128 ?m1_128 ?m2_128 ?m3_128 ?hs_128 ?hs1_128 ?hs2_128 ?a0_128 ?b0_128 ?b1_128 ?hi_128; (case hi_128 => rfl); (case F_128 => k_asm); (case N_128 => k_asm); (case hT_128 => with_reducible assumption); (case hR_128 => with_reducible assumption); (case la_128 => assumption); (case ht_128 => with_reducible assumption); (case hx_128 => with_reducible assumption); (case hh_128 => assumption); (case hl_128 => assumption); (case f9_128 => with_reducible assumption); (case mI_128 => kst_mem); (case mC_128 => kst_mem); (case mD_128 => kst_mem); (case hl0_128 => with_reducible assumption); (case hq_128 => with_reducible assumption); (case offA_128 => with_reducible assumption); (case offt_128 => with_reducible assumption); (case m1_128 => kst_mem); (case m2_128 => kst_mem); (case m3_128 => kst_mem); (case hs_128 => ((try dsimp only); kqd_sub)); (case hs1_128 => (intro p9 h9; kst_mem)); (case hs2_128 => (intro p9 h9; kst_mem)); (case a0_128 => assumption); (case b0_128 => assumption); (case b1_128 => assumption)))
    | fail
  k_with "m subscriptTail Call Constant ref int" => first
    | (k_here; (with_reducible show wpAny _ _ (subscriptTail _ _ (Value.ref _) (Value.int _ _)) _ _ _); k_dflt (refine' item_tupleT ?t_129 ?a_129 ?b_129 ?c_129 ?d_129 ?_; (case t_129 => refine' News.isTup ?N_129 ?m_129; (case N_129 => k_asm); (case m_129 => kst_mem)); (case a_129 => decide); (case b_129 => decide); (case c_129 => rfl); (case d_129 => rfl); k_whole))
    | fail
  k_with "m call type:tuple" => first
    | (k_here; (with_reducible show wpAny _ _ (call (Value.type _) [Value.ref _]) _ _ _); k_dflt (refine' kde_tupleOf ?k1_49 ?k2_49 ?k3_49 ?k4_49 ?k5_49 ?_; (case k1_49 => k_asm); (case k2_49 => k_asm); (case k3_49 => (refine' News.isList ?n_49 ?m_49; (case n_49 => k_asm); (case m_49 => kst_mem))); (case k4_49 => ((simp only [List.size_toArray]); omega)); (case k5_49 => exact Mine.toArr_list _); k_whole); intro D' h' F' N' l1; (try k_lt l1); (try k_sweep))
    | fail
  trivial
theorem only_any {w : World} {mean : ExcName → Option Value} {mg mb : Str → Option Value} (IT : TwSpec w mean mg mb 2) {dp un : Nat} {gd : Option (List Code)} {cn : Str} {cs : Scope} {ca : Addr} {ccd : Value} {cl : List (Str × Addr)} {A₀ : Around} {h₀ : Heap} {L : Addr} {m : Str → Option Value} {s : Shared} {Q E : Value → Shared → Prop}
    {src : Addr} {a b : Int} {ta tb : Tok} {n : Nat} {ps : Array Value} {R : List (Addr × Obj)}
    (B : Below A₀ h₀ [] h₀) (F : Fr h₀ L s.heap m) (X : (hd.heap_1 w.params).In h₀) (hC : CodeHd h₀ 117 115) (N : News h₀ L s.heap ((src, srcObj a b ta tb n) :: (115, tabObj ps) :: R)) (hR : ∀ p ∈ R, p.1 ≠ src) (hR2 : ∀ p ∈ R, p.1 ≠ 115) (hsa : Apart src 115) (ok : TabOk 113 22 qOnly R ps) (ha : 0 ≤ a) (hb : 0 ≤ b) (hb2 : b < 2147483647)
    (T : Top topProg (looseW view [Str.ofString "LendError"] ++ (recsOf view).map (·.name) ++ (litsOf view).map (·.1) ++ (clssOf view (looseW view [Str.ofString "LendError"])).map (·.name)) mean mg mb h₀) (hk : cs.kind = .function) (hd : dp + 40 < recursionLimit) (hu : un + 900 < cLine)
    (ret : ∀ a' b' ta' tb' ps' tl h' tk', Fr h₀ L h' m → News h₀ L h' ((src, srcObj a' b' ta' tb' n) :: (115, tabObj ps') :: (R ++ tl)) → 0 ≤ a' → 0 ≤ b' → b' < 2147483647 → TabGo 113 22 qOnly tl ps ps' → (∀ q ∈ R, ∀ p ∈ tl, q.1 < p.1) → (∀ p ∈ tl, @LT.lt Nat _ src p.1) → (∀ p ∈ tl, @LT.lt Nat _ 115 p.1) → Q (.bool true) { s with heap := h', toks := tk' }) :
    wpAny (model PySem.Challenge.rw_xm0577_01.row.prog w) (ktrTop dp un gd cn cs L ca ccd cl []) (call (.ref 118) [.ref src]) Q E s := by
  refine wpAny_call ?_
  k_dflt ktr_enter
  k_steps
  all_goals (
    refine' ret _ _ _ _ _ _ _ _ ?F ?N ?ha ?hb ?hb2 ?go ?f1 ?f2 ?f3
    (case go => assumption)
    (case F => k_asm)
    (case N => (refine' News.sub ?zn ?zm; (case zn => k_asm); (case zm => kqd_sub)))
    (case ha => assumption)
    (case hb => assumption)
    (case hb2 => assumption)
    (case f1 => (refine' Mine.fresh_tl ?za ?zb; (case za => assumption); (case zb => kqd_sub)))
    (case f2 => (refine' Mine.fresh_at ?za ?zb; (case za => assumption); (case zb => kst_mem)))
    (case f3 => (refine' Mine.fresh_at ?za ?zb; (case za => assumption); (case zb => kst_mem))))
end
end
section
theorem words_47 : True := by
  w_top off
  k_with_none
  k_with "kst_mem" => first
    | (first
      | with_reducible assumption
      | with_reducible exact List.mem_cons_self
      | (with_reducible refine List.mem_cons_of_mem _ ?_; kst_mem)
      | (with_reducible refine List.mem_append.mpr (Or.inl ?_); kst_mem)
      | (with_reducible refine List.mem_append.mpr (Or.inr ?_); kst_mem)
      | fail "kst_mem")
    | fail
  k_with "k_mem" => first
    | (kst_mem)
    | fail
  k_with "k_all" => first
    | (first
      | with_reducible assumption
      | exact List.forall_mem_nil _
      | (with_reducible refine' Mine.less_sub ?h_2 ?m_2; (case h_2 => with_reducible assumption); (case m_2 => (intro p9 h9; kst_mem)))
      | (with_reducible refine' Mine.less_sub1 ?h_2 ?m_2; (case h_2 => with_reducible assumption); (case m_2 => (intro p9 h9; kst_mem)))
      | (with_reducible refine' Mine.less_sub2 ?h_2 ?m_2; (case h_2 => with_reducible assumption); (case m_2 => (intro p9 h9; kst_mem)))
      | (with_reducible refine' Mine.less_sub3 ?h_2 ?m_2; (case h_2 => with_reducible assumption); (case m_2 => (intro p9 h9; kst_mem)))
      | (with_reducible refine' Mine.less_sub4 ?h_2 ?m_2; (case h_2 => with_reducible assumption); (case m_2 => (intro p9 h9; kst_mem)))
      | (with_reducible refine' Mine.less_sub5 ?h_2 ?m_2; (case h_2 => with_reducible assumption); (case m_2 => (intro p9 h9; kst_mem)))
      | (refine' List.forall_mem_cons.mpr ⟨?a_2, ?b_2⟩; (case a_2 => k_ne); (case b_2 => k_all))
      | exact Mine.allLt_ne (by with_reducible assumption)
      | exact Mine.fresh_ne (by with_reducible assumption) (by k_mem)
      | (refine' List.forall_mem_append.mpr ⟨?_, ?_⟩ <;> k_all))
    | fail
  k_with "kqd_sub" => first
    | (first
      | exact fun _ h => h
      | exact List.forall_mem_nil _
      | (refine' List.forall_mem_cons.mpr ⟨?kqa_3, ?kqb_3⟩; (case kqa_3 => k_mem); (case kqb_3 => kqd_sub))
      | (refine' List.forall_mem_append.mpr ⟨?_, ?_⟩ <;> kqd_sub)
      | (intro p9 h9; k_mem))
    | fail
  k_with "ktr_enter" => first
    | (refine' code_defC ?k1_4 ?k2_4 ?k3_4 ?k4_4 ?k5_4 ?kA_4 ?kF_4 ?kK_4 ?k6_4 ?k7_4 ?k8_4 ?k9_4 ?kB_4 ?kD_4 ?_ ?c2_4 ?c3_4 ?c4_4; (case kA_4 => exact rfl); (case kF_4 => exact rfl); (case kK_4 => assumption); (case k1_4 => k_asm); (case k2_4 => k_asm); (case k3_4 => k_asm); (case k4_4 => k_asm); (case k5_4 => k_asm); (case k6_4 => k_is); (case k7_4 => k_is); (case k8_4 => ktr_room); (case k9_4 => exact BindsTo.of_eq rfl); (case kB_4 => exact rfl); (case kD_4 => decide +kernel); (case c2_4 => exact rfl); (case c3_4 => exact rfl); (case c4_4 => exact rfl); k_whole; intro g' L' h' tk' cells' FG' F' N' Y' B' X' T' l1; (try k_lt l1); k_cells Y'; (try simp only [List.cons_append, List.nil_append] at N'); (try dsimp only); (try k_fold))
    | fail
  k_with "tb_start" => first
    | (first
      | with_reducible exact Mine.Apart.ne (by with_reducible assumption)
      | with_reducible exact Mine.Apart.en (by with_reducible assumption)
      | with_reducible exact Mine.succ_ne1
      | with_reducible exact Mine.succ_ne2
      | (with_reducible refine' Mine.less_ne ?h_5 ?m_5; (case h_5 => with_reducible assumption); (case m_5 => kst_mem))
      | (with_reducible refine' Mine.less_en ?h_5 ?m_5; (case h_5 => with_reducible assumption); (case m_5 => kst_mem))
      | (with_reducible refine' Mine.less_ne1 ?h_5 ?m_5; (case h_5 => with_reducible assumption); (case m_5 => kst_mem))
      | (with_reducible refine' Mine.less_en1 ?h_5 ?m_5; (case h_5 => with_reducible assumption); (case m_5 => kst_mem))
      | (with_reducible refine' Mine.less_ne2 ?h_5 ?m_5; (case h_5 => with_reducible assumption); (case m_5 => kst_mem))
      | (with_reducible refine' Mine.less_en2 ?h_5 ?m_5; (case h_5 => with_reducible assumption); (case m_5 => kst_mem))
      | (with_reducible refine' Mine.less_ne3 ?h_5 ?m_5; (case h_5 => with_reducible assumption); (case m_5 => kst_mem))
      | (with_reducible refine' Mine.less_en3 ?h_5 ?m_5; (case h_5 => with_reducible assumption); (case m_5 => kst_mem))
      | (with_reducible refine' Mine.less_ne4 ?h_5 ?m_5; (case h_5 => with_reducible assumption); (case m_5 => kst_mem))
      | (with_reducible refine' Mine.less_en4 ?h_5 ?m_5; (case h_5 => with_reducible assumption); (case m_5 => kst_mem))
      | (with_reducible refine' Mine.less_ne5 ?h_5 ?m_5; (case h_5 => with_reducible assumption); (case m_5 => kst_mem))
      | (with_reducible refine' Mine.less_en5 ?h_5 ?m_5; (case h_5 => with_reducible assumption); (case m_5 => kst_mem))
      | (with_reducible refine' Mine.lt_ne2 ?k_5 ?h_5 ?m_5; (case k_5 => with_reducible assumption); (case h_5 => with_reducible assumption); (case m_5 => kst_mem))
      | (with_reducible refine' Mine.lt_en2 ?k_5 ?h_5 ?m_5; (case k_5 => with_reducible assumption); (case h_5 => with_reducible assumption); (case m_5 => kst_mem)))
    | fail
  k_with "k_ne" => first
    | (first | tb_start | ((try dsimp only); (refine neN ?_); first | tb_start | omega))
    | fail
  trivial
theorem RVs.ofInts {vs : List Value} {ns : List Int} (h : IntsAre vs ns) : RVs vs (ns.map Rv.int) := by
  induction h with
  | nil => exact .nil
  | cons n t _ ih => exact .cons (.int n t) ih
theorem pds_dat (rs : List Rv) : kqdPs (rs.map Rv.dat) = pds rs := by
  induction rs with
  | nil => rfl
  | cons r t ih =>
    show kqdP r.dat :: kqdPs (t.map Rv.dat) = r.pd :: pds t
    rw [ih]
    cases r <;> rfl
theorem pool_pos (k : Int) (P : Prop) [Decidable P] : (0 : Int) ≤ (if -1 - k > k then -1 - k else k) * (if P then 1 else 0) := by
  refine Int.mul_nonneg ?_ ?_
  · split <;> omega
  · split <;> decide
section
variable {prog : Program} {w : World} {A : Around} {E : Value → Shared → Prop} {s : Shared} {h₀ : Heap} {L sc b : Addr} {m : Str → Option Value} {l : List (Addr × Obj)} {vs : List Value} {ns : List Int} {k2 : Nat} {Q : Value → Shared → Prop}
theorem pool_ne (F : Fr h₀ L s.heap m) (hL : h₀.IsList sc vs.toArray) (hI : IntsAre vs ns) (N : News h₀ L s.heap l) (mb : (b, listOf ([] : List Value).toArray k2) ∈ l) (hu : A.units + 64 < cLine) (h : Q (.bool (nonE vs)) s) : wpAny (model prog w) A (compareOp .NotEq (.ref sc) (.ref b)) Q E s := by
  obtain ⟨o, ho, hc, n, hd⟩ := stays_list F.keep hL
  have rv := RVs.ofInts hI
  have rx := rv.reads (h := s.heap)
  have ok9 : kqdOk 9 (.list ((ns.map Rv.int).map Rv.dat)) = true := by simpa [kqdOk] using rv.ok
  have la := kqd_lay 9 _ ok9
  rw [kqdP, pds_dat] at la
  refine ne_dataH (reads_list_at ho hc hd (by simpa using rx.1)) (reads_list_at (N.get mb) rfl rfl (by simpa using ReadsAll.nil)) ?_ ?_ hu ?_
  · unfold SeqAt.shaped; rw [la.1, Bool.true_and]; exact decide_eq_true (Nat.le_trans la.2 (by decide))
  · rfl
  · have e : (!PyData.eqv (.list (pds (ns.map Rv.int))) (.list [])) = nonE vs := by
      have q := kqd_eqv 9 (.list ((ns.map Rv.int).map Rv.dat)) (.list []) 9 ok9 (by simp [kqdOk])
      rw [kqdP, kqdP, pds_dat, Dat.list.injEq] at q
      unfold nonE
      rw [rv.length]
      cases ns with
      | nil => rfl
      | cons x t => 
        have : PyData.eqv (.list (pds ((x :: t).map Rv.int))) (.list (kqdPs [])) = false := Bool.eq_false_iff.mpr fun z => by simpa using q.mp z
        rw [show (PyData.list []) = .list (kqdPs []) from rfl, this]
        simp
    rw [e]; exact h
theorem pool_item {value slice : PySem.Expr} {u : Tok} (F : Fr h₀ L s.heap m) (hL : h₀.IsList sc vs.toArray) (hI : IntsAre vs ns) (hne : nonE vs = true) (hz : vs.length < 1000)
    (h : ∀ k t, Q (.int k t) s) (hs : subscripted slice false (.ref sc) (.int 0 u) = operate [.ref sc, .int 0 u] (getItem (.ref sc) (.int 0 u)) := by with_unfolding_all rfl) :
    wpAny (model prog w) A (subscriptTail value slice (.ref sc) (.int 0 u)) Q E s := by
  have h0 := nonE_pos hne
  have hk : (Int.toNat 0) < vs.length := by simp at h0 ⊢; omega
  obtain ⟨k, t, e, _⟩ := IntsAre.at hI (Int.toNat 0) _ (List.getElem?_eq_getElem hk)
  refine item_litK (stays_list F.keep hL) (by decide) (by simpa using h0) (List.getElem?_eq_getElem hk) ?_ hs
  rw [e]
  exact h k t
end
section
theorem words_48 : True := by
  k_with "m compareOp NotEq ref ref" => first
    | (k_here; k_dflt (refine' Mine.pool_ne ?F_130 ?l_130 ?i_130 ?N_130 ?b_130 ?u_130 ?_; (case F_130 => k_asm); (case l_130 => assumption); (case i_130 => assumption); (case N_130 => k_asm); (case b_130 => kst_mem); (case u_130 => ktr_units); k_whole))
    | fail
  k_with "m subscriptTail Name Constant ref int" => first
    | (k_here; (with_reducible show wpAny _ _ (subscriptTail _ _ (Value.ref _) (Value.int _ _)) _ _ _); k_dflt (refine' Mine.pool_item ?F_131 ?l_131 ?i_131 ?n_131 ?z_131 ?_ ?k6_131; (case F_131 => k_asm); (case l_131 => assumption); (case i_131 => assumption); (case n_131 => assumption); (case z_131 => assumption); (case k6_131 => with_unfolding_all rfl); k_whole); intro k9 t9)
    | fail
  trivial
theorem pool_use {w : World} {mean : ExcName → Option Value} {mg mb : Str → Option Value} {dp un : Nat} {gd : Option (List Code)} {cn : Str} {cs : Scope} {ca : Addr} {ccd : Value} {cl : List (Str × Addr)} {outer : List Env} {A₀ : Around} {base h₀ : Heap} {L : Addr} {m : Str → Option Value} {s : Shared} {Q E : Value → Shared → Prop}
    {sc : Addr} {vs : List Value} {ns : List Int} {l : List (Addr × Obj)} (hL : h₀.IsList sc vs.toArray) (hI : IntsAre vs ns) (hz : vs.length < 1000)
    (B : Below A₀ base outer h₀) (F : Fr h₀ L s.heap m) (X : (hd.heap_1 w.params).In h₀) (N : News h₀ L s.heap l) (T : Top topProg (looseW view [Str.ofString "LendError"] ++ (recsOf view).map (·.name) ++ (litsOf view).map (·.1) ++ (clssOf view (looseW view [Str.ofString "LendError"])).map (·.name)) mean mg mb h₀) (hk : cs.kind = .function) (hd : dp + 5 < recursionLimit) (hu : un + 100 < cLine)
    (ret : ∀ src a b ta tb n h' tk', Fr h₀ L h' m → News h₀ L h' ((src, srcObj a b ta tb n) :: l) → (∀ p ∈ l, @LT.lt Nat _ p.1 src) → 0 ≤ a → 0 ≤ b → b < 2147483647 → Q (.ref src) { s with heap := h', toks := tk' }) :
    wpAny (model PySem.Challenge.rw_xm0577_01.row.prog w) (ktrTop dp un gd cn cs L ca ccd cl outer) (call (.ref 80) [.ref sc]) Q E s := by
  refine wpAny_call ?_
  k_dflt ktr_enter
  rename Fr h₀ _ _ _ => FF
  have hL2 := stays_list FF.keep hL
  k_steps
  · refine' ret _ _ _ _ _ _ _ _ ?F1 ?N1 ?lt1 ?a1 ?b1 ?c1
    case F1 => k_asm
    case N1 => exact News.sub (by k_asm) (List.forall_mem_cons.mpr ⟨List.mem_cons_self, fun p hp => .tail _ (.tail _ hp)⟩)
    case lt1 => first | (with_reducible refine' Mine.less_all ?zh8 ?zs8; (case zh8 => with_reducible assumption); (case zs8 => (intro p9 h9; kst_mem))) | exact Mine.allLt_all (by assumption)
    case b1 => exact Int.fmod_nonneg_of_pos _ (by decide)
    case c1 => exact Int.fmod_lt_of_pos _ (by decide)
    case a1 => exact Mine.pool_pos _ _
  · refine' ret _ _ _ _ _ _ _ _ ?F2 ?N2 ?lt2 ?a2 ?b2 ?c2
    case F2 => k_asm
    case N2 => exact News.sub (by k_asm) (List.forall_mem_cons.mpr ⟨List.mem_cons_self, fun p hp => .tail _ (.tail _ hp)⟩)
    case lt2 => first | (with_reducible refine' Mine.less_all ?zh8 ?zs8; (case zh8 => with_reducible assumption); (case zs8 => (intro p9 h9; kst_mem))) | exact Mine.allLt_all (by assumption)
    case b2 => exact Int.fmod_nonneg_of_pos _ (by decide)
    case c2 => exact Int.fmod_lt_of_pos _ (by decide)
    case a2 => exact Mine.pool_pos _ _
end
end
section
theorem words_49 : True := by
  w_top off
  k_with_none
  k_with "kst_mem" => first
    | (first
      | with_reducible assumption
      | with_reducible exact List.mem_cons_self
      | (with_reducible refine List.mem_cons_of_mem _ ?_; kst_mem)
      | (with_reducible refine List.mem_append.mpr (Or.inl ?_); kst_mem)
      | (with_reducible refine List.mem_append.mpr (Or.inr ?_); kst_mem)
      | fail "kst_mem")
    | fail
  k_with "k_mem" => first
    | (kst_mem)
    | fail
  k_with "k_all" => first
    | (first
      | with_reducible assumption
      | exact List.forall_mem_nil _
      | (with_reducible refine' Mine.less_sub ?h_2 ?m_2; (case h_2 => with_reducible assumption); (case m_2 => (intro p9 h9; kst_mem)))
      | (with_reducible refine' Mine.less_sub1 ?h_2 ?m_2; (case h_2 => with_reducible assumption); (case m_2 => (intro p9 h9; kst_mem)))
      | (with_reducible refine' Mine.less_sub2 ?h_2 ?m_2; (case h_2 => with_reducible assumption); (case m_2 => (intro p9 h9; kst_mem)))
      | (with_reducible refine' Mine.less_sub3 ?h_2 ?m_2; (case h_2 => with_reducible assumption); (case m_2 => (intro p9 h9; kst_mem)))
      | (with_reducible refine' Mine.less_sub4 ?h_2 ?m_2; (case h_2 => with_reducible assumption); (case m_2 => (intro p9 h9; kst_mem)))
      | (with_reducible refine' Mine.less_sub5 ?h_2 ?m_2; (case h_2 => with_reducible assumption); (case m_2 => (intro p9 h9; kst_mem)))
      | (refine' List.forall_mem_cons.mpr ⟨?a_2, ?b_2⟩; (case a_2 => k_ne); (case b_2 => k_all))
      | exact Mine.allLt_ne (by with_reducible assumption)
      | exact Mine.fresh_ne (by with_reducible assumption) (by k_mem)
      | (refine' List.forall_mem_append.mpr ⟨?_, ?_⟩ <;> k_all))
    | fail
  k_with "kqd_sub" => first
    | (first
      | exact fun _ h => h
      | exact List.forall_mem_nil _
      | (refine' List.forall_mem_cons.mpr ⟨?kqa_3, ?kqb_3⟩; (case kqa_3 => k_mem); (case kqb_3 => kqd_sub))
      | (refine' List.forall_mem_append.mpr ⟨?_, ?_⟩ <;> kqd_sub)
      | (intro p9 h9; k_mem))
    | fail
  k_with "ktr_enter" => first
    | (refine' code_defC ?k1_4 ?k2_4 ?k3_4 ?k4_4 ?k5_4 ?kA_4 ?kF_4 ?kK_4 ?k6_4 ?k7_4 ?k8_4 ?k9_4 ?kB_4 ?kD_4 ?_ ?c2_4 ?c3_4 ?c4_4; (case kA_4 => exact rfl); (case kF_4 => exact rfl); (case kK_4 => assumption); (case k1_4 => k_asm); (case k2_4 => k_asm); (case k3_4 => k_asm); (case k4_4 => k_asm); (case k5_4 => k_asm); (case k6_4 => k_is); (case k7_4 => k_is); (case k8_4 => ktr_room); (case k9_4 => exact BindsTo.of_eq rfl); (case kB_4 => exact rfl); (case kD_4 => decide +kernel); (case c2_4 => exact rfl); (case c3_4 => exact rfl); (case c4_4 => exact rfl); k_whole; intro g' L' h' tk' cells' FG' F' N' Y' B' X' T' l1; (try k_lt l1); k_cells Y'; (try simp only [List.cons_append, List.nil_append] at N'); (try dsimp only); (try k_fold))
    | fail
  k_with "tb_start" => first
    | (first
      | with_reducible exact Mine.Apart.ne (by with_reducible assumption)
      | with_reducible exact Mine.Apart.en (by with_reducible assumption)
      | with_reducible exact Mine.succ_ne1
      | with_reducible exact Mine.succ_ne2
      | (with_reducible refine' Mine.less_ne ?h_5 ?m_5; (case h_5 => with_reducible assumption); (case m_5 => kst_mem))
      | (with_reducible refine' Mine.less_en ?h_5 ?m_5; (case h_5 => with_reducible assumption); (case m_5 => kst_mem))
      | (with_reducible refine' Mine.less_ne1 ?h_5 ?m_5; (case h_5 => with_reducible assumption); (case m_5 => kst_mem))
      | (with_reducible refine' Mine.less_en1 ?h_5 ?m_5; (case h_5 => with_reducible assumption); (case m_5 => kst_mem))
      | (with_reducible refine' Mine.less_ne2 ?h_5 ?m_5; (case h_5 => with_reducible assumption); (case m_5 => kst_mem))
      | (with_reducible refine' Mine.less_en2 ?h_5 ?m_5; (case h_5 => with_reducible assumption); (case m_5 => kst_mem))
      | (with_reducible refine' Mine.less_ne3 ?h_5 ?m_5; (case h_5 => with_reducible assumption); (case m_5 => kst_mem))
      | (with_reducible refine' Mine.less_en3 ?h_5 ?m_5; (case h_5 => with_reducible assumption); (case m_5 => kst_mem))
      | (with_reducible refine' Mine.less_ne4 ?h_5 ?m_5; (case h_5 => with_reducible assumption); (case m_5 => kst_mem))
      | (with_reducible refine' Mine.less_en4 ?h_5 ?m_5; (case h_5 => with_reducible assumption); (case m_5 => kst_mem))
      | (with_reducible refine' Mine.less_ne5 ?h_5 ?m_5; (case h_5 => with_reducible assumption); (case m_5 => kst_mem))
      | (with_reducible refine' Mine.less_en5 ?h_5 ?m_5; (case h_5 => with_reducible assumption); (case m_5 => kst_mem))
      | (with_reducible refine' Mine.lt_ne2 ?k_5 ?h_5 ?m_5; (case k_5 => with_reducible assumption); (case h_5 => with_reducible assumption); (case m_5 => kst_mem))
      | (with_reducible refine' Mine.lt_en2 ?k_5 ?h_5 ?m_5; (case k_5 => with_reducible assumption); (case h_5 => with_reducible assumption); (case m_5 => kst_mem)))
    | fail
  k_with "k_ne" => first
    | (first | tb_start | ((try dsimp only); (refine neN ?_); first | tb_start | omega))
    | fail
  trivial
theorem TabOk.rest {ln cl : Nat} {qual : Str} {l R : List (Addr × Obj)} {ps : Array Value} {d : Addr} (h : TabOk ln cl qual l ps) (hl : ∀ p ∈ l, p ∈ (d, tabObj ps) :: R) : TabOk ln cl qual R ps := by
  rcases h with h | ⟨c', oc, vs, t, e', hm, hd, hv⟩
  · exact .inl h
  · refine .inr ⟨c', oc, vs, t, e', (List.mem_cons.mp (hl _ hm)).resolve_left fun z => ?_, hd, hv⟩
    have z2 : oc = tabObj ps := congrArg Prod.snd z
    rw [z2] at hd
    have z3 : ps = vs := by injection hd
    rw [← z3, e'] at hv
    simp [rawInt] at hv
/-- the table holds its one triple, with the code in K -/
def TabHas (ln cl : Nat) (qual : Str) (K : List (Addr × Obj)) (ps : Array Value) : Prop :=
  ∃ (c' : Addr) (oc : Obj) (vs : Array Value) (t : Tok), ps = #[rawInt ln, rawInt cl, .ref c'] ∧ (c', oc) ∈ K ∧ oc.data = .fields vs ∧ vs[1]? = some (.str qual t)
theorem TabHas.ok {ln cl : Nat} {qual : Str} {K l : List (Addr × Obj)} {ps : Array Value} (h : TabHas ln cl qual K ps) (hs : ∀ p ∈ K, p ∈ l) : TabOk ln cl qual l ps := by
  obtain ⟨c', oc, vs, t, e, hm, r⟩ := h
  exact .inr ⟨c', oc, vs, t, e, hs _ hm, r⟩
theorem TabGo.first {ln cl : Nat} {qual : Str} {tl : List (Addr × Obj)} {ps' : Array Value} (g : TabGo ln cl qual tl #[] ps') : TabHas ln cl qual tl ps' := by
  rcases g with ⟨_, h⟩ | ⟨_, h⟩
  · exact absurd rfl h
  · exact h
theorem TabGo.again {ln cl : Nat} {qual : Str} {K tl : List (Addr × Obj)} {ps ps' : Array Value} (h : TabHas ln cl qual K ps) (g : TabGo ln cl qual tl ps ps') : ps' = ps := by
  rcases g with ⟨e, _⟩ | ⟨e, _⟩
  · exact e
  · obtain ⟨c', oc, vs, t, e', _⟩ := h
    rw [e] at e'
    cases e'
theorem two_out {src ask : Addr} {o o2 : Obj} {l : List (Addr × Obj)} {g : Obj → List (Addr × Obj)} {g2 : Obj → Obj → List (Addr × Obj)} (U : UpdF src o l g) (U2 : ∀ o', UpdF ask o2 (g o') (g2 o')) (hsa : @Ne Nat src ask) :
    ∃ R, (∀ p ∈ R, p.1 ≠ src) ∧ (∀ p ∈ R, p.1 ≠ ask) ∧ (∀ p, p ∈ l ↔ p ∈ (src, o) :: (ask, o2) :: R) ∧ (∀ a b p, p ∈ g2 a b ↔ p ∈ (src, a) :: (ask, b) :: R) := by
  obtain ⟨R0, hR, hg, hl⟩ := UpdF.out U
  let R := R0.filter (fun p => decide (p.1 ≠ ask))
  have hask : (ask, o2) ∈ R0 := by
    obtain ⟨R1, _, _, k3⟩ := UpdF.out (U2 o)
    exact (List.mem_cons.mp ((hg _ _).mp ((k3 _).mpr (.head _)))).resolve_left fun h => hsa (congrArg Prod.fst h).symm
  have uniq : ∀ q ∈ R0, q.1 = ask → q = (ask, o2) := by
    intro q hq e
    obtain ⟨R1, k1, _, k3⟩ := UpdF.out (U2 o)
    rcases List.mem_cons.mp ((k3 q).mp ((hg _ _).mpr (.tail _ hq))) with h | h
    · exact h
    · exact absurd e (k1 q h)
  have inR : ∀ q ∈ R0, q = (ask, o2) ∨ q ∈ R := fun q hq => by
    by_cases e : q.1 = ask
    · exact .inl (uniq q hq e)
    · exact .inr (List.mem_filter.mpr ⟨hq, decide_eq_true e⟩)
  refine ⟨R, fun p hp => hR p (List.mem_filter.mp hp).1, fun p hp => of_decide_eq_true (List.mem_filter.mp hp).2, fun p => ⟨fun hp => ?_, fun hp => ?_⟩, fun a b p => ⟨fun hp => ?_, fun hp => ?_⟩⟩
  · rcases List.mem_cons.mp ((hl p).mp hp) with rfl | hp
    · exact .head _
    rcases inR p hp with rfl | hp
    · exact .tail _ (.head _)
    · exact .tail _ (.tail _ hp)
  · refine (hl p).mpr ?_
    rcases List.mem_cons.mp hp with rfl | hp
    · exact .head _
    rcases List.mem_cons.mp hp with rfl | hp
    · exact .tail _ hask
    · exact .tail _ (List.mem_filter.mp hp).1
  · obtain ⟨R1, k1, k2, k3⟩ := UpdF.out (U2 a)
    rcases List.mem_cons.mp ((k2 _ _).mp hp) with rfl | hp
    · exact .tail _ (.head _)
    rcases List.mem_cons.mp ((hg _ _).mp ((k3 p).mpr (.tail _ hp))) with rfl | h
    · exact .head _
    rcases inR p h with rfl | h
    · exact absurd rfl (k1 _ hp)
    · exact .tail _ (.tail _ h)
  · obtain ⟨R1, k1, k2, k3⟩ := UpdF.out (U2 a)
    refine (k2 _ _).mpr ?_
    rcases List.mem_cons.mp hp with rfl | hp
    · rcases List.mem_cons.mp ((k3 _).mp ((hg a _).mpr (.head _))) with h | h
      · exact absurd (congrArg Prod.fst h) hsa
      · exact .tail _ h
    rcases List.mem_cons.mp hp with rfl | hp
    · exact .head _
    · rcases List.mem_cons.mp ((k3 p).mp ((hg a _).mpr (.tail _ (List.mem_filter.mp hp).1))) with h | h
      · exact absurd (congrArg Prod.fst h) (of_decide_eq_true (List.mem_filter.mp hp).2)
      · exact .tail _ h
theorem name_str_U {w : World} {mean : ExcName → Option Value} {mg mb : Str → Option Value} {dp un : Nat} {gd : Option (List Code)} {cn : Str} {cs : Scope} {ca : Addr} {ccd : Value} {cl : List (Str × Addr)} {A₀ : Around} {h₀ : Heap} {L : Addr} {m : Str → Option Value} {s : Shared} {Q E : Value → Shared → Prop}
    {x : Str} {sp : Int} {tx ts : Tok} (hx : x.length < 100) (hx2 : PyData.strOk x = true) {ps : Array Value} {l : List (Addr × Obj)} {g : Obj → List (Addr × Obj)}
    (B : Below A₀ h₀ [] h₀) (F : Fr h₀ L s.heap m) (X : (hd.heap_1 w.params).In h₀) (hC : CodeHd h₀ 124 120) (N : News h₀ L s.heap l) (U : UpdF 120 (tabObj ps) l g) (ok : TabOk 120 22 qName l ps)
    (T : Top topProg (looseW view [Str.ofString "LendError"] ++ (recsOf view).map (·.name) ++ (litsOf view).map (·.1) ++ (clssOf view (looseW view [Str.ofString "LendError"])).map (·.name)) mean mg mb h₀) (hk : cs.kind = .function) (hd : dp + 20 < recursionLimit) (hu : un + 500 < cLine)
    (ret : ∀ h' tk' tl ps', Fr h₀ L h' m → News h₀ L h' (g (tabObj ps') ++ tl) → TabGo 120 22 qName tl ps ps' → (∀ q ∈ l, ∀ p ∈ tl, q.1 < p.1) → Q (.bool true) { s with heap := h', toks := tk' }) :
    wpAny (model PySem.Challenge.rw_xm0577_01.row.prog w) (ktrTop dp un gd cn cs L ca ccd cl []) (call (.ref 125) [.str x tx, .int sp ts]) Q E s := by
  obtain ⟨R, hR, hg, hl⟩ := UpdF.out U
  have okR := ok.rest fun p hp => (hl p).mp hp
  refine name_str hx hx2 B F X hC (News.sub N fun p hp => (hl p).mpr hp) hR okR T hk hd hu fun h' tk' tl ps' F' N' go f1 f2 => ?_
  refine ret h' tk' tl ps' F' (News.sub N' fun p hp => ?_) go fun q hq p hp => ?_
  · rcases List.mem_append.mp hp with hp | hp
    · rcases List.mem_cons.mp ((hg _ p).mp hp) with rfl | hp
      · exact .head _
      · exact .tail _ (List.mem_append.mpr (.inl hp))
    · exact .tail _ (List.mem_append.mpr (.inr hp))
  · rcases List.mem_cons.mp ((hl q).mp hq) with rfl | hq
    · exact f2 p hp
    · exact f1 q hq p hp
theorem name_none_U {w : World} {mean : ExcName → Option Value} {mg mb : Str → Option Value} {dp un : Nat} {gd : Option (List Code)} {cn : Str} {cs : Scope} {ca : Addr} {ccd : Value} {cl : List (Str × Addr)} {A₀ : Around} {h₀ : Heap} {L : Addr} {m : Str → Option Value} {s : Shared} {Q E : Value → Shared → Prop}
    {sp : Int} {ts : Tok} {ps : Array Value} {l : List (Addr × Obj)} {g : Obj → List (Addr × Obj)}
    (B : Below A₀ h₀ [] h₀) (F : Fr h₀ L s.heap m) (X : (hd.heap_1 w.params).In h₀) (hC : CodeHd h₀ 124 120) (N : News h₀ L s.heap l) (U : UpdF 120 (tabObj ps) l g) (ok : TabOk 120 22 qName l ps)
    (T : Top topProg (looseW view [Str.ofString "LendError"] ++ (recsOf view).map (·.name) ++ (litsOf view).map (·.1) ++ (clssOf view (looseW view [Str.ofString "LendError"])).map (·.name)) mean mg mb h₀) (hk : cs.kind = .function) (hd : dp + 20 < recursionLimit) (hu : un + 500 < cLine)
    (ret : ∀ h' tk' tl ps', Fr h₀ L h' m → News h₀ L h' (g (tabObj ps') ++ tl) → TabGo 120 22 qName tl ps ps' → (∀ q ∈ l, ∀ p ∈ tl, q.1 < p.1) → Q (.bool true) { s with heap := h', toks := tk' }) :
    wpAny (model PySem.Challenge.rw_xm0577_01.row.prog w) (ktrTop dp un gd cn cs L ca ccd cl []) (call (.ref 125) [.none, .int sp ts]) Q E s := by
  obtain ⟨R, hR, hg, hl⟩ := UpdF.out U
  have okR := ok.rest fun p hp => (hl p).mp hp
  refine name_none  B F X hC (News.sub N fun p hp => (hl p).mpr hp) hR okR T hk hd hu fun h' tk' tl ps' F' N' go f1 f2 => ?_
  refine ret h' tk' tl ps' F' (News.sub N' fun p hp => ?_) go fun q hq p hp => ?_
  · rcases List.mem_append.mp hp with hp | hp
    · rcases List.mem_cons.mp ((hg _ p).mp hp) with rfl | hp
      · exact .head _
      · exact .tail _ (List.mem_append.mpr (.inl hp))
    · exact .tail _ (List.mem_append.mpr (.inr hp))
  · rcases List.mem_cons.mp ((hl q).mp hq) with rfl | hq
    · exact f2 p hp
    · exact f1 q hq p hp
theorem tr_U {w : World} {mean : ExcName → Option Value} {mg mb : Str → Option Value} (IT : TwSpec w mean mg mb 3) {dp un : Nat} {gd : Option (List Code)} {cn : Str} {cs : Scope} {ca : Addr} {ccd : Value} {cl : List (Str × Addr)} {A₀ : Around} {h₀ : Heap} {L : Addr} {m : Str → Option Value} {s : Shared} {Q E : Value → Shared → Prop}
    {src : Addr} {a b : Int} {ta tb : Tok} {n : Nat} {ps : Array Value} {l : List (Addr × Obj)} {g : Obj → List (Addr × Obj)} {g2 : Obj → Obj → List (Addr × Obj)}
    (B : Below A₀ h₀ [] h₀) (F : Fr h₀ L s.heap m) (X : (hd.heap_1 w.params).In h₀) (hC : CodeHd h₀ 105 101) (N : News h₀ L s.heap l) (U : UpdF src (srcObj a b ta tb n) l g) (U2 : ∀ o, UpdF 101 (tabObj ps) (g o) (g2 o)) (hsa : @Ne Nat src 101) (ok : TabOk 98 4 qTurn l ps) (ha : 0 ≤ a) (hb : 0 ≤ b) (hb2 : b < 2147483647)
    (T : Top topProg (looseW view [Str.ofString "LendError"] ++ (recsOf view).map (·.name) ++ (litsOf view).map (·.1) ++ (clssOf view (looseW view [Str.ofString "LendError"])).map (·.name)) mean mg mb h₀) (hk : cs.kind = .function) (hd : dp + 20 < recursionLimit) (hu : un + 500 < cLine)
    (ret : ∀ a' b' ta' tb' ps' tl h' tk', Fr h₀ L h' m → News h₀ L h' (g2 (srcObj a' b' ta' tb' n) (tabObj ps') ++ tl) → 0 ≤ a' → 0 ≤ b' → b' < 2147483647 → TabGo 98 4 qTurn tl ps ps' → (∀ q ∈ l, ∀ p ∈ tl, q.1 < p.1) → Q (.bool true) { s with heap := h', toks := tk' }) :
    wpAny (model PySem.Challenge.rw_xm0577_01.row.prog w) (ktrTop dp un gd cn cs L ca ccd cl []) (call (.ref 106) [.ref src]) Q E s := by
  obtain ⟨R, hR, hR2, hl, hg⟩ := two_out U U2 hsa
  have okR : TabOk 98 4 qTurn R ps := by
    refine TabOk.rest (d := 101) (l := (101, tabObj ps) :: R) ?_ fun _ h => h
    rcases ok with h | ⟨c', oc, vs, t, e', hm, hd, hv⟩
    · exact .inl h
    · refine .inr ⟨c', oc, vs, t, e', (List.mem_cons.mp ((hl _).mp hm)).resolve_left fun z => ?_, hd, hv⟩
      have z2 : oc = srcObj a b ta tb n := congrArg Prod.snd z
      rw [z2] at hd
      cases hd
  refine tr_any IT B F X hC (News.sub N fun p hp => (hl p).mpr hp) hR hR2 hsa okR ha hb hb2 T hk hd hu fun a' b' ta' tb' ps' tl h' tk' F' N' y1 y2 y3 go f1 f2 f3 => ?_
  refine ret a' b' ta' tb' ps' tl h' tk' F' (News.sub N' fun p hp => ?_) y1 y2 y3 go fun q hq p hp => ?_
  · rcases List.mem_append.mp hp with hp | hp
    · rcases List.mem_cons.mp ((hg _ _ p).mp hp) with rfl | hp
      · exact .head _
      rcases List.mem_cons.mp hp with rfl | hp
      · exact .tail _ (.head _)
      · exact .tail _ (.tail _ (List.mem_append.mpr (.inl hp)))
    · exact .tail _ (.tail _ (List.mem_append.mpr (.inr hp)))
  · rcases List.mem_cons.mp ((hl q).mp hq) with rfl | hq
    · exact f2 p hp
    rcases List.mem_cons.mp hq with rfl | hq
    · exact f3 p hp
    · exact f1 q hq p hp
theorem only_U {w : World} {mean : ExcName → Option Value} {mg mb : Str → Option Value} (IT : TwSpec w mean mg mb 2) {dp un : Nat} {gd : Option (List Code)} {cn : Str} {cs : Scope} {ca : Addr} {ccd : Value} {cl : List (Str × Addr)} {A₀ : Around} {h₀ : Heap} {L : Addr} {m : Str → Option Value} {s : Shared} {Q E : Value → Shared → Prop}
    {src : Addr} {a b : Int} {ta tb : Tok} {n : Nat} {ps : Array Value} {l : List (Addr × Obj)} {g : Obj → List (Addr × Obj)} {g2 : Obj → Obj → List (Addr × Obj)}
    (B : Below A₀ h₀ [] h₀) (F : Fr h₀ L s.heap m) (X : (hd.heap_1 w.params).In h₀) (hC : CodeHd h₀ 117 115) (N : News h₀ L s.heap l) (U : UpdF src (srcObj a b ta tb n) l g) (U2 : ∀ o, UpdF 115 (tabObj ps) (g o) (g2 o)) (hsa : @Ne Nat src 115) (ok : TabOk 113 22 qOnly l ps) (ha : 0 ≤ a) (hb : 0 ≤ b) (hb2 : b < 2147483647)
    (T : Top topProg (looseW view [Str.ofString "LendError"] ++ (recsOf view).map (·.name) ++ (litsOf view).map (·.1) ++ (clssOf view (looseW view [Str.ofString "LendError"])).map (·.name)) mean mg mb h₀) (hk : cs.kind = .function) (hd : dp + 40 < recursionLimit) (hu : un + 900 < cLine)
    (ret : ∀ a' b' ta' tb' ps' tl h' tk', Fr h₀ L h' m → News h₀ L h' (g2 (srcObj a' b' ta' tb' n) (tabObj ps') ++ tl) → 0 ≤ a' → 0 ≤ b' → b' < 2147483647 → TabGo 113 22 qOnly tl ps ps' → (∀ q ∈ l, ∀ p ∈ tl, q.1 < p.1) → Q (.bool true) { s with heap := h', toks := tk' }) :
    wpAny (model PySem.Challenge.rw_xm0577_01.row.prog w) (ktrTop dp un gd cn cs L ca ccd cl []) (call (.ref 118) [.ref src]) Q E s := by
  obtain ⟨R, hR, hR2, hl, hg⟩ := two_out U U2 hsa
  have okR : TabOk 113 22 qOnly R ps := by
    refine TabOk.rest (d := 115) (l := (115, tabObj ps) :: R) ?_ fun _ h => h
    rcases ok with h | ⟨c', oc, vs, t, e', hm, hd, hv⟩
    · exact .inl h
    · refine .inr ⟨c', oc, vs, t, e', (List.mem_cons.mp ((hl _).mp hm)).resolve_left fun z => ?_, hd, hv⟩
      have z2 : oc = srcObj a b ta tb n := congrArg Prod.snd z
      rw [z2] at hd
      cases hd
  refine only_any IT B F X hC (News.sub N fun p hp => (hl p).mpr hp) hR hR2 hsa okR ha hb hb2 T hk hd hu fun a' b' ta' tb' ps' tl h' tk' F' N' y1 y2 y3 go f1 f2 f3 => ?_
  refine ret a' b' ta' tb' ps' tl h' tk' F' (News.sub N' fun p hp => ?_) y1 y2 y3 go fun q hq p hp => ?_
  · rcases List.mem_append.mp hp with hp | hp
    · rcases List.mem_cons.mp ((hg _ _ p).mp hp) with rfl | hp
      · exact .head _
      rcases List.mem_cons.mp hp with rfl | hp
      · exact .tail _ (.head _)
      · exact .tail _ (.tail _ (List.mem_append.mpr (.inl hp)))
    · exact .tail _ (.tail _ (List.mem_append.mpr (.inr hp)))
  · rcases List.mem_cons.mp ((hl q).mp hq) with rfl | hq
    · exact f2 p hp
    rcases List.mem_cons.mp hq with rfl | hq
    · exact f3 p hp
    · exact f1 q hq p hp
theorem name_str_1 {w : World} {mean : ExcName → Option Value} {mg mb : Str → Option Value} {dp un : Nat} {gd : Option (List Code)} {cn : Str} {cs : Scope} {ca : Addr} {ccd : Value} {cl : List (Str × Addr)} {A₀ : Around} {h₀ : Heap} {L : Addr} {m : Str → Option Value} {s : Shared} {Q E : Value → Shared → Prop}
    {x : Str} {sp : Int} {tx ts : Tok} (hx : x.length < 100) (hx2 : PyData.strOk x = true) {l : List (Addr × Obj)} {g : Obj → List (Addr × Obj)}
    (B : Below A₀ h₀ [] h₀) (F : Fr h₀ L s.heap m) (X : (hd.heap_1 w.params).In h₀) (hC : CodeHd h₀ 124 120) (N : News h₀ L s.heap l) (U : UpdF 120 (tabObj #[]) l g)
    (T : Top topProg (looseW view [Str.ofString "LendError"] ++ (recsOf view).map (·.name) ++ (litsOf view).map (·.1) ++ (clssOf view (looseW view [Str.ofString "LendError"])).map (·.name)) mean mg mb h₀) (hk : cs.kind = .function) (hd : dp + 20 < recursionLimit) (hu : un + 500 < cLine)
    (ret : ∀ h' tk' tl ps', Fr h₀ L h' m → News h₀ L h' (g (tabObj ps') ++ tl) → TabHas 120 22 qName tl ps' → (∀ q ∈ l, ∀ p ∈ tl, q.1 < p.1) → Q (.bool true) { s with heap := h', toks := tk' }) :
    wpAny (model PySem.Challenge.rw_xm0577_01.row.prog w) (ktrTop dp un gd cn cs L ca ccd cl []) (call (.ref 125) [.str x tx, .int sp ts]) Q E s :=
  name_str_U hx hx2 B F X hC N U (.inl rfl) T hk hd hu fun h' tk' tl ps' F' N' go f => ret h' tk' tl ps' F' N' go.first f
theorem name_str_2 {w : World} {mean : ExcName → Option Value} {mg mb : Str → Option Value} {dp un : Nat} {gd : Option (List Code)} {cn : Str} {cs : Scope} {ca : Addr} {ccd : Value} {cl : List (Str × Addr)} {A₀ : Around} {h₀ : Heap} {L : Addr} {m : Str → Option Value} {s : Shared} {Q E : Value → Shared → Prop}
    {x : Str} {sp : Int} {tx ts : Tok} (hx : x.length < 100) (hx2 : PyData.strOk x = true) {l : List (Addr × Obj)} {g : Obj → List (Addr × Obj)} {K : List (Addr × Obj)} {ps : Array Value} (hH : TabHas 120 22 qName K ps) (hK : ∀ p ∈ K, p ∈ l)
    (B : Below A₀ h₀ [] h₀) (F : Fr h₀ L s.heap m) (X : (hd.heap_1 w.params).In h₀) (hC : CodeHd h₀ 124 120) (N : News h₀ L s.heap l) (U : UpdF 120 (tabObj ps) l g)
    (T : Top topProg (looseW view [Str.ofString "LendError"] ++ (recsOf view).map (·.name) ++ (litsOf view).map (·.1) ++ (clssOf view (looseW view [Str.ofString "LendError"])).map (·.name)) mean mg mb h₀) (hk : cs.kind = .function) (hd : dp + 20 < recursionLimit) (hu : un + 500 < cLine)
    (ret : ∀ h' tk' tl (_ : Unit), Fr h₀ L h' m → News h₀ L h' (g (tabObj ps) ++ tl) → (∀ q ∈ l, ∀ p ∈ tl, q.1 < p.1) → Q (.bool true) { s with heap := h', toks := tk' }) :
    wpAny (model PySem.Challenge.rw_xm0577_01.row.prog w) (ktrTop dp un gd cn cs L ca ccd cl []) (call (.ref 125) [.str x tx, .int sp ts]) Q E s :=
  name_str_U hx hx2 B F X hC N U (hH.ok hK) T hk hd hu fun h' tk' tl ps' F' N' go f => by
    have e := go.again hH
    subst e
    exact ret h' tk' tl () F' N' f
theorem name_none_1 {w : World} {mean : ExcName → Option Value} {mg mb : Str → Option Value} {dp un : Nat} {gd : Option (List Code)} {cn : Str} {cs : Scope} {ca : Addr} {ccd : Value} {cl : List (Str × Addr)} {A₀ : Around} {h₀ : Heap} {L : Addr} {m : Str → Option Value} {s : Shared} {Q E : Value → Shared → Prop}
    {sp : Int} {ts : Tok} {l : List (Addr × Obj)} {g : Obj → List (Addr × Obj)}
    (B : Below A₀ h₀ [] h₀) (F : Fr h₀ L s.heap m) (X : (hd.heap_1 w.params).In h₀) (hC : CodeHd h₀ 124 120) (N : News h₀ L s.heap l) (U : UpdF 120 (tabObj #[]) l g)
    (T : Top topProg (looseW view [Str.ofString "LendError"] ++ (recsOf view).map (·.name) ++ (litsOf view).map (·.1) ++ (clssOf view (looseW view [Str.ofString "LendError"])).map (·.name)) mean mg mb h₀) (hk : cs.kind = .function) (hd : dp + 20 < recursionLimit) (hu : un + 500 < cLine)
    (ret : ∀ h' tk' tl ps', Fr h₀ L h' m → News h₀ L h' (g (tabObj ps') ++ tl) → TabHas 120 22 qName tl ps' → (∀ q ∈ l, ∀ p ∈ tl, q.1 < p.1) → Q (.bool true) { s with heap := h', toks := tk' }) :
    wpAny (model PySem.Challenge.rw_xm0577_01.row.prog w) (ktrTop dp un gd cn cs L ca ccd cl []) (call (.ref 125) [.none, .int sp ts]) Q E s :=
  name_none_U  B F X hC N U (.inl rfl) T hk hd hu fun h' tk' tl ps' F' N' go f => ret h' tk' tl ps' F' N' go.first f
theorem name_none_2 {w : World} {mean : ExcName → Option Value} {mg mb : Str → Option Value} {dp un : Nat} {gd : Option (List Code)} {cn : Str} {cs : Scope} {ca : Addr} {ccd : Value} {cl : List (Str × Addr)} {A₀ : Around} {h₀ : Heap} {L : Addr} {m : Str → Option Value} {s : Shared} {Q E : Value → Shared → Prop}
    {sp : Int} {ts : Tok} {l : List (Addr × Obj)} {g : Obj → List (Addr × Obj)} {K : List (Addr × Obj)} {ps : Array Value} (hH : TabHas 120 22 qName K ps) (hK : ∀ p ∈ K, p ∈ l)
    (B : Below A₀ h₀ [] h₀) (F : Fr h₀ L s.heap m) (X : (hd.heap_1 w.params).In h₀) (hC : CodeHd h₀ 124 120) (N : News h₀ L s.heap l) (U : UpdF 120 (tabObj ps) l g)
    (T : Top topProg (looseW view [Str.ofString "LendError"] ++ (recsOf view).map (·.name) ++ (litsOf view).map (·.1) ++ (clssOf view (looseW view [Str.ofString "LendError"])).map (·.name)) mean mg mb h₀) (hk : cs.kind = .function) (hd : dp + 20 < recursionLimit) (hu : un + 500 < cLine)
    (ret : ∀ h' tk' tl (_ : Unit), Fr h₀ L h' m → News h₀ L h' (g (tabObj ps) ++ tl) → (∀ q ∈ l, ∀ p ∈ tl, q.1 < p.1) → Q (.bool true) { s with heap := h', toks := tk' }) :
    wpAny (model PySem.Challenge.rw_xm0577_01.row.prog w) (ktrTop dp un gd cn cs L ca ccd cl []) (call (.ref 125) [.none, .int sp ts]) Q E s :=
  name_none_U  B F X hC N U (hH.ok hK) T hk hd hu fun h' tk' tl ps' F' N' go f => by
    have e := go.again hH
    subst e
    exact ret h' tk' tl () F' N' f
theorem tr_1 {w : World} {mean : ExcName → Option Value} {mg mb : Str → Option Value} (IT : TwSpec w mean mg mb 3) {dp un : Nat} {gd : Option (List Code)} {cn : Str} {cs : Scope} {ca : Addr} {ccd : Value} {cl : List (Str × Addr)} {A₀ : Around} {h₀ : Heap} {L : Addr} {m : Str → Option Value} {s : Shared} {Q E : Value → Shared → Prop}
    {src : Addr} {a b : Int} {ta tb : Tok} {n : Nat} {l : List (Addr × Obj)} {g : Obj → List (Addr × Obj)} {g2 : Obj → Obj → List (Addr × Obj)}
    (B : Below A₀ h₀ [] h₀) (F : Fr h₀ L s.heap m) (X : (hd.heap_1 w.params).In h₀) (hC : CodeHd h₀ 105 101) (N : News h₀ L s.heap l) (U : UpdF src (srcObj a b ta tb n) l g) (U2 : ∀ o, UpdF 101 (tabObj #[]) (g o) (g2 o)) (hsa : @Ne Nat src 101) (ha : 0 ≤ a) (hb : 0 ≤ b) (hb2 : b < 2147483647)
    (T : Top topProg (looseW view [Str.ofString "LendError"] ++ (recsOf view).map (·.name) ++ (litsOf view).map (·.1) ++ (clssOf view (looseW view [Str.ofString "LendError"])).map (·.name)) mean mg mb h₀) (hk : cs.kind = .function) (hd : dp + 20 < recursionLimit) (hu : un + 500 < cLine)
    (ret : ∀ a' b' ta' tb' ps' tl h' tk', Fr h₀ L h' m → News h₀ L h' (g2 (srcObj a' b' ta' tb' n) (tabObj ps') ++ tl) → 0 ≤ a' → 0 ≤ b' → b' < 2147483647 → TabHas 98 4 qTurn tl ps' → (∀ q ∈ l, ∀ p ∈ tl, q.1 < p.1) → Q (.bool true) { s with heap := h', toks := tk' }) :
    wpAny (model PySem.Challenge.rw_xm0577_01.row.prog w) (ktrTop dp un gd cn cs L ca ccd cl []) (call (.ref 106) [.ref src]) Q E s :=
  tr_U IT B F X hC N U U2 hsa (.inl rfl) ha hb hb2 T hk hd hu fun a' b' ta' tb' ps' tl h' tk' F' N' y1 y2 y3 go f => ret a' b' ta' tb' ps' tl h' tk' F' N' y1 y2 y3 go.first f
theorem tr_2 {w : World} {mean : ExcName → Option Value} {mg mb : Str → Option Value} (IT : TwSpec w mean mg mb 3) {dp un : Nat} {gd : Option (List Code)} {cn : Str} {cs : Scope} {ca : Addr} {ccd : Value} {cl : List (Str × Addr)} {A₀ : Around} {h₀ : Heap} {L : Addr} {m : Str → Option Value} {s : Shared} {Q E : Value → Shared → Prop}
    {src : Addr} {a b : Int} {ta tb : Tok} {n : Nat} {l : List (Addr × Obj)} {g : Obj → List (Addr × Obj)} {g2 : Obj → Obj → List (Addr × Obj)} {K : List (Addr × Obj)} {ps : Array Value} (hH : TabHas 98 4 qTurn K ps) (hK : ∀ p ∈ K, p ∈ l)
    (B : Below A₀ h₀ [] h₀) (F : Fr h₀ L s.heap m) (X : (hd.heap_1 w.params).In h₀) (hC : CodeHd h₀ 105 101) (N : News h₀ L s.heap l) (U : UpdF src (srcObj a b ta tb n) l g) (U2 : ∀ o, UpdF 101 (tabObj ps) (g o) (g2 o)) (hsa : @Ne Nat src 101) (ha : 0 ≤ a) (hb : 0 ≤ b) (hb2 : b < 2147483647)
    (T : Top topProg (looseW view [Str.ofString "LendError"] ++ (recsOf view).map (·.name) ++ (litsOf view).map (·.1) ++ (clssOf view (looseW view [Str.ofString "LendError"])).map (·.name)) mean mg mb h₀) (hk : cs.kind = .function) (hd : dp + 20 < recursionLimit) (hu : un + 500 < cLine)
    (ret : ∀ a' b' ta' tb' (_ : Unit) tl h' tk', Fr h₀ L h' m → News h₀ L h' (g2 (srcObj a' b' ta' tb' n) (tabObj ps) ++ tl) → 0 ≤ a' → 0 ≤ b' → b' < 2147483647 → (∀ q ∈ l, ∀ p ∈ tl, q.1 < p.1) → Q (.bool true) { s with heap := h', toks := tk' }) :
    wpAny (model PySem.Challenge.rw_xm0577_01.row.prog w) (ktrTop dp un gd cn cs L ca ccd cl []) (call (.ref 106) [.ref src]) Q E s :=
  tr_U IT B F X hC N U U2 hsa (hH.ok hK) ha hb hb2 T hk hd hu fun a' b' ta' tb' ps' tl h' tk' F' N' y1 y2 y3 go f => by
    have e := go.again hH
    subst e
    exact ret a' b' ta' tb' () tl h' tk' F' N' y1 y2 y3 f
theorem onr_1 {w : World} {mean : ExcName → Option Value} {mg mb : Str → Option Value} (IT : TwSpec w mean mg mb 2) {dp un : Nat} {gd : Option (List Code)} {cn : Str} {cs : Scope} {ca : Addr} {ccd : Value} {cl : List (Str × Addr)} {A₀ : Around} {h₀ : Heap} {L : Addr} {m : Str → Option Value} {s : Shared} {Q E : Value → Shared → Prop}
    {src : Addr} {a b : Int} {ta tb : Tok} {n : Nat} {l : List (Addr × Obj)} {g : Obj → List (Addr × Obj)} {g2 : Obj → Obj → List (Addr × Obj)}
    (B : Below A₀ h₀ [] h₀) (F : Fr h₀ L s.heap m) (X : (hd.heap_1 w.params).In h₀) (hC : CodeHd h₀ 117 115) (N : News h₀ L s.heap l) (U : UpdF src (srcObj a b ta tb n) l g) (U2 : ∀ o, UpdF 115 (tabObj #[]) (g o) (g2 o)) (hsa : @Ne Nat src 115) (ha : 0 ≤ a) (hb : 0 ≤ b) (hb2 : b < 2147483647)
    (T : Top topProg (looseW view [Str.ofString "LendError"] ++ (recsOf view).map (·.name) ++ (litsOf view).map (·.1) ++ (clssOf view (looseW view [Str.ofString "LendError"])).map (·.name)) mean mg mb h₀) (hk : cs.kind = .function) (hd : dp + 40 < recursionLimit) (hu : un + 900 < cLine)
    (ret : ∀ a' b' ta' tb' ps' tl h' tk', Fr h₀ L h' m → News h₀ L h' (g2 (srcObj a' b' ta' tb' n) (tabObj ps') ++ tl) → 0 ≤ a' → 0 ≤ b' → b' < 2147483647 → TabHas 113 22 qOnly tl ps' → (∀ q ∈ l, ∀ p ∈ tl, q.1 < p.1) → Q (.bool true) { s with heap := h', toks := tk' }) :
    wpAny (model PySem.Challenge.rw_xm0577_01.row.prog w) (ktrTop dp un gd cn cs L ca ccd cl []) (call (.ref 118) [.ref src]) Q E s :=
  only_U IT B F X hC N U U2 hsa (.inl rfl) ha hb hb2 T hk hd hu fun a' b' ta' tb' ps' tl h' tk' F' N' y1 y2 y3 go f => ret a' b' ta' tb' ps' tl h' tk' F' N' y1 y2 y3 go.first f
theorem onr_2 {w : World} {mean : ExcName → Option Value} {mg mb : Str → Option Value} (IT : TwSpec w mean mg mb 2) {dp un : Nat} {gd : Option (List Code)} {cn : Str} {cs : Scope} {ca : Addr} {ccd : Value} {cl : List (Str × Addr)} {A₀ : Around} {h₀ : Heap} {L : Addr} {m : Str → Option Value} {s : Shared} {Q E : Value → Shared → Prop}
    {src : Addr} {a b : Int} {ta tb : Tok} {n : Nat} {l : List (Addr × Obj)} {g : Obj → List (Addr × Obj)} {g2 : Obj → Obj → List (Addr × Obj)} {K : List (Addr × Obj)} {ps : Array Value} (hH : TabHas 113 22 qOnly K ps) (hK : ∀ p ∈ K, p ∈ l)
    (B : Below A₀ h₀ [] h₀) (F : Fr h₀ L s.heap m) (X : (hd.heap_1 w.params).In h₀) (hC : CodeHd h₀ 117 115) (N : News h₀ L s.heap l) (U : UpdF src (srcObj a b ta tb n) l g) (U2 : ∀ o, UpdF 115 (tabObj ps) (g o) (g2 o)) (hsa : @Ne Nat src 115) (ha : 0 ≤ a) (hb : 0 ≤ b) (hb2 : b < 2147483647)
    (T : Top topProg (looseW view [Str.ofString "LendError"] ++ (recsOf view).map (·.name) ++ (litsOf view).map (·.1) ++ (clssOf view (looseW view [Str.ofString "LendError"])).map (·.name)) mean mg mb h₀) (hk : cs.kind = .function) (hd : dp + 40 < recursionLimit) (hu : un + 900 < cLine)
    (ret : ∀ a' b' ta' tb' (_ : Unit) tl h' tk', Fr h₀ L h' m → News h₀ L h' (g2 (srcObj a' b' ta' tb' n) (tabObj ps) ++ tl) → 0 ≤ a' → 0 ≤ b' → b' < 2147483647 → (∀ q ∈ l, ∀ p ∈ tl, q.1 < p.1) → Q (.bool true) { s with heap := h', toks := tk' }) :
    wpAny (model PySem.Challenge.rw_xm0577_01.row.prog w) (ktrTop dp un gd cn cs L ca ccd cl []) (call (.ref 118) [.ref src]) Q E s :=
  only_U IT B F X hC N U U2 hsa (hH.ok hK) ha hb hb2 T hk hd hu fun a' b' ta' tb' ps' tl h' tk' F' N' y1 y2 y3 go f => by
    have e := go.again hH
    subst e
    exact ret a' b' ta' tb' () tl h' tk' F' N' y1 y2 y3 f
end
section
theorem words_50 : True := by
  w_top off
  k_with_none
  k_with "kst_mem" => first
    | (first
      | with_reducible assumption
      | with_reducible exact List.mem_cons_self
      | (with_reducible refine List.mem_cons_of_mem _ ?_; kst_mem)
      | (with_reducible refine List.mem_append.mpr (Or.inl ?_); kst_mem)
      | (with_reducible refine List.mem_append.mpr (Or.inr ?_); kst_mem)
      | fail "kst_mem")
    | fail
  k_with "k_mem" => first
    | (kst_mem)
    | fail
  k_with "k_all" => first
    | (first
      | with_reducible assumption
      | exact List.forall_mem_nil _
      | (with_reducible refine' Mine.less_sub ?h_2 ?m_2; (case h_2 => with_reducible assumption); (case m_2 => (intro p9 h9; kst_mem)))
      | (with_reducible refine' Mine.less_sub1 ?h_2 ?m_2; (case h_2 => with_reducible assumption); (case m_2 => (intro p9 h9; kst_mem)))
      | (with_reducible refine' Mine.less_sub2 ?h_2 ?m_2; (case h_2 => with_reducible assumption); (case m_2 => (intro p9 h9; kst_mem)))
      | (with_reducible refine' Mine.less_sub3 ?h_2 ?m_2; (case h_2 => with_reducible assumption); (case m_2 => (intro p9 h9; kst_mem)))
      | (with_reducible refine' Mine.less_sub4 ?h_2 ?m_2; (case h_2 => with_reducible assumption); (case m_2 => (intro p9 h9; kst_mem)))
      | (with_reducible refine' Mine.less_sub5 ?h_2 ?m_2; (case h_2 => with_reducible assumption); (case m_2 => (intro p9 h9; kst_mem)))
      | (refine' List.forall_mem_cons.mpr ⟨?a_2, ?b_2⟩; (case a_2 => k_ne); (case b_2 => k_all))
      | exact Mine.allLt_ne (by with_reducible assumption)
      | exact Mine.fresh_ne (by with_reducible assumption) (by k_mem)
      | (refine' List.forall_mem_append.mpr ⟨?_, ?_⟩ <;> k_all))
    | fail
  k_with "kqd_sub" => first
    | (first
      | exact fun _ h => h
      | exact List.forall_mem_nil _
      | (refine' List.forall_mem_cons.mpr ⟨?kqa_3, ?kqb_3⟩; (case kqa_3 => k_mem); (case kqb_3 => kqd_sub))
      | (refine' List.forall_mem_append.mpr ⟨?_, ?_⟩ <;> kqd_sub)
      | (intro p9 h9; k_mem))
    | fail
  k_with "ktr_enter" => first
    | (refine' code_defC ?k1_4 ?k2_4 ?k3_4 ?k4_4 ?k5_4 ?kA_4 ?kF_4 ?kK_4 ?k6_4 ?k7_4 ?k8_4 ?k9_4 ?kB_4 ?kD_4 ?_ ?c2_4 ?c3_4 ?c4_4; (case kA_4 => exact rfl); (case kF_4 => exact rfl); (case kK_4 => assumption); (case k1_4 => k_asm); (case k2_4 => k_asm); (case k3_4 => k_asm); (case k4_4 => k_asm); (case k5_4 => k_asm); (case k6_4 => k_is); (case k7_4 => k_is); (case k8_4 => ktr_room); (case k9_4 => exact BindsTo.of_eq rfl); (case kB_4 => exact rfl); (case kD_4 => decide +kernel); (case c2_4 => exact rfl); (case c3_4 => exact rfl); (case c4_4 => exact rfl); k_whole; intro g' L' h' tk' cells' FG' F' N' Y' B' X' T' l1; (try k_lt l1); k_cells Y'; (try simp only [List.cons_append, List.nil_append] at N'); (try dsimp only); (try k_fold))
    | fail
  k_with "tb_start" => first
    | (first
      | with_reducible exact Mine.Apart.ne (by with_reducible assumption)
      | with_reducible exact Mine.Apart.en (by with_reducible assumption)
      | with_reducible exact Mine.succ_ne1
      | with_reducible exact Mine.succ_ne2
      | (with_reducible refine' Mine.less_ne ?h_5 ?m_5; (case h_5 => with_reducible assumption); (case m_5 => kst_mem))
      | (with_reducible refine' Mine.less_en ?h_5 ?m_5; (case h_5 => with_reducible assumption); (case m_5 => kst_mem))
      | (with_reducible refine' Mine.less_ne1 ?h_5 ?m_5; (case h_5 => with_reducible assumption); (case m_5 => kst_mem))
      | (with_reducible refine' Mine.less_en1 ?h_5 ?m_5; (case h_5 => with_reducible assumption); (case m_5 => kst_mem))
      | (with_reducible refine' Mine.less_ne2 ?h_5 ?m_5; (case h_5 => with_reducible assumption); (case m_5 => kst_mem))
      | (with_reducible refine' Mine.less_en2 ?h_5 ?m_5; (case h_5 => with_reducible assumption); (case m_5 => kst_mem))
      | (with_reducible refine' Mine.less_ne3 ?h_5 ?m_5; (case h_5 => with_reducible assumption); (case m_5 => kst_mem))
      | (with_reducible refine' Mine.less_en3 ?h_5 ?m_5; (case h_5 => with_reducible assumption); (case m_5 => kst_mem))
      | (with_reducible refine' Mine.less_ne4 ?h_5 ?m_5; (case h_5 => with_reducible assumption); (case m_5 => kst_mem))
      | (with_reducible refine' Mine.less_en4 ?h_5 ?m_5; (case h_5 => with_reducible assumption); (case m_5 => kst_mem))
      | (with_reducible refine' Mine.less_ne5 ?h_5 ?m_5; (case h_5 => with_reducible assumption); (case m_5 => kst_mem))
      | (with_reducible refine' Mine.less_en5 ?h_5 ?m_5; (case h_5 => with_reducible assumption); (case m_5 => kst_mem))
      | (with_reducible refine' Mine.lt_ne2 ?k_5 ?h_5 ?m_5; (case k_5 => with_reducible assumption); (case h_5 => with_reducible assumption); (case m_5 => kst_mem))
      | (with_reducible refine' Mine.lt_en2 ?k_5 ?h_5 ?m_5; (case k_5 => with_reducible assumption); (case h_5 => with_reducible assumption); (case m_5 => kst_mem)))
    | fail
  k_with "k_ne" => first
    | (first | tb_start | ((try dsimp only); (refine neN ?_); first | tb_start | omega))
    | fail
  trivial
def letGood (x : Str) : Bool := decide (x.length < 100) && ((decide ((Str.ofString "'" ++ x).length < 100) && PyData.strOk (Str.ofString "'" ++ x)) && (decide ((Str.ofString "'_" ++ x).length < 100) && PyData.strOk (Str.ofString "'_" ++ x)))
/-- a list of at most three of the strings 'a', '_', '1' -/
def LetsAre (ys : List Value) (ws : List Str) : Prop := StrsAre ys ws ∧ ∀ x ∈ ws, x = Str.ofString "a" ∨ x = Str.ofString "_" ∨ x = Str.ofString "1"
theorem LetsAre.nil : LetsAre [] [] := ⟨.nil, fun _ h => nomatch h⟩
theorem strsAre_snoc {ys : List Value} {ws : List Str} {x : Str} {t : Tok} (h : StrsAre ys ws) : StrsAre (ys ++ [.str x t]) (ws ++ [x]) := by
  induction h with
  | nil => exact .cons x t .nil
  | cons y u _ ih => exact .cons y u ih
theorem LetsAre.snoc {ys : List Value} {ws : List Str} {x : Str} {t : Tok} (h : LetsAre ys ws) (hx : x = Str.ofString "a" ∨ x = Str.ofString "_" ∨ x = Str.ofString "1") : LetsAre (ys ++ [.str x t]) (ws ++ [x]) := by
  refine ⟨strsAre_snoc h.1, fun y hy => ?_⟩
  rcases List.mem_append.mp hy with hy | hy
  · exact h.2 y hy
  · rw [List.mem_singleton.mp hy]; exact hx
theorem lets_len {ys : List Value} {ws : List Str} (h : StrsAre ys ws) : ws.length = ys.length := by
  induction h with
  | nil => rfl
  | cons y u _ ih => simp [ih]
theorem lets_good {ys : List Value} {ws : List Str} (h : LetsAre ys ws) (hl : ys.length ≤ 3) : letGood (Txt.join (Str.ofString "") ws) = true := by
  have hw : ws.length ≤ 3 := by rw [lets_len h.1]; exact hl
  have hx := h.2
  match ws, hw, hx with
  | [], _, _ => decide +kernel
  | [x], _, hx =>
    rcases hx x (.head _) with rfl | rfl | rfl <;> decide +kernel
  | [x, y], _, hx =>
    rcases hx x (.head _) with rfl | rfl | rfl <;> rcases hx y (.tail _ (.head _)) with rfl | rfl | rfl <;> decide +kernel
  | [x, y, z], _, hx =>
    rcases hx x (.head _) with rfl | rfl | rfl <;> rcases hx y (.tail _ (.head _)) with rfl | rfl | rfl <;> rcases hx z (.tail _ (.tail _ (.head _))) with rfl | rfl | rfl <;> decide +kernel
  | _ :: _ :: _ :: _ :: _, hw, _ => simp at hw
theorem letGood.z {x : Str} (h : letGood x = true) : x.length < 100 := by
  simp only [letGood, Bool.and_eq_true, decide_eq_true_eq] at h; exact h.1
theorem letGood.a {x : Str} (h : letGood x = true) : (Str.ofString "'" ++ x).length < 100 := by
  simp only [letGood, Bool.and_eq_true, decide_eq_true_eq] at h; exact h.2.1.1
theorem letGood.b {x : Str} (h : letGood x = true) : PyData.strOk (Str.ofString "'" ++ x) = true := by
  simp only [letGood, Bool.and_eq_true, decide_eq_true_eq] at h; exact h.2.1.2
theorem letGood.c {x : Str} (h : letGood x = true) : (Str.ofString "'_" ++ x).length < 100 := by
  simp only [letGood, Bool.and_eq_true, decide_eq_true_eq] at h; exact h.2.2.1
theorem letGood.d {x : Str} (h : letGood x = true) : PyData.strOk (Str.ofString "'_" ++ x) = true := by
  simp only [letGood, Bool.and_eq_true, decide_eq_true_eq] at h; exact h.2.2.2
theorem lets_weight {ys : List Value} {ws : List Str} (h : LetsAre ys ws) (hl : ys.length ≤ 3) : (ws.map (·.length)).sum + ws.length ≤ 1048576 := by
  have hw : ws.length ≤ 3 := by rw [lets_len h.1]; exact hl
  have key : ∀ us : List Str, (∀ x ∈ us, x = Str.ofString "a" ∨ x = Str.ofString "_" ∨ x = Str.ofString "1") → (us.map (·.length)).sum ≤ us.length := by
    intro us
    induction us with
    | nil => intro _; simp
    | cons x r ih =>
      intro hx
      have h1 : x.length = 1 := by rcases hx x (.head _) with rfl | rfl | rfl <;> decide +kernel
      have := ih fun y hy => hx y (.tail _ hy)
      simp only [List.map_cons, List.sum_cons, List.length_cons]; omega
  have := key ws h.2
  omega
section
variable {prog : Program} {w : World} {A : Around} {E : Value → Shared → Prop} {s : Shared} {h₀ : Heap} {L : Addr}
theorem join_lets {news : List (Addr × Obj)} {D : Addr} {n : Nat} {ys : List Value} {ws : List Str} {t : Tok} {Q : Value → Shared → Prop} (N : News h₀ L s.heap news) (hm : (D, listOf ys.toArray n) ∈ news) (h : LetsAre ys ws) (hl : ys.length ≤ 3)
    (ret : ∀ x t' k, letGood x = true → x.length < 100 → Q (.str x t') { s with toks := k }) : wpAny (model prog w) A (call (.builtin "str.join") [.str (Str.ofString "") t, .ref D]) Q E s :=
  join_listW (PySem.IsL.isList (n := n) (N _ hm).1) (ys := ws) h.1 (by decide +kernel) (lets_weight h hl) fun t' k => ret _ t' k (lets_good h hl) (letGood.z (lets_good h hl))
end
structure LawS where
  a : Int
  b : Int
  ta : Tok
  tb : Tok
  ps : Array Value
  K : List (Addr × Obj)
def lawLed (n : Nat) (g2 : Obj → Obj → List (Addr × Obj)) (σ : LawS) : List (Addr × Obj) := g2 (srcObj σ.a σ.b σ.ta σ.tb n) (tabObj σ.ps) ++ σ.K
def OnlyTab (K : List (Addr × Obj)) (ps : Array Value) : Prop := ps = #[] ∨ TabHas 113 22 qOnly K ps
def lawOk (g2 : Obj → Obj → List (Addr × Obj)) (σ : LawS) : Prop := 0 ≤ σ.a ∧ 0 ≤ σ.b ∧ σ.b < 2147483647 ∧ OnlyTab σ.K σ.ps ∧ ∀ o o2, ∀ q ∈ g2 o o2, ∀ p ∈ σ.K, @LT.lt Nat _ q.1 p.1
/-- _law_only_right, whatever the table holds -/
theorem onr_3 {w : World} {mean : ExcName → Option Value} {mg mb : Str → Option Value} (IT : TwSpec w mean mg mb 2) {dp un : Nat} {gd : Option (List Code)} {cn : Str} {cs : Scope} {ca : Addr} {ccd : Value} {cl : List (Str × Addr)} {A₀ : Around} {h₀ : Heap} {L : Addr} {m : Str → Option Value} {s : Shared} {Q E : Value → Shared → Prop}
    {src : Addr} {a b : Int} {ta tb : Tok} {n : Nat} {l : List (Addr × Obj)} {g : Obj → List (Addr × Obj)} {g2 : Obj → Obj → List (Addr × Obj)} {K : List (Addr × Obj)} {ps : Array Value} (hH : OnlyTab K ps) (hK : ∀ p ∈ K, p ∈ l)
    (B : Below A₀ h₀ [] h₀) (F : Fr h₀ L s.heap m) (X : (hd.heap_1 w.params).In h₀) (hC : CodeHd h₀ 117 115) (N : News h₀ L s.heap l) (U : UpdF src (srcObj a b ta tb n) l g) (U2 : ∀ o, UpdF 115 (tabObj ps) (g o) (g2 o)) (hsa : @Ne Nat src 115) (ha : 0 ≤ a) (hb : 0 ≤ b) (hb2 : b < 2147483647)
    (T : Top topProg (looseW view [Str.ofString "LendError"] ++ (recsOf view).map (·.name) ++ (litsOf view).map (·.1) ++ (clssOf view (looseW view [Str.ofString "LendError"])).map (·.name)) mean mg mb h₀) (hk : cs.kind = .function) (hd : dp + 40 < recursionLimit) (hu : un + 900 < cLine)
    (ret : ∀ a' b' ta' tb' ps' K' tl h' tk', Fr h₀ L h' m → News h₀ L h' (g2 (srcObj a' b' ta' tb' n) (tabObj ps') ++ tl) → 0 ≤ a' → 0 ≤ b' → b' < 2147483647 → OnlyTab K' ps' → (K' = tl ∨ K' = K) → (∀ q ∈ l, ∀ p ∈ tl, q.1 < p.1) → Q (.bool true) { s with heap := h', toks := tk' }) :
    wpAny (model PySem.Challenge.rw_xm0577_01.row.prog w) (ktrTop dp un gd cn cs L ca ccd cl []) (call (.ref 118) [.ref src]) Q E s := by
  rcases hH with e | hH
  · subst e
    exact onr_1 IT B F X hC N U U2 hsa ha hb hb2 T hk hd hu fun a' b' ta' tb' ps' tl h' tk' F' N' y1 y2 y3 go f => ret a' b' ta' tb' ps' tl tl h' tk' F' N' y1 y2 y3 (.inr go) (.inl rfl) f
  · exact onr_2 IT hH hK B F X hC N U U2 hsa ha hb hb2 T hk hd hu fun a' b' ta' tb' _ tl h' tk' F' N' y1 y2 y3 f => ret a' b' ta' tb' ps K tl h' tk' F' N' y1 y2 y3 (.inr hH) (.inr rfl) f
theorem lawTurn_end {h₀ : Heap} {L : Addr} {m₀ m' : Str → Option Value} {x : Str} {I : Addr} {oI : Obj} {n : Nat} {g2 : Obj → Obj → List (Addr × Obj)} {s₁ : Shared} {h' : Heap} {tk' : Nat} {l l₀ tl K K' : List (Addr × Obj)}
    {a b : Int} {ta tb : Tok} {ps : Array Value}
    (F : Fr h₀ L h' m') (hm : ∀ z, z ≠ x → m' z = m₀ z) (hK : OnlyTab K' ps) (hKt : K' = tl ∨ K' = K) (f : ∀ q ∈ l₀, ∀ p ∈ tl, q.1 < p.1) (hI : (I, oI) ∈ l₀) (hKn : ∀ p ∈ K, @Ne Nat p.1 I) (N : News h₀ L h' l) (hs : ∀ p ∈ (I, oI) :: g2 (srcObj a b ta tb n) (tabObj ps), p ∈ l) (hs1 : ∀ p ∈ K, p ∈ l) (hs2 : ∀ p ∈ tl, p ∈ l)
    (hg : ∀ o o2, ∀ p ∈ g2 o o2, @LT.lt Nat _ p.1 I) (hq : ∀ o o2, ∀ q ∈ g2 o o2, ∀ p ∈ K, @LT.lt Nat _ q.1 p.1) (hl0 : ∀ o o2, ∀ q ∈ g2 o o2, ∃ o', (q.1, o') ∈ l₀) (ha : 0 ≤ a) (hb : 0 ≤ b) (hb2 : b < 2147483647) : TurnH h₀ L m₀ x I oI (lawLed n g2) (lawOk g2) s₁ .next { s₁ with heap := h', toks := tk' } := by
  refine TurnH.intro ⟨a, b, ta, tb, ps, K'⟩ F hm N (fun p hp => ?_) (fun p hp => ?_) ⟨ha, hb, hb2, hK, fun o o2 q hqm p hp => ?_⟩
  · rcases List.mem_cons.mp hp with rfl | hp
    · exact hs _ (.head _)
    rcases List.mem_append.mp hp with hp | hp
    · exact hs _ (.tail _ hp)
    · have hp : p ∈ K' := hp
      rcases hKt with e | e
      · exact hs2 p (e ▸ hp)
      · exact hs1 p (e ▸ hp)
  · rcases List.mem_append.mp hp with hp | hp
    · exact Nat.ne_of_lt (hg _ _ p hp)
    · have hp : p ∈ K' := hp
      rcases hKt with e | e
      · exact Nat.ne_of_gt (f _ hI p (e ▸ hp))
      · exact hKn p (e ▸ hp)
  · have hp : p ∈ K' := hp
    rcases hKt with e | e
    · obtain ⟨o', ho'⟩ := hl0 o o2 q hqm
      exact f _ ho' p (e ▸ hp)
    · exact hq o o2 q hqm p (e ▸ hp)
section
variable {prog : Program} {w : World} {A : Around} {E : Value → Shared → Prop} {s : Shared} {env : Env} {h₀ : Heap} {x : Str} {body : List Stmt} {Q : Flow → Shared → Prop}
theorem loop_L3 {src : Addr} {a b : Int} {ta tb : Tok} {n : Nat} {r : Addr} {t₀ u₀ v₀ : Tok} {m₀ : Str → Option Value} {l : List (Addr × Obj)} {g1 : Obj → List (Addr × Obj)} {g2 : Obj → Obj → List (Addr × Obj)}
    (hh : A.handled = none) (hr : IsRange s.heap r 0 3 1 t₀ u₀ v₀) (F : Fr h₀ env.locals s.heap m₀) (N : News h₀ env.locals s.heap l) (U1 : UpdF src (srcObj a b ta tb n) l g1) (U2 : ∀ o, UpdF 115 (tabObj #[]) (g1 o) (g2 o)) (ha : 0 ≤ a) (hb : 0 ≤ b) (hb2 : b < 2147483647)
    (turn : ∀ a b ta tb ps K v t I oI h tk, 0 ≤ a → 0 ≤ b → b < 2147483647 → OnlyTab K ps → Fr h₀ env.locals h (fun y => if y = x then some (.int v t) else m₀ y) → News h₀ env.locals h ((I, oI) :: (g2 (srcObj a b ta tb n) (tabObj ps) ++ K)) → (∀ p ∈ g2 (srcObj a b ta tb n) (tabObj ps), @LT.lt Nat _ p.1 I) → (∀ o o2, ∀ p ∈ g2 o o2, @LT.lt Nat _ p.1 I) → (∀ p ∈ K, @Ne Nat p.1 I) → (∀ o o2, ∀ q ∈ g2 o o2, ∀ p ∈ K, @LT.lt Nat _ q.1 p.1) → (∀ q ∈ g2 (srcObj a b ta tb n) (tabObj ps), ∀ p ∈ K, @LT.lt Nat _ q.1 p.1) → (∀ o o2, ∀ q ∈ g2 o o2, ∃ o', (q.1, o') ∈ (I, oI) :: (g2 (srcObj a b ta tb n) (tabObj ps) ++ K)) →
      wpAny (model prog w) A (execs body env) (TurnH h₀ env.locals m₀ x I oI (lawLed n g2) (lawOk g2) { s with heap := h, toks := tk }) E { s with heap := h, toks := tk })
    (done : ∀ a b ta tb ps h tk (u : Str → Option Value), 0 ≤ a → 0 ≤ b → b < 2147483647 → Fr h₀ env.locals h (fun y => if y = x then u y else m₀ y) → News h₀ env.locals h (g2 (srcObj a b ta tb n) (tabObj ps)) → Q .next { s with heap := h, toks := tk }) :
    wpAny (model prog w) A (pyIter (.ref r)) (fun it s₂ => LoopAtV prog w A h₀ env x body Q E it s₂) E s := by
  have e0 : lawLed n g2 ⟨a, b, ta, tb, #[], []⟩ = l := by
    show g2 (srcObj a b ta tb n) (tabObj #[]) ++ [] = l
    rw [List.append_nil, UpdF.same (U2 _), UpdF.same U1]
  have addr : ∀ o o2, ∀ p ∈ g2 o o2, ∃ q, (p.1, q) ∈ l := fun o o2 p hp => by
    obtain ⟨q, hq⟩ := UpdF.addr (U2 _) hp
    exact UpdF.addr (p := (p.1, q)) U1 hq
  have same : ∀ o o2 o' o2', ∀ q ∈ g2 o o2, ∃ z, (q.1, z) ∈ g2 o' o2' := fun o o2 o' o2' q hq => by
    obtain ⟨z, hz⟩ := addr o o2 q hq
    have hz1 : ∃ y, (q.1, y) ∈ g1 o' := by
      obtain ⟨R, _, hg, hl⟩ := UpdF.out U1
      rcases List.mem_cons.mp ((hl _).mp hz) with e | h
      · exact ⟨o', (hg o' _).mpr (by have : q.1 = src := congrArg Prod.fst e; rw [this]; exact .head _)⟩
      · exact ⟨z, (hg o' _).mpr (.tail _ h)⟩
    obtain ⟨y, hy⟩ := hz1
    obtain ⟨R, _, hg, hl⟩ := UpdF.out (U2 o')
    rcases List.mem_cons.mp ((hl _).mp hy) with e | h
    · exact ⟨o2', (hg o2' _).mpr (by have : q.1 = 115 := congrArg Prod.fst e; rw [this]; exact .head _)⟩
    · exact ⟨y, (hg o2' _).mpr (.tail _ h)⟩
  refine loop_H (led := lawLed n g2) (ok := lawOk g2) ⟨a, b, ta, tb, #[], []⟩ hh hr (by decide) (by decide) F N (by rw [e0]; exact fun _ h => h) ⟨ha, hb, hb2, .inl rfl, fun _ _ _ _ _ h => nomatch h⟩ ?_ ?_
  · rintro ⟨a, b, ta, tb, ps, K⟩ v t I oI h tk ⟨x1, x2, x3, x4, x5⟩ F' N' lt ne
    have ltg : ∀ o o2, ∀ p ∈ g2 o o2, @LT.lt Nat _ p.1 I := fun o o2 p hp => let ⟨q, hq⟩ := addr o o2 p hp; lt (p.1, q) hq
    refine turn a b ta tb ps K v t I oI h tk x1 x2 x3 x4 F' N' (ltg _ _) ltg (fun p hp => ne p (List.mem_append.mpr (.inr hp))) x5 (x5 _ _) fun o o2 q hq => ?_
    obtain ⟨o', ho'⟩ := same o o2 (srcObj a b ta tb n) (tabObj ps) q hq
    exact ⟨o', .tail _ (List.mem_append.mpr (.inl ho'))⟩
  · rintro ⟨a, b, ta, tb, ps, K⟩ h tk u ⟨x1, x2, x3, x4, x5⟩ F' N'
    exact done a b ta tb ps h tk u x1 x2 x3 F' (News.sub N' fun p hp => List.mem_append.mpr (.inl hp))
structure NamS where
  a : Int
  b : Int
  ta : Tok
  tb : Tok
def namLed (n : Nat) (g : Obj → List (Addr × Obj)) (σ : NamS) : List (Addr × Obj) := g (srcObj σ.a σ.b σ.ta σ.tb n)
def namOk (σ : NamS) : Prop := 0 ≤ σ.a ∧ 0 ≤ σ.b ∧ σ.b < 2147483647
def NameOk (v : Value) : Prop := v = .none ∨ ∃ x t, v = .str x t ∧ x.length < 100 ∧ PyData.strOk x = true
theorem NameOk.str {x : Str} {t : Tok} (h : x.length < 100) (k : PyData.strOk x = true) : NameOk (.str x t) := .inr ⟨x, t, rfl, h, k⟩
theorem namTurn_end {h₀ : Heap} {L : Addr} {m₀ m' : Str → Option Value} {x : Str} {I : Addr} {oI : Obj} {n : Nat} {g : Obj → List (Addr × Obj)} {s₁ : Shared} {h' : Heap} {tk' : Nat} {l : List (Addr × Obj)} {a b : Int} {ta tb : Tok}
    (F : Fr h₀ L h' m') (hm : ∀ z, z ≠ x → m' z = m₀ z) (N : News h₀ L h' l) (hs : ∀ p ∈ (I, oI) :: g (srcObj a b ta tb n), p ∈ l) (ha : 0 ≤ a) (hb : 0 ≤ b) (hb2 : b < 2147483647) : TurnG h₀ L m₀ x I oI (namLed n g) namOk s₁ .next { s₁ with heap := h', toks := tk' } :=
  TurnG.intro ⟨a, b, ta, tb⟩ F hm N hs ⟨ha, hb, hb2⟩
theorem loop_N {src ax : Addr} {vs : List Value} {k : Nat} {a b : Int} {ta tb : Tok} {n : Nat} {m₀ : Str → Option Value} {l : List (Addr × Obj)} {g : Obj → List (Addr × Obj)}
    (hh : A.handled = none) (F : Fr h₀ env.locals s.heap m₀) (N : News h₀ env.locals s.heap l) (hax : (ax, listOf vs.toArray k) ∈ l) (_hsrc : (src, srcObj a b ta tb n) ∈ l) (hsx : @Ne Nat ax src) (U1 : UpdF src (srcObj a b ta tb n) l g) (ha : 0 ≤ a) (hb : 0 ≤ b) (hb2 : b < 2147483647) (hv : ∀ v ∈ vs, NameOk v)
    (turn0 : ∀ a b ta tb I oI h tk, 0 ≤ a → 0 ≤ b → b < 2147483647 → Fr h₀ env.locals h (fun y => if y = x then some .none else m₀ y) → News h₀ env.locals h ((I, oI) :: g (srcObj a b ta tb n)) → (∀ p ∈ g (srcObj a b ta tb n), @LT.lt Nat _ p.1 I) →
      wpAny (model prog w) A (execs body env) (TurnG h₀ env.locals m₀ x I oI (namLed n g) namOk { s with heap := h, toks := tk }) E { s with heap := h, toks := tk })
    (turn1 : ∀ z tz a b ta tb I oI h tk, z.length < 100 → PyData.strOk z = true → 0 ≤ a → 0 ≤ b → b < 2147483647 → Fr h₀ env.locals h (fun y => if y = x then some (.str z tz) else m₀ y) → News h₀ env.locals h ((I, oI) :: g (srcObj a b ta tb n)) → (∀ p ∈ g (srcObj a b ta tb n), @LT.lt Nat _ p.1 I) →
      wpAny (model prog w) A (execs body env) (TurnG h₀ env.locals m₀ x I oI (namLed n g) namOk { s with heap := h, toks := tk }) E { s with heap := h, toks := tk })
    (done : ∀ a b ta tb h tk (u : Str → Option Value), 0 ≤ a → 0 ≤ b → b < 2147483647 → Fr h₀ env.locals h (fun y => if y = x then u y else m₀ y) → News h₀ env.locals h (g (srcObj a b ta tb n)) → Q .next { s with heap := h, toks := tk }) :
    wpAny (model prog w) A (pyIter (.ref ax)) (fun it s₂ => LoopAtV prog w A h₀ env x body Q E it s₂) E s := by
  have e0 : namLed n g ⟨a, b, ta, tb⟩ = l := UpdF.same U1
  have inn : ∀ o, (ax, listOf vs.toArray k) ∈ g o := fun o => by
    obtain ⟨R, _, hg, hl⟩ := UpdF.out U1
    exact (hg o _).mpr (.tail _ ((List.mem_cons.mp ((hl _).mp hax)).resolve_left fun e => hsx (congrArg Prod.fst e)))
  refine loop_GL (led := namLed n g) (ok := fun _ σ => namOk σ) ⟨a, b, ta, tb⟩ hh F N (by rw [e0]; exact fun _ h => h) (fun σ => inn _) ⟨ha, hb, hb2⟩ (fun σ p hp => ?_) ?_ ?_
  · rw [e0]; exact UpdF.addr U1 hp
  · rintro i ⟨a, b, ta, tb⟩ v I oI h tk hm _ ⟨x1, x2, x3⟩ F' N' lt
    rcases hv v hm with rfl | ⟨z, tz, rfl, z1, z2⟩
    · exact turn0 a b ta tb I oI h tk x1 x2 x3 F' N' lt
    · exact turn1 z tz a b ta tb I oI h tk z1 z2 x1 x2 x3 F' N' lt
  · rintro ⟨a, b, ta, tb⟩ h tk u ⟨x1, x2, x3⟩ F' N'
    exact done a b ta tb h tk u x1 x2 x3 F' N'
end
def LetPost (n : Nat) (g : Obj → List (Addr × Obj)) (i : Nat) (ys : List Value) (l : List (Addr × Obj)) : Prop :=
  ∃ a b ta tb ws, l = g (srcObj a b ta tb n) ∧ 0 ≤ a ∧ 0 ≤ b ∧ b < 2147483647 ∧ ys.length = i ∧ LetsAre ys ws
section
variable {prog : Program} {w : World} {A : Around} {h₀ : Heap} {L : Addr} {m : Str → Option Value} {env : Env} {s : Shared}
theorem let_end {I C D : Addr} {s₁ : Shared} {oI oC oD : Obj} {y : Value} {h' : Heap} {tk n i : Nat} {ys : List Value} {ws : List Str} {g : Obj → List (Addr × Obj)} {all : List (Addr × Obj)} {a b : Int} {ta tb t1 t2 t3 : Tok}
    (F : Fr h₀ L h' m) (N : News h₀ L h' all) (off : ∀ o, LCg.Off3 I C D (g o)) (m1 : (I, oI) ∈ all) (m2 : (C, oC) ∈ all) (m3 : (D, oD) ∈ all) (hs : ∀ p ∈ g (srcObj a b ta tb n), p ∈ all) (ha : 0 ≤ a) (hb : 0 ≤ b) (hb2 : b < 2147483647) (hW : LetsAre ys ws) (hl : ys.length + 1 = i)
    (hy : y ∈ [Value.str (Str.ofString "a") t1, Value.str (Str.ofString "_") t2, Value.str (Str.ofString "1") t3]) :
    LCg.CompEnd h₀ L m s₁ I oI C oC D oD (fun _ => True) (fun y news' => LetPost n g i (ys ++ [y]) news') y { s₁ with heap := h', toks := tk } := by
  refine LCg.CompEnd.intro F N (g (srcObj a b ta tb n)) (fun p hp => ?_) (off _) trivial ?_
  · rcases List.mem_cons.mp hp with rfl | hp
    · exact m1
    rcases List.mem_cons.mp hp with rfl | hp
    · exact m2
    rcases List.mem_cons.mp hp with rfl | hp
    · exact m3
    exact hs p hp
  · have hl' : (ys ++ [y]).length = i := by simp only [List.length_append, List.length_cons, List.length_nil]; omega
    rcases List.mem_cons.mp hy with rfl | hy
    · exact ⟨a, b, ta, tb, _, rfl, ha, hb, hb2, hl', hW.snoc (.inl rfl)⟩
    rcases List.mem_cons.mp hy with rfl | hy
    · exact ⟨a, b, ta, tb, _, rfl, ha, hb, hb2, hl', hW.snoc (.inr (.inl rfl))⟩
    rw [List.mem_singleton.mp hy] at hl' ⊢
    exact ⟨a, b, ta, tb, _, rfl, ha, hb, hb2, hl', hW.snoc (.inr (.inr rfl))⟩
theorem comp_lets {elt : PySem.Expr} {x : Str} {scope : Scope} {cl : List (Str × Addr)} {Fin : Shared → List Value → List (Addr × Obj) → Prop} {r src : Addr} {k a b : Int} {t u v ta tb : Tok} {n : Nat} {l : List (Addr × Obj)} {g : Obj → List (Addr × Obj)}
    (hh : A.handled = none) (F : Fr h₀ L s.heap m) (N : News h₀ L s.heap l) (hr : IsRange s.heap r 0 k 1 t u v) (U : UpdF src (srcObj a b ta tb n) l g) (hk0 : 0 ≤ k) (hk1 : k < 4) (ha : 0 ≤ a) (hb : 0 ≤ b) (hb2 : b < 2147483647)
    (turn : ∀ ys ws a b ta tb v I oI C oC D m₂ h tk (E' : Value → Shared → Prop), 0 ≤ a → 0 ≤ b → b < 2147483647 → LetsAre ys ws → LCg.NsObj oC m₂ → m₂ x = some v → Fr h₀ L h m → News h₀ L h ((I, oI) :: (C, oC) :: (D, LCg.lst ys) :: g (srcObj a b ta tb n)) → LCg.Off3 I C D (g (srcObj a b ta tb n)) → (∀ o, LCg.Off3 I C D (g o)) → Apart I C → Apart I D → Apart C D →
      wpAny (model prog w) A (eval elt (compEnvC scope cl C env)) (LCg.CompEnd h₀ L m { s with heap := h, toks := tk } I oI C oC D (LCg.lst ys) (fun _ => True) (fun y news' => LetPost n g (ys.length + 1) (ys ++ [y]) news')) E' { s with heap := h, toks := tk })
    (done : ∀ g' ys ws a b ta tb, 0 ≤ a → 0 ≤ b → b < 2147483647 → LetsAre ys ws → ys.length ≤ 3 → Fin { s with heap := g' } ys (g (srcObj a b ta tb n))) :
    LCg.CompSrc prog w A h₀ L m env elt x scope cl Fin (.ref r) s := by
  have hsmall : Builtin.Range.small 0 k 1 = true := small_one (by decide) (by decide) (by omega) (by omega)
  have hn : Builtin.Range.rangeSize 0 k 1 = (k.toNat : Int) := by rw [rangeSize_nat]; simp
  refine LCg.CompSrc.range hh F N hr hsmall hn (by rw [sizeLine_eq]; omega) fun g' => ?_
  refine comp_inv (s := { s with heap := g' }) (n := k.toNat) (fun i ys news => LetPost n g i ys news) ?_ ?_ k.toNat 0 [] l (by omega) ⟨a, b, ta, tb, [], (UpdF.same U).symm, ha, hb, hb2, rfl, .nil⟩
  · rintro i ys news v I oI C oC D m₂ h tk E' hi ⟨a, b, ta, tb, ws, rfl, x1, x2, x3, rfl, hW⟩ _ hC hx F' N' off ne
    have offA : ∀ o, LCg.Off3 I C D (g o) := fun o => LCg.Off3.of fun p hp => by
      obtain ⟨R, _, hg, _⟩ := UpdF.out U
      rcases List.mem_cons.mp ((hg o p).mp hp) with e | h
      · have := off.mem _ ((hg (srcObj a b ta tb n) _).mpr (.head _))
        rw [e]; exact this
      · exact off.mem _ ((hg (srcObj a b ta tb n) _).mpr (.tail _ h))
    exact turn ys ws a b ta tb v I oI C oC D m₂ h tk E' x1 x2 x3 hW hC hx F' N' off offA ne.1 ne.2.1 ne.2.2
  · rintro ys news ⟨a, b, ta, tb, ws, rfl, x1, x2, x3, hl, hW⟩
    exact done g' ys ws a b ta tb x1 x2 x3 hW (by omega)
end
end
section
theorem words_51 : True := by
  w_top off
  k_with_none
  k_with "kst_mem" => first
    | (first
      | with_reducible assumption
      | with_reducible exact List.mem_cons_self
      | (with_reducible refine List.mem_cons_of_mem _ ?_; kst_mem)
      | (with_reducible refine List.mem_append.mpr (Or.inl ?_); kst_mem)
      | (with_reducible refine List.mem_append.mpr (Or.inr ?_); kst_mem)
      | fail "kst_mem")
    | fail
  k_with "k_mem" => first
    | (kst_mem)
    | fail
  k_with "k_all" => first
    | (first
      | with_reducible assumption
      | exact List.forall_mem_nil _
      | (with_reducible refine' Mine.less_sub ?h_2 ?m_2; (case h_2 => with_reducible assumption); (case m_2 => (intro p9 h9; kst_mem)))
      | (with_reducible refine' Mine.less_sub1 ?h_2 ?m_2; (case h_2 => with_reducible assumption); (case m_2 => (intro p9 h9; kst_mem)))
      | (with_reducible refine' Mine.less_sub2 ?h_2 ?m_2; (case h_2 => with_reducible assumption); (case m_2 => (intro p9 h9; kst_mem)))
      | (with_reducible refine' Mine.less_sub3 ?h_2 ?m_2; (case h_2 => with_reducible assumption); (case m_2 => (intro p9 h9; kst_mem)))
      | (with_reducible refine' Mine.less_sub4 ?h_2 ?m_2; (case h_2 => with_reducible assumption); (case m_2 => (intro p9 h9; kst_mem)))
      | (with_reducible refine' Mine.less_sub5 ?h_2 ?m_2; (case h_2 => with_reducible assumption); (case m_2 => (intro p9 h9; kst_mem)))
      | (refine' List.forall_mem_cons.mpr ⟨?a_2, ?b_2⟩; (case a_2 => k_ne); (case b_2 => k_all))
      | exact Mine.allLt_ne (by with_reducible assumption)
      | exact Mine.fresh_ne (by with_reducible assumption) (by k_mem)
      | (refine' List.forall_mem_append.mpr ⟨?_, ?_⟩ <;> k_all))
    | fail
  k_with "kqd_sub" => first
    | (first
      | exact fun _ h => h
      | exact List.forall_mem_nil _
      | (refine' List.forall_mem_cons.mpr ⟨?kqa_3, ?kqb_3⟩; (case kqa_3 => k_mem); (case kqb_3 => kqd_sub))
      | (refine' List.forall_mem_append.mpr ⟨?_, ?_⟩ <;> kqd_sub)
      | (intro p9 h9; k_mem))
    | fail
  k_with "ktr_enter" => first
    | (refine' code_defC ?k1_4 ?k2_4 ?k3_4 ?k4_4 ?k5_4 ?kA_4 ?kF_4 ?kK_4 ?k6_4 ?k7_4 ?k8_4 ?k9_4 ?kB_4 ?kD_4 ?_ ?c2_4 ?c3_4 ?c4_4; (case kA_4 => exact rfl); (case kF_4 => exact rfl); (case kK_4 => assumption); (case k1_4 => k_asm); (case k2_4 => k_asm); (case k3_4 => k_asm); (case k4_4 => k_asm); (case k5_4 => k_asm); (case k6_4 => k_is); (case k7_4 => k_is); (case k8_4 => ktr_room); (case k9_4 => exact BindsTo.of_eq rfl); (case kB_4 => exact rfl); (case kD_4 => decide +kernel); (case c2_4 => exact rfl); (case c3_4 => exact rfl); (case c4_4 => exact rfl); k_whole; intro g' L' h' tk' cells' FG' F' N' Y' B' X' T' l1; (try k_lt l1); k_cells Y'; (try simp only [List.cons_append, List.nil_append] at N'); (try dsimp only); (try k_fold))
    | fail
  k_with "tb_start" => first
    | (first
      | with_reducible exact Mine.Apart.ne (by with_reducible assumption)
      | with_reducible exact Mine.Apart.en (by with_reducible assumption)
      | with_reducible exact Mine.succ_ne1
      | with_reducible exact Mine.succ_ne2
      | (with_reducible refine' Mine.less_ne ?h_5 ?m_5; (case h_5 => with_reducible assumption); (case m_5 => kst_mem))
      | (with_reducible refine' Mine.less_en ?h_5 ?m_5; (case h_5 => with_reducible assumption); (case m_5 => kst_mem))
      | (with_reducible refine' Mine.less_ne1 ?h_5 ?m_5; (case h_5 => with_reducible assumption); (case m_5 => kst_mem))
      | (with_reducible refine' Mine.less_en1 ?h_5 ?m_5; (case h_5 => with_reducible assumption); (case m_5 => kst_mem))
      | (with_reducible refine' Mine.less_ne2 ?h_5 ?m_5; (case h_5 => with_reducible assumption); (case m_5 => kst_mem))
      | (with_reducible refine' Mine.less_en2 ?h_5 ?m_5; (case h_5 => with_reducible assumption); (case m_5 => kst_mem))
      | (with_reducible refine' Mine.less_ne3 ?h_5 ?m_5; (case h_5 => with_reducible assumption); (case m_5 => kst_mem))
      | (with_reducible refine' Mine.less_en3 ?h_5 ?m_5; (case h_5 => with_reducible assumption); (case m_5 => kst_mem))
      | (with_reducible refine' Mine.less_ne4 ?h_5 ?m_5; (case h_5 => with_reducible assumption); (case m_5 => kst_mem))
      | (with_reducible refine' Mine.less_en4 ?h_5 ?m_5; (case h_5 => with_reducible assumption); (case m_5 => kst_mem))
      | (with_reducible refine' Mine.less_ne5 ?h_5 ?m_5; (case h_5 => with_reducible assumption); (case m_5 => kst_mem))
      | (with_reducible refine' Mine.less_en5 ?h_5 ?m_5; (case h_5 => with_reducible assumption); (case m_5 => kst_mem))
      | (with_reducible refine' Mine.lt_ne2 ?k_5 ?h_5 ?m_5; (case k_5 => with_reducible assumption); (case h_5 => with_reducible assumption); (case m_5 => kst_mem))
      | (with_reducible refine' Mine.lt_en2 ?k_5 ?h_5 ?m_5; (case k_5 => with_reducible assumption); (case h_5 => with_reducible assumption); (case m_5 => kst_mem)))
    | fail
  k_with "k_ne" => first
    | (first | tb_start | ((try dsimp only); (refine neN ?_); first | tb_start | omega))
    | fail
  k_with "m call ref" => first
    | (k_here; (with_reducible show wpAny _ _ (call (Value.ref 87) _) _ _ _); k_dflt (refine' Mine.take_use ?k1_7 ?k2_7 ?k3_7 ?k4_7 ?k5_7 ?k6_7 ?k7_7 ?k8_7 ?k9_7 ?k10_7 ?k11_7 ?k12_7 ?k13_7 ?k14_7 ?_; (case k1_7 => k_asm); (case k2_7 => k_asm); (case k3_7 => k_asm); (case k4_7 => k_asm); (case k5_7 => k_asm); (case k6_7 => first | exact rfl | assumption); (case k7_7 => k_updF); (case k8_7 => assumption); (case k9_7 => assumption); (case k10_7 => assumption); (case k11_7 => omega); (case k12_7 => omega); (case k13_7 => ktr_room); (case k14_7 => ktr_units); k_whole); intro k9 a9 b9 t9 ta9 tb9 h9 tk9 F9 N9 x19 x29 x39 x49 x59; (try dsimp only at N9); (try k_sweep); (try k_fold))
    | fail
  k_with "m call ref" => first
    | (k_here; (with_reducible show wpAny _ _ (call (Value.ref 94) _) _ _ _); k_dflt (refine' Mine.one_use ?k1_10 ?k2_10 ?k3_10 ?k4_10 ?k5_10 ?k6_10 ?k7_10 ?kth_10 ?kne_10 ?kv0_10 ?kv1_10 ?k8_10 ?k9_10 ?k10_10 ?k13_10 ?k14_10 ?_; (case k1_10 => k_asm); (case k2_10 => k_asm); (case k3_10 => k_asm); (case k4_10 => k_asm); (case k5_10 => k_asm); (case k6_10 => first | exact rfl | assumption); (case k7_10 => k_updF); (case kth_10 => k_mem); (case kne_10 => first | assumption | k_ne); (case kv0_10 => first | assumption | (simp only [List.length_cons, List.length_nil]; omega)); (case kv1_10 => first | assumption | (simp only [List.length_cons, List.length_nil]; omega)); (case k8_10 => assumption); (case k9_10 => assumption); (case k10_10 => assumption); (case k13_10 => ktr_room); (case k14_10 => ktr_units); k_whole); intro r9 k9 a9 b9 ta9 tb9 h9 tk9 F9 N9 hv9 hg9 x39 x49 x59; (try dsimp only at N9); (try k_sweep); (try k_fold))
    | fail
  k_with "tb_start" => first
    | (first
      | (with_reducible refine' Mine.off_I ?h_17 ?m_17; (case h_17 => with_reducible assumption); (case m_17 => kst_mem))
      | (with_reducible refine' Mine.off_C ?h_17 ?m_17; (case h_17 => with_reducible assumption); (case m_17 => kst_mem))
      | (with_reducible refine' Mine.off_D ?h_17 ?m_17; (case h_17 => with_reducible assumption); (case m_17 => kst_mem))
      | (with_reducible refine' Mine.of_I ?h_17 ?m_17; (case h_17 => with_reducible assumption); (case m_17 => kst_mem))
      | (with_reducible refine' Mine.of_C ?h_17 ?m_17; (case h_17 => with_reducible assumption); (case m_17 => kst_mem))
      | (with_reducible refine' Mine.of_D ?h_17 ?m_17; (case h_17 => with_reducible assumption); (case m_17 => kst_mem)))
    | fail
  k_with "m call builtin:list.append" => first
    | (k_here; (with_reducible show wpAny _ _ (call (Value.builtin _) [Value.ref _, _]) _ _ _); k_dflt (refine' Mine.append_L ?k1_18 ?k2_18 ?k3_18 ?z_18 ?_; (case k1_18 => k_asm); (case k2_18 => k_asm); (case k3_18 => k_updF); (case z_18 => ((try simp only [List.length_append, List.length_cons, List.length_nil]); omega)); k_whole); intro h' F' N'; (try dsimp only at N'); (try simp only [List.append_assoc, List.cons_append, List.nil_append] at N'); (try k_sweep))
    | fail
  k_with "m call builtin:len" => first
    | (k_here; (with_reducible show wpAny _ _ (call (Value.builtin "len") [Value.ref _]) _ _ _); k_dflt (refine' Mine.len_at ?k1_19 ?k2_19 ?k3_19 ?_; (case k1_19 => k_asm); (case k2_19 => kst_mem); (case k3_19 => ((try simp only [List.length_append, List.length_cons, List.length_nil]); omega)); k_whole))
    | fail
  k_with "lcg_off" => first
    | (first
      | assumption
      | (refine' Mine.off3_fresh ?f_20 ?a_20 ?b_20 ?c_20; (case f_20 => assumption); (case a_20 => kst_mem); (case b_20 => kst_mem); (case c_20 => kst_mem))
      | (refine' Mine.off3_app ?_ ?_ <;> lcg_off)
      | (refine' Mine.off3_sub ?a_20 ?b_20; (case a_20 => assumption); (case b_20 => (intro p9 h9; kst_mem))))
    | fail
  k_with "lcg_sub" => first
    | (first
      | (with_reducible refine' Mine.Out3.outI ?z_21; (case z_21 => lcg_sub))
      | (with_reducible refine' Mine.Out3.outC ?z_21; (case z_21 => lcg_sub))
      | (with_reducible refine' Mine.Out3.outD ?z_21; (case z_21 => lcg_sub))
      | (with_reducible refine' Mine.Out3.keep ?a_21 ?b_21 ?c_21 ?z_21; (case a_21 => k_ne); (case b_21 => k_ne); (case c_21 => k_ne); (case z_21 => lcg_sub))
      | (with_reducible refine' Mine.Out3.tail _ ?z_21; (case z_21 => lcg_off)))
    | fail
  k_with "m CompEnd" => first
    | (k_here; k_dflt (refine' Mine.comp_end ?F_22 ?N_22 ?m1_22 ?m2_22 ?m3_22 ?o_22 ?s_22 ?_; (case F_22 => k_asm); (case N_22 => k_asm); (case m1_22 => kst_mem); (case m2_22 => kst_mem); (case m3_22 => kst_mem); (case o_22 => lcg_sub); (case s_22 => lcg_src); k_whole))
    | fail
  k_with "m CompRest" => first
    | ((try simp only [List.nil_append, List.cons_append]); with_unfolding_all first
      | (refine LCg.CompRest.succ ?_; intro v' I' oI' C' oC' D' m' h' tk' E' hv' hC' hx' F' N' off' ne'; (first | lcg_open hv' | (obtain ⟨t9', hv9'⟩ := hv'; subst hv9')); have n19 : Mine.Apart _ _ := ne'.1; have n29 : Mine.Apart _ _ := ne'.2.1; have n39 : Mine.Apart _ _ := ne'.2.2; clear ne')
      | refine LCg.CompRest.zero ?_)
    | fail
  k_with "m eval ListComp" => first
    | (k_here; k_dflt (refine LCg.ListComp_U (F₀ := by k_asm) (by rfl) (by decide) (by rfl) (by decide) (by rfl) ?_))
    | fail
  k_with "m exec Assign cons ListComp" => first
    | (k_here; k_dflt (refine LCg.Assign_ListComp_U (F₀ := by k_asm) (by rfl) (by with_unfolding_all rfl) (by rfl) (by decide) (by rfl) (by decide) (by rfl) (by rfl) (by rfl) ?_))
    | fail
  k_with "m CompSrc" => first
    | (k_here; k_dflt (first
      | (refine LCg.CompSrc.ledger (by rfl) (by k_asm) (by k_asm) (by kst_mem) (by first | size_fits | exact Nat.le_of_ble_eq_true rfl) ?_; intro g'; lcg_lit)
      | (refine LCg.CompSrc.range (by rfl) (by k_asm) (by k_asm) (by assumption) (by first | decide | rfl) (by first | rfl | decide) (by first | size_fits | exact Nat.le_of_ble_eq_true rfl) ?_; intro g'; lcg_lit)))
    | fail
  k_with "k_subL" => first
    | (first
      | (with_reducible refine' Mine.Out1.out ?z_27; (case z_27 => k_subL))
      | (with_reducible refine' Mine.Out1.keep ?a_27 ?z_27; (case a_27 => k_ne); (case z_27 => k_subL))
      | (with_reducible refine' Mine.Out1.tail _ ?z_27; (case z_27 => k_all)))
    | fail
  k_with "m UnrEnd" => first
    | (k_here; k_dflt (refine' Mine.unr_end ?F_28 ?N_28 ?m1_28 ?o_28 ?_; (case F_28 => k_asm); (case N_28 => k_asm); (case m1_28 => kst_mem); (case o_28 => k_subL); k_whole))
    | fail
  k_with "m subscriptTail" => first
    | (k_here; (with_reducible show wpAny _ _ (subscriptTail _ _ (Value.ref _) (Value.int _ _)) _ _ _); k_dflt (refine' item_tupleT ?t_29 ?a_29 ?b_29 ?c_29 ?d_29 ?_; (case t_29 => refine' News.isTup ?N_29 ?m_29; (case N_29 => k_asm); (case m_29 => kst_mem)); (case a_29 => decide); (case b_29 => decide); (case c_29 => rfl); (case d_29 => rfl); k_whole))
    | fail
  k_with "m subscriptTail Name Constant ref int" => first
    | (k_here; (with_reducible show wpAny _ _ (subscriptTail _ _ (Value.ref _) (Value.int _ _)) _ _ _); k_dflt (refine' item_tupleT ?t_30 ?a_30 ?b_30 ?c_30 ?d_30 ?_; (case t_30 => refine' News.isTup ?N_30 ?m_30; (case N_30 => k_asm); (case m_30 => kst_mem)); (case a_30 => decide); (case b_30 => decide); (case c_30 => rfl); (case d_30 => rfl); k_whole))
    | fail
  trivial
theorem tw1 {w : World} {mean : ExcName → Option Value} {mg mb : Str → Option Value} : TwSpec w mean mg mb 1 := tw_succ 0 (by decide) tw_zero
theorem tw2 {w : World} {mean : ExcName → Option Value} {mg mb : Str → Option Value} : TwSpec w mean mg mb 2 := tw_succ 1 (by decide) tw1
theorem tw3 {w : World} {mean : ExcName → Option Value} {mg mb : Str → Option Value} : TwSpec w mean mg mb 3 := tw_succ 2 (by decide) tw2
theorem ints_len {vs : List Value} {ns : List Int} (h : IntsAre vs ns) (hc : ¬ (63 : Int) < (ns.length : Nat)) : vs.length < 1000 := by rw [h.length]; omega
def StopU (P : Prop) : Prop := P
theorem stop_u {P : Prop} (h : StopU P) : P := h
section
theorem words_52 : True := by
  k_with "m callWith ref" => first
    | (k_here; (with_reducible show wpAny _ _ (callWith _ (Value.ref 125) _ _ _) _ _ _); k_dflt (refine' callWith_K ?k1_132 ?k2_132 ?_; (case k1_132 => k_asm); (case k2_132 => k_is); k_whole))
    | fail
  k_with "m callWith ref" => first
    | (k_here; (with_reducible show wpAny _ _ (callWith _ (Value.ref 106) _ _ _) _ _ _); k_dflt (refine' callWith_K ?k1_133 ?k2_133 ?_; (case k1_133 => k_asm); (case k2_133 => k_is); k_whole))
    | fail
  k_with "m callWith ref" => first
    | (k_here; (with_reducible show wpAny _ _ (callWith _ (Value.ref 118) _ _ _) _ _ _); k_dflt (refine' callWith_K ?k1_134 ?k2_134 ?_; (case k1_134 => k_asm); (case k2_134 => k_is); k_whole))
    | fail
  k_with "m callWith ref" => first
    | (k_here; (with_reducible show wpAny _ _ (callWith _ (Value.ref 87) _ _ _) _ _ _); k_dflt (refine' callWith_K ?k1_113 ?k2_113 ?_; (case k1_113 => k_asm); (case k2_113 => k_is); k_whole))
    | fail
  k_with "m callWith ref" => first
    | (k_here; (with_reducible show wpAny _ _ (callWith _ (Value.ref 94) _ _ _) _ _ _); k_dflt (refine' callWith_K ?k1_114 ?k2_114 ?_; (case k1_114 => k_asm); (case k2_114 => k_is); k_whole))
    | fail
  k_with "m callWith ref" => first
    | (k_here; (with_reducible show wpAny _ _ (callWith _ (Value.ref 80) _ _ _) _ _ _); k_dflt (refine' callWith_K ?k1_135 ?k2_135 ?_; (case k1_135 => k_asm); (case k2_135 => k_is); k_whole))
    | fail
  k_with "m call ref" => first
    | (k_here; (with_reducible show wpAny _ _ (call (Value.ref 125) [Value.str _ _, Value.int _ _]) _ _ _); first
      | (k_dflt (refine' Mine.name_str_2 ?hx_136 ?hx2_136 ?hH_136 ?hK_136 ?k1_136 ?k2_136 ?k3_136 ?kC_136 ?k4_136 ?kU_136 ?k5_136 ?k6_136 ?k13_136 ?k14_136 ?_; (case hH_136 => with_reducible assumption); (case hx_136 => first | assumption | decide +kernel); (case hx2_136 => first | assumption | decide +kernel); (case k1_136 => k_asm); (case k2_136 => k_asm); (case k3_136 => k_asm); (case kC_136 => assumption); (case k4_136 => k_asm); (case k5_136 => k_asm); (case k6_136 => first | exact rfl | assumption); (case k13_136 => ktr_room); (case k14_136 => ktr_units); (case kU_136 => k_updF); (case hK_136 => kqd_sub); k_whole); intro h9 tk9 tl9 u9 F9 N9 f9; (try dsimp only at N9); (try simp only [List.cons_append, List.nil_append, List.append_assoc] at N9); (try k_sweep); (try k_fold))
      | (k_dflt (refine' Mine.name_str_1 ?hx_136 ?hx2_136 ?k1_136 ?k2_136 ?k3_136 ?kC_136 ?k4_136 ?kU_136 ?k5_136 ?k6_136 ?k13_136 ?k14_136 ?_; (case hx_136 => first | assumption | decide +kernel); (case hx2_136 => first | assumption | decide +kernel); (case k1_136 => k_asm); (case k2_136 => k_asm); (case k3_136 => k_asm); (case kC_136 => assumption); (case k4_136 => k_asm); (case k5_136 => k_asm); (case k6_136 => first | exact rfl | assumption); (case k13_136 => ktr_room); (case k14_136 => ktr_units); (case kU_136 => k_updF); k_whole); intro h9 tk9 tl9 ps9 F9 N9 hH9 f9; (try dsimp only at N9); (try simp only [List.cons_append, List.nil_append, List.append_assoc] at N9); (try k_sweep); (try k_fold)))
    | fail
  k_with "m call ref" => first
    | (k_here; (with_reducible show wpAny _ _ (call (Value.ref 125) [Value.none, Value.int _ _]) _ _ _); first
      | (k_dflt (refine' Mine.name_none_2 ?hH_137 ?hK_137 ?k1_137 ?k2_137 ?k3_137 ?kC_137 ?k4_137 ?kU_137 ?k5_137 ?k6_137 ?k13_137 ?k14_137 ?_; (case hH_137 => with_reducible assumption); (case k1_137 => k_asm); (case k2_137 => k_asm); (case k3_137 => k_asm); (case kC_137 => assumption); (case k4_137 => k_asm); (case k5_137 => k_asm); (case k6_137 => first | exact rfl | assumption); (case k13_137 => ktr_room); (case k14_137 => ktr_units); (case kU_137 => k_updF); (case hK_137 => kqd_sub); k_whole); intro h9 tk9 tl9 u9 F9 N9 f9; (try dsimp only at N9); (try simp only [List.cons_append, List.nil_append, List.append_assoc] at N9); (try k_sweep); (try k_fold))
      | (k_dflt (refine' Mine.name_none_1 ?k1_137 ?k2_137 ?k3_137 ?kC_137 ?k4_137 ?kU_137 ?k5_137 ?k6_137 ?k13_137 ?k14_137 ?_; (case k1_137 => k_asm); (case k2_137 => k_asm); (case k3_137 => k_asm); (case kC_137 => assumption); (case k4_137 => k_asm); (case k5_137 => k_asm); (case k6_137 => first | exact rfl | assumption); (case k13_137 => ktr_room); (case k14_137 => ktr_units); (case kU_137 => k_updF); k_whole); intro h9 tk9 tl9 ps9 F9 N9 hH9 f9; (try dsimp only at N9); (try simp only [List.cons_append, List.nil_append, List.append_assoc] at N9); (try k_sweep); (try k_fold)))
    | fail
  k_with "m call ref" => first
    | (k_here; (with_reducible show wpAny _ _ (call (Value.ref 106) _) _ _ _); first
      | (k_dflt (refine' Mine.tr_2 Mine.tw3 ?hH_138 ?hK_138 ?k1_138 ?k2_138 ?k3_138 ?kC_138 ?k4_138 ?kU_138 ?kU2_138 ?sa_138 ?a0_138 ?b0_138 ?b1_138 ?k5_138 ?k6_138 ?k13_138 ?k14_138 ?_; (case hH_138 => with_reducible assumption); (case k1_138 => k_asm); (case k2_138 => k_asm); (case k3_138 => k_asm); (case kC_138 => assumption); (case k4_138 => k_asm); (case k5_138 => k_asm); (case k6_138 => first | exact rfl | assumption); (case k13_138 => ktr_room); (case k14_138 => ktr_units); (case kU_138 => k_updF); (case kU2_138 => intro o9; k_updF); (case sa_138 => first | k_ne | omega); (case a0_138 => assumption); (case b0_138 => assumption); (case b1_138 => assumption); (case hK_138 => kqd_sub); k_whole); intro a9 b9 ta9 tb9 u9 tl9 h9 tk9 F9 N9 x39 x49 x59 f9; (try dsimp only at N9); (try simp only [List.cons_append, List.nil_append, List.append_assoc] at N9); (try k_sweep); (try k_fold))
      | (k_dflt (refine' Mine.tr_1 Mine.tw3 ?k1_138 ?k2_138 ?k3_138 ?kC_138 ?k4_138 ?kU_138 ?kU2_138 ?sa_138 ?a0_138 ?b0_138 ?b1_138 ?k5_138 ?k6_138 ?k13_138 ?k14_138 ?_; (case k1_138 => k_asm); (case k2_138 => k_asm); (case k3_138 => k_asm); (case kC_138 => assumption); (case k4_138 => k_asm); (case k5_138 => k_asm); (case k6_138 => first | exact rfl | assumption); (case k13_138 => ktr_room); (case k14_138 => ktr_units); (case kU_138 => k_updF); (case kU2_138 => intro o9; k_updF); (case sa_138 => first | k_ne | omega); (case a0_138 => assumption); (case b0_138 => assumption); (case b1_138 => assumption); k_whole); intro a9 b9 ta9 tb9 ps9 tl9 h9 tk9 F9 N9 x39 x49 x59 hH9 f9; (try dsimp only at N9); (try simp only [List.cons_append, List.nil_append, List.append_assoc] at N9); (try k_sweep); (try k_fold)))
    | fail
  k_with "m call ref" => first
    | (k_here; (with_reducible show wpAny _ _ (call (Value.ref 118) _) _ _ _); k_dflt (refine' Mine.onr_3 Mine.tw2 ?hH_139 ?hK_139 ?k1_139 ?k2_139 ?k3_139 ?kC_139 ?k4_139 ?kU_139 ?kU2_139 ?sa_139 ?a0_139 ?b0_139 ?b1_139 ?k5_139 ?k6_139 ?k13_139 ?k14_139 ?_; (case hH_139 => with_reducible assumption); (case k1_139 => k_asm); (case k2_139 => k_asm); (case k3_139 => k_asm); (case kC_139 => assumption); (case k4_139 => k_asm); (case k5_139 => k_asm); (case k6_139 => first | exact rfl | assumption); (case k13_139 => ktr_room); (case k14_139 => ktr_units); (case kU_139 => k_updF); (case kU2_139 => intro o9; k_updF); (case sa_139 => first | k_ne | omega); (case a0_139 => assumption); (case b0_139 => assumption); (case b1_139 => assumption); (case hK_139 => kqd_sub); k_whole); intro a9 b9 ta9 tb9 ps9 K9 tl9 h9 tk9 F9 N9 x39 x49 x59 hH9 hKt9 f9; (try dsimp only at N9); (try simp only [List.cons_append, List.nil_append, List.append_assoc] at N9); (try k_sweep); (try k_fold))
    | fail
  k_with "m call ref" => first
    | (k_here; (with_reducible show wpAny _ _ (call (Value.ref 80) _) _ _ _); k_dflt (refine' Mine.pool_use ?hL_140 ?hI_140 ?hz_140 ?k1_140 ?k2_140 ?k3_140 ?k4_140 ?k5_140 ?k6_140 ?k13_140 ?k14_140 ?_; (case hL_140 => assumption); (case hI_140 => assumption); (case hz_140 => exact Mine.ints_len (by assumption) (by assumption)); (case k1_140 => k_asm); (case k2_140 => k_asm); (case k3_140 => k_asm); (case k4_140 => k_asm); (case k5_140 => k_asm); (case k6_140 => first | exact rfl | assumption); (case k13_140 => ktr_room); (case k14_140 => ktr_units); k_whole); intro r9 a9 b9 ta9 tb9 n9 h9 tk9 F9 N9 l9 x39 x49 x59; (try k_sweep); (try k_fold))
    | fail
  k_with "k_all" => first
    | (first
      | with_reducible assumption
      | exact List.forall_mem_nil _
      | (refine' List.forall_mem_cons.mpr ⟨?a_141, ?b_141⟩; (case a_141 => k_ne); (case b_141 => k_all))
      | exact Mine.allLt_ne (by with_reducible assumption)
      | exact Mine.fresh_ne (by with_reducible assumption) (by k_mem)
      | (refine' List.forall_mem_append.mpr ⟨?_, ?_⟩ <;> k_all))
    | fail
  k_with "m exec For Name Call cons nil" => first
    | (k_here; (rename Fr _ _ _ _ => lF'); (with_unfolding_all refine' For_invVF lF' ?k1_74 ?k2_74 ?_; (case k1_74 => exact rfl); (case k2_74 => exact rfl); k_whole))
    | fail
  k_with "m exec For Name List cons nil" => first
    | (k_here; (rename Fr _ _ _ _ => lF'); (with_reducible refine' For_invVF lF' ?k1_142 ?k2_142 ?_ ?hs_142 ?hE_142); (case k1_142 => with_unfolding_all exact rfl); (case k2_142 => with_unfolding_all exact rfl); (case hs_142 => (intro _; with_unfolding_all rfl)); (case hE_142 => with_unfolding_all passes_own); k_whole)
    | fail
  k_with "m pyIter ref" => first
    | (k_here; refine Mine.stop_u ?_)
    | fail
  k_with "m pyIter ref" => first
    | (k_here; (with_reducible show wpAny _ _ (pyIter (Value.ref _)) (fun it s₂ => LoopAtV _ _ _ _ _ _ _ _ _ it s₂) _ _); k_dflt (refine' Mine.loop_L3 ?hh_144 ?hr_144 ?F_144 ?N_144 ?U1_144 ?U2_144 ?a0_144 ?b0_144 ?b1_144 ?kturn_144 ?kdone_144; (case hh_144 => exact rfl); (case F_144 => k_asm); (case N_144 => k_asm); (case hr_144 => with_reducible assumption); (case U1_144 => (with_reducible k_updF)); (case U2_144 => (intro o9; k_updF)); (case a0_144 => assumption); (case b0_144 => assumption); (case b1_144 => assumption); (case' kturn_144 => (intro a9 b9 ta9 tb9 ps9 K9 v9 t9 I9 oI9 h9 tk9 x39 x49 x59 hH9 F9 N9 of9 og9 ne9 hq9 hq29 hl9; (try dsimp only at N9 of9 hq29 hl9); (try simp only [List.cons_append, List.nil_append, List.append_assoc] at N9 hl9); (try k_lt of9); (try k_sweep))); (case' kdone_144 => (intro a9 b9 ta9 tb9 ps9 h9 tk9 u9 x39 x49 x59 F9 N9; (try dsimp only at N9); (try k_sweep))); k_whole))
    | fail
  k_with "m TurnH" => first
    | (k_dflt (refine' Mine.lawTurn_end ?F_145 ?hm_145 ?hK_145 ?hKt_145 ?f_145 ?hI_145 ?hKn_145 ?N_145 ?hs_145 ?hs1_145 ?hs2_145 ?hg_145 ?hq_145 ?hl0_145 ?a0_145 ?b0_145 ?b1_145; (case F_145 => k_asm); (case hm_145 => (intro z hz; first | exact if_neg hz | (simp only [if_neg hz]))); (case hK_145 => with_reducible assumption); (case hKt_145 => with_reducible assumption); (case f_145 => with_reducible assumption); (case hI_145 => kst_mem); (case hKn_145 => with_reducible assumption); (case N_145 => k_asm); (case hs_145 => ((try dsimp only); kqd_sub)); (case hs1_145 => (intro p9 h9; kst_mem)); (case hs2_145 => (intro p9 h9; kst_mem)); (case hg_145 => with_reducible assumption); (case hq_145 => with_reducible assumption); (case hl0_145 => with_reducible assumption); (case a0_145 => assumption); (case b0_145 => assumption); (case b1_145 => assumption)))
    | fail
  k_with "m TurnG" => first
    | (k_dflt (refine' Mine.namTurn_end ?F_146 ?hm_146 ?N_146 ?hs_146 ?a0_146 ?b0_146 ?b1_146; (case F_146 => k_asm); (case hm_146 => (intro z hz; first | exact if_neg hz | (simp only [if_neg hz]))); (case N_146 => k_asm); (case hs_146 => ((try dsimp only); kqd_sub)); (case a0_146 => assumption); (case b0_146 => assumption); (case b1_146 => assumption)))
    | fail
  k_with "m CompSrc" => first
    | (k_here; k_dflt (refine' Mine.comp_lets ?hh_147 ?F_147 ?N_147 ?hr_147 ?U_147 ?k0_147 ?k1_147 ?a0_147 ?b0_147 ?b1_147 ?kturn_147 ?kdone_147; (case hh_147 => exact rfl); (case F_147 => k_asm); (case N_147 => k_asm); (case hr_147 => with_reducible assumption); (case U_147 => (with_reducible k_updF)); (case k0_147 => assumption); (case k1_147 => assumption); (case a0_147 => assumption); (case b0_147 => assumption); (case b1_147 => assumption); (case' kturn_147 => (intro ys9 ws9 a9 b9 ta9 tb9 v9 I9 oI9 C9 oC9 D9 m9 h9 tk9 E9 x39 x49 x59 hW9 hC9 hx9 F9 N9 off9 offA9 n19 n29 n39; (try dsimp only at N9 off9); (try k_sweep))); (case' kdone_147 => (intro g9 ys9 ws9 a9 b9 ta9 tb9 x39 x49 x59 hW9 yl9; (try dsimp only))); k_whole))
    | fail
  k_with "m CompEnd" => first
    | (k_here; k_dflt (refine' Mine.let_end ?F_148 ?N_148 ?off_148 ?m1_148 ?m2_148 ?m3_148 ?hs_148 ?a0_148 ?b0_148 ?b1_148 ?hW_148 ?hl_148 ?hy_148; (case F_148 => k_asm); (case N_148 => k_asm); (case off_148 => with_reducible assumption); (case m1_148 => kst_mem); (case m2_148 => kst_mem); (case m3_148 => kst_mem); (case hs_148 => ((try dsimp only); kqd_sub)); (case a0_148 => assumption); (case b0_148 => assumption); (case b1_148 => assumption); (case hW_148 => with_reducible assumption); (case hl_148 => rfl); (case hy_148 => with_reducible assumption)))
    | fail
  k_with "m call builtin:str.join" => first
    | (k_here; (with_reducible show wpAny _ _ (call (Value.builtin "str.join") [Value.str _ _, Value.ref _]) _ _ _); k_dflt (refine' Mine.join_lets ?N_149 ?m_149 ?h_149 ?l_149 ?_; (case N_149 => k_asm); (case m_149 => kst_mem); (case h_149 => with_reducible assumption); (case l_149 => assumption); k_whole); intro x9 t9 k9 g9 gl9)
    | fail
  trivial
theorem lawX : PySem.Challenge.rw_xm0577_01.Holds := hd (by
  k_go0
  all_goals try k_fold
  k_steps
  all_goals (show StopU _; unfold StopU; k_here; k_dflt (refine' Mine.loop_N ?hh ?F ?N ?hax ?hs ?sx ?U1 ?a0 ?b0 ?b1 ?hv ?kt0 ?kt1 ?kdone); (case hh => exact rfl); (case F => k_asm); (case N => k_asm); (case hax => kst_mem); (case hs => kst_mem); (case U1 => k_updF); (case sx => k_ne); (case a0 => assumption); (case b0 => assumption); (case b1 => assumption); (case hv => (intro v9 hv9; (simp only [List.mem_cons, List.not_mem_nil, or_false] at hv9); rcases hv9 with hv9 | hv9 | hv9 | hv9 | hv9 | hv9 | hv9 <;> (subst hv9; first | exact Or.inl rfl | exact Mine.NameOk.str (by decide +kernel) (by decide +kernel) | exact Mine.NameOk.str (Mine.letGood.a (by assumption)) (Mine.letGood.b (by assumption)) | exact Mine.NameOk.str (Mine.letGood.c (by assumption)) (Mine.letGood.d (by assumption))))); (case' kt0 => (intro a9 b9 ta9 tb9 I9 oI9 h9 tk9 x39 x49 x59 F9 N9 of9; (try dsimp only at N9 of9); (try k_lt of9); (try k_sweep))); (case' kt1 => (intro z9 tz9 a9 b9 ta9 tb9 I9 oI9 h9 tk9 z19 z29 x39 x49 x59 F9 N9 of9; (try dsimp only at N9 of9); (try k_lt of9); (try k_sweep))); (case' kdone => (intro a9 b9 ta9 tb9 h9 tk9 u9 x39 x49 x59 F9 N9; (try dsimp only at N9); (try k_sweep))); k_whole)
  k_steps)
end
end
end Mine
theorem PySem.Challenge.cw_xm0577_01_holds : PySem.Challenge.rw_xm0577_01.Holds :=
  Mine.lawX
