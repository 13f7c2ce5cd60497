import PyProof.Rows.All
import Wide.All
import OpenK.AllK
import Wide.FinOn
import Lean
import PySem.Challenge.RW_tk0118_01
open PySem PySem.W PySem.Calls PyProof.Rows
set_option Elab.async false
set_option maxRecDepth 100000
set_option maxHeartbeats 8000000
namespace Mine
/- The head: the top's run over a tree of objects, one check by the kernel (the library's pieces would write 25 MB). -/
def topRunT (tb : String → Option Builtin) (p : Program) (w : World) (n₀ : Nat) (ann : Option Value) : Nat → SharedT → Thread → Option SharedT
  | 0, _, _ => none
  | n + 1, s, t => match through t with
    | true => some s
    | false => match stepOk n₀ ann t with
      | false => none
      | true => match stepT (denote tb) p w s t with
        | some (s', t') => topRunT tb p w n₀ ann n s' t'
        | none => none
theorem topRunT_of {tb : String → Option Builtin} {p : Program} {w : World} {n₀ : Nat} {ann : Option Value} : ∀ {n : Nat} {s s' : SharedT} {t : Thread}, topRunT tb p w n₀ ann n s t = some s' → topRun tb p w n₀ ann n s.abs t = some s'.abs
  | 0, _, _, _, h => by cases h
  | n + 1, s, s', t, h => by
    unfold topRunT at h
    unfold topRun
    cases he : through t with
    | true => rw [he] at h; cases h; rfl
    | false =>
      rw [he] at h
      cases hk : stepOk n₀ ann t with
      | false => rw [hk] at h; cases h
      | true =>
        rw [hk] at h
        cases hs : stepT (denote tb) p w s t with
        | none => rw [hs] at h; cases h
        | some r => obtain ⟨s₂, t₂⟩ := r; rw [hs] at h; dsimp only; rw [stepT_spec hs]; exact topRunT_of h
def treeOf : List Obj → BT → Nat → Option BT
  | [], t, _ => some t
  | o :: l, t, n => match ((t.ins n o).get n).isSome with
    | true => treeOf l (t.ins n o) (n + 1)
    | false => none
theorem treeOf_abs {life : Life} : ∀ {l : List Obj} {t t' : BT} {n : Nat}, treeOf l t n = some t' → (absHeap t' (n + l.length) life).objs = (absHeap t n life).objs ++ l.toArray
  | [], t, t', n, h => by cases h; simp
  | o :: l, t, t', n, h => by
    unfold treeOf at h
    cases e : ((t.ins n o).get n).isSome with
    | false => rw [e] at h; cases h
    | true =>
      rw [e] at h
      have := treeOf_abs (life := life) h
      rw [List.length_cons, Nat.add_comm l.length 1, ← Nat.add_assoc, this, absHeap_ins e]
      simp [Heap.push]
def sharedT (s : Shared) : Option SharedT := (treeOf s.heap.objs.toList .nil 0).map fun t => ⟨t, s.heap.objs.toList.length, s.heap.life, s.gens, s.drawn, s.toks, s.os⟩
theorem sharedT_abs {s : Shared} {sT : SharedT} (h : sharedT s = some sT) : sT.abs = s := by
  unfold sharedT at h
  cases e : treeOf s.heap.objs.toList .nil 0 with
  | none => rw [e] at h; cases h
  | some t =>
    rw [e] at h
    cases h
    have := treeOf_abs (life := s.heap.life) e
    obtain ⟨⟨objs, life⟩, gens, drawn, toks, os⟩ := s
    unfold SharedT.abs
    rw [Nat.zero_add] at this
    have h0 : (absHeap .nil 0 life).objs = #[] := rfl
    rw [h0] at this
    simp only [Shared.mk.injEq, and_true]
    exact (show absHeap t objs.toList.length life = ⟨(absHeap t objs.toList.length life).objs, life⟩ from rfl).trans (congrArg (Heap.mk · life) (this.trans (by simp)))
/-- The run behind the fence over a tree of objects. -/
def topFromT (tb : String → Option Builtin) (p : Program) (w : World) (N : Nat) (s₀ : Shared) : Option Shared :=
  match s₀.heap.isNs mainGlobals && s₀.gens.size == 0 with
  | true => (sharedT s₀).bind fun t₀ => (topRunT tb p w s₀.heap.objs.size (s₀.heap.nsMap mainGlobals "__annotations__") N t₀ (topStub p)).bind fun t₁ =>
      match staticsOk (importedModules p.main.body) s₀.heap t₁.abs.heap && namesBound p t₁.abs.heap && gensDone t₁.abs && laidKept s₀.heap t₁.abs.heap with
      | true => some t₁.abs
      | false => none
  | false => none
theorem topFromT_of {tb : String → Option Builtin} {p : Program} {w : World} {N : Nat} {s₀ s₁ : Shared} (h : topFromT tb p w N s₀ = some s₁) : topFrom tb p w N s₀ = some s₁ := by
  unfold topFromT at h
  unfold topFrom
  cases c : (s₀.heap.isNs mainGlobals && s₀.gens.size == 0) with
  | false => rw [c] at h; cases h
  | true =>
    rw [c] at h
    obtain ⟨t₀, h1, h2⟩ := Option.bind_eq_some_iff.mp h
    obtain ⟨t₁, h3, h4⟩ := Option.bind_eq_some_iff.mp h2
    have := topRunT_of h3
    rw [sharedT_abs h1] at this
    rw [this]
    exact h4
theorem leftT {p q : Program} {loose : List Str} {Xt : Shared → Bool} {α : Type} {Yf : Shared → α} {Ya : World → α} {N : Nat} {g0 : Bool}
    (h : ∀ w, ((fencedOpening treeTable p w N).bind (topFromT treeTable p w N)).map (fun s => (openSeen q loose (importedModules p.main.body) Xt g0 s, Yf s)) = some (openGood q loose, Ya w)) : LeftO p q loose Xt Yf Ya N g0 := by
  intro w
  obtain ⟨s, a, b⟩ := Option.map_eq_some_iff.mp (h w)
  obtain ⟨s₀, c, d⟩ := Option.bind_eq_some_iff.mp a
  unfold openEnds
  rw [c, Option.bind_some, topFromT_of d, Option.map_some, b]
/-- the statements that the row's view keeps: all but the module names; the classes that are built on others stay loose -/
def vwOf (p : Program) : Program := view p [0, 2, 3, 5, 6, 7, 8, 10, 11, 12, 13, 14, 15, 16, 17, 18]
def vw : Program := vwOf Challenge.pw_tk0118_01
/- The run, the looks and the row's own words, each of a program as its argument: their quick twins then hold no text. -/
def run0 (p : Program) (w : World) : Option Shared := (fencedOpening treeTable p w 4138).bind (topFromT treeTable p w 4138)
def look0 (p : Program) (s : Shared) := openSeen (vwOf p) [Str.ofString "PressError", Str.ofString "Finder"] (importedModules p.main.body) (fun s => xlAt (vwOf p) [] s && recOk [] s) true s
def good0 (p : Program) := openGood (vwOf p) [Str.ofString "PressError", Str.ofString "Finder"]
def said0 (l : OpenLaw) : Bool := l.wellSaid
theorem run0_self : run0 = run0 := rfl
theorem look0_self : look0 = look0 := rfl
theorem good0_self : good0 = good0 := rfl
theorem said0_self : said0 = said0 := rfl
lay_quick Mine.run0 Mine.look0 Mine.good0 Mine.said0
name_quick tkRun for Mine.run0 by Mine.run0_self
name_quick tkLook for Mine.look0 by Mine.look0_self
name_quick tkGood for Mine.good0 by Mine.good0_self
name_quick tkSaid for Mine.said0 by Mine.said0_self
theorem said1 : Challenge.rw_tk0118_01.wellSaid = true := by
  show said0 Challenge.rw_tk0118_01 = true
  rw [Fast.tkSaid_eq]
  iterate 38 (refine look_both ?_ ?_; rotate_left; (as_aux_lemma => kernel_rfl))
  as_aux_lemma => kernel_rfl
theorem left0 {α : Type} {Yf : Shared → α} {Ya : World → α} (h : ∀ w, (Fast.tkRun Challenge.pw_tk0118_01 w).map (fun s => (Fast.tkLook Challenge.pw_tk0118_01 s, Yf s)) = some (Fast.tkGood Challenge.pw_tk0118_01, Ya w)) :
    LeftO Challenge.pw_tk0118_01 vw [Str.ofString "PressError", Str.ofString "Finder"] (fun s => xlAt vw [] s && recOk (RowW.records Challenge.rw_tk0118_01.row.toRowW) s) Yf Ya 4138 := by
  refine leftT fun w => ?_
  have := h w
  rw [← Fast.tkRun_eq, ← Fast.tkLook_eq, ← Fast.tkGood_eq] at this
  exact this
theorem head0 {d : DefRec} {kwd : List (Str × Expr)} (H : Hook) (hdef : defOf vw Challenge.rw_tk0118_01.row.name = some (d, kwd)) (hp : Challenge.rw_tk0118_01.row.prog.theDef Challenge.rw_tk0118_01.row.name = some (d.params, d.body, d.scope))
    (hk : kwWritten? d.params.kwonlyargs d.params.kw_defaults = some kwd) (k1 : Challenge.rw_tk0118_01.row.wellSaid = true)
    (ok : (chainsOk vw && opensWell Challenge.rw_tk0118_01.row.prog && (frees Challenge.rw_tk0118_01.row.toRowW && Challenge.rw_tk0118_01.row.within.isEmpty)) = true)
    (hl : ∀ w, (Fast.tkRun Challenge.pw_tk0118_01 w).map (fun s => (Fast.tkLook Challenge.pw_tk0118_01 s, Hook.obs H s)) = some (Fast.tkGood Challenge.pw_tk0118_01, Hook.val H w)) (hw : Challenge.rw_tk0118_01.row.toRowW.promised)
    (hc : WalkO vw [Str.ofString "PressError", Str.ofString "Finder"] (XL vw []) (Hook.says H) Challenge.rw_tk0118_01.row.toRowW d kwd fun f vs => PySem.call f vs) : Challenge.rw_tk0118_01.row.Holds :=
  holds_open (left0 hl) (Hook.of H) (Hook.keeps H) (fun s e => xl_of s (Bool.and_eq_true_iff.mp e).1) XL.keeps hdef hp hk (fun s e => recFacts_of (Bool.and_eq_true_iff.mp e).2) rfl k1 ok ⟨rfl, rfl, rfl, rfl, rfl, by decide +kernel⟩ hw hc
local macro_rules | `(tactic| o_law) => `(tactic| refine holds_law said1 fun said => ?_)
local macro_rules | `(tactic| o_head $H:term) => `(tactic| (refine head0 $H (by rfl) (by rfl) (by rfl) (by assumption) (by decide +kernel) (fun w => ?hl) ?hw ?hc; (case hl => kernel_rfl)))
open_top hd for PySem.Challenge.rw_tk0118_01
theorem hd_off : True := by
  w_top off
  trivial
local macro_rules | `(tactic| walk_at $s:str) => `(tactic| k_extra $s)
local macro_rules | `(tactic| lcg_off) => `(tactic| k_extra "lcg_off")
local macro_rules | `(tactic| kmk_sum) => `(tactic| k_extra "kmk_sum")
local macro_rules | `(tactic| k_ne) => `(tactic| k_extra "k_ne")
local macro_rules | `(tactic| k_all) => `(tactic| k_extra "k_all")
local macro_rules | `(tactic| k_room) => `(tactic| k_extra "k_room")
local macro_rules | `(tactic| k_units) => `(tactic| k_extra "k_units")
local macro_rules | `(tactic| k_mem) => `(tactic| k_extra "k_mem")

/-- every object but those of S is as it was -/
def Ext (S : List Addr) (h h' : Heap) : Prop := ∀ a o, a ∉ S → h.get? a = some o → h'.get? a = some o

theorem Ext.refl {S : List Addr} {h : Heap} : Ext S h h := fun _ _ _ e => e
theorem Ext.trans {S : List Addr} {h h' h'' : Heap} (x : Ext S h h') (y : Ext S h' h'') : Ext S h h'' := fun a o n e => y a o n (x a o n e)
theorem Ext.fr {S : List Addr} {h₀ h h' : Heap} {L : Addr} {m : Str → Option Value} (x : Ext S h h') (F : Fr h₀ L h m) (hL : L ∉ S) (h0 : ∀ a ∈ S, h₀.get? a = none) : Fr h₀ L h' m := by
  obtain ⟨oL, es, ep, hL', hLd, hLk, hLf⟩ := F.ns
  refine ⟨⟨oL, es, ep, x _ _ hL hL', hLd, hLk, hLf⟩, fun b o e => x b o (fun q => ?_) (F.keep b o e), F.above⟩
  rw [h0 b q] at e; cases e

def LeaveX (g h₀ : Heap) (L : Addr) (m : Str → Option Value) (S : List Addr) (h : Heap) (R : Result → Shared → Prop) (v : Value) (s' : Shared) : Prop :=
  ∃ L' m' news', Fr g L' s'.heap m' ∧ News g L' s'.heap news' ∧ (Fr h₀ L s'.heap m → Ext S h s'.heap → News h₀ L s'.heap news' → (∀ p ∈ news', p.1 ∉ S → h.get? p.1 = none) → R (.ok (.ret v)) s')

theorem leaveX_ {g h₀ h : Heap} {L L' : Addr} {m m' : Str → Option Value} {S : List Addr} {news' : List (Addr × Obj)} {R : Result → Shared → Prop} {v : Value} {s' : Shared} (F' : Fr g L' s'.heap m') (N' : News g L' s'.heap news')
    (k : Fr h₀ L s'.heap m → Ext S h s'.heap → News h₀ L s'.heap news' → (∀ p ∈ news', p.1 ∉ S → h.get? p.1 = none) → R (.ok (.ret v)) s') : LeaveX g h₀ L m S h R v s' := ⟨L', m', news', F', N', k⟩

section
variable {prog : Program} {w : World} {A₀ A : Around} {s : Shared} {base h₀ : Heap} {outer : List Env} {L : Addr} {m : Str → Option Value} {env : Env} {news : List (Addr × Obj)} {K : Frag} {p : Program} {loose : List Str} {mean : ExcName → Option Value} {mg mb : Str → Option Value}

theorem enter_def {R : Result → Shared → Prop} {name qual : Str} {params : Arguments} {body : List Stmt} {scope : Scope} {dV kV doc pm cdv ct oc : Value} {an od : Option Addr} {osl : Array (Option Value)} {f : Addr} {args : Args} {binds : List (Str × Value)}
    (B : Below A₀ base outer h₀) (F : Fr h₀ L s.heap m) (X₀ : K.In h₀) (N : News h₀ L s.heap news) (T : Top p loose mean mg mb h₀) (hA : A.frames = some (env :: outer)) (hf : env.frame = some L) (hke : env.scope.kind = .function)
    (ho : K.lookup f = some ⟨oc, od, .func (fnOf name qual params body scope dV kV doc pm an cdv ct), osl⟩) (hcd : codeIn K cdv qual = true) (hroom : A.depth < recursionLimit)
    (hbind : BindsTo s (fnOf name qual params body scope dV kV doc pm an cdv ct) args binds) (hloc : ∀ y ∈ binds, scope.names.lookup y.1 = some .local)
    (h : ∀ g L' h₁, Fr g L' h₁ (fun y => binds.reverse.lookup y) → News g L' h₁ news → Below A base (env :: outer) g → K.In g → Top p loose mean mg mb g →
      wpAny (model prog w) (A.deeper (envOf qual scope L' f cdv)) (execs body (envOf qual scope L' f cdv))
        (fun fl s' => LeaveX g h₀ L m (news.map (·.1)) s.heap R (match fl with | .ret v => v | _ => .none) s')
        (fun _ _ => False)
        { s with heap := h₁, toks := s.toks + binds.length })
    (hco : scope.isCoroutine = false) (hgen : scope.isGenerator = false) (hk : scope.kind = .function)
    (hcell : ∀ x ∈ scope.names, x.2 ≠ .cell) : codeAny (model prog w) A (.call (.ref f) args) R s := by
  obtain ⟨FG, BG, st, lv⟩ := groundX (R := R) B F N hA hf hke
  have X := X₀.keeps F.keep
  refine codeAny_call_def (fd := fnX name qual params body scope [] dV kV doc pm an cdv ct) (body := body) (binds := binds) hroom (X _ _ ho) rfl (T.nolimit.keeps F.keep) (codeRec_of X hcd) rfl hbind hcell hloc (fun h₁ hns hk₁ => ?_) hco hgen hk
  refine wpAny_mono (h (hideAll s.heap (news.map (·.1))) s.heap.objs.size h₁ ⟨hns, fun b o e => hk₁ b o (of_hideAll _ e), Nat.le_of_eq (hideAll_size _ _)⟩
    (fun p hp => ⟨hk₁ _ _ (N p hp).1, Nat.ne_of_lt (Heap.lt_size (N p hp).1), hideAll_none _ (List.mem_map_of_mem hp)⟩) BG (X₀.keeps fun b o e => st b o e) (T.keeps fun b o e => st b o e)) (fun fl s' hl => ?_) fun _ _ y => y.elim
  obtain ⟨L', m', news', F', N', k⟩ := hl
  have ex : Ext (news.map (·.1)) s.heap s'.heap := fun a o n e => F'.keep _ _ (hideAll_get _ e n)
  have fresh : ∀ p ∈ news', p.1 ∉ news.map (·.1) → s.heap.get? p.1 = none := fun p hp n => by
    cases q : s.heap.get? p.1 with
    | none => rfl
    | some o => have := (N' p hp).2.2; rw [hideAll_get _ q n] at this; cases this
  have hLS : L ∉ news.map (·.1) := fun q => by
    obtain ⟨p, hp, e⟩ := List.mem_map.mp q
    exact (N p hp).2.1 e
  have h0S : ∀ a ∈ news.map (·.1), h₀.get? a = none := fun a q => by
    obtain ⟨p, hp, rfl⟩ := List.mem_map.mp q
    exact (N p hp).2.2
  have F₂ : Fr h₀ L s'.heap m := ex.fr F hLS h0S
  refine k F₂ ex (fun p hp => ⟨(N' p hp).1, fun q => ?_, ?_⟩) fresh
  · obtain ⟨oL, _, _, hL, _⟩ := F.ns
    have := fresh p hp (by rw [q]; exact hLS)
    rw [q, hL] at this; cases this
  · by_cases hm : p.1 ∈ news.map (·.1)
    · exact h0S _ hm
    · cases q : h₀.get? p.1 with
      | none => rfl
      | some o => have := fresh p hp hm; rw [F.keep _ _ q] at this; cases this
end

theorem news_upd {h₀ h h' : Heap} {L d : Addr} {o o' : Obj} {news news' : List (Addr × Obj)} (N : News h₀ L h news) (U : Upd d o o' news news') (x : Ext [d] h h') (hd : h'.get? d = some o') : News h₀ L h' news' := by
  obtain ⟨pre, post, rfl, rfl, n1, n2⟩ := U.split
  have far : ∀ p ∈ pre ++ (d, o) :: post, p.1 ≠ d → h'.get? p.1 = some p.2 ∧ p.1 ≠ L ∧ h₀.get? p.1 = none := fun p hp n =>
    ⟨x _ _ (by simpa using n) (N p hp).1, (N p hp).2⟩
  intro p hp
  rcases List.mem_append.mp hp with hp | hp
  · exact far p (List.mem_append.mpr (.inl hp)) (n1 p hp)
  · rcases List.mem_cons.mp hp with rfl | hp
    · exact ⟨hd, (N (d, o) (List.mem_append.mpr (.inr (.head _)))).2⟩
    · exact far p (List.mem_append.mpr (.inr (.tail _ hp))) (n2 p hp)
theorem upd_mem {d : Addr} {o o' : Obj} {news news' : List (Addr × Obj)} (U : Upd d o o' news news') : (d, o) ∈ news := by
  obtain ⟨pre, post, rfl, _⟩ := U.split
  exact List.mem_append.mpr (.inr (.head _))
theorem news_one {h₀ h : Heap} {L d : Addr} {o : Obj} {news : List (Addr × Obj)} (N : News h₀ L h news) (hm : (d, o) ∈ news) : News h₀ L h [(d, o)] := fun p hp => by
  rcases List.mem_singleton.mp hp with rfl; exact N _ hm

theorem ext_nil {h₀ h h' : Heap} {L : Addr} {news : List (Addr × Obj)} (N : News h₀ L h news) (N' : News h₀ L h' news) (x : Ext (news.map (·.1)) h h') : Ext [] h h' := fun a o _ e => by
  by_cases hm : a ∈ news.map (·.1)
  · obtain ⟨p, hp, rfl⟩ := List.mem_map.mp hm
    rw [(N p hp).1] at e
    rw [(N' p hp).1, e]
  · exact x a o hm e
theorem ext_drop {h₀ h h' : Heap} {L : Addr} {news news' : List (Addr × Obj)} {T : List Addr} (N : News h₀ L h news) (N' : News h₀ L h' news') (x : Ext (news.map (·.1)) h h') (hs : ∀ p ∈ news, p.1 ∈ T ∨ p ∈ news') : Ext T h h' := fun a o n e => by
  by_cases hm : a ∈ news.map (·.1)
  · obtain ⟨p, hp, rfl⟩ := List.mem_map.mp hm
    rcases hs p hp with q | q
    · exact absurd q n
    · rw [(N p hp).1] at e
      rw [(N' p q).1, e]
  · exact x a o hm e
theorem updF_mem {d : Addr} {o : Obj} {news : List (Addr × Obj)} {f : Obj → List (Addr × Obj)} (U : UpdF d o news f) : (d, o) ∈ news := by
  obtain ⟨pre, post, rfl, _⟩ := U.split
  exact List.mem_append.mpr (.inr (.head _))
theorem updF_of {d : Addr} {o o' : Obj} {news : List (Addr × Obj)} {f : Obj → List (Addr × Obj)} (U : UpdF d o news f) : ∀ p ∈ f o', p = (d, o') ∨ (p ∈ news ∧ p.1 ≠ d) := by
  obtain ⟨pre, post, rfl, hf, n1, n2⟩ := U.split
  intro p hp
  rw [hf o'] at hp
  rcases List.mem_append.mp hp with hp | hp
  · exact .inr ⟨List.mem_append.mpr (.inl hp), n1 p hp⟩
  · rcases List.mem_cons.mp hp with rfl | hp
    · exact .inl rfl
    · exact .inr ⟨List.mem_append.mpr (.inr (.tail _ hp)), n2 p hp⟩
theorem updF_has {d : Addr} {o o' : Obj} {news : List (Addr × Obj)} {f : Obj → List (Addr × Obj)} (U : UpdF d o news f) : ∀ p ∈ news, p = (d, o) ∨ p ∈ f o' := by
  obtain ⟨pre, post, rfl, hf, n1, n2⟩ := U.split
  intro p hp
  rw [hf o']
  rcases List.mem_append.mp hp with hp | hp
  · exact .inr (List.mem_append.mpr (.inl hp))
  · rcases List.mem_cons.mp hp with rfl | hp
    · exact .inl rfl
    · exact .inr (List.mem_append.mpr (.inr (.tail _ hp)))
theorem news_updF {h₀ h h' : Heap} {L d : Addr} {o o' : Obj} {news : List (Addr × Obj)} {f : Obj → List (Addr × Obj)} (N : News h₀ L h news) (U : UpdF d o news f) (x : Ext [d] h h') (hd : h'.get? d = some o') : News h₀ L h' (f o') := fun p hp => by
  rcases updF_of U p hp with rfl | ⟨q, n⟩
  · exact ⟨hd, (N _ (updF_mem U)).2⟩
  · exact ⟨x _ _ (by simpa using n) (N p q).1, (N p q).2⟩
theorem news_updF2 {h₀ h h' : Heap} {L d e : Addr} {o o' u u' : Obj} {news : List (Addr × Obj)} {f : Obj → List (Addr × Obj)} {g : Obj → Obj → List (Addr × Obj)} (N : News h₀ L h news) (U : UpdF d o news f) (V : ∀ o', UpdF e u (f o') (g o')) (hde : d ≠ e) (x : Ext [d, e] h h')
    (hd : h'.get? d = some o') (he : h'.get? e = some u') : News h₀ L h' (g o' u') := fun p hp => by
  rcases updF_of (V o') p hp with rfl | ⟨q, n⟩
  · have hm := updF_mem (V o')
    rcases updF_of U _ hm with y | ⟨y, _⟩
    · exact absurd (congrArg Prod.fst y).symm hde
    · exact ⟨he, (N _ y).2⟩
  · rcases updF_of U p q with rfl | ⟨y, n'⟩
    · exact ⟨hd, (N _ (updF_mem U)).2⟩
    · exact ⟨x _ _ (by simp [n, n']) (N p y).1, (N p y).2⟩
theorem updF_mem2 {d e : Addr} {o u : Obj} {news : List (Addr × Obj)} {f : Obj → List (Addr × Obj)} {g : Obj → Obj → List (Addr × Obj)} (U : UpdF d o news f) (V : ∀ o', UpdF e u (f o') (g o')) (hde : d ≠ e) : (e, u) ∈ news := by
  rcases updF_of U _ (updF_mem (V o)) with y | ⟨y, _⟩
  · exact absurd (congrArg Prod.fst y).symm hde
  · exact y
theorem ext_nil_news {h₀ h h' : Heap} {L : Addr} {news : List (Addr × Obj)} (x : Ext [] h h') (N : News h₀ L h news) : News h₀ L h' news := fun p hp => ⟨x _ _ (by simp) (N p hp).1, (N p hp).2⟩
theorem ext_nil_fr {h₀ h h' : Heap} {L : Addr} {m : Str → Option Value} (x : Ext [] h h') (F : Fr h₀ L h m) : Fr h₀ L h' m := x.fr F (by simp) (by simp)
theorem news_sub {h₀ h : Heap} {L : Addr} {news l : List (Addr × Obj)} (N : News h₀ L h news) (hs : ∀ p ∈ l, p ∈ news) : News h₀ L h l := fun p hp => N p (hs p hp)
theorem sub_two {α : Type} {a b : α} {l : List α} (h1 : a ∈ l) (h2 : b ∈ l) : ∀ p ∈ [a, b], p ∈ l := fun p hp => by
  simp only [List.mem_cons, List.not_mem_nil, or_false] at hp
  rcases hp with rfl | rfl <;> assumption
theorem sub_three {α : Type} {a b c : α} {l : List α} (h1 : a ∈ l) (h2 : b ∈ l) (h3 : c ∈ l) : ∀ p ∈ [a, b, c], p ∈ l := fun p hp => by
  simp only [List.mem_cons, List.not_mem_nil, or_false] at hp
  rcases hp with rfl | rfl | rfl <;> assumption
theorem sub_four {α : Type} {a b c d : α} {l : List α} (h1 : a ∈ l) (h2 : b ∈ l) (h3 : c ∈ l) (h4 : d ∈ l) : ∀ p ∈ [a, b, c, d], p ∈ l := fun p hp => by
  simp only [List.mem_cons, List.not_mem_nil, or_false] at hp
  rcases hp with rfl | rfl | rfl | rfl <;> assumption

/-- what a call's place must bear -/
structure Site (w : World) (p : Program) (loose : List Str) (mean : ExcName → Option Value) (mg mb : Str → Option Value) (dp un : Nat) (cs : Scope) (outer : List Env) (A₀ : Around) (base h₀ : Heap) (L : Addr) (h : Heap) (m : Str → Option Value) : Prop where
  B : Below A₀ base outer h₀
  F : Fr h₀ L h m
  X : (hd.heap_1 w.params).In h₀
  T : Top p loose mean mg mb h₀
  hk : cs.kind = .function
  dp : dp ≤ 900
  un : un ≤ 5000

theorem Site.site {w : World} {p : Program} {loose : List Str} {mean : ExcName → Option Value} {mg mb : Str → Option Value} {dp un : Nat} {cs : Scope} {outer : List Env} {A₀ : Around} {base h₀ : Heap} {L : Addr} {h : Heap} {m : Str → Option Value}
  (B : Below A₀ base outer h₀) (F : Fr h₀ L h m) (X : (hd.heap_1 w.params).In h₀) (T : Top p loose mean mg mb h₀) (hk : cs.kind = .function) (hdp : dp ≤ 900) (hun : un ≤ 5000) : Site w p loose mean mg mb dp un cs outer A₀ base h₀ L h m := ⟨B, F, X, T, hk, hdp, hun⟩

abbrev rowD (text : Array UInt8) (size : Int) (la be : Addr) (a1 a2 a3 a4 : Int) (t1 t2 t3 t4 t5 t6 : Tok) (n : Nat) : Obj :=
  dictOf [⟨a1, .str (Str.ofString "octets") t1, .bytes text t5⟩, ⟨a2, .str (Str.ofString "size") t2, .int size t6⟩, ⟨a3, .str (Str.ofString "last") t3, .ref la⟩, ⟨a4, .str (Str.ofString "before") t4, .ref be⟩] n

structure Park (P : Prop) : Prop where
  h : P

inductive KvAre : List (Int × Value) → List (Int × Int) → Prop
  | nil : KvAre [] []
  | cons (k v : Int) (t : Tok) {kvs : List (Int × Value)} {M : List (Int × Int)} : KvAre kvs M → KvAre ((k, .int v t) :: kvs) ((k, v) :: M)
def getM : List (Int × Int) → Int → Option Int
  | [], _ => none
  | (a, b) :: r, k => if a = k then some b else getM r k
def putM (M : List (Int × Int)) (k v : Int) : List (Int × Int) :=
  if M.any (fun p => p.1 = k) then M.map (fun p => if p.1 = k then (p.1, v) else p) else M ++ [(k, v)]
theorem KvAre.get_none {kvs : List (Int × Value)} {M : List (Int × Int)} (h : KvAre kvs M) (k : Int) : getM M k = none → valueAt kvs k = none := by
  induction h with
  | nil => intro _; rfl
  | cons a b t _ ih =>
    intro e
    unfold getM at e
    by_cases hk : a = k
    · rw [if_pos hk] at e; cases e
    · rw [if_neg hk] at e
      have := ih e
      unfold valueAt at this ⊢
      rw [List.find?_cons_of_neg (by simpa using hk)]
      exact this
theorem KvAre.get_some {kvs : List (Int × Value)} {M : List (Int × Int)} (h : KvAre kvs M) (k : Int) {v : Int} : getM M k = some v → ∃ t, valueAt kvs k = some (.int v t) := by
  induction h with
  | nil => intro e; cases e
  | cons a b t _ ih =>
    intro e
    unfold getM at e
    by_cases hk : a = k
    · rw [if_pos hk] at e; cases e
      exact ⟨t, by unfold valueAt; rw [List.find?_cons_of_pos (by simpa using hk)]; rfl⟩
    · rw [if_neg hk] at e
      obtain ⟨t', ht⟩ := ih e
      refine ⟨t', ?_⟩
      unfold valueAt at ht ⊢
      rw [List.find?_cons_of_neg (by simpa using hk)]
      exact ht
theorem KvAre.any {kvs : List (Int × Value)} {M : List (Int × Int)} (h : KvAre kvs M) (k : Int) : kvs.any (fun p => p.1 = k) = M.any (fun p => p.1 = k) := by
  induction h with
  | nil => rfl
  | cons a b t _ ih => simp only [List.any_cons, ih]
theorem KvAre.append {kvs kvs' : List (Int × Value)} {M M' : List (Int × Int)} (h : KvAre kvs M) (h' : KvAre kvs' M') : KvAre (kvs ++ kvs') (M ++ M') := by
  induction h with
  | nil => exact h'
  | cons a b t _ ih => exact .cons a b t ih
theorem KvAre.mapSet {kvs : List (Int × Value)} {M : List (Int × Int)} (h : KvAre kvs M) (k v : Int) (t : Tok) : KvAre (kvs.map fun kv => if kv.1 = k then (kv.1, .int v t) else kv) (M.map fun p => if p.1 = k then (p.1, v) else p) := by
  induction h with
  | nil => exact .nil
  | cons a b u _ ih =>
    simp only [List.map_cons]
    by_cases hk : a = k
    · simp only [if_pos hk]; exact .cons a v t ih
    · simp only [if_neg hk]; exact .cons a b u ih
theorem KvAre.put {kvs : List (Int × Value)} {M : List (Int × Int)} (h : KvAre kvs M) (k v : Int) (t : Tok) : KvAre (stored kvs k (.int v t)) (putM M k v) := by
  unfold stored putM
  rw [h.any k]
  by_cases hc : M.any (fun p => p.1 = k) = true
  · rw [if_pos hc, if_pos hc]; exact h.mapSet k v t
  · rw [if_neg hc, if_neg hc]; exact h.append (.cons k v t .nil)
theorem KvAre.flat {kvs : List (Int × Value)} {M : List (Int × Int)} (h : KvAre kvs M) : PyProof.V.FlatPairs PyData.int kvs (M.map fun p => (PyData.int p.1, PyData.int p.2)) := by
  induction h with
  | nil => exact .nil
  | cons a b t _ ih => exact .cons (PyProof.V.Flat.int _ _) ih
theorem KvAre.length {kvs : List (Int × Value)} {M : List (Int × Int)} (h : KvAre kvs M) : kvs.length = M.length := by
  induction h with
  | nil => rfl
  | cons a b t _ ih => simp [ih]
theorem putM_length (M : List (Int × Int)) (k v : Int) : (putM M k v).length ≤ M.length + 1 := by
  unfold putM; split <;> simp

section
variable {prog : Program} {w : World} {A : Around} {E : Value → Shared → Prop} {s : Shared} {h₀ : Heap} {L d : Addr} {m : Str → Option Value} {news : List (Addr × Obj)} {g : Obj → List (Addr × Obj)} {o : Obj} {kvs : List (Int × Value)} {M : List (Int × Int)} {k v : Int} {t u : Tok}
theorem get_kv {Q : Value → Shared → Prop} (N : News h₀ L s.heap news) (hp : (d, o) ∈ news) (hd : o.IsDictOf (intKind prog w) kvs) (lo : (d == sysModules) = false) (hk : KvAre kvs M)
    (h : ∀ t, Q (.int ((getM M k).getD v) t) { s with toks := s.toks + 1 }) : wpAny (model prog w) A (call (.builtin "dict.get") [.ref d, .int k t, .int v u]) Q E s := by
  cases e : getM M k with
  | none => refine kdg_get2 N hp hd lo (intKind_is _ _ _ _) none (hk.get_none k e) ?_; have := h u; rw [e] at this; exact this
  | some x =>
    obtain ⟨t', ht⟩ := hk.get_some k e
    refine kdg_get2 N hp hd lo (intKind_is _ _ _ _) _ ht ?_
    have := h t'; rw [e] at this; exact this
theorem set_kv {Q : Unit → Shared → Prop} (F : Fr h₀ L s.heap m) (N : News h₀ L s.heap news) (U : UpdF d o news g) (hd : o.IsDictOf (intKind prog w) kvs) (hk : KvAre kvs M) (hsz : M.length ≤ 10000)
    (h : ∀ h' o' kvs', Fr h₀ L h' m → News h₀ L h' (g o') → o'.IsDictOf (intKind prog w) kvs' → KvAre kvs' (putM M k v) → Q () { s with heap := h', toks := s.toks + 1 }) : wpAny (model prog w) A (setItem (.ref d) (.int k t) (.int v u)) Q E s :=
  kda_set F N U hd (intKind_is _ _ _ _) (by rw [hk.length, sizeLine_eq]; omega) fun h' o' F' N' hd' => h h' o' _ F' N' hd' (hk.put k v u)
end

/-- down along the chain of the places before, till one is ahead of a place -/
def dn (bs : List Int) (place : Int) : Nat → Int → Int
  | 0, o => o
  | f + 1, o => if place ≤ o then dn bs place f (bs.getD o.toNat 0) else o
def Wf (bs : List Int) : Prop := ∀ i : Nat, i < bs.length → -1 ≤ bs.getD i 0 ∧ bs.getD i 0 < (i : Int)
theorem Wf.at {bs : List Int} (h : Wf bs) {o : Int} (h0 : 0 ≤ o) (h1 : o < bs.length) : -1 ≤ bs.getD o.toNat 0 ∧ bs.getD o.toNat 0 < o := by
  have := h o.toNat (by omega)
  omega
theorem dn_fuel {bs : List Int} {place : Int} (h : Wf bs) (hp : 0 ≤ place) : ∀ (f g : Nat) (o : Int), -1 ≤ o → o < bs.length → (o + 1).toNat ≤ f → (o + 1).toNat ≤ g → dn bs place f o = dn bs place g o
  | 0, 0, _, _, _, _, _ => rfl
  | 0, g + 1, o, h0, _, h2, _ => by
    have : ¬ place ≤ o := by omega
    simp only [dn, if_neg this]
  | f + 1, 0, o, h0, _, _, h3 => by
    have : ¬ place ≤ o := by omega
    simp only [dn, if_neg this]
  | f + 1, g + 1, o, h0, h1, h2, h3 => by
    by_cases c : place ≤ o
    · simp only [dn, if_pos c]
      have q := h.at (o := o) (by omega) h1
      exact dn_fuel h hp f g _ q.1 (by omega) (by omega) (by omega)
    · simp only [dn, if_neg c]
theorem dn_stop {bs : List Int} {place o : Int} (f : Nat) (h : ¬ place ≤ o) : dn bs place f o = o := by
  cases f with
  | zero => rfl
  | succ f => simp only [dn, if_neg h]
theorem dn_step {bs : List Int} {place o : Int} (h : Wf bs) (hp : 0 ≤ place) (hc : place ≤ o) (h1 : o < bs.length) : dn bs place bs.length o = dn bs place bs.length (bs.getD o.toNat 0) := by
  have q := h.at (o := o) (by omega) h1
  rw [dn_fuel h hp bs.length (bs.length + 1) o (by omega) h1 (by omega) (by omega)]
  simp only [dn, if_pos hc]

/-- the number of some octets, the first one highest -/
def num (l : List Int) : Int := l.foldl (fun a k => a * 256 + k) 0
/-- the octets from a place on, so many -/
def cut (ks : List Int) (p n : Nat) : List Int := (ks.drop p).take n

/-- the latest of the entered places ahead of one that has its number -/
def nwF (bs ks : List Int) (M : List (Int × Int)) (size place : Int) : Int := if (ks.length : Int) < place + size then -1 else dn bs place bs.length ((getM M (num (cut ks place.toNat size.toNat))).getD (-1))
/-- the places along the chain from one on, not below a bound, so many at most -/
def walkC (bs : List Int) (lo : Int) : Nat → Int → List Int
  | 0, _ => []
  | c + 1, o => if o ≠ -1 ∧ lo ≤ o then o :: walkC bs lo c (bs.getD o.toNat 0) else []

abbrev finD (text : Array UInt8) (size window chain ahead : Int) (r : Addr) (a1 a2 a3 a4 a5 a6 : Int) (t1 t2 t3 t4 t5 t6 u1 u2 u3 u4 u5 : Tok) (n : Nat) : Obj :=
  dictOf [⟨a1, .str (Str.ofString "octets") t1, .bytes text u1⟩, ⟨a2, .str (Str.ofString "least") t2, .int size u2⟩, ⟨a3, .str (Str.ofString "window") t3, .int window u3⟩, ⟨a4, .str (Str.ofString "chain") t4, .int chain u4⟩, ⟨a5, .str (Str.ofString "ahead") t5, .int ahead u5⟩, ⟨a6, .str (Str.ofString "row") t6, .ref r⟩] n

def AllNe (d : Nat) : List (Addr × Obj) → Prop
  | [] => True
  | p :: r => @Ne Nat p.1 d ∧ AllNe d r
theorem allNe_of {d : Addr} : ∀ {l : List (Addr × Obj)}, (∀ p ∈ l, p.1 ≠ d) → AllNe d l
  | [], _ => trivial
  | p :: _, h => ⟨h p (.head _), allNe_of fun q hq => h q (.tail _ hq)⟩
theorem ne_of_fresh {h₀ h : Heap} {L d : Addr} {news : List (Addr × Obj)} (N : News h₀ L h news) (hf : h.get? d = none) : ∀ p ∈ news, p.1 ≠ d := fun p hp e => by
  have := (N p hp).1
  rw [e, hf] at this; cases this

theorem clip_le {k n : Nat} (h : k ≤ n) : clipAt n (k : Int) = k := by
  rw [clipAt_nat]; omega
theorem clip_int {k : Int} {n : Nat} (h0 : 0 ≤ k) (h : k ≤ n) : clipAt n k = k.toNat := by
  obtain ⟨j, rfl⟩ := Int.eq_ofNat_of_zero_le h0
  rw [clip_le (by omega)]; rfl

abbrev boxObj (d : Int) (t : Tok) (st : Int) (u : Tok) (n : Nat) : Obj := listOf [Value.int d t, Value.int st u].toArray n

/-! A member of a written list by its place, in one step. -/
section
variable {α : Type} {x a1 a2 a3 a4 a5 a6 a7 a8 a9 a10 : α} {l : List α}
theorem mem1 : x ∈ a1 :: x :: l := List.Mem.tail _ (List.Mem.head _)
theorem mem2 : x ∈ a1 :: a2 :: x :: l := List.Mem.tail _ (List.Mem.tail _ (List.Mem.head _))
theorem mem3 : x ∈ a1 :: a2 :: a3 :: x :: l := List.Mem.tail _ (List.Mem.tail _ (List.Mem.tail _ (List.Mem.head _)))
theorem mem4 : x ∈ a1 :: a2 :: a3 :: a4 :: x :: l := List.Mem.tail _ (List.Mem.tail _ (List.Mem.tail _ (List.Mem.tail _ (List.Mem.head _))))
theorem mem5 : x ∈ a1 :: a2 :: a3 :: a4 :: a5 :: x :: l := List.Mem.tail _ (List.Mem.tail _ (List.Mem.tail _ (List.Mem.tail _ (List.Mem.tail _ (List.Mem.head _)))))
theorem mem6 : x ∈ a1 :: a2 :: a3 :: a4 :: a5 :: a6 :: x :: l := List.Mem.tail _ (List.Mem.tail _ (List.Mem.tail _ (List.Mem.tail _ (List.Mem.tail _ (List.Mem.tail _ (List.Mem.head _))))))
theorem mem7 : x ∈ a1 :: a2 :: a3 :: a4 :: a5 :: a6 :: a7 :: x :: l := List.Mem.tail _ (List.Mem.tail _ (List.Mem.tail _ (List.Mem.tail _ (List.Mem.tail _ (List.Mem.tail _ (List.Mem.tail _ (List.Mem.head _)))))))
theorem mem8 : x ∈ a1 :: a2 :: a3 :: a4 :: a5 :: a6 :: a7 :: a8 :: x :: l := List.Mem.tail _ (List.Mem.tail _ (List.Mem.tail _ (List.Mem.tail _ (List.Mem.tail _ (List.Mem.tail _ (List.Mem.tail _ (List.Mem.tail _ (List.Mem.head _))))))))
theorem mem9 : x ∈ a1 :: a2 :: a3 :: a4 :: a5 :: a6 :: a7 :: a8 :: a9 :: x :: l := List.Mem.tail _ (List.Mem.tail _ (List.Mem.tail _ (List.Mem.tail _ (List.Mem.tail _ (List.Mem.tail _ (List.Mem.tail _ (List.Mem.tail _ (List.Mem.tail _ (List.Mem.head _)))))))))
theorem mem_on (h : x ∈ l) : x ∈ a1 :: a2 :: a3 :: a4 :: a5 :: a6 :: a7 :: a8 :: a9 :: a10 :: l := List.Mem.tail _ (List.Mem.tail _ (List.Mem.tail _ (List.Mem.tail _ (List.Mem.tail _ (List.Mem.tail _ (List.Mem.tail _ (List.Mem.tail _ (List.Mem.tail _ (List.Mem.tail _ (h))))))))))
end
/-! Addresses apart: the facts stay whole (`∀ p ∈ news, p.1 < d`, Off3, Off1); each inequality is read off where it is asked. -/
section
variable {x y d I C D : Addr} {o : Obj} {r r' : List (Addr × Obj)}
theorem ne_lt (h : ∀ p ∈ r, p.1 < y) (m : (x, o) ∈ r) : @Ne Nat x y := Nat.ne_of_lt (h _ m)
theorem lt_in (h : ∀ p ∈ r, p.1 < y) (m : (x, o) ∈ r) : @LT.lt Nat _ x y := h _ m
theorem all_lt' (h : ∀ p ∈ r, p.1 < d) : ∀ p ∈ r, p.1 ≠ d := fun p hp => Nat.ne_of_lt (h p hp)
theorem cell1 (a : Addr) : @Ne Nat a (a + 1) := Nat.ne_of_lt (Nat.lt_add_right 0 (Nat.lt_succ_self a))
theorem cell2 (a : Addr) : @Ne Nat a (a + 1 + 1) := Nat.ne_of_lt (Nat.lt_add_right 1 (Nat.lt_succ_self a))
theorem cell3 (a : Addr) : @Ne Nat a (a + 1 + 1 + 1) := Nat.ne_of_lt (Nat.lt_add_right 2 (Nat.lt_succ_self a))
theorem cell4 (a : Addr) : @Ne Nat a (a + 1 + 1 + 1 + 1) := Nat.ne_of_lt (Nat.lt_add_right 3 (Nat.lt_succ_self a))
theorem cell5 (a : Addr) : @Ne Nat a (a + 1 + 1 + 1 + 1 + 1) := Nat.ne_of_lt (Nat.lt_add_right 4 (Nat.lt_succ_self a))
theorem ne_lt1 (h : ∀ p ∈ r, p.1 < y) (m : (x, o) ∈ r) : @Ne Nat x (y + 1) := Nat.ne_of_lt (Nat.lt_add_right 1 (h _ m))
theorem ne_lt2 (h : ∀ p ∈ r, p.1 < y) (m : (x, o) ∈ r) : @Ne Nat x (y + 1 + 1) := Nat.ne_of_lt (Nat.lt_add_right 2 (h _ m))
theorem ne_lt3 (h : ∀ p ∈ r, p.1 < y) (m : (x, o) ∈ r) : @Ne Nat x (y + 1 + 1 + 1) := Nat.ne_of_lt (Nat.lt_add_right 3 (h _ m))
theorem ne_lt4 (h : ∀ p ∈ r, p.1 < y) (m : (x, o) ∈ r) : @Ne Nat x (y + 1 + 1 + 1 + 1) := Nat.ne_of_lt (Nat.lt_add_right 4 (h _ m))
theorem ne_lt5 (h : ∀ p ∈ r, p.1 < y) (m : (x, o) ∈ r) : @Ne Nat x (y + 1 + 1 + 1 + 1 + 1) := Nat.ne_of_lt (Nat.lt_add_right 5 (h _ m))
theorem ne_lt6 (h : ∀ p ∈ r, p.1 < y) (m : (x, o) ∈ r) : @Ne Nat x (y + 1 + 1 + 1 + 1 + 1 + 1) := Nat.ne_of_lt (Nat.lt_add_right 6 (h _ m))
theorem ne_ltt {z : Addr} (h2 : @LT.lt Nat _ z y) (h : ∀ p ∈ r, p.1 < z) (m : (x, o) ∈ r) : @Ne Nat x y := Nat.ne_of_lt (Nat.lt_trans (h _ m) h2)
theorem ne_all (h : ∀ p ∈ r, p.1 ≠ y) (m : (x, o) ∈ r) : @Ne Nat x y := h _ m
theorem off1_mem : ∀ {r : List (Addr × Obj)}, LCg.Off1 d r → ∀ p ∈ r, p.1 ≠ d
  | [], _, _, h => nomatch h
  | _ :: _, h, _, .head _ => h.1
  | _ :: _, h, _, .tail _ q => off1_mem h.2 _ q
theorem ne3a {P Q : Prop} (h : (@Ne Nat x y) ∧ P ∧ Q) : @Ne Nat x y := h.1
theorem ne3b {P Q : Prop} (h : P ∧ (@Ne Nat x y) ∧ Q) : @Ne Nat x y := h.2.1
theorem ne3c {P Q : Prop} (h : P ∧ Q ∧ (@Ne Nat x y)) : @Ne Nat x y := h.2.2
theorem ne_off1 (h : LCg.Off1 y r) (m : (x, o) ∈ r) : @Ne Nat x y := off1_mem h _ m
theorem ne_offI (h : LCg.Off3 y C D r) (m : (x, o) ∈ r) : @Ne Nat x y := (h.mem _ m).1
theorem ne_offC (h : LCg.Off3 I y D r) (m : (x, o) ∈ r) : @Ne Nat x y := (h.mem _ m).2.1
theorem ne_offD (h : LCg.Off3 I C y r) (m : (x, o) ∈ r) : @Ne Nat x y := (h.mem _ m).2.2
/-- the addresses of a ledger; twice, so that two ledgers are held against each other entry by entry -/
def nmA : List (Addr × Obj) → List Addr
  | [] => []
  | p :: r => p.1 :: nmA r
def nmB : List (Addr × Obj) → List Addr
  | [] => []
  | p :: r => p.1 :: nmB r
theorem nmA_mem {p : Addr × Obj} (h : p ∈ r) : p.1 ∈ nmA r := by
  induction r with
  | nil => cases h
  | cons q r ih =>
    unfold nmA
    rcases List.mem_cons.mp h with rfl | h
    · exact List.mem_cons_self
    · exact List.mem_cons_of_mem _ (ih h)
theorem nmB_mem {a : Addr} (h : a ∈ nmB r) : ∃ o, (a, o) ∈ r := by
  induction r with
  | nil => cases h
  | cons q r ih =>
    unfold nmB at h
    rcases List.mem_cons.mp h with e | h
    · exact ⟨q.2, by rw [e]; exact List.mem_cons_self⟩
    · obtain ⟨o, h⟩ := ih h; exact ⟨o, List.mem_cons_of_mem _ h⟩
theorem all_lt (h : ∀ p ∈ r', p.1 < d) (e : nmA r = nmB r') : ∀ p ∈ r, p.1 ≠ d := fun p hp => by
  obtain ⟨o, q⟩ := nmB_mem (e ▸ nmA_mem hp)
  exact Nat.ne_of_lt (h (p.1, o) q)
theorem all_ltt {z : Addr} (h2 : @LT.lt Nat _ z d) (h : ∀ p ∈ r', p.1 < z) (e : nmA r = nmB r') : ∀ p ∈ r, p.1 ≠ d := all_lt (fun p hp => Nat.lt_trans (h p hp) h2) e
theorem all_ne (h : ∀ p ∈ r', p.1 ≠ d) (e : nmA r = nmB r') : ∀ p ∈ r, p.1 ≠ d := fun p hp => by
  obtain ⟨o, q⟩ := nmB_mem (e ▸ nmA_mem hp)
  exact h (p.1, o) q
theorem all_off1 (h : LCg.Off1 d r') (e : nmA r = nmB r') : ∀ p ∈ r, p.1 ≠ d := all_ne (off1_mem h) e
theorem off3_all : ∀ {r : List (Addr × Obj)}, (∀ p ∈ r, p.1 ≠ I ∧ p.1 ≠ C ∧ p.1 ≠ D) → LCg.Off3 I C D r
  | [], _ => trivial
  | q :: _, h => ⟨h q List.mem_cons_self, off3_all fun p hp => h p (List.mem_cons_of_mem _ hp)⟩
theorem off3_same (h : LCg.Off3 I C D r') (e : nmA r = nmB r') : LCg.Off3 I C D r := off3_all fun p hp => by
  obtain ⟨o, q⟩ := nmB_mem (e ▸ nmA_mem hp)
  exact h.mem (p.1, o) q
end
local macro_rules | `(tactic| k_lt $h:ident) => `(tactic| skip)
theorem reg_01 : True := by
  k_with "k_mem" => first | exact List.Mem.head _ | (with_reducible exact mem1) | (with_reducible exact mem2) | (with_reducible exact mem3) | (with_reducible exact mem4) | (with_reducible exact mem5) | (with_reducible exact mem6) | (with_reducible exact mem7) | (with_reducible exact mem8) | (with_reducible exact mem9) | (with_reducible refine mem_on ?_; k_mem)
  k_with "execs cons" => (k_here; (try k_gentoks); (with_reducible refine wpAny_execs_cons ?_); (try dsimp only); k_fold)
  k_with "M lt" => first | (with_reducible assumption) | exact lt_in (by with_reducible assumption) (by k_mem) | omega
  k_with "M fact" => first | exact cell1 _ | exact cell2 _ | exact cell3 _ | exact cell4 _ | exact cell5 _ | exact ne_lt (by with_reducible assumption) (by k_mem) | exact ne_all (by with_reducible assumption) (by k_mem) | exact ne_off1 (by with_reducible assumption) (by k_mem) | exact ne_offI (by with_reducible assumption) (by k_mem) | exact ne_offC (by with_reducible assumption) (by k_mem) | exact ne_offD (by with_reducible assumption) (by k_mem) | exact ne_lt1 (by with_reducible assumption) (by k_mem) | exact ne_lt2 (by with_reducible assumption) (by k_mem) | exact ne_lt3 (by with_reducible assumption) (by k_mem) | exact ne_lt4 (by with_reducible assumption) (by k_mem) | exact ne_lt5 (by with_reducible assumption) (by k_mem) | exact ne_lt6 (by with_reducible assumption) (by k_mem) | exact ne_ltt (by with_reducible assumption) (by with_reducible assumption) (by k_mem)
  k_with "k_ne" => (refine neN ?_; (try dsimp only); (fail_if_success (with_reducible refine (ne_self_iff_false _).mpr ?_)); first | (with_reducible assumption) | (refine Nat.ne_of_gt ?_; with_reducible assumption) | (refine Nat.ne_of_lt ?_; with_reducible assumption) | (refine Ne.symm ?_; with_reducible assumption) | k_extra "M fact" | (refine Ne.symm ?_; k_extra "M fact") | exact ne3a (by with_reducible assumption) | exact ne3b (by with_reducible assumption) | exact ne3c (by with_reducible assumption) | (refine Ne.symm ?_; first | exact ne3a (by with_reducible assumption) | exact ne3b (by with_reducible assumption) | exact ne3c (by with_reducible assumption)) | (trace "KNE FALLS"; trace_state; omega))
  k_with "k_all" => first | exact all_lt' (by with_reducible assumption) | exact all_lt (by with_reducible assumption) rfl | exact all_ne (by with_reducible assumption) rfl | exact all_off1 (by with_reducible assumption) rfl | exact all_ltt (by with_reducible assumption) (by with_reducible assumption) rfl | exact List.forall_mem_nil _ | (refine' List.forall_mem_cons.mpr ⟨?a, ?b⟩; (case a => k_extra "k_ne"); (case b => k_extra "k_all"))
  k_with "M enter" => k_dflt (refine' enter_def ?k1 ?k2 ?k3 ?k4 ?k5 ?kA ?kF ?kK ?k6 ?k7 ?k8 ?k9 ?kB ?_ ?c2 ?c3 ?c4 ?c5; (case kA => exact rfl); (case kF => exact rfl); (case kK => assumption); (case k1 => k_asm); (case k2 => k_asm); (case k3 => k_asm); (case k4 => k_asm); (case k5 => k_asm); (case k6 => k_is); (case k7 => k_is); (case k8 => (refine Nat.lt_of_le_of_lt (by assumption) ?_; decide)); (case k9 => exact BindsTo.of_eq rfl); (case c5 => decide); (case kB => exact locs rfl); (case c2 => exact rfl); (case c3 => exact rfl); (case c4 => exact rfl); k_whole)
  k_with "LeaveX" => (refine leaveX_ (by k_asm) (by k_asm) ?_; intro kF kE kN kf; try dsimp only)
  k_with "M room" => first | omega | ((try simp only [depth_under_make, depth_under_kw, depth_in1, depth_deeper, depth_caller, units_in1, units_deeper, Around.mark_units, units_caller]); (try dsimp only [ktrTop]); omega) | decide
  k_with "call builtin:dict.get" => (k_here; (with_reducible show wpAny _ _ (call (Value.builtin "dict.get") [Value.ref _, Value.int _ _, Value.int _ _]) _ _ _); k_dflt (refine' get_kv ?k1 ?k2 ?k3 ?k4 ?k5 ?_; (case k1 => k_asm); (case k2 => k_mem); (case k3 => k_asm); (case k4 => k_asm); (case k5 => k_asm); k_whole); intro t9)
  k_with "setItem ref int" => (k_here; (with_reducible show wpAny _ _ (setItem (Value.ref _) (Value.int _ _) (Value.int _ _)) _ _ _); k_dflt (refine' set_kv ?k1 ?k2 ?k3 ?k4 ?k5 ?k6 ?_; (case k1 => k_asm); (case k2 => k_asm); (case k3 => k_updF); (case k4 => k_asm); (case k5 => k_asm); (case k6 => omega); k_whole); intro h9 o9 kvs9 F9 N9 d9 kv9; (try dsimp only at N9); (try k_sweep))
  k_with "setItem ref int" => (k_here; (with_reducible show wpAny _ _ (setItem (Value.ref _) (Value.int _ _) (Value.int _ _)) _ _ _); k_dflt (refine' ksa_set ?k1 ?k2 ?k3 ?k4 ?k5 ?k6 ?k7 ?_; (case k1 => k_asm); (case k2 => k_asm); (case k3 => k_upd); (case k4 => with_reducible assumption); (case k5 => omega); (case k6 => omega); (case k7 => omega); k_whole); intro h9 F9 N9 i9 l9 s9; clear s9; (try k_sweep))
  k_with "getItem ref int" => (k_here; (with_reducible show wpAny _ _ (getItem (Value.ref _) (Value.int _ _)) _ _ _); k_dflt (refine' ksa_get ?k1 ?k2 ?k3 ?k4 ?k5 ?k6 ?_; (case k1 => k_asm); (case k2 => k_mem); (case k3 => with_reducible assumption); (case k4 => omega); (case k5 => omega); (case k6 => omega); k_whole); intro _)
  k_with "subscriptTail" => (k_here; (with_reducible show wpAny _ _ (subscriptTail _ _ (Value.ref _) (Value.int _ _)) _ _ _); k_dflt (refine' ksa_sub ?k1 ?k2 ?k3 ?k4 ?k5 ?k6 ?_ ?k7; (case k1 => k_asm); (case k2 => k_mem); (case k3 => with_reducible assumption); (case k4 => omega); (case k5 => omega); (case k6 => omega); (case k7 => with_unfolding_all rfl); k_whole); intro _)
  k_with "KswEnd" => refine Park.h ?_
  k_with "M kend2" => (refine Park.mk ?_; (rename News _ _ _ _ => nE'); (try simp only [List.push_toArray] at nE'); refine ksw_end ⟨_, _⟩ (by assumption) nE' (by kst_in) (by kst_facts) (by kst_all) (by ksw_same) ?_ ?_)
  k_with "k_room" => (refine Nat.lt_of_le_of_lt (m := 990) ?_ (by decide); k_extra "M room")
  k_with "M units" => ((have hcL9 := cLine_is); (try simp only [units_in1, units_deeper, Around.mark_units, units_caller]); (try dsimp only [ktrTop]); (try dsimp only [Around.deeper]); omega)
  k_with "k_units" => walk_at "M units"
  k_with "M kend5" => (refine Park.mk ?_; (rename News _ _ _ _ => nE'); (try simp only [List.push_toArray] at nE'); refine ksw_end ⟨_, _, _, _, _⟩ (by assumption) nE' (by kst_in) (by kst_facts) (by kst_all) (by ksw_same) ?_ ?_)
  trivial
section
variable {w : World} {p : Program} {loose : List Str} {mean : ExcName → Option Value} {mg mb : Str → Option Value} {dp un : Nat} {gd : Option (List Code)} {cn : Str} {cs : Scope} {L a : Addr} {ccd : Value} {cl : List (Str × Addr)} {outer : List Env} {A₀ : Around} {base h₀ : Heap} {m : Str → Option Value} {s : Shared} {Q E : Value → Shared → Prop}

theorem take_call {box : Addr} {d st many : Int} {t u v : Tok} {n : Nat} (S : Site w p loose mean mg mb dp un cs outer A₀ base h₀ L s.heap m)
    (N : News h₀ L s.heap [(box, boxObj d t st u n)]) (h1 : 0 ≤ st) (h2 : st < 2 ^ 31) (h3 : 0 < many) (h4 : many < 1000)
    (ret : ∀ r t' d' u1 st' u2 h' tk', 0 ≤ r → r < many → 0 ≤ st' → st' < 2 ^ 31 → Ext [box] s.heap h' → News h₀ L h' [(box, boxObj d' u1 st' u2 n)] → Q (.int r t') { s with heap := h', toks := tk' }) :
    wpAny (model Challenge.rw_tk0118_01.row.prog w) (ktrTop dp un gd cn cs L a ccd cl outer) (call (.ref 242) [.ref box, .int many v]) Q E s := by
  obtain ⟨B, F, X, T, hk, hdp, hun⟩ := S
  revert X; k_fill; intro X
  refine wpAny_call ?_
  k_extra "M enter"
  intro g L' h₁ F' N' B' X' T'
  dsimp only
  k_fold
  k_steps
  · skip
    refine ret _ _ _ _ _ _ _ _ ?_ ?_ h1 h2 kE kN
    · rw [Int.fmod_eq_emod_of_nonneg _ (by omega)]; exact Int.emod_nonneg _ (by omega)
    · rw [Int.fmod_eq_emod_of_nonneg _ (by omega)]; exact Int.emod_lt_of_pos _ h3
  · skip
    refine ret _ _ _ _ _ _ _ _ ?_ ?_ ?_ ?_ kE kN
    · rw [Int.fmod_eq_emod_of_nonneg _ (by omega)]; exact Int.emod_nonneg _ (by omega)
    · rw [Int.fmod_eq_emod_of_nonneg _ (by omega)]; exact Int.emod_lt_of_pos _ h3
    · rw [Int.fmod_eq_emod_of_nonneg _ (by omega)]; exact Int.emod_nonneg _ (by omega)
    · rw [Int.fmod_eq_emod_of_nonneg _ (by omega)]; exact Int.lt_of_lt_of_le (Int.emod_lt_of_pos _ (by omega)) (by omega)

theorem take_K {box : Addr} {d st many : Int} {t u v : Tok} {n : Nat} {news : List (Addr × Obj)} {f : Obj → List (Addr × Obj)} (B : Below A₀ base outer h₀) (F : Fr h₀ L s.heap m) (X : (hd.heap_1 w.params).In h₀) (T : Top p loose mean mg mb h₀) (hk : cs.kind = .function) (hdp : dp ≤ 900) (hun : un ≤ 5000)
    (N : News h₀ L s.heap news) (U : ∀ o', Upd box (boxObj d t st u n) o' news (f o')) (h1 : 0 ≤ st) (h2 : st < 2 ^ 31) (h3 : 0 < many) (h4 : many < 1000)
    (ret : ∀ r t' d' u1 st' u2 h' tk', 0 ≤ r → r < many → 0 ≤ st' → st' < 2 ^ 31 → Fr h₀ L h' m → News h₀ L h' (f (boxObj d' u1 st' u2 n)) → Q (.int r t') { s with heap := h', toks := tk' }) :
    wpAny (model Challenge.rw_tk0118_01.row.prog w) (ktrTop dp un gd cn cs L a ccd cl outer) (call (.ref 242) [.ref box, .int many v]) Q E s := by
  have hm := upd_mem (U (boxObj d t st u n))
  refine take_call ⟨B, F, X, T, hk, hdp, hun⟩ (news_one N hm) h1 h2 h3 h4 fun r t' d' u1 st' u2 h' tk' a1 a2 a3 a4 e n' => ?_
  exact ret r t' d' u1 st' u2 h' tk' a1 a2 a3 a4 (e.fr F (by simpa using Ne.symm (N _ hm).2.1) (by simpa using (N _ hm).2.2)) (news_upd N (U _) e (n' _ (.head _)).1)
end
theorem reg_02 : True := by
  k_with "call ref" => (k_here; (with_reducible show wpAny _ _ (call (Value.ref 242) _) _ _ _); k_dflt (refine' take_K ?k1 ?k2 ?k3 ?k4 ?k5 ?k6 ?k7 ?k8 ?k9 ?a1 ?a2 ?a3 ?a4 ?_; (case k1 => k_asm); (case k2 => k_asm); (case k3 => k_asm); (case k4 => k_asm); (case k5 => first | exact rfl | assumption); (case k6 => k_extra "M room"); (case k7 => k_extra "M room"); (case k8 => k_asm); (case k9 => (intro o9; k_upd)); (case a1 => first | (with_reducible assumption) | omega); (case a2 => first | (with_reducible assumption) | omega); (case a3 => first | (with_reducible assumption) | omega); (case a4 => first | (with_reducible assumption) | omega); k_whole); intro r9 t9 d9 u9 e9 v9 h9 k9 ra9 rb9 sa9 sb9 F9 N9; (try dsimp only at N9); (try k_sweep))
  trivial

theorem loc_03_1 : True := by
  k_with "exec For Name Subscript cons nil" => (k_here; (rename Fr _ _ _ _ => lF'); (with_unfolding_all refine' For_invVF lF' ?k1 ?k2 ?_; (case k1 => exact rfl); (case k2 => exact rfl); k_whole))
  trivial
section
variable {w : World} {p : Program} {loose : List Str} {mean : ExcName → Option Value} {mg mb : Str → Option Value} {dp un : Nat} {gd : Option (List Code)} {cn : Str} {cs : Scope} {L a : Addr} {ccd : Value} {cl : List (Str × Addr)} {outer : List Env} {A₀ : Around} {base h₀ : Heap} {m : Str → Option Value} {s : Shared} {Q E : Value → Shared → Prop}
variable {r dx la be : Addr} {text : Array UInt8} {ks : List Int} {size : Int} {a1 a2 a3 a4 : Int} {t1 t2 t3 t4 t5 t6 : Tok} {n : Nat}

theorem key_call {place : Int} {v : Tok} (S : Site w p loose mean mg mb dp un cs outer A₀ base h₀ L s.heap m)
    (N : News h₀ L s.heap [(r, instObj 92 dx), (dx, rowD text size la be a1 a2 a3 a4 t1 t2 t3 t4 t5 t6 n)]) (h1 : 0 ≤ place) (hks : KBw.bInts text = ks) (h2 : place ≤ ks.length) (h3 : ks.length ≤ 1000) (h4 : 0 < size) (h5 : size ≤ 5)
    (ret0 : ks.length < place + size → ∀ h' tk', Ext [] s.heap h' → Q .none { s with heap := h', toks := tk' })
    (ret1 : ¬ ks.length < place + size → ∀ t h' tk', Ext [] s.heap h' → Q (.int (num (cut ks place.toNat size.toNat)) t) { s with heap := h', toks := tk' }) :
    wpAny (model Challenge.rw_tk0118_01.row.prog w) (ktrTop dp un gd cn cs L a ccd cl outer) (call (.ref 75) [.ref r, .int place v]) Q E s := by
  obtain ⟨B, F, X, T, hk, hdp, hun⟩ := S
  revert X; k_fill; intro X
  refine wpAny_call ?_
  k_extra "M enter"
  intro g L' h₁ F' N' B' X' T'
  dsimp only
  k_fold
  k_steps
  · skip
    exact ret0 (by assumption) _ _ (ext_nil N kN kE)
  · skip
    have e : List.take (clipAt ks.length (place + size) - clipAt ks.length place) (List.drop (clipAt ks.length place) ks) = cut ks place.toNat size.toNat := by
      rw [clip_int (k := place + size) (by omega) (by omega), clip_int h1 (by omega)]
      unfold cut
      rw [Int.toNat_add h1 (Int.le_of_lt h4), Nat.add_sub_cancel_left]
    rw [e]
    exact ret1 (by assumption) _ _ _ (ext_nil N kN kE)

theorem key_K {place : Int} {v : Tok} {news : List (Addr × Obj)} (B : Below A₀ base outer h₀) (F : Fr h₀ L s.heap m) (X : (hd.heap_1 w.params).In h₀) (T : Top p loose mean mg mb h₀) (hk : cs.kind = .function) (hdp : dp ≤ 900) (hun : un ≤ 5000)
    (N : News h₀ L s.heap news) (m1 : (r, instObj 92 dx) ∈ news) (m2 : (dx, rowD text size la be a1 a2 a3 a4 t1 t2 t3 t4 t5 t6 n) ∈ news) (h1 : 0 ≤ place) (hks : KBw.bInts text = ks) (h2 : place ≤ ks.length) (h3 : ks.length ≤ 1000) (h4 : 0 < size) (h5 : size ≤ 5)
    (ret0 : ks.length < place + size → ∀ h' tk', Fr h₀ L h' m → News h₀ L h' news → Q .none { s with heap := h', toks := tk' })
    (ret1 : ¬ ks.length < place + size → ∀ t h' tk', Fr h₀ L h' m → News h₀ L h' news → Q (.int (num (cut ks place.toNat size.toNat)) t) { s with heap := h', toks := tk' }) :
    wpAny (model Challenge.rw_tk0118_01.row.prog w) (ktrTop dp un gd cn cs L a ccd cl outer) (call (.ref 75) [.ref r, .int place v]) Q E s :=
  key_call ⟨B, F, X, T, hk, hdp, hun⟩ (news_sub N (sub_two m1 m2)) h1 hks h2 h3 h4 h5 (fun c h' tk' x => ret0 c h' tk' (ext_nil_fr x F) (ext_nil_news x N)) (fun c t h' tk' x => ret1 c t h' tk' (ext_nil_fr x F) (ext_nil_news x N))
end
theorem reg_03 : True := by
  k_with "call ref" => (k_here; (with_reducible show wpAny _ _ (call (Value.ref 75) _) _ _ _); k_dflt (refine' key_K ?k1 ?k2 ?k3 ?k4 ?k5 ?k6 ?k7 ?k8 ?m1 ?m2 ?a1 ?a2 ?a3 ?a4 ?a5 ?a6 (fun c9 h9 k9 F9 N9 => ?_) (fun c9 t9 h9 k9 F9 N9 => ?_); (case k1 => k_asm); (case k2 => k_asm); (case k3 => k_asm); (case k4 => k_asm); (case k5 => first | exact rfl | assumption); (case k6 => k_extra "M room"); (case k7 => k_extra "M room"); (case k8 => k_asm); (case m1 => k_mem); (case m2 => k_mem); (case a1 => first | (with_reducible assumption) | omega); (case a2 => assumption); (case a3 => first | (with_reducible assumption) | omega); (case a4 => first | (with_reducible assumption) | omega); (case a5 => first | (with_reducible assumption) | omega); (case a6 => first | (with_reducible assumption) | omega)); (all_goals (try k_sweep)))
  trivial
section
variable {w : World} {p : Program} {loose : List Str} {mean : ExcName → Option Value} {mg mb : Str → Option Value} {dp un : Nat} {gd : Option (List Code)} {cn : Str} {cs : Scope} {L a : Addr} {ccd : Value} {cl : List (Str × Addr)} {outer : List Env} {A₀ : Around} {base h₀ : Heap} {m : Str → Option Value} {s : Shared} {Q E : Value → Shared → Prop}
variable {r dx la be : Addr} {text : Array UInt8} {ks : List Int} {size : Int} {a1 a2 a3 a4 : Int} {t1 t2 t3 t4 t5 t6 : Tok} {n nb : Nat} {ola : Obj} {kvs : List (Int × Value)} {M : List (Int × Int)} {vs : List Value} {bs : List Int}

theorem put_call {place : Int} {v : Tok} (S : Site w p loose mean mg mb dp un cs outer A₀ base h₀ L s.heap m) (hdp' : dp ≤ 880) (hun' : un ≤ 4900)
    (N : News h₀ L s.heap [(r, instObj 92 dx), (dx, rowD text size la be a1 a2 a3 a4 t1 t2 t3 t4 t5 t6 n), (la, ola), (be, listOf vs.toArray nb)]) (h1 : 0 ≤ place) (hks : KBw.bInts text = ks) (h2 : place < ks.length) (h3 : ks.length ≤ 1000) (h4 : 0 < size) (h5 : size ≤ 5)
    (hd : ola.IsDictOf (intKind Challenge.rw_tk0118_01.row.prog w) kvs) (hkv : KvAre kvs M) (hM : M.length ≤ 1000) (lo : (la == sysModules) = false) (hi : IntsAre vs bs) (hbl : bs.length = ks.length)
    (n1 : @Ne Nat la r) (n2 : @Ne Nat la dx) (n3 : @Ne Nat la be) (n4 : @Ne Nat be r) (n5 : @Ne Nat be dx)
    (ret0 : ks.length < place + size → ∀ h' tk', Ext [] s.heap h' → Q .none { s with heap := h', toks := tk' })
    (ret1 : ¬ ks.length < place + size → ∀ h' tk' o' kvs' vs', Ext [la, be] s.heap h' → News h₀ L h' [(la, o'), (be, listOf vs'.toArray nb)] → o'.IsDictOf (intKind Challenge.rw_tk0118_01.row.prog w) kvs' → KvAre kvs' (putM M (num (cut ks place.toNat size.toNat)) place) →
      IntsAre vs' (bs.set place.toNat ((getM M (num (cut ks place.toNat size.toNat))).getD (-1))) → Q .none { s with heap := h', toks := tk' }) :
    wpAny (model Challenge.rw_tk0118_01.row.prog w) (ktrTop dp un gd cn cs L a ccd cl outer) (call (.ref 82) [.ref r, .int place v]) Q E s := by
  obtain ⟨B, F, X, T, hk, hdp, hun⟩ := S
  revert X; k_fill; intro X
  refine wpAny_call ?_
  k_extra "M enter"
  intro g L' h₁ F' N' B' X' T'
  dsimp only
  k_fold
  k_steps
  · skip
    exact ret0 (by assumption) _ _ (ext_nil N kN kE)
  · skip
    refine ret1 (by assumption) _ _ _ _ _ (ext_drop N kN kE ?_) (news_sub kN ?_) (by assumption) kv9 (by assumption)
    · intro p hp
      simp only [List.mem_cons, List.not_mem_nil, or_false] at hp ⊢
      rcases hp with rfl | rfl | rfl | rfl <;> simp
    · intro p hp
      simp only [List.mem_cons, List.not_mem_nil, or_false] at hp ⊢
      rcases hp with rfl | rfl <;> simp

theorem put_K {place : Int} {v : Tok} {news : List (Addr × Obj)} {f : Obj → List (Addr × Obj)} {fg : Obj → Obj → List (Addr × Obj)} (B : Below A₀ base outer h₀) (F : Fr h₀ L s.heap m) (X : (hd.heap_1 w.params).In h₀) (T : Top p loose mean mg mb h₀) (hk : cs.kind = .function) (hdp : dp ≤ 880) (hun : un ≤ 4900)
    (N : News h₀ L s.heap news) (m1 : (r, instObj 92 dx) ∈ news) (m2 : (dx, rowD text size la be a1 a2 a3 a4 t1 t2 t3 t4 t5 t6 n) ∈ news) (U : UpdF la ola news f) (V : ∀ o', UpdF be (listOf vs.toArray nb) (f o') (fg o'))
    (h1 : 0 ≤ place) (hks : KBw.bInts text = ks) (h2 : place < ks.length) (h3 : ks.length ≤ 1000) (h4 : 0 < size) (h5 : size ≤ 5)
    (hd : ola.IsDictOf (intKind Challenge.rw_tk0118_01.row.prog w) kvs) (hkv : KvAre kvs M) (hM : M.length ≤ 1000) (lo : (la == sysModules) = false) (hi : IntsAre vs bs) (hbl : bs.length = ks.length)
    (n1 : @Ne Nat la r) (n2 : @Ne Nat la dx) (n3 : @Ne Nat la be) (n4 : @Ne Nat be r) (n5 : @Ne Nat be dx)
    (ret0 : ks.length < place + size → ∀ h' tk', Fr h₀ L h' m → News h₀ L h' news → Q .none { s with heap := h', toks := tk' })
    (ret1 : ¬ ks.length < place + size → ∀ h' tk' o' kvs' vs', Fr h₀ L h' m → News h₀ L h' (fg o' (listOf vs'.toArray nb)) → o'.IsDictOf (intKind Challenge.rw_tk0118_01.row.prog w) kvs' → KvAre kvs' (putM M (num (cut ks place.toNat size.toNat)) place) →
      IntsAre vs' (bs.set place.toNat ((getM M (num (cut ks place.toNat size.toNat))).getD (-1))) → Q .none { s with heap := h', toks := tk' }) :
    wpAny (model Challenge.rw_tk0118_01.row.prog w) (ktrTop dp un gd cn cs L a ccd cl outer) (call (.ref 82) [.ref r, .int place v]) Q E s := by
  have y1 := updF_mem U
  have y2 := updF_mem2 U V n3
  refine put_call ⟨B, F, X, T, hk, by omega, by omega⟩ hdp hun (news_sub N (sub_four m1 m2 y1 y2)) h1 hks h2 h3 h4 h5 hd hkv hM lo hi hbl n1 n2 n3 n4 n5 (fun c h' tk' x => ret0 c h' tk' (ext_nil_fr x F) (ext_nil_news x N)) ?_
  intro c h' tk' o' kvs' vs' x n' d' k' i'
  refine ret1 c h' tk' o' kvs' vs' (x.fr F ?_ ?_) (news_updF2 N U V n3 x (n' _ (.head _)).1 (n' _ (.tail _ (.head _))).1) d' k' i'
  · simp only [List.mem_cons, List.not_mem_nil, or_false, not_or]
    exact ⟨Ne.symm (N _ y1).2.1, Ne.symm (N _ y2).2.1⟩
  · intro b hb
    simp only [List.mem_cons, List.not_mem_nil, or_false] at hb
    rcases hb with rfl | rfl
    · exact (N _ y1).2.2
    · exact (N _ y2).2.2
end
theorem reg_04 : True := by
  k_with "call ref" => (k_here; (with_reducible show wpAny _ _ (call (Value.ref 82) _) _ _ _); k_dflt (refine' put_K ?k1 ?k2 ?k3 ?k4 ?k5 ?k6 ?k7 ?k8 ?m1 ?m2 ?u1 ?u2 ?b1 ?b2 ?b3 ?b4 ?b5 ?b6 ?d1 ?d2 ?d3 ?d4 ?d5 ?d6 ?e1 ?e2 ?e3 ?e4 ?e5 (fun c9 h9 k9 F9 N9 => ?_) (fun c9 h9 k9 o9 kvs9 vs9 F9 N9 d9 kv9 i9 => ?_); (case k1 => k_asm); (case k2 => k_asm); (case k3 => k_asm); (case k4 => k_asm); (case k5 => first | exact rfl | assumption); (case k6 => k_extra "M room"); (case k7 => k_extra "M room"); (case k8 => k_asm); (case m1 => k_mem); (case m2 => k_mem); (case u1 => k_updF); (case u2 => (intro o9; k_updF)); (case b1 => first | (with_reducible assumption) | omega); (case b2 => assumption); (case b3 => first | (with_reducible assumption) | omega); (case b4 => first | (with_reducible assumption) | omega); (case b5 => first | (with_reducible assumption) | omega); (case b6 => first | (with_reducible assumption) | omega); (case d1 => k_asm); (case d2 => k_asm); (case d3 => first | (with_reducible assumption) | omega); (case d4 => k_asm); (case d5 => k_asm); (case d6 => first | assumption | omega); (case e1 => first | (with_reducible assumption) | omega); (case e2 => first | (with_reducible assumption) | omega); (case e3 => first | (with_reducible assumption) | omega); (case e4 => first | (with_reducible assumption) | omega); (case e5 => first | (with_reducible assumption) | omega)); (all_goals (first | k_extra "M nope" | (exfalso; omega) | ((try dsimp only at *); (try k_sweep)))))
  trivial
section
variable {w : World} {p : Program} {loose : List Str} {mean : ExcName → Option Value} {mg mb : Str → Option Value} {dp un : Nat} {gd : Option (List Code)} {cn : Str} {cs : Scope} {L a : Addr} {ccd : Value} {cl : List (Str × Addr)} {outer : List Env} {A₀ : Around} {base h₀ : Heap} {m : Str → Option Value} {s : Shared} {Q E : Value → Shared → Prop}
variable {r dx la be : Addr} {text : Array UInt8} {ks : List Int} {size : Int} {a1 a2 a3 a4 : Int} {t1 t2 t3 t4 t5 t6 : Tok} {n nb : Nat} {ola : Obj} {kvs : List (Int × Value)} {M : List (Int × Int)} {vs : List Value} {bs : List Int}

theorem newest_call {place : Int} {v : Tok} (S : Site w p loose mean mg mb dp un cs outer A₀ base h₀ L s.heap m) (hdp' : dp ≤ 880) (hun' : un ≤ 4900)
    (N : News h₀ L s.heap [(r, instObj 92 dx), (dx, rowD text size la be a1 a2 a3 a4 t1 t2 t3 t4 t5 t6 n), (la, ola), (be, listOf vs.toArray nb)]) (h1 : 0 ≤ place) (hks : KBw.bInts text = ks) (h2 : place ≤ ks.length) (h3 : ks.length ≤ 1000) (h4 : 0 < size) (h5 : size ≤ 5)
    (hd : ola.IsDictOf (intKind Challenge.rw_tk0118_01.row.prog w) kvs) (hkv : KvAre kvs M) (lo : (la == sysModules) = false) (hi : IntsAre vs bs) (hbl : bs.length = ks.length)
    (I : Int → Prop) (hI0 : ¬ ks.length < place + size → I ((getM M (num (cut ks place.toNat size.toNat))).getD (-1)) ∧ -1 ≤ (getM M (num (cut ks place.toNat size.toNat))).getD (-1) ∧ (getM M (num (cut ks place.toNat size.toNat))).getD (-1) < ks.length)
    (hI : ∀ o : Int, I o → 0 ≤ o → place ≤ o → o < ks.length → I (bs.getD o.toNat 0) ∧ -1 ≤ bs.getD o.toNat 0 ∧ bs.getD o.toNat 0 < o)
    (ret0 : ks.length < place + size → ∀ t h' tk', Ext [] s.heap h' → Q (.int (-1) t) { s with heap := h', toks := tk' })
    (ret1 : ¬ ks.length < place + size → ∀ o t h' tk', Ext [] s.heap h' → I o → -1 ≤ o → o < place → Q (.int o t) { s with heap := h', toks := tk' }) :
    wpAny (model Challenge.rw_tk0118_01.row.prog w) (ktrTop dp un gd cn cs L a ccd cl outer) (call (.ref 89) [.ref r, .int place v]) Q E s := by
  obtain ⟨B, F, X, T, hk, hdp, hun⟩ := S
  revert X; k_fill; intro X
  refine wpAny_call ?_
  k_extra "M enter"
  intro g L' h₁ F' N' B' X' T'
  dsimp only
  k_fold
  k_with "exec While Compare cons nil" => ((fail_if_success (k_extra "off_w05")); k_while (fun script o => I o ∧ -1 ≤ o ∧ o < ks.length) (fun script o => (o + 1).toNat) "other")
  k_steps
  k_with "off_w05" => skip
  · skip
    exact ret0 (by assumption) _ _ _ (ext_nil N kN kE)
  · k_extra "M kend2"
    · have q := hI _ ‹I _› (by omega) (by omega) (by omega)
      exact ⟨q.1, q.2.1, by dsimp only; omega⟩
    · have q := hI _ ‹I _› (by omega) (by omega) (by omega)
      dsimp only
      omega
  · skip
    exact ret1 (by assumption) _ _ _ _ (ext_nil N kN kE) (by assumption) (by assumption) (by omega)

theorem newest_K {place : Int} {v : Tok} {news : List (Addr × Obj)} (B : Below A₀ base outer h₀) (F : Fr h₀ L s.heap m) (X : (hd.heap_1 w.params).In h₀) (T : Top p loose mean mg mb h₀) (hk : cs.kind = .function) (hdp : dp ≤ 880) (hun : un ≤ 4900)
    (N : News h₀ L s.heap news) (m1 : (r, instObj 92 dx) ∈ news) (m2 : (dx, rowD text size la be a1 a2 a3 a4 t1 t2 t3 t4 t5 t6 n) ∈ news) (m3 : (la, ola) ∈ news) (m4 : (be, listOf vs.toArray nb) ∈ news)
    (h1 : 0 ≤ place) (hks : KBw.bInts text = ks) (h2 : place ≤ ks.length) (h3 : ks.length ≤ 1000) (h4 : 0 < size) (h5 : size ≤ 5)
    (hd : ola.IsDictOf (intKind Challenge.rw_tk0118_01.row.prog w) kvs) (hkv : KvAre kvs M) (lo : (la == sysModules) = false) (hi : IntsAre vs bs) (hbl : bs.length = ks.length) (hw : Wf bs) (hM : ∀ k v, getM M k = some v → 0 ≤ v ∧ v < bs.length)
    (ret : ∀ o t h' tk', o = nwF bs ks M size place → -1 ≤ o → o < place → Fr h₀ L h' m → News h₀ L h' news → Q (.int o t) { s with heap := h', toks := tk' }) :
    wpAny (model Challenge.rw_tk0118_01.row.prog w) (ktrTop dp un gd cn cs L a ccd cl outer) (call (.ref 89) [.ref r, .int place v]) Q E s := by
  have hb : ∀ k, -1 ≤ (getM M k).getD (-1) ∧ (getM M k).getD (-1) < bs.length := fun k => by
    cases e : getM M k with
    | none => simp only [Option.getD]; omega
    | some x => have := hM k x e; simp only [Option.getD]; omega
  refine newest_call ⟨B, F, X, T, hk, by omega, by omega⟩ hdp hun (news_sub N (sub_four m1 m2 m3 m4)) h1 hks h2 h3 h4 h5 hd hkv lo hi hbl
    (fun o => dn bs place bs.length o = dn bs place bs.length ((getM M (num (cut ks place.toNat size.toNat))).getD (-1))) (fun _ => ⟨rfl, (hb _).1, by have := (hb (num (cut ks place.toNat size.toNat))).2; omega⟩) (fun o ho h0 hc hl => ?_)
    (fun c t h' tk' x => ret (-1) t h' tk' (by unfold nwF; rw [if_pos c]) (by omega) (by omega) (ext_nil_fr x F) (ext_nil_news x N)) (fun c o t h' tk' x ho h0 hc => ?_)
  · have q := hw.at (o := o) h0 (by omega)
    exact ⟨by rw [← dn_step hw h1 hc (by omega)]; exact ho, q.1, q.2⟩
  · rw [dn_stop _ (by omega : ¬ place ≤ o)] at ho
    exact ret o t h' tk' (by unfold nwF; rw [if_neg c]; exact ho) h0 hc (ext_nil_fr x F) (ext_nil_news x N)
end
theorem reg_05 : True := by
  k_with "call ref" => (k_here; (with_reducible show wpAny _ _ (call (Value.ref 89) _) _ _ _); k_dflt (refine' newest_K ?k1 ?k2 ?k3 ?k4 ?k5 ?k6 ?k7 ?k8 ?m1 ?m2 ?m3 ?m4 ?b1 ?b2 ?b3 ?b4 ?b5 ?b6 ?d1 ?d2 ?d4 ?d5 ?d6 ?e1 ?e2 ?_; (case k1 => k_asm); (case k2 => k_asm); (case k3 => k_asm); (case k4 => k_asm); (case k5 => first | exact rfl | assumption); (case k6 => k_extra "M room"); (case k7 => k_extra "M room"); (case k8 => k_asm); (case m1 => k_mem); (case m2 => k_mem); (case m3 => k_mem); (case m4 => k_mem); (case b1 => first | (with_reducible assumption) | omega); (case b2 => assumption); (case b3 => first | (with_reducible assumption) | omega); (case b4 => first | (with_reducible assumption) | omega); (case b5 => first | (with_reducible assumption) | omega); (case b6 => first | (with_reducible assumption) | omega); (case d1 => k_asm); (case d2 => k_asm); (case d4 => k_asm); (case d5 => k_asm); (case d6 => first | assumption | omega); (case e1 => k_asm); (case e2 => k_asm); k_whole); intro o9 t9 h9 k9 oe9 oa9 ob9 F9 N9; (try k_sweep))
  trivial
theorem sub_six {α : Type} {a b c d e f : α} {l : List α} (h1 : a ∈ l) (h2 : b ∈ l) (h3 : c ∈ l) (h4 : d ∈ l) (h5 : e ∈ l) (h6 : f ∈ l) : ∀ p ∈ [a, b, c, d, e, f], p ∈ l := fun p hp => by
  simp only [List.mem_cons, List.not_mem_nil, or_false] at hp
  rcases hp with rfl | rfl | rfl | rfl | rfl | rfl <;> assumption
theorem news_cons {h₀ h h' : Heap} {L l : Addr} {o : Obj} {m : Str → Option Value} {news : List (Addr × Obj)} (x : Ext [] h h') (F : Fr h₀ L h m) (N : News h₀ L h news) (e : h'.get? l = some o) (hf : h.get? l = none) : News h₀ L h' ((l, o) :: news) := fun p hp => by
  rcases List.mem_cons.mp hp with rfl | hp
  · refine ⟨e, fun q => ?_, ?_⟩
    · obtain ⟨oL, _, _, hL, _⟩ := F.ns
      have q' : l = L := q
      rw [q', hL] at hf; cases hf
    · cases q : h₀.get? l with
      | none => rfl
      | some o => rw [F.keep _ _ q] at hf; cases hf
  · exact ext_nil_news x N p hp
theorem cand_turn {bs found total : List Int} {lo chain o : Int} (hw : Wf bs) (h1 : -1 ≤ o) (h2 : o < bs.length) (h3 : found ++ walkC bs lo (chain - found.length).toNat o = total) (c1 : ¬ o = -1) (c2 : lo ≤ o) (c3 : (found.length : Int) < chain) :
    -1 ≤ bs.getD o.toNat 0 ∧ bs.getD o.toNat 0 < bs.length ∧ (found ++ [o]) ++ walkC bs lo (chain - (found ++ [o]).length).toNat (bs.getD o.toNat 0) = total ∧ ((found ++ [o]).length : Int) ≤ chain := by
  have q := hw.at (o := o) (by omega) h2
  refine ⟨q.1, by omega, ?_, by simp only [List.length_append, List.length_cons, List.length_nil]; omega⟩
  have e : (chain - (found.length : Int)).toNat = (chain - ((found ++ [o]).length : Int)).toNat + 1 := by
    simp only [List.length_append, List.length_cons, List.length_nil]; omega
  rw [e] at h3
  simp only [walkC, if_pos (And.intro c1 c2)] at h3
  rw [← h3]; simp
theorem cand_less {bs : List Int} {o : Int} (hw : Wf bs) (h1 : -1 ≤ o) (h2 : o < bs.length) (c1 : ¬ o = -1) : (bs.getD o.toNat 0 + 1).toNat < (o + 1).toNat := by
  have q := hw.at (o := o) (by omega) h2
  omega
theorem cand_done {bs found total : List Int} {lo chain o : Int} (h3 : found ++ walkC bs lo (chain - found.length).toNat o = total) (c : o = -1 ∨ ¬ lo ≤ o ∨ ¬ (found.length : Int) < chain) : found = total := by
  rw [← h3]
  cases e : (chain - (found.length : Int)).toNat with
  | zero => simp [walkC]
  | succ k =>
    have : ¬ (o ≠ -1 ∧ lo ≤ o) := by omega
    simp only [walkC, if_neg this, List.append_nil]

section
variable {w : World} {p : Program} {loose : List Str} {mean : ExcName → Option Value} {mg mb : Str → Option Value} {dp un : Nat} {gd : Option (List Code)} {cn : Str} {cs : Scope} {L a : Addr} {ccd : Value} {cl : List (Str × Addr)} {outer : List Env} {A₀ : Around} {base h₀ : Heap} {m : Str → Option Value} {s : Shared} {Q E : Value → Shared → Prop}
variable {f fx r dx la be : Addr} {text : Array UInt8} {ks : List Int} {size window chain ahead : Int} {a1 a2 a3 a4 b1 b2 b3 b4 b5 b6 : Int} {t1 t2 t3 t4 t5 t6 x1 x2 x3 x4 x5 x6 u1 u2 u3 u4 u5 : Tok} {n nf nb : Nat} {ola : Obj} {kvs : List (Int × Value)} {M : List (Int × Int)} {vs : List Value} {bs : List Int}

theorem cand_call {place : Int} {v : Tok} (S : Site w p loose mean mg mb dp un cs outer A₀ base h₀ L s.heap m) (hdp' : dp ≤ 860) (hun' : un ≤ 4800)
    (N : News h₀ L s.heap [(f, instObj 226 fx), (fx, finD text size window chain ahead r b1 b2 b3 b4 b5 b6 x1 x2 x3 x4 x5 x6 u1 u2 u3 u4 u5 nf), (r, instObj 92 dx), (dx, rowD text size la be a1 a2 a3 a4 t1 t2 t3 t4 t5 t6 n), (la, ola), (be, listOf vs.toArray nb)]) (h1 : 0 ≤ place) (hks : KBw.bInts text = ks) (h2 : place ≤ ks.length) (h3 : ks.length ≤ 1000) (h4 : 0 < size) (h5 : size ≤ 5)
    (hd : ola.IsDictOf (intKind Challenge.rw_tk0118_01.row.prog w) kvs) (hkv : KvAre kvs M) (lo : (la == sysModules) = false) (hi : IntsAre vs bs) (hbl : bs.length = ks.length) (hw : Wf bs) (hM : ∀ k v, getM M k = some v → 0 ≤ v ∧ v < bs.length)
    (hc0 : 0 < chain) (hc1 : chain ≤ 1000)
    (ret : ∀ l vs' n' h' tk', Ext [] s.heap h' → h'.get? l = some (listOf vs'.toArray n') → s.heap.get? l = none → IntsAre vs' (walkC bs (place - window) chain.toNat (nwF bs ks M size place)) → Q (.ref l) { s with heap := h', toks := tk' }) :
    wpAny (model Challenge.rw_tk0118_01.row.prog w) (ktrTop dp un gd cn cs L a ccd cl outer) (call (.ref 216) [.ref f, .int place v]) Q E s := by
  obtain ⟨B, F, X, T, hk, hdp, hun⟩ := S
  revert X; k_fill; intro X
  refine wpAny_call ?_
  k_extra "M enter"
  intro g L' h₁ F' N' B' X' T'
  dsimp only
  k_fold
  k_with "exec While BoolOp cons nil" => ((fail_if_success (k_extra "off_w06")); k_while (fun script o found => -1 ≤ o ∧ o < bs.length ∧ found ++ walkC bs (place - window) (chain - found.length).toNat o = walkC bs (place - window) chain.toNat (nwF bs ks M size place) ∧ found.length ≤ chain) (fun script o found => (o + 1).toNat) "other" "found")
  k_with "state" => ((fail_if_success (k_extra "off_w06")); exact ⟨by dsimp only; omega, by dsimp only; omega, by dsimp only; subst_vars; simp, by dsimp only [List.length_nil]; omega⟩)
  k_steps
  k_with "off_w06" => skip
  all_goals first
    | (k_extra "M kend5"
       · dsimp only
         exact cand_turn hw (by assumption) (by assumption) (by assumption) (by omega) (by omega) (by omega)
       · dsimp only
         exact cand_less hw (by assumption) (by assumption) (by omega))
    | (skip
       have e := cand_done ‹_ ++ walkC _ _ _ _ = _› (by omega)
       refine ret _ _ _ _ _ (ext_drop N kN kE ?_) (kN _ (.head _)).1 (kf _ (.head _) ?_) (by rw [← e]; assumption)
       · intro p hp
         exact .inr (.tail _ hp)
       · simp only [List.map_cons, List.map_nil, List.mem_cons, List.not_mem_nil, or_false, not_or]
         refine ⟨?_, ?_, ?_, ?_, ?_, ?_⟩ <;> k_extra "k_ne")

theorem cand_K {place : Int} {v : Tok} {news : List (Addr × Obj)} (B : Below A₀ base outer h₀) (F : Fr h₀ L s.heap m) (X : (hd.heap_1 w.params).In h₀) (T : Top p loose mean mg mb h₀) (hk : cs.kind = .function) (hdp : dp ≤ 860) (hun : un ≤ 4800)
    (N : News h₀ L s.heap news) (m5 : (f, instObj 226 fx) ∈ news) (m6 : (fx, finD text size window chain ahead r b1 b2 b3 b4 b5 b6 x1 x2 x3 x4 x5 x6 u1 u2 u3 u4 u5 nf) ∈ news)
    (m1 : (r, instObj 92 dx) ∈ news) (m2 : (dx, rowD text size la be a1 a2 a3 a4 t1 t2 t3 t4 t5 t6 n) ∈ news) (m3 : (la, ola) ∈ news) (m4 : (be, listOf vs.toArray nb) ∈ news)
    (h1 : 0 ≤ place) (hks : KBw.bInts text = ks) (h2 : place ≤ ks.length) (h3 : ks.length ≤ 1000) (h4 : 0 < size) (h5 : size ≤ 5)
    (hd : ola.IsDictOf (intKind Challenge.rw_tk0118_01.row.prog w) kvs) (hkv : KvAre kvs M) (lo : (la == sysModules) = false) (hi : IntsAre vs bs) (hbl : bs.length = ks.length) (hw : Wf bs) (hM : ∀ k v, getM M k = some v → 0 ≤ v ∧ v < bs.length)
    (hc0 : 0 < chain) (hc1 : chain ≤ 1000)
    (ret : ∀ l vs' n' h' tk', Fr h₀ L h' m → News h₀ L h' ((l, listOf vs'.toArray n') :: news) → (∀ p ∈ news, p.1 ≠ l) → IntsAre vs' (walkC bs (place - window) chain.toNat (nwF bs ks M size place)) → Q (.ref l) { s with heap := h', toks := tk' }) :
    wpAny (model Challenge.rw_tk0118_01.row.prog w) (ktrTop dp un gd cn cs L a ccd cl outer) (call (.ref 216) [.ref f, .int place v]) Q E s := by
  refine cand_call ⟨B, F, X, T, hk, by omega, by omega⟩ hdp hun (news_sub N (sub_six m5 m6 m1 m2 m3 m4)) h1 hks h2 h3 h4 h5 hd hkv lo hi hbl hw hM hc0 hc1 fun l vs' n' h' tk' x e hf i' => ?_
  exact ret l vs' n' h' tk' (ext_nil_fr x F) (news_cons x F N e hf) (ne_of_fresh N hf) i'
end
theorem reg_06 : True := by
  k_with "call ref" => (k_here; (with_reducible show wpAny _ _ (call (Value.ref 216) _) _ _ _); k_dflt (refine' cand_K ?k1 ?k2 ?k3 ?k4 ?k5 ?k6 ?k7 ?k8 ?m5 ?m6 ?m1 ?m2 ?m3 ?m4 ?b1 ?b2 ?b3 ?b4 ?b5 ?b6 ?d1 ?d2 ?d4 ?d5 ?d6 ?e1 ?e2 ?e3 ?e4 ?_; (case k1 => k_asm); (case k2 => k_asm); (case k3 => k_asm); (case k4 => k_asm); (case k5 => first | exact rfl | assumption); (case k6 => k_extra "M room"); (case k7 => k_extra "M room"); (case k8 => k_asm); (case m5 => k_mem); (case m6 => k_mem); (case m1 => k_mem); (case m2 => k_mem); (case m3 => k_mem); (case m4 => k_mem); (case b1 => first | (with_reducible assumption) | omega); (case b2 => assumption); (case b3 => first | (with_reducible assumption) | omega); (case b4 => first | (with_reducible assumption) | omega); (case b5 => first | (with_reducible assumption) | omega); (case b6 => first | (with_reducible assumption) | omega); (case d1 => k_asm); (case d2 => k_asm); (case d4 => k_asm); (case d5 => k_asm); (case d6 => first | assumption | omega); (case e1 => k_asm); (case e2 => k_asm); (case e3 => first | (with_reducible assumption) | omega); (case e4 => first | (with_reducible assumption) | omega); k_whole); intro l9 vs9 n9 h9 k9 F9 N9 ne9 i9; (try k_sweep))
  trivial
/-- how many octets are alike from two places on, to a limit -/
def lcp (ks : List Int) : Nat → Nat → Nat → Nat
  | _, _, 0 => 0
  | p, o, l + 1 => if ks.getD p 0 = ks.getD o 0 then lcp ks (p + 1) (o + 1) l + 1 else 0
theorem lcp_le {ks : List Int} : ∀ (l p o : Nat), lcp ks p o l ≤ l
  | 0, _, _ => Nat.le_refl _
  | l + 1, p, o => by
    unfold lcp
    split
    · exact Nat.succ_le_succ (lcp_le l _ _)
    · exact Nat.zero_le _
theorem lcp_eq {ks : List Int} : ∀ (l p o c : Nat), c ≤ l → (∀ i : Nat, i < c → ks.getD (p + i) 0 = ks.getD (o + i) 0) → (c < l → ks.getD (p + c) 0 ≠ ks.getD (o + c) 0) → lcp ks p o l = c
  | 0, _, _, c, h, _, _ => by unfold lcp; omega
  | l + 1, p, o, 0, _, _, h2 => by
    unfold lcp
    rw [if_neg (by simpa using h2 (Nat.succ_pos _))]
  | l + 1, p, o, c + 1, h, h1, h2 => by
    unfold lcp
    rw [if_pos (by simpa using h1 0 (Nat.succ_pos _))]
    refine congrArg (· + 1) (lcp_eq l (p + 1) (o + 1) c (by omega) (fun i hi => ?_) fun hc => ?_)
    · have := h1 (i + 1) (by omega)
      rwa [show p + (i + 1) = p + 1 + i by omega, show o + (i + 1) = o + 1 + i by omega] at this
    · have := h2 (by omega)
      rwa [show p + (c + 1) = p + 1 + c by omega, show o + (c + 1) = o + 1 + c by omega] at this
theorem alike_turn {ks : List Int} {place other known : Int} (h0 : 0 ≤ known) (hp : 0 ≤ place) (ho : 0 ≤ other) (h : ∀ i : Nat, (i : Int) < known → ks.getD (place.toNat + i) 0 = ks.getD (other.toNat + i) 0)
    (e : ks.getD (place + known).toNat 0 = ks.getD (other + known).toNat 0) : ∀ i : Nat, (i : Int) < known + 1 → ks.getD (place.toNat + i) 0 = ks.getD (other.toNat + i) 0 := fun i hi => by
  by_cases c : (i : Int) < known
  · exact h i c
  · have e3 : known.toNat = i := by omega
    rw [Int.toNat_add hp h0, Int.toNat_add ho h0, e3] at e; exact e
section
variable {w : World} {p : Program} {loose : List Str} {mean : ExcName → Option Value} {mg mb : Str → Option Value} {dp un : Nat} {gd : Option (List Code)} {cn : Str} {cs : Scope} {L a : Addr} {ccd : Value} {cl : List (Str × Addr)} {outer : List Env} {A₀ : Around} {base h₀ : Heap} {m : Str → Option Value} {s : Shared} {Q E : Value → Shared → Prop}
variable {f fx r dx la be : Addr} {text : Array UInt8} {ks : List Int} {size window chain ahead : Int} {a1 a2 a3 a4 b1 b2 b3 b4 b5 b6 : Int} {t1 t2 t3 t4 t5 t6 x1 x2 x3 x4 x5 x6 u1 u2 u3 u4 u5 : Tok} {n nf nb : Nat} {ola : Obj} {kvs : List (Int × Value)} {M : List (Int × Int)} {vs : List Value} {bs : List Int}

theorem alike_call {place other limit : Int} {v v' v'' v3 : Tok} (S : Site w p loose mean mg mb dp un cs outer A₀ base h₀ L s.heap m)
    (N : News h₀ L s.heap [(f, instObj 226 fx), (fx, finD text size window chain ahead r b1 b2 b3 b4 b5 b6 x1 x2 x3 x4 x5 x6 u1 u2 u3 u4 u5 nf)]) (hks : KBw.bInts text = ks) (h1 : 0 ≤ place) (h2 : 0 ≤ other) (h3 : ks.length ≤ 1000) (h4 : 0 ≤ limit) (h5 : place + limit ≤ ks.length) (h6 : other + limit ≤ ks.length)
    (ret : ∀ c t h' tk', Ext [] s.heap h' → 0 ≤ c → c ≤ limit → (∀ i : Nat, (i : Int) < c → ks.getD (place.toNat + i) 0 = ks.getD (other.toNat + i) 0) → (c < limit → ks.getD (place + c).toNat 0 ≠ ks.getD (other + c).toNat 0) → Q (.int c t) { s with heap := h', toks := tk' }) :
    wpAny (model Challenge.rw_tk0118_01.row.prog w) (ktrTop dp un gd cn cs L a ccd cl outer) (call (.ref 152) [.ref f, .int place v, .int other v', .int 0 v'', .int limit v3]) Q E s := by
  obtain ⟨B, F, X, T, hk, hdp, hun⟩ := S
  revert X; k_fill; intro X
  refine wpAny_call ?_
  k_extra "M enter"
  intro g L' h₁ F' N' B' X' T'
  dsimp only
  k_fold
  k_with "exec While BoolOp cons nil" => ((fail_if_success (k_extra "off_w07")); k_while (fun script known => 0 ≤ known ∧ known ≤ limit ∧ ∀ i : Nat, (i : Int) < known → ks.getD (place.toNat + i) 0 = ks.getD (other.toNat + i) 0) (fun script known => (limit - known).toNat) "known")
  k_with "state" => ((fail_if_success (k_extra "off_w07")); exact ⟨by dsimp only; omega, by dsimp only; omega, by dsimp only; omega⟩)
  k_steps
  k_with "off_w07" => skip
  · k_extra "M kend2"
    · dsimp only
      exact ⟨by omega, by omega, alike_turn (by assumption) h1 h2 (by assumption) (by assumption)⟩
    · dsimp only
      omega
  · skip
    refine ret _ _ _ _ (ext_nil N kN kE) (by assumption) (by assumption) (by assumption) (fun _ => by assumption)
  · skip
    refine ret _ _ _ _ (ext_nil N kN kE) (by assumption) (by assumption) (by assumption) (fun c => absurd c (by omega))

theorem alike_K {place other limit : Int} {v v' v'' v3 : Tok} {news : List (Addr × Obj)} (B : Below A₀ base outer h₀) (F : Fr h₀ L s.heap m) (X : (hd.heap_1 w.params).In h₀) (T : Top p loose mean mg mb h₀) (hk : cs.kind = .function) (hdp : dp ≤ 900) (hun : un ≤ 5000)
    (N : News h₀ L s.heap news) (m5 : (f, instObj 226 fx) ∈ news) (m6 : (fx, finD text size window chain ahead r b1 b2 b3 b4 b5 b6 x1 x2 x3 x4 x5 x6 u1 u2 u3 u4 u5 nf) ∈ news)
    (hks : KBw.bInts text = ks) (h1 : 0 ≤ place) (h2 : 0 ≤ other) (h3 : ks.length ≤ 1000) (h4 : 0 ≤ limit) (h5 : place + limit ≤ ks.length) (h6 : other + limit ≤ ks.length)
    (ret : ∀ (c : Int) t h' tk', c = (lcp ks place.toNat other.toNat limit.toNat : Nat) → 0 ≤ c → c ≤ limit → Fr h₀ L h' m → News h₀ L h' news → Q (.int c t) { s with heap := h', toks := tk' }) :
    wpAny (model Challenge.rw_tk0118_01.row.prog w) (ktrTop dp un gd cn cs L a ccd cl outer) (call (.ref 152) [.ref f, .int place v, .int other v', .int 0 v'', .int limit v3]) Q E s := by
  refine alike_call ⟨B, F, X, T, hk, hdp, hun⟩ (news_sub N (sub_two m5 m6)) hks h1 h2 h3 h4 h5 h6 fun c t h' tk' x c0 c1 c2 c3 => ?_
  refine ret c t h' tk' ?_ c0 c1 (ext_nil_fr x F) (ext_nil_news x N)
  have e : lcp ks place.toNat other.toNat limit.toNat = c.toNat := by
    refine lcp_eq _ _ _ _ (by omega) (fun i hi => c2 i (by omega)) fun hl => ?_
    have := c3 (by omega)
    have e1 : (place + c).toNat = place.toNat + c.toNat := Int.toNat_add h1 c0
    have e2 : (other + c).toNat = other.toNat + c.toNat := Int.toNat_add h2 c0
    rw [e1, e2] at this; exact this
  omega

def limF (ks : List Int) (place most : Int) : Int := if (ks.length : Int) - place < most then (ks.length : Int) - place else most
theorem limit_call {place most : Int} {v v' : Tok} (S : Site w p loose mean mg mb dp un cs outer A₀ base h₀ L s.heap m)
    (N : News h₀ L s.heap [(f, instObj 226 fx), (fx, finD text size window chain ahead r b1 b2 b3 b4 b5 b6 x1 x2 x3 x4 x5 x6 u1 u2 u3 u4 u5 nf)]) (hks : KBw.bInts text = ks) (h3 : ks.length ≤ 1000)
    (ret : ∀ t h' tk', Ext [] s.heap h' → Q (.int (limF ks place most) t) { s with heap := h', toks := tk' }) :
    wpAny (model Challenge.rw_tk0118_01.row.prog w) (ktrTop dp un gd cn cs L a ccd cl outer) (call (.ref 138) [.ref f, .int place v, .int most v']) Q E s := by
  obtain ⟨B, F, X, T, hk, hdp, hun⟩ := S
  revert X; k_fill; intro X
  refine wpAny_call ?_
  k_extra "M enter"
  intro g L' h₁ F' N' B' X' T'
  dsimp only
  k_fold
  k_steps
  exact ret _ _ _ (ext_nil N kN kE)
theorem limit_K {place most : Int} {v v' : Tok} {news : List (Addr × Obj)} (B : Below A₀ base outer h₀) (F : Fr h₀ L s.heap m) (X : (hd.heap_1 w.params).In h₀) (T : Top p loose mean mg mb h₀) (hk : cs.kind = .function) (hdp : dp ≤ 900) (hun : un ≤ 5000)
    (N : News h₀ L s.heap news) (m5 : (f, instObj 226 fx) ∈ news) (m6 : (fx, finD text size window chain ahead r b1 b2 b3 b4 b5 b6 x1 x2 x3 x4 x5 x6 u1 u2 u3 u4 u5 nf) ∈ news) (hks : KBw.bInts text = ks) (h3 : ks.length ≤ 1000) (h1 : 0 ≤ most) (h2 : place ≤ ks.length)
    (ret : ∀ (c : Int) t h' tk', c = limF ks place most → 0 ≤ c → c ≤ most → c ≤ ks.length - place → Fr h₀ L h' m → News h₀ L h' news → Q (.int c t) { s with heap := h', toks := tk' }) :
    wpAny (model Challenge.rw_tk0118_01.row.prog w) (ktrTop dp un gd cn cs L a ccd cl outer) (call (.ref 138) [.ref f, .int place v, .int most v']) Q E s := by
  refine limit_call ⟨B, F, X, T, hk, hdp, hun⟩ (news_sub N (sub_two m5 m6)) hks h3 fun t h' tk' x => ?_
  refine ret _ t h' tk' rfl ?_ ?_ ?_ (ext_nil_fr x F) (ext_nil_news x N) <;> (unfold limF; split <;> omega)
end
theorem reg_07 : True := by
  k_with "call ref" => (k_here; (with_reducible show wpAny _ _ (call (Value.ref 152) _) _ _ _); k_dflt (refine' alike_K ?k1 ?k2 ?k3 ?k4 ?k5 ?k6 ?k7 ?k8 ?m5 ?m6 ?b2 ?b1 ?b3 ?b4 ?b5 ?b6 ?b7 ?_; (case k1 => k_asm); (case k2 => k_asm); (case k3 => k_asm); (case k4 => k_asm); (case k5 => first | exact rfl | assumption); (case k6 => k_extra "M room"); (case k7 => k_extra "M room"); (case k8 => k_asm); (case m5 => k_mem); (case m6 => k_mem); (case b1 => first | (with_reducible assumption) | omega); (case b2 => assumption); (case b3 => first | (with_reducible assumption) | omega); (case b4 => first | (with_reducible assumption) | omega); (case b5 => first | (with_reducible assumption) | omega); (case b6 => first | (with_reducible assumption) | omega); (case b7 => first | (with_reducible assumption) | omega); k_whole); intro c9 t9 h9 k9 ce9 ca9 cb9 F9 N9; (try k_sweep))
  k_with "exec For Name Call cons nil" => (k_here; (rename Fr _ _ _ _ => lF'); (with_unfolding_all refine' For_invVF lF' ?k1 ?k2 ?_; (case k1 => exact rfl); (case k2 => exact rfl); k_whole))
  k_with "call ref" => (k_here; (with_reducible show wpAny _ _ (call (Value.ref 138) _) _ _ _); k_dflt (refine' limit_K ?k1 ?k2 ?k3 ?k4 ?k5 ?k6 ?k7 ?k8 ?m5 ?m6 ?b2 ?b1 ?b3 ?b4 ?_; (case k1 => k_asm); (case k2 => k_asm); (case k3 => k_asm); (case k4 => k_asm); (case k5 => first | exact rfl | assumption); (case k6 => k_extra "M room"); (case k7 => k_extra "M room"); (case k8 => k_asm); (case m5 => k_mem); (case m6 => k_mem); (case b1 => first | (with_reducible assumption) | omega); (case b2 => assumption); (case b3 => first | (with_reducible assumption) | omega); (case b4 => first | (with_reducible assumption) | omega); k_whole); intro c9 t9 h9 k9 ce9 ca9 cb9 cc9 F9 N9; (try k_sweep))
  trivial
def evF (ks : List Int) (place limit : Int) : List Int → Int → List (Int × Int)
  | [], _ => []
  | o :: r, lg => if limit ≤ lg then [] else if lg < (lcp ks place.toNat o.toNat limit.toNat : Nat) then ((lcp ks place.toNat o.toNat limit.toNat : Nat), place - o) :: evF ks place limit r (lcp ks place.toNat o.toNat limit.toNat : Nat) else evF ks place limit r lg
def pairD (p : Int × Int) : Dat := .tuple [.int p.1, .int p.2]
abbrev tupObj (x : Int) (t : Tok) (y : Int) (u : Tok) (n : Nat) : Obj := { cls := .type "tuple", data := .seq [Value.int x t, Value.int y u].toArray n }
inductive PairsIn (led : List (Addr × Obj)) : List Value → List (Int × Int) → Prop
  | nil : PairsIn led [] []
  | cons {a : Addr} {x y : Int} {t u : Tok} {n : Nat} {vs : List Value} {ps : List (Int × Int)} : (a, tupObj x t y u n) ∈ led → PairsIn led vs ps → PairsIn led (.ref a :: vs) ((x, y) :: ps)
theorem PairsIn.mono {led led' : List (Addr × Obj)} {vs : List Value} {ps : List (Int × Int)} (h : PairsIn led vs ps) (hs : ∀ p ∈ led, p ∈ led') : PairsIn led' vs ps := by
  induction h with
  | nil => exact .nil
  | cons h _ ih => exact .cons (hs _ h) ih
theorem PairsIn.drop {e : Addr × Obj} {led : List (Addr × Obj)} {vs : List Value} {ps : List (Int × Int)} (h : PairsIn (e :: led) vs ps) (hn : ∀ x t y u n, e.2 ≠ tupObj x t y u n) : PairsIn led vs ps := by
  induction h with
  | nil => exact .nil
  | cons h _ ih =>
    rcases List.mem_cons.mp h with q | q
    · exact absurd (congrArg Prod.snd q).symm (hn _ _ _ _ _)
    · exact .cons q ih
theorem PairsIn.ofDat {led : List (Addr × Obj)} : ∀ {vs : List Value} {ps : List (Int × Int)}, DatAll led vs (ps.map pairD) → PairsIn led vs ps
  | _, [], h => by cases h; exact .nil
  | _, p :: ps, h => by
    cases h with
    | cons h r =>
      cases h with
      | tuple hm hd =>
        cases hd with
        | cons h1 h2 =>
          cases h1
          cases h2 with
          | cons h3 h4 => cases h3; cases h4; exact .cons hm (PairsIn.ofDat r)
theorem PairsIn.toDat {led : List (Addr × Obj)} {vs : List Value} {ps : List (Int × Int)} (h : PairsIn led vs ps) : DatAll led vs (ps.map pairD) := by
  induction h with
  | nil => exact .nil
  | cons h _ ih => exact .cons (.tuple h (.cons (.int _ _) (.cons (.int _ _) .nil))) ih
theorem news_head {h₀ h : Heap} {L : Addr} {a : Addr × Obj} {rest tl : List (Addr × Obj)} (N : News h₀ L h (a :: rest)) (hs : ∀ q ∈ tl, q ∈ rest) : News h₀ L h (a :: tl) := fun p hp => by
  rcases List.mem_cons.mp hp with rfl | hp
  · exact N _ (.head _)
  · exact N _ (.tail _ (hs p hp))
theorem dict_no_tup {K : Type} [DecidableEq K] {prog : Program} {w : World} {knd : KeyKind prog w K} {o : Obj} {kvs : List (K × Value)} (h : o.IsDictOf knd kvs) : ∀ x t y u n, o ≠ tupObj x t y u n := fun x t y u n e => by
  obtain ⟨es, ep, hc, hd, _⟩ := h
  rw [e] at hd
  cases hd
theorem ev_keep {ks all pre : List Int} {n place lim lg : Int} {found tot : List Dat} (h : ∀ rest, all = pre ++ rest → found ++ (evF ks place lim rest lg).map pairD = tot) (hl : ¬ lim ≤ lg) (hc : ¬ lg < (lcp ks place.toNat n.toNat lim.toNat : Nat)) :
    ∀ rest, all = (pre ++ [n]) ++ rest → found ++ (evF ks place lim rest lg).map pairD = tot := fun rest e => by
  have := h (n :: rest) (by simpa using e)
  simp only [evF, if_neg hl, if_neg hc] at this
  exact this
theorem ev_add {ks all pre : List Int} {n place lim lg c : Int} {found tot : List Dat} (h : ∀ rest, all = pre ++ rest → found ++ (evF ks place lim rest lg).map pairD = tot) (hl : ¬ lim ≤ lg) (e : c = (lcp ks place.toNat n.toNat lim.toNat : Nat)) (hc : lg < c) :
    ∀ rest, all = (pre ++ [n]) ++ rest → (found ++ [Dat.tuple [.int c, .int (place - n)]]) ++ (evF ks place lim rest c).map pairD = tot := fun rest q => by
  have := h (n :: rest) (by simpa using q)
  subst e
  simp only [evF, if_neg hl, if_pos hc, List.map_cons] at this
  rw [← this]; simp [pairD]
theorem ev_stop {ks all pre post : List Int} {n place lim lg : Int} {found tot : List Dat} (h : ∀ rest, all = pre ++ rest → found ++ (evF ks place lim rest lg).map pairD = tot) (e : all = pre ++ n :: post) (hl : lim ≤ lg) : found = tot := by
  have := h _ e
  simp only [evF, if_pos hl, List.map_nil, List.append_nil] at this
  exact this
theorem ev_done {ks all : List Int} {place lim lg : Int} {found tot : List Dat} (h : ∀ rest, all = all ++ rest → found ++ (evF ks place lim rest lg).map pairD = tot) : found = tot := by
  have := h [] (by simp)
  simp only [evF, List.map_nil, List.append_nil] at this
  exact this
theorem lcp_ne {ks : List Int} : ∀ (l p o i : Nat), ks.getD (p + i) 0 ≠ ks.getD (o + i) 0 → lcp ks p o l ≤ i
  | 0, _, _, _, _ => Nat.zero_le _
  | l + 1, p, o, i, h => by
    unfold lcp
    split
    · rename_i e
      cases i with
      | zero => exact absurd e (by simpa using h)
      | succ i =>
        refine Nat.succ_le_succ (lcp_ne l (p + 1) (o + 1) i ?_)
        rwa [show p + (i + 1) = p + 1 + i by omega, show o + (i + 1) = o + 1 + i by omega] at h
    · exact Nat.zero_le _
theorem lcp_neI {ks : List Int} {place n lg : Int} {l : Nat} (h0 : 0 ≤ place) (h1 : 0 ≤ n) (h2 : 0 ≤ lg) (h : ¬ ks.getD (n + lg).toNat 0 = ks.getD (place + lg).toNat 0) : ¬ lg < (lcp ks place.toNat n.toNat l : Nat) := by
  rw [Int.toNat_add h0 h2, Int.toNat_add h1 h2] at h
  have := lcp_ne (ks := ks) l place.toNat n.toNat lg.toNat (fun q => h q.symm)
  omega
theorem walkC_len {bs : List Int} {lo : Int} : ∀ (c : Nat) (o : Int), (walkC bs lo c o).length ≤ c
  | 0, _ => Nat.le_refl _
  | c + 1, o => by
    unfold walkC
    split
    · exact Nat.succ_le_succ (walkC_len c _)
    · exact Nat.zero_le _
theorem nwF_in {bs ks : List Int} {M : List (Int × Int)} {size place : Int} (hw : Wf bs) (hM : ∀ k v, getM M k = some v → 0 ≤ v ∧ v < bs.length) (hbl : bs.length = ks.length) (h1 : 0 ≤ place) (h2 : place ≤ ks.length) : -1 ≤ nwF bs ks M size place ∧ nwF bs ks M size place < place := by
  have go : ∀ (f : Nat) (o : Int), -1 ≤ o → o < bs.length → (o + 1).toNat ≤ f → -1 ≤ dn bs place f o ∧ dn bs place f o < place := by
    intro f
    induction f with
    | zero => intro o a b c; simp only [dn]; omega
    | succ f ih =>
      intro o a b c
      simp only [dn]
      by_cases q : place ≤ o
      · rw [if_pos q]
        have z := hw.at (o := o) (by omega) b
        exact ih _ z.1 (by omega) (by omega)
      · rw [if_neg q]; omega
  unfold nwF
  split
  · omega
  · cases e : getM M (num (cut ks place.toNat size.toNat)) with
    | none => exact go _ _ (by simp) (by simp; omega) (by simp)
    | some x => have := hM _ x e; exact go _ _ (by simp; omega) (by simp; omega) (by simp; omega)
theorem walkC_mem {bs : List Int} {lo place : Int} (hw : Wf bs) : ∀ (c : Nat) {o : Int}, (-1 ≤ o ∧ o < place) → ∀ x ∈ walkC bs lo c o, 0 ≤ x ∧ x < place
  | 0, _, _, x, hx => by simp [walkC] at hx
  | c + 1, o, h, x, hx => by
    unfold walkC at hx
    by_cases q : o ≠ -1 ∧ lo ≤ o
    · rw [if_pos q] at hx
      rcases List.mem_cons.mp hx with rfl | hx
      · omega
      · by_cases b : o < bs.length
        · have z := hw.at (o := o) (by omega) b
          exact walkC_mem hw c (by omega) x hx
        · have e : bs.getD o.toNat 0 = 0 := by
            rw [List.getD_eq_getElem?_getD, List.getElem?_eq_none (by omega)]; rfl
          rw [e] at hx
          exact walkC_mem hw c (by omega) x hx
    · rw [if_neg q] at hx; simp at hx
section
variable {w : World} {p : Program} {loose : List Str} {mean : ExcName → Option Value} {mg mb : Str → Option Value} {dp un : Nat} {gd : Option (List Code)} {cn : Str} {cs : Scope} {L a : Addr} {ccd : Value} {cl : List (Str × Addr)} {outer : List Env} {A₀ : Around} {base h₀ : Heap} {m : Str → Option Value} {s : Shared} {Q E : Value → Shared → Prop}
variable {f fx r dx la be : Addr} {text : Array UInt8} {ks : List Int} {size window chain ahead : Int} {a1 a2 a3 a4 b1 b2 b3 b4 b5 b6 : Int} {t1 t2 t3 t4 t5 t6 x1 x2 x3 x4 x5 x6 u1 u2 u3 u4 u5 : Tok} {n nf nb : Nat} {ola : Obj} {kvs : List (Int × Value)} {M : List (Int × Int)} {vs : List Value} {bs : List Int}

theorem loc_08_2 : True := by
  k_with "pyIter ref" => ((fail_if_success (k_extra "off_08_1")); refine Park.h ?_)
  trivial
theorem every_call {place most : Int} {v v' : Tok} (S : Site w p loose mean mg mb dp un cs outer A₀ base h₀ L s.heap m) (hdp' : dp ≤ 840) (hun' : un ≤ 4700)
    (N : News h₀ L s.heap [(f, instObj 226 fx), (fx, finD text size window chain ahead r b1 b2 b3 b4 b5 b6 x1 x2 x3 x4 x5 x6 u1 u2 u3 u4 u5 nf), (r, instObj 92 dx), (dx, rowD text size la be a1 a2 a3 a4 t1 t2 t3 t4 t5 t6 n), (la, ola), (be, listOf vs.toArray nb)]) (h1 : 0 ≤ place) (hks : KBw.bInts text = ks) (h2 : place ≤ ks.length) (h3 : ks.length ≤ 1000) (h4 : 0 < size) (h5 : size ≤ 5)
    (hd : ola.IsDictOf (intKind Challenge.rw_tk0118_01.row.prog w) kvs) (hkv : KvAre kvs M) (lo : (la == sysModules) = false) (hi : IntsAre vs bs) (hbl : bs.length = ks.length) (hw : Wf bs) (hM : ∀ k v, getM M k = some v → 0 ≤ v ∧ v < bs.length)
    (hc0 : 0 < chain) (hc1 : chain ≤ 1000) (hm0 : 0 ≤ most) (hm1 : most ≤ 1000)
    (ret : ∀ l us n' tl h' tk', Ext [] s.heap h' → News h₀ L h' ((l, listOf us.toArray n') :: tl) → s.heap.get? l = none → (∀ p ∈ tl, s.heap.get? p.1 = none) → (∀ p ∈ tl, p.1 ≠ l) →
      PairsIn tl us (evF ks place (limF ks place most) (walkC bs (place - window) chain.toNat (nwF bs ks M size place)) (size - 1)) → Q (.ref l) { s with heap := h', toks := tk' }) :
    wpAny (model Challenge.rw_tk0118_01.row.prog w) (ktrTop dp un gd cn cs L a ccd cl outer) (call (.ref 223) [.ref f, .int place v, .int most v']) Q E s := by
  obtain ⟨B, F, X, T, hk, hdp, hun⟩ := S
  revert X; k_fill; intro X
  refine wpAny_call ?_
  k_extra "M enter"
  intro g L' h₁ F' N' B' X' T'
  dsimp only
  k_fold
  k_steps
  have hc := walkC_mem hw (lo := place - window) chain.toNat (nwF_in (size := size) hw hM hbl h1 h2)
  have hcl := walkC_len (bs := bs) (lo := place - window) chain.toNat (nwF bs ks M size place)
  have ce := ‹_ = limF ks place most›
  subst ce
  refine Park.mk ?_
  k_dat (fun pre longest found => size - 1 ≤ longest ∧ longest ≤ 1000 ∧ found.length ≤ pre.length ∧ ∀ rest, walkC bs (place - window) chain.toNat (nwF bs ks M size place) = pre ++ rest → found ++ (evF ks place (limF ks place most) rest longest).map pairD = (evF ks place (limF ks place most) (walkC bs (place - window) chain.toNat (nwF bs ks M size place)) (size - 1)).map pairD) "longest" "found*"
  · have q := hc _ kMem
    have hpl : kPre.length ≤ 1000 := by
      have := congrArg List.length kEq
      simp only [List.length_append, List.length_cons] at this
      omega
    k_with "state" =>
      (fail_if_success (k_extra "off_w08"))
      first
      | exact ⟨by omega, by omega, by simp only [List.length_append, List.length_cons, List.length_nil] at *; omega, ev_keep (by assumption) (by assumption) (by first | omega | exact lcp_neI h1 q.1 (by omega) (by assumption))⟩
      | exact ⟨by omega, by omega, by simp only [List.length_append, List.length_cons, List.length_nil] at *; omega, ev_add (by assumption) (by assumption) (by assumption) (by assumption)⟩
    k_steps
    k_with "off_w08" => skip
    have e := ev_stop ‹∀ rest, _ = kPre ++ rest → _› kEq (by assumption)
    rw [e] at kFacts
    have kO3 := KdSep.three ‹KdSep kOwn kTl _›
    have P := (((((((((PairsIn.ofDat kFacts).drop (by simp)).drop (by simp)).drop (by simp)).drop (by simp)).drop (by simp)).drop (by simp)).drop (dict_no_tup hd)).drop (by simp))
    have into : ∀ q ∈ kTl, q ∈ (f, instObj 226 fx) :: (fx, finD text size window chain ahead r b1 b2 b3 b4 b5 b6 x1 x2 x3 x4 x5 x6 u1 u2 u3 u4 u5 nf) :: (r, instObj 92 dx) :: (dx, rowD text size la be a1 a2 a3 a4 t1 t2 t3 t4 t5 t6 n) :: (la, ola) :: (be, listOf vs.toArray nb) :: (kTl ++ kOwn) := fun q hq => .tail _ (.tail _ (.tail _ (.tail _ (.tail _ (.tail _ (List.mem_append_left _ hq))))))
    refine ret _ _ _ kTl _ _ (ext_drop N kN kE fun q hq => .inr (.tail _ (.tail _ (.tail _ (List.mem_append_left (kTl ++ kOwn) hq))))) (news_head kN fun q hq => .tail _ (.tail _ (into q hq))) (kf _ (.head _) ?_) (fun q hq => kf q (.tail _ (.tail _ (.tail _ (into q hq)))) ?_) (fun q hq => kO3 q hq _ (.head _)) P
    · simp only [List.map_cons, List.map_nil, List.mem_cons, List.not_mem_nil, or_false, not_or]
      refine ⟨?_, ?_, ?_, ?_, ?_, ?_⟩ <;> k_extra "k_ne"
    · intro hb
      exact kO3 q hq _ (.tail _ (.tail _ (.tail _ hb))) rfl
  · dsimp only
    k_steps
    have e := ev_done ‹∀ rest, _ = _ ++ rest → _›
    rw [e] at kFacts
    have P := (((((((((PairsIn.ofDat kFacts).drop (by simp)).drop (by simp)).drop (by simp)).drop (by simp)).drop (by simp)).drop (by simp)).drop (dict_no_tup hd)).drop (by simp))
    have into : ∀ q ∈ kTl, q ∈ (f, instObj 226 fx) :: (fx, finD text size window chain ahead r b1 b2 b3 b4 b5 b6 x1 x2 x3 x4 x5 x6 u1 u2 u3 u4 u5 nf) :: (r, instObj 92 dx) :: (dx, rowD text size la be a1 a2 a3 a4 t1 t2 t3 t4 t5 t6 n) :: (la, ola) :: (be, listOf vs.toArray nb) :: kTl := fun q hq => .tail _ (.tail _ (.tail _ (.tail _ (.tail _ (.tail _ hq)))))
    refine ret _ _ _ kTl _ _ (ext_drop N kN kE fun q hq => .inr (.tail _ (.tail _ (.tail _ (List.mem_append_left kTl hq))))) (news_head kN fun q hq => .tail _ (.tail _ (into q hq))) (kf _ (.head _) ?_) (fun q hq => kf q (.tail _ (.tail _ (.tail _ (into q hq)))) ?_) (fun q hq => kO3 q hq _ (.head _)) P
    · simp only [List.map_cons, List.map_nil, List.mem_cons, List.not_mem_nil, or_false, not_or]
      refine ⟨?_, ?_, ?_, ?_, ?_, ?_⟩ <;> k_extra "k_ne"
    · intro hb
      exact kO3 q hq _ (.tail _ (.tail _ (.tail _ hb))) rfl

theorem every_K {place most : Int} {v v' : Tok} {news : List (Addr × Obj)} (B : Below A₀ base outer h₀) (F : Fr h₀ L s.heap m) (X : (hd.heap_1 w.params).In h₀) (T : Top p loose mean mg mb h₀) (hk : cs.kind = .function) (hdp : dp ≤ 840) (hun : un ≤ 4700)
    (N : News h₀ L s.heap news) (m5 : (f, instObj 226 fx) ∈ news) (m6 : (fx, finD text size window chain ahead r b1 b2 b3 b4 b5 b6 x1 x2 x3 x4 x5 x6 u1 u2 u3 u4 u5 nf) ∈ news)
    (m1 : (r, instObj 92 dx) ∈ news) (m2 : (dx, rowD text size la be a1 a2 a3 a4 t1 t2 t3 t4 t5 t6 n) ∈ news) (m3 : (la, ola) ∈ news) (m4 : (be, listOf vs.toArray nb) ∈ news)
    (h1 : 0 ≤ place) (hks : KBw.bInts text = ks) (h2 : place ≤ ks.length) (h3 : ks.length ≤ 1000) (h4 : 0 < size) (h5 : size ≤ 5)
    (hd : ola.IsDictOf (intKind Challenge.rw_tk0118_01.row.prog w) kvs) (hkv : KvAre kvs M) (lo : (la == sysModules) = false) (hi : IntsAre vs bs) (hbl : bs.length = ks.length) (hw : Wf bs) (hM : ∀ k v, getM M k = some v → 0 ≤ v ∧ v < bs.length)
    (hc0 : 0 < chain) (hc1 : chain ≤ 1000) (hm0 : 0 ≤ most) (hm1 : most ≤ 1000)
    (ret : ∀ l us n' tl h' tk', Fr h₀ L h' m → News h₀ L h' ((l, listOf us.toArray n') :: (news ++ tl)) → (∀ p ∈ news, p.1 ≠ l) → OwnOff tl (l :: news.map (·.1)) →
      PairsIn tl us (evF ks place (limF ks place most) (walkC bs (place - window) chain.toNat (nwF bs ks M size place)) (size - 1)) → Q (.ref l) { s with heap := h', toks := tk' }) :
    wpAny (model Challenge.rw_tk0118_01.row.prog w) (ktrTop dp un gd cn cs L a ccd cl outer) (call (.ref 223) [.ref f, .int place v, .int most v']) Q E s := by
  refine every_call ⟨B, F, X, T, hk, by omega, by omega⟩ hdp hun (news_sub N (sub_six m5 m6 m1 m2 m3 m4)) h1 hks h2 h3 h4 h5 hd hkv lo hi hbl hw hM hc0 hc1 hm0 hm1 fun l us n' tl h' tk' x N' hl ht hne P => ?_
  refine ret l us n' tl h' tk' (ext_nil_fr x F) (fun q hq => ?_) (ne_of_fresh N hl) (fun q hq b hb => ?_) P
  · rcases List.mem_cons.mp hq with rfl | hq
    · exact N' _ (.head _)
    · rcases List.mem_append.mp hq with hq | hq
      · exact ext_nil_news x N q hq
      · exact N' _ (.tail _ hq)
  · rcases List.mem_cons.mp hb with rfl | hb
    · exact hne q hq
    · obtain ⟨z, hz, rfl⟩ := List.mem_map.mp hb
      exact fun e => ne_of_fresh N (ht q hq) z hz e.symm
theorem off_08_1 : True := by
  k_with "off_08_1" => skip
  trivial
end
theorem reg_08 : True := by
  k_with "call ref" => (k_here; (with_reducible show wpAny _ _ (call (Value.ref 223) _) _ _ _); k_dflt (refine' every_K ?k1 ?k2 ?k3 ?k4 ?k5 ?k6 ?k7 ?k8 ?m5 ?m6 ?m1 ?m2 ?m3 ?m4 ?b1 ?b2 ?b3 ?b4 ?b5 ?b6 ?d1 ?d2 ?d4 ?d5 ?d6 ?e1 ?e2 ?e3 ?e4 ?e5 ?e6 ?_; (case k1 => k_asm); (case k2 => k_asm); (case k3 => k_asm); (case k4 => k_asm); (case k5 => first | exact rfl | assumption); (case k6 => k_extra "M room"); (case k7 => k_extra "M room"); (case k8 => k_asm); (case m5 => k_mem); (case m6 => k_mem); (case m1 => k_mem); (case m2 => k_mem); (case m3 => k_mem); (case m4 => k_mem); (case b1 => first | (with_reducible assumption) | omega); (case b2 => assumption); (case b3 => first | (with_reducible assumption) | omega); (case b4 => first | (with_reducible assumption) | omega); (case b5 => first | (with_reducible assumption) | omega); (case b6 => first | (with_reducible assumption) | omega); (case d1 => k_asm); (case d2 => k_asm); (case d4 => k_asm); (case d5 => k_asm); (case d6 => first | assumption | omega); (case e1 => k_asm); (case e2 => k_asm); (case e3 => first | (with_reducible assumption) | omega); (case e4 => first | (with_reducible assumption) | omega); (case e5 => first | (with_reducible assumption) | omega); (case e6 => first | (with_reducible assumption) | omega); k_whole); intro l9 us9 n9 tl9 h9 k9 F9 N9 ne9 of9 pi9; (try simp only [List.cons_append, List.nil_append] at N9); (try simp only [List.map_cons, List.map_nil] at of9); (try k_sweep))
  trivial
section
variable {prog : Program} {w : World} {A₀ A : Around} {s : Shared} {base h₀ : Heap} {outer : List Env} {L : Addr} {m : Str → Option Value} {env : Env} {news : List (Addr × Obj)} {K : Frag} {p : Program} {loose : List Str} {mean : ExcName → Option Value} {mg mb : Str → Option Value}
theorem leaveX_run {R : Result → Shared → Prop} {v : Value} {s' : Shared} (F : Fr h₀ L s.heap m) (N : News h₀ L s.heap news) (hl : LeaveX (hideAll s.heap (news.map (·.1))) h₀ L m (news.map (·.1)) s.heap R v s') : R (.ok (.ret v)) s' := by
  obtain ⟨L', m', news', F', N', k⟩ := hl
  have ex : Ext (news.map (·.1)) s.heap s'.heap := fun a o n e => F'.keep _ _ (hideAll_get _ e n)
  have fresh : ∀ p ∈ news', p.1 ∉ news.map (·.1) → s.heap.get? p.1 = none := fun p hp n => by
    cases q : s.heap.get? p.1 with
    | none => rfl
    | some o => have := (N' p hp).2.2; rw [hideAll_get _ q n] at this; cases this
  have hLS : L ∉ news.map (·.1) := fun q => by
    obtain ⟨p, hp, e⟩ := List.mem_map.mp q
    exact (N p hp).2.1 e
  have h0S : ∀ a ∈ news.map (·.1), h₀.get? a = none := fun a q => by
    obtain ⟨p, hp, rfl⟩ := List.mem_map.mp q
    exact (N p hp).2.2
  have F₂ : Fr h₀ L s'.heap m := ex.fr F hLS h0S
  refine k F₂ ex (fun p hp => ⟨(N' p hp).1, fun q => ?_, ?_⟩) fresh
  · obtain ⟨oL, _, _, hL, _⟩ := F.ns
    have := fresh p hp (by rw [q]; exact hLS)
    rw [q, hL] at this; cases this
  · by_cases hm : p.1 ∈ news.map (·.1)
    · exact h0S _ hm
    · cases q : h₀.get? p.1 with
      | none => rfl
      | some o => have := fresh p hp hm; rw [F.keep _ _ q] at this; cases this

theorem enter_defC {R : Result → Shared → Prop} {name qual : Str} {params : Arguments} {body : List Stmt} {scope : Scope} {dV kV doc pm cdv ct oc : Value} {an od : Option Addr} {osl : Array (Option Value)} {f : Addr} {args : Args} {binds : List (Str × Value)}
    (B : Below A₀ base outer h₀) (F : Fr h₀ L s.heap m) (X₀ : K.In h₀) (N : News h₀ L s.heap news) (T : Top p loose mean mg mb h₀) (hA : A.frames = some (env :: outer)) (hf : env.frame = some L) (hke : env.scope.kind = .function)
    (ho : K.lookup f = some ⟨oc, od, .func (fnOf name qual params body scope dV kV doc pm an cdv ct), osl⟩) (hcd : codeIn K cdv qual = true) (hroom : A.depth < recursionLimit)
    (hbind : BindsTo s (fnOf name qual params body scope dV kV doc pm an cdv ct) args binds) (hkind : (binds.all fun y => scope.names.lookup y.1 == some .local || scope.names.lookup y.1 == some .cell) = true)
    (hnd : ((cellsFrom 0 scope.names []).map (·.1)).Nodup)
    (h : ∀ g L' h₁ tk cells, Fr g L' h₁ (bindL (envOfC qual scope L' f cdv).kindOf binds fun _ => none) → News g L' h₁ (cells ++ news) →
      CellsAre (bindC (envOfC qual scope L' f cdv).kindOf binds fun _ => none) (cellsFrom (L' + 1) scope.names []) cells → Below A base (env :: outer) g → K.In g → Top p loose mean mg mb g → (∀ p ∈ news, p.1 < L') →
      wpAny (model prog w) (A.deeper (envOfC qual scope L' f cdv)) (execs body (envOfC qual scope L' f cdv))
        (fun fl s' => LeaveX g h₀ L m (news.map (·.1)) s.heap R (match fl with | .ret v => v | _ => .none) s')
        (fun _ _ => False)
        { s with heap := h₁, toks := tk })
    (hco : scope.isCoroutine = false) (hgen : scope.isGenerator = false) (hk : scope.kind = .function) : codeAny (model prog w) A (.call (.ref f) args) R s := by
  obtain ⟨FG, BG, st, lv⟩ := groundX (R := R) B F N hA hf hke
  have X := X₀.keeps F.keep
  refine codeAny_call_function hroom (X _ _ ho) rfl hco hgen rfl (codeRec_of X hcd) (hbind _ _ _ _ ?_)
  refine wpAny_newFunctionEnv_cells hk (kindsX hkind _) fun env' he s' x => ?_
  subst he
  refine ⟨(T.nolimit.keeps F.keep).keeps x.toInCall.keep, codeAny_func ?_⟩
  obtain ⟨h₁, tk, rfl, _⟩ := x.done
  have hk₁ := x.toInCall.keep
  obtain ⟨cells, NC, Y⟩ := Cl.news (h₀ := s.heap) (Nat.le_refl _) fun n c hm => ⟨x.cell n c (lookup_of_mem_nodup (cellsFrom_names scope.names 0 (s.heap.objs.size + 1) [] [] rfl ▸ hnd) hm), x.above n c hm⟩
  refine wpAny_mono (h (hideAll s.heap (news.map (·.1))) s.heap.objs.size h₁ tk cells ⟨x.toInCall.ns, fun b o e => hk₁ b o (of_hideAll _ e), Nat.le_of_eq (hideAll_size _ _)⟩ (fun p hp => ?_) Y BG (X₀.keeps fun b o e => st b o e) (T.keeps fun b o e => st b o e) (fun p hp => Heap.lt_size (N p hp).1)) (fun fl s' hl => leaveX_run F N hl) fun _ _ y => y.elim
  rcases List.mem_append.mp hp with hp | hp
  · refine ⟨(NC p hp).1, (NC p hp).2.1, ?_⟩
    cases q : (hideAll s.heap (news.map (·.1))).get? p.1 with
    | none => rfl
    | some o => have := of_hideAll _ q; rw [(NC p hp).2.2] at this; cases this
  · exact ⟨hk₁ _ _ (N p hp).1, Nat.ne_of_lt (Heap.lt_size (N p hp).1), hideAll_none _ (List.mem_map_of_mem hp)⟩
end

/-- a list comprehension with a test, by what holds of the items kept so far -/
theorem restT_ind {prog : Program} {w : World} {A : Around} {h₀ : Heap} {L : Addr} {m : Str → Option Value} {env : Env} {ct elt : PySem.Expr} {x : Str} {scope : Scope} {cl : List (Str × Addr)} {s : Shared} {S : List (Addr × Obj) → Prop} {P : Nat → Value → Prop}
    {Fin : List Value → List (Addr × Obj) → Prop} {news : List (Addr × Obj)} (R : Nat → List Value → Prop) (n : Nat)
    (step : ∀ i ys v I oI C oC D m₂ h tk (E' : Value → Shared → Prop), i < n → R i ys → P i v → LCg.NsObj oC m₂ → m₂ x = some v → Fr h₀ L h m → News h₀ L h ((I, oI) :: (C, oC) :: (D, LCg.lst ys) :: news) → LCg.Off3 I C D news → ((@Ne Nat I C) ∧ (@Ne Nat I D) ∧ (@Ne Nat C D)) →
      wpAny (model prog w) A (isTrue ct (compEnvC scope cl C env) (eval ct (compEnvC scope cl C env))) (fun ok s' => if ok = true then
        wpAny (model prog w) A (eval elt (compEnvC scope cl C env)) (LCg.CompEnd h₀ L m { s with heap := h, toks := tk } I oI C oC D (LCg.lst ys) S (fun y news' => news' = news ∧ R (i + 1) (ys ++ [y]))) E' s'
        else LCg.CompEnd h₀ L m { s with heap := h, toks := tk } I oI C oC D (LCg.lst ys) S (fun _ news' => news' = news ∧ R (i + 1) ys) Value.none s') E' { s with heap := h, toks := tk })
    (fin : ∀ ys, R n ys → Fin ys news) : ∀ k i ys, i + k = n → R i ys → LCt.CompRestT prog w A h₀ L m env ct elt x scope cl s S P Fin k i ys news
  | 0, i, ys, e, r => LCt.CompRestT.zero (fin ys (by rw [show n = i by omega]; exact r))
  | k + 1, i, ys, e, r => LCt.CompRestT.succ fun v I oI C oC D m₂ h tk E' hP hC hx F N off ne => by
    refine wpAny_mono (step i ys v I oI C oC D m₂ h tk E' (by omega) r hP hC hx F N off ne) (fun ok s' q => ?_) fun _ _ z => z
    cases ok with
    | true =>
      simp only [if_true] at q ⊢
      refine wpAny_mono q (fun y s₂ z => ?_) fun _ _ z => z
      obtain ⟨h', tk', news', e1, F', N', o', hS, rfl, r'⟩ := z
      exact ⟨h', tk', _, e1, F', N', o', hS, restT_ind R n step fin k (i + 1) _ (by omega) r'⟩
    | false =>
      simp only [Bool.false_eq_true, if_false] at q ⊢
      obtain ⟨h', tk', news', e1, F', N', o', hS, rfl, r'⟩ := q
      exact ⟨h', tk', _, e1, F', N', o', hS, restT_ind R n step fin k (i + 1) _ (by omega) r'⟩
/-- one without a test -/
theorem rest_ind {prog : Program} {w : World} {A : Around} {h₀ : Heap} {L : Addr} {m : Str → Option Value} {env : Env} {elt : PySem.Expr} {x : Str} {scope : Scope} {cl : List (Str × Addr)} {s : Shared} {S : List (Addr × Obj) → Prop} {P : Nat → Value → Prop}
    {Fin : List Value → List (Addr × Obj) → Prop} {news : List (Addr × Obj)} (R : Nat → List Value → Prop) (n : Nat)
    (step : ∀ i ys v I oI C oC D m₂ h tk (E' : Value → Shared → Prop), i < n → R i ys → P i v → LCg.NsObj oC m₂ → m₂ x = some v → Fr h₀ L h m → News h₀ L h ((I, oI) :: (C, oC) :: (D, LCg.lst ys) :: news) → LCg.Off3 I C D news → ((@Ne Nat I C) ∧ (@Ne Nat I D) ∧ (@Ne Nat C D)) →
      wpAny (model prog w) A (eval elt (compEnvC scope cl C env)) (LCg.CompEnd h₀ L m { s with heap := h, toks := tk } I oI C oC D (LCg.lst ys) S (fun y news' => news' = news ∧ R (i + 1) (ys ++ [y]))) E' { s with heap := h, toks := tk })
    (fin : ∀ ys, R n ys → Fin ys news) : ∀ k i ys, i + k = n → R i ys → LCg.CompRest prog w A h₀ L m env elt x scope cl s S P Fin k i ys news
  | 0, i, ys, e, r => LCg.CompRest.zero (fin ys (by rw [show n = i by omega]; exact r))
  | k + 1, i, ys, e, r => LCg.CompRest.succ fun v I oI C oC D m₂ h tk E' hP hC hx F N off ne => by
    refine wpAny_mono (step i ys v I oI C oC D m₂ h tk E' (by omega) r hP hC hx F N off ne) (fun y s₂ z => ?_) fun _ _ z => z
    obtain ⟨h', tk', news', e1, F', N', o', hS, rfl, r'⟩ := z
    exact ⟨h', tk', _, e1, F', N', o', hS, rest_ind R n step fin k (i + 1) _ (by omega) r'⟩
theorem ints_at {ws : List Value} {ns : List Int} (h : IntsAre ws ns) {i : Nat} {v : Value} (e : ws.toArray[i]? = some v) : ∃ k t, v = .int k t ∧ ns[i]? = some k := by
  have hlt : i < ns.length := by
    rw [← h.length]
    have e' : ws[i]? = some v := by simpa using e
    exact (List.getElem?_eq_some_iff.mp e').1
  obtain ⟨t, ht⟩ := h.get i ns[i] (by simp [hlt])
  have e' : ws[i]? = some v := by simpa using e
  rw [ht] at e'
  exact ⟨ns[i], t, (Option.some.inj e').symm, by simp [hlt]⟩
theorem flt_yes {ns : List Int} {ys : List Value} {i : Nat} {k : Int} {t : Tok} {p : Int → Bool} (hR : IntsAre ys ((ns.take i).filter p)) (hk : ns[i]? = some k) (hp : p k = true) : IntsAre (ys ++ [.int k t]) ((ns.take (i + 1)).filter p) := by
  rw [List.take_add_one, hk, List.filter_append]
  simp only [Option.toList, List.filter_cons, hp, if_true, List.filter_nil]
  exact hR.append (.cons k t .nil)
theorem flt_no {ns : List Int} {ys : List Value} {i : Nat} {k : Int} {p : Int → Bool} (hR : IntsAre ys ((ns.take i).filter p)) (hk : ns[i]? = some k) (hp : ¬ p k = true) : IntsAre ys ((ns.take (i + 1)).filter p) := by
  rw [List.take_add_one, hk, List.filter_append]
  have : p k = false := by simpa using hp
  simp only [Option.toList, List.filter_cons, this, List.filter_nil, Bool.false_eq_true, if_false, List.append_nil]
  exact hR
theorem flt_end {ws : List Value} {ns : List Int} {ys : List Value} {p : Int → Bool} (h : IntsAre ws ns) (hR : IntsAre ys ((ns.take ws.toArray.size).filter p)) : IntsAre ys (ns.filter p) := by
  rw [List.size_toArray, h.length, List.take_length] at hR; exact hR
/-- some octets of a text, by Python's two ends -/
def cutI (ks : List Int) (lo hi : Int) : List Int := (ks.drop (clipAt ks.length lo)).take (clipAt ks.length hi - clipAt ks.length lo)
theorem bInts_inj {a b : Array UInt8} (h : KBw.bInts a = KBw.bInts b) : a = b := by
  unfold KBw.bInts at h
  have : a.toList = b.toList := by
    refine List.map_inj_right (fun x y e => ?_) |>.mp h
    have : x.toNat = y.toNat := by omega
    exact UInt8.toNat_inj.mp this
  exact Array.toList_inj.mp this
section
variable {prog : Program} {w : World} {A : Around} {E : Value → Shared → Prop} {s : Shared} {a b : Array UInt8} {ka kb : List Int} {t u : Tok} {Q : Value → Shared → Prop}
theorem eq_bytesI (ha : KBw.bInts a = ka) (hb : KBw.bInts b = kb) (h : Q (.bool (decide (ka = kb))) s) : wpAny (model prog w) A (compareOp .Eq (.bytes a t) (.bytes b u)) Q E s := by
  refine eq_bytes ?_
  have e : (a.toList == b.toList) = decide (ka = kb) := by
    by_cases c : a = b
    · subst c; rw [← ha, ← hb]; simp
    · have : ¬ ka = kb := fun q => c (bInts_inj (by rw [ha, hb, q]))

      simp [c, this]
  rw [e]; exact h
end
theorem reg_09 : True := by
  k_with "CompEnd" => (refine LCg.CompEnd.intro (by assumption) (by assumption) _ (fun _ z => z) (by with_reducible assumption) (.inr ⟨_, by k_mem, rfl, _, rfl⟩) ?_)
  k_with "FinE" => ((unfold LCg.FinE); intro D' h' tk' F' N' o1'; (try simp only [List.nil_append, List.cons_append] at N'); (try dsimp only))
  k_with "FinA" => ((unfold LCg.FinA); intro D' h' tk' F' N' o1'; (try simp only [List.nil_append, List.cons_append] at N'); (try dsimp only))
  k_with "M enterC" => k_dflt (refine' enter_defC ?k1 ?k2 ?k3 ?k4 ?k5 ?kA ?kF ?kK ?k6 ?k7 ?k8 ?k9 ?kB ?kD ?_ ?c2 ?c3 ?c4; (case kA => exact rfl); (case kF => exact rfl); (case kK => assumption); (case k1 => k_asm); (case k2 => k_asm); (case k3 => k_asm); (case k4 => k_asm); (case k5 => k_asm); (case k6 => k_is); (case k7 => k_is); (case k8 => (refine Nat.lt_of_le_of_lt (by assumption) ?_; decide)); (case k9 => exact BindsTo.of_eq rfl); (case kB => exact rfl); (case kD => decide +kernel); (case c2 => exact rfl); (case c3 => exact rfl); (case c4 => exact rfl); k_whole)
  k_with "compareOp Eq bytes bytes" => (k_here; (with_reducible show wpAny _ _ (compareOp CmpOp.Eq (Value.bytes _ _) (Value.bytes _ _)) _ _ _); (refine eq_bytesI (by kba_ints) (by kba_ints) ?_))
  k_with "eval ListComp" => (k_here; lct_look; k_dflt (refine LCt.ListComp_T (F₀ := by k_asm) (by with_unfolding_all rfl) (by decide) (by rfl) (by decide) (by rfl) ?_))
  k_with "exec Assign cons ListComp" => (k_here; lct_look; k_dflt (refine LCt.Assign_ListComp_T (F₀ := by k_asm) (by rfl) (by with_unfolding_all rfl) (by with_unfolding_all rfl) (by decide) (by rfl) (by decide) (by rfl) (by rfl) (by rfl) ?_))
  k_with "CompSrcT" => (k_here; k_dflt (refine LCt.CompSrcT.ledger (by rfl) (by k_asm) (by k_asm) (by k_mem) (by first | size_fits | (rw [List.size_toArray, IntsAre.length (by assumption), sizeLine_eq]; omega) | exact Nat.le_of_ble_eq_true rfl) ?_; intro g'; refine Park.h ?_))
  k_with "kmk_sum" => (rw [sizeLine_eq]; (simp only [List.length_cons, List.length_nil]); omega)
  k_with "call builtin:max" => (k_here; (with_reducible show wpAny _ _ (call (Value.builtin _) [Value.ref _]) _ _ _); (with_unfolding_all refine' kso_max ?k1 ?k2 ?k3 ?k4 ?k5 ?k6 ?_; (case k1 => k_asm); (case k2 => k_asm); (case k3 => kso_list); (case k4 => l_ints); (case k5 => (simp only [List.length_append, List.length_cons, List.length_nil]; omega)); (case k6 => with_unfolding_all rfl); k_whole); intro h9 m9 t9 k9 F9 N9 ma9 mb9; (try k_sweep))
  trivial
namespace EB
open PySem.W.KBw
section
variable {prog : Program} {w : World} {A : Around} {E : Value → Shared → Prop} {s : Shared} {b : Array UInt8} {t : Tok}
theorem nextOf_item {it : Addr} {i : Nat} {c : UInt8} {Q : Value → Shared → Prop} (hit : IsBytesIter s.heap it b t i) (hx : b[i]? = some c)
    (hQ : ∀ h', IsBytesIter h' it b t (i + 1) → Heap.SameBut it s.heap h' → Q (.int (c.toNat : Int) s.toks) { s with heap := h', toks := s.toks + 1 }) :
    wpAny (model prog w) A (Builtin.SmallTypes.nextOf (.ref it)) Q E s := by
  obtain ⟨o, ho, hc, hd⟩ := id hit
  unfold Builtin.SmallTypes.nextOf
  refine wpAny_bind (wpAny_callSpecial?_slot (name := PySem.Str.ofString "__next__") (iter_typeIs hit) slot_next
    (wpAny_call_entry slot_next (iter_typeIs hit) entry_next ?_ (args_next _)))
  show wpAny _ _ (field (.ref it) 0 >>= _) _ _ s
  refine wpAny_bind (wpAny_field ho hd (x := .bytes b t) rfl ?_)
  show wpAny _ _ (if (Value.bytes b t == Value.none) = true then _ else _) _ _ s
  rw [if_neg (show ¬ ((Value.bytes b t == Value.none) = true) from Bool.false_ne_true)]
  show wpAny _ _ (field (.ref it) 1 >>= _) _ _ s
  refine wpAny_bind (wpAny_field ho hd (x := .int i 0) rfl ?_)
  refine wpAny_bind (wpAny_of_eq (a := b) rfl ?_)
  simp only [Int.toNat_natCast, hx]
  refine wpAny_bind (wpAny_setField ho hd (by simp) (wpAny_bind (wpAny_mkInt (wpAny_pure ⟨_, rfl, wpAny_pure (hQ _ ?_ (Heap.SameBut.update ..))⟩))))
  exact ⟨_, Heap.get?_update_self _ ho (Obj.isFreed_of_fields (Obj.data_mapFields hd _)), (Obj.cls_mapFields ..).trans hc, by
    rw [Obj.data_mapFields hd]; simp [rawInt]⟩
theorem nextOf_end {it : Addr} {i : Nat} {Q : Value → Shared → Prop} (hh : A.handled = none) (hit : IsBytesIter s.heap it b t i) (hx : b[i]? = none)
    (hE : ∀ h' e, Heap.ExtBut it s.heap h' → (∃ o, h'.get? e = some o ∧ o.cls = .type "StopIteration") → E (.ref e) { s with heap := h' }) :
    wpAny (model prog w) A (Builtin.SmallTypes.nextOf (.ref it)) Q E s := by
  obtain ⟨o, ho, hc, hd⟩ := id hit
  unfold Builtin.SmallTypes.nextOf
  refine wpAny_bind (wpAny_callSpecial?_slot (name := PySem.Str.ofString "__next__") (iter_typeIs hit) slot_next
    (wpAny_call_entry slot_next (iter_typeIs hit) entry_next ?_ (args_next _)))
  show wpAny _ _ (field (.ref it) 0 >>= _) _ _ s
  refine wpAny_bind (wpAny_field ho hd (x := .bytes b t) rfl ?_)
  show wpAny _ _ (if (Value.bytes b t == Value.none) = true then _ else _) _ _ s
  rw [if_neg (show ¬ ((Value.bytes b t == Value.none) = true) from Bool.false_ne_true)]
  show wpAny _ _ (field (.ref it) 1 >>= _) _ _ s
  refine wpAny_bind (wpAny_field ho hd (x := .int i 0) rfl ?_)
  refine wpAny_bind (wpAny_of_eq (a := b) rfl ?_)
  simp only [Int.toNat_natCast, hx]
  refine wpAny_bind (wpAny_rule (wpAny_bind (wpAny_setField ho hd (by simp) ?_)))
  show wpAny _ _ (newExc (.type "StopIteration") [] >>= _) _ _ _
  refine wpAny_bind ?_
  simp only [newExc, newTuple]
  refine wpAny_bind (wpAny_newObj_type ?_ (by size_fits))
  refine wpAny_bind (m := firstArgMember _ _) (wpAny_of_eq (a := Value.none) (by first | rfl | (simp only [firstArgMember]; rfl)) ?_)
  refine wpAny_newObj_type ?_ (by size_fits)
  simp only [raiseNew]
  refine wpAny_bind (wpAny_handled ?_)
  rw [show A.in1.handled = none from hh]
  refine wpAny_bind (wpAny_pure (wpAny_throw ?_))
  exact hE _ _ (((Heap.SameBut.update ..).extBut.push _).push _) ⟨_, Heap.get?_push_size _ rfl, rfl⟩
theorem biter_ext {h h' : Heap} {it e : Addr} {i : Nat} (hit : IsBytesIter h it b t i) (x : Heap.SameBut e h h') (hne : it ≠ e) : IsBytesIter h' it b t i := by
  obtain ⟨o, ho, r⟩ := hit
  exact ⟨o, (x.2 it hne).trans ho, r⟩
theorem enum_next {e it : Addr} {i : Nat} {c : UInt8} {old : Value} {Q : Value → Shared → Prop}
    (he : IsEnum s.heap e it i old) (hit : IsBytesIter s.heap it b t i) (hx : b[i]? = some c) (hne : e ≠ it)
    (hQ : ∀ h', IsEnumOut h' e it ((i : Int) + 1) (.int (c.toNat : Int) s.toks) s.heap.objs.size → IsBytesIter h' it b t (i + 1) →
      h'.get? s.heap.objs.size = some { cls := .type "tuple", data := .seq #[.int i (s.toks + 1), .int (c.toNat : Int) s.toks] } → h'.objs.size = s.heap.objs.size + 1 →
      (∀ b o, b ≠ e → b ≠ it → s.heap.get? b = some o → h'.get? b = some o) → Q (.ref s.heap.objs.size) { s with heap := h', toks := s.toks + 1 + 1 }) :
    wpAny (model prog w) A (Builtin.«enumerate.__next__» ⟨[.ref e], []⟩) (fun fin s' => ∃ v, fin = .done (.ret v) ∧ Q v s') E s := by
  obtain ⟨hp, g, d, tk, os⟩ := s
  show wpAny _ _ (field (.ref e) 2 >>= _) _ _ _
  refine wpAny_bind (wpAny_field he rfl (x := .ref it) rfl ?_)
  refine wpAny_bind (nextOf_item hit hx fun h₁ hit₁ hs₁ => ?_)
  replace hs₁ : Heap.SameBut it hp h₁ := hs₁
  have he₁ : IsEnum h₁ e it i old := (hs₁.2 e hne).trans he
  generalize hX : Value.int (c.toNat : Int) tk = x
  show wpAny _ _ (field (.ref e) 3 >>= _) _ _ ⟨h₁, g, d, tk + 1, os⟩
  refine wpAny_bind (wpAny_field he₁ rfl (x := rawInt i) rfl ?_)
  show wpAny _ _ (field (.ref e) 4 >>= _) _ _ ⟨h₁, g, d, tk + 1, os⟩
  refine wpAny_bind (wpAny_field he₁ rfl (x := .none) rfl ?_)
  show wpAny _ _ (mkInt i >>= _) _ _ ⟨h₁, g, d, tk + 1, os⟩
  refine wpAny_bind (wpAny_mkInt ?_)
  show wpAny _ _ (setField (.ref e) 3 (rawInt ((i : Int) + 1)) >>= _) _ _ ⟨h₁, g, d, tk + 1 + 1, os⟩
  refine wpAny_bind (wpAny_setField_rec he₁ (by simp) fun h₂ he₂ hs₂ => ?_)
  replace hs₂ : Heap.SameBut e h₁ h₂ := hs₂
  replace he₂ : IsEnum h₂ e it ((i : Int) + 1) old := he₂
  show wpAny _ _ (setField (.ref e) 4 .none >>= _) _ _ ⟨h₂, g, d, tk + 1 + 1, os⟩
  refine wpAny_bind (wpAny_setField_rec he₂ (by simp) fun h₃ he₃ hs₃ => ?_)
  replace hs₃ : Heap.SameBut e h₂ h₃ := hs₃
  replace he₃ : IsEnum h₃ e it ((i : Int) + 1) old := he₃
  show wpAny _ _ (newTuple [.int i (tk + 1), x] >>= _) _ _ ⟨h₃, g, d, tk + 1 + 1, os⟩
  refine wpAny_bind (wpAny_newTuple ?_)
  have he₄ : IsEnum (h₃.push { cls := .type "tuple", data := .seq #[.int i (tk + 1), x] }) e it ((i : Int) + 1) old := Heap.get?_push_of_some _ he₃
  generalize hh₄ : h₃.push { cls := .type "tuple", data := .seq #[.int i (tk + 1), x] } = h₄ at he₄
  have hsz : h₃.objs.size = hp.objs.size := by rw [hs₃.1, hs₂.1, hs₁.1]
  have hel : e < hp.objs.size := Heap.lt_size he
  have ht₄ : h₄.get? hp.objs.size = some { cls := .type "tuple", data := .seq #[.int i (tk + 1), x] } := by rw [← hh₄, ← hsz]; exact Heap.get?_push_size _ rfl
  have hz₄ : h₄.objs.size = hp.objs.size + 1 := by rw [← hh₄, Heap.size_push, hsz]
  have hk₄ : ∀ b o, b ≠ e → b ≠ it → hp.get? b = some o → h₄.get? b = some o := fun b o hbe hbi hb => by
    rw [← hh₄]; exact Heap.get?_push_of_some _ (hs₃.extBut b o hbe (hs₂.extBut b o hbe (hs₁.extBut b o hbi hb)))
  have hit₄ : IsBytesIter h₄ it b t (i + 1) := by
    rw [← hh₄]; obtain ⟨o, ho, r⟩ := biter_ext (biter_ext hit₁ hs₂ (Ne.symm hne)) hs₃ (Ne.symm hne); exact ⟨o, Heap.get?_push_of_some _ ho, r⟩
  show wpAny _ _ (Builtin.SmallTypes.ownedTupleIsFree (.ref e) >>= _) _ _ ⟨h₄, g, d, tk + 1 + 1, os⟩
  rw [hsz]
  clear hh₄ he₃ hs₃ he₂ hs₂ he₁ hs₁ hit₁ hsz h₃ h₂ h₁
  refine wpAny_bind ?_
  · unfold Builtin.SmallTypes.ownedTupleIsFree
    refine wpAny_bind (wpAny_field he₄ rfl (x := .none) rfl (wpAny_pure ?_))
    simp only [if_true]
    refine wpAny_bind (wpAny_rule ?_)
    refine wpAny_bind (wpAny_field he₄ rfl (x := old) rfl ?_)
    refine wpAny_bind (wpAny_setField_rec he₄ (by simp) fun h₅ he₅ hs₅ => ?_)
    replace hs₅ : Heap.SameBut e h₄ h₅ := hs₅
    replace he₅ : IsEnum h₅ e it ((i : Int) + 1) x := he₅
    show wpAny _ _ (Builtin.SmallTypes.ownedTupleHandOut (.ref e) (.ref hp.objs.size) >>= _) _ _ ⟨h₅, g, d, tk + 1 + 1, os⟩
    refine wpAny_bind ?_
    · unfold Builtin.SmallTypes.ownedTupleHandOut
      refine wpAny_bind (wpAny_setField_rec he₅ (by simp) fun h₆ he₆ hs₆ => ?_)
      replace hs₆ : Heap.SameBut e h₅ h₆ := hs₆
      replace he₆ : IsEnumOut h₆ e it ((i : Int) + 1) x hp.objs.size := he₆
      refine wpAny_setField_rec he₆ (by simp) fun h₇ he₇ hs₇ => ?_
      replace hs₇ : Heap.SameBut e h₆ h₇ := hs₇
      replace he₇ : IsEnumOut h₇ e it ((i : Int) + 1) x hp.objs.size := he₇
      subst hX
      refine wpAny_bind (wpAny_letGo (wpAny_pure ⟨_, rfl, hQ h₇ he₇ ?_ ?_ ?_ ?_⟩))
      · exact biter_ext (biter_ext (biter_ext hit₄ hs₅ (Ne.symm hne)) hs₆ (Ne.symm hne)) hs₇ (Ne.symm hne)
      · exact hs₇.extBut _ _ (Nat.ne_of_gt hel) (hs₆.extBut _ _ (Nat.ne_of_gt hel) (hs₅.extBut _ _ (Nat.ne_of_gt hel) ht₄))
      · rw [hs₇.1, hs₆.1, hs₅.1, hz₄]
      · exact fun b o hbe hbi hb => hs₇.extBut b o hbe (hs₆.extBut b o hbe (hs₅.extBut b o hbe (hk₄ b o hbe hbi hb)))
theorem pyNext_item {e it : Addr} {i : Nat} {c : UInt8} {old : Value} {Q : Option Value → Shared → Prop}
    (he : IsEnum s.heap e it i old) (hit : IsBytesIter s.heap it b t i) (hx : b[i]? = some c) (hne : e ≠ it)
    (hQ : ∀ h', IsEnumOut h' e it ((i : Int) + 1) (.int (c.toNat : Int) s.toks) s.heap.objs.size → IsBytesIter h' it b t (i + 1) →
      h'.get? s.heap.objs.size = some { cls := .type "tuple", data := .seq #[.int i (s.toks + 1), .int (c.toNat : Int) s.toks] } → h'.objs.size = s.heap.objs.size + 1 →
      (∀ b o, b ≠ e → b ≠ it → s.heap.get? b = some o → h'.get? b = some o) → Q (some (.ref s.heap.objs.size)) { s with heap := h', toks := s.toks + 1 + 1 }) :
    wpAny (model prog w) A (pyNext (.ref e)) Q E s := by
  have hT : s.TypeIs (.ref e) "enumerate" := ⟨_, he, rfl⟩
  unfold pyNext
  exact wpAny_bind (wpAny_attempt (wpAny_callSpecial?_slot (name := PySem.Str.ofString "__next__") hT F.slot_enumerate_next
    (wpAny_call_entry F.slot_enumerate_next hT F.entry_enumerate_next
      (enum_next he hit hx hne fun h' a b c d k => wpAny_pure (hQ h' a b c d k)) (F.args_enumerate_next_1 _))))
theorem pyNext_end {e it : Addr} {i : Nat} {old : Value} {Q : Option Value → Shared → Prop} (hh : A.handled = none)
    (he : IsEnum s.heap e it i old) (hit : IsBytesIter s.heap it b t i) (hx : b[i]? = none)
    (hQ : ∀ h', Heap.ExtBut it s.heap h' → Q none { s with heap := h' }) : wpAny (model prog w) A (pyNext (.ref e)) Q E s := by
  have hT : s.TypeIs (.ref e) "enumerate" := ⟨_, he, rfl⟩
  unfold pyNext
  refine wpAny_bind (wpAny_attempt (wpAny_callSpecial?_slot (name := PySem.Str.ofString "__next__") hT F.slot_enumerate_next
    (wpAny_call_entry F.slot_enumerate_next hT F.entry_enumerate_next ?_ (F.args_enumerate_next_1 _))))
  show wpAny _ _ (field (.ref e) 2 >>= _) _ _ _
  refine wpAny_bind (wpAny_field he rfl (x := .ref it) rfl ?_)
  refine wpAny_bind (nextOf_end hh hit hx fun h' x he' hx' => ?_)
  obtain ⟨o, ho, hc⟩ := hx'
  refine wpAny_bind (wpAny_isInstance (T := "StopIteration") (b := true) ⟨o, ho, hc⟩ isSubtype_stop ?_)
  exact wpAny_pure (hQ _ he')
end
set_option maxHeartbeats 1000000 in
theorem meets_new (x : Array UInt8) (t : Tok) :
    Meets (Builtin.«enumerate.__new__» ⟨[.type "enumerate", .bytes x t], []⟩) (fun _ R s =>
      R (.ok (.ret (.ref (s.heap.push { cls := .type "bytes_iterator", data := .fields #[.bytes x t, .int 0 0] }).objs.size)))
        { s with heap := (s.heap.push { cls := .type "bytes_iterator", data := .fields #[.bytes x t, .int 0 0] }).push { cls := .type "enumerate", data := .fields #[.none, .bool false, .ref s.heap.objs.size, rawInt 0, .none, .none] } }) :=
  .of_wp fun prog w A R s h => by
    obtain ⟨hp, g, d, tk, os⟩ := s
    have hsub := sub_enumerate
    wp_walk
    refine wpAny_stack_any fun st => wpAny_pure ?_
    split
    · rename_i c _ _ _ _ _
      cases (c == Value.type "enumerate")
      · wp_walk using pyIter_bytes
        exact ⟨_, rfl, h⟩
      · wp_walk using pyIter_bytes
        exact ⟨_, rfl, h⟩
    · wp_walk using pyIter_bytes
      exact ⟨_, rfl, h⟩
section
variable {prog : Program} {w : World} {A : Around} {E : Value → Shared → Prop} {s : Shared}
theorem call_enum {x : Array UInt8} {t : Tok} {Q : Value → Shared → Prop}
    (h : ∀ h', IsEnum h' (s.heap.objs.size + 1) s.heap.objs.size 0 .none → IsBytesIter h' s.heap.objs.size x t 0 → h'.objs.size = s.heap.objs.size + 2 →
      (∀ b o, s.heap.get? b = some o → h'.get? b = some o) → Q (.ref (s.heap.objs.size + 1)) { s with heap := h' }) :
    wpAny (model prog w) A (call (.type "enumerate") [.bytes x t]) Q E s := by
  refine callType_new F.called_enumerate (by decide) (F.typeCall_enumerate_1 _) (F.newCall_enumerate_1 _) (fun obj => F.args_object_init_2 obj _) F.entry_enumerate_new
    (meets_new x t) ?_
  have hz : (s.heap.push { cls := .type "bytes_iterator", data := .fields #[.bytes x t, .int 0 0] }).objs.size = s.heap.objs.size + 1 := Heap.size_push ..
  show _ ∧ _
  rw [hz]
  have he : IsEnum ((s.heap.push { cls := .type "bytes_iterator", data := .fields #[.bytes x t, .int 0 0] }).push
      { cls := .type "enumerate", data := .fields #[.none, .bool false, .ref s.heap.objs.size, rawInt 0, .none, .none] }) (s.heap.objs.size + 1) s.heap.objs.size 0 .none := by
    have := Heap.get?_push_size (s.heap.push { cls := .type "bytes_iterator", data := .fields #[.bytes x t, .int 0 0] })
      (o := { cls := .type "enumerate", data := .fields #[.none, .bool false, .ref s.heap.objs.size, rawInt 0, .none, .none] }) rfl
    rw [hz] at this; exact this
  refine ⟨⟨_, he, rfl⟩, h _ he ⟨_, Heap.get?_push_of_some _ (Heap.get?_push_size _ rfl), rfl, rfl⟩ (by rw [Heap.size_push, hz]) fun b o y => Heap.get?_push_of_some _ (Heap.get?_push_of_some _ y)⟩
end
theorem walks {prog : Program} {w : World} {A : Around} (hh : A.handled = none) (e it : Addr) (hei : e ≠ it) (b : Array UInt8) (t : Tok) :
    WalksT prog w A e [e, it] [e, it] b.size
      (fun i vals => ∃ c t u, b[i]? = some c ∧ vals = #[.int i t, .int (c.toNat : Int) u])
      (fun i h => (∃ old, IsEnum h e it i old) ∧ IsBytesIter h it b t i)
      (fun i T h => (∃ x, IsEnumOut h e it ((i : Int) + 1) x T) ∧ IsBytesIter h it b t (i + 1) ∧ T ≠ e ∧ T ≠ it) where
  sub := fun b hb => hb
  frame := fun i h h' hst hk => by
    obtain ⟨⟨old, he⟩, o, ho, r⟩ := hst
    exact ⟨⟨old, hk e (by simp) _ he⟩, o, hk it (by simp) o ho, r⟩
  item := fun i s Q E hi hst hQ => by
    obtain ⟨⟨old, he⟩, hit⟩ := hst
    have hx : b[i]? = some b[i] := Array.getElem?_eq_getElem hi
    refine pyNext_item he hit hx hei fun h' ho hit' hT hsz hk => ?_
    have helt : e < s.heap.objs.size := Heap.lt_size he
    have hilt : it < s.heap.objs.size := by obtain ⟨_, x, _⟩ := hit; exact Heap.lt_size x
    exact hQ s.heap.objs.size #[.int i (s.toks + 1), .int (b[i].toNat : Int) s.toks] h' (s.toks + 1 + 1) ⟨_, _, _, hx, rfl⟩ (Nat.le_refl _) ⟨_, hT, rfl, _, rfl⟩
      ⟨⟨_, ho⟩, hit', Nat.ne_of_gt helt, Nat.ne_of_gt hilt⟩
      fun b o hb x => hk b o (fun e' => hb (by simp [e'])) (fun e' => hb (by simp [e'])) x
  go := fun elts k pos i T s Q E hm hQ => by
    obtain ⟨⟨x, ho⟩, hit, hTe, hTi⟩ := hm
    refine wpAny_letOwnedTupleGo_enum ho fun h' he' hs' => hQ h' ⟨⟨x, by simpa using he'⟩, biter_ext hit hs' hei.symm⟩ fun b o hb y => ?_
    exact (hs'.2 b fun e' => hb (by simp [e'])).trans y
  apart := fun i T h hm hT => by
    obtain ⟨_, _, hTe, hTi⟩ := hm
    rcases List.mem_cons.mp hT with rfl | hT
    · exact hTe rfl
    · rcases List.mem_cons.mp hT with rfl | hT
      · exact hTi rfl
      · cases hT
  done := fun s Q E hst hQ => by
    obtain ⟨⟨old, he⟩, hit⟩ := hst
    exact pyNext_end hh he hit (Array.getElem?_eq_none (Nat.le_refl _)) fun h' hx => hQ h' s.toks fun b o hb y => hx b o (fun e' => hb (by simp [e'])) y
  self := fun i s Q E hst hQ => by
    obtain ⟨⟨old, he⟩, _⟩ := hst
    exact wpAny_pyIter_enum he hQ
end EB
namespace EB
open PySem.W.KBw PyProof.Rows.LCg
/-- the items of the comprehension, turn by turn -/
def outF (f : Nat → Int → Int) (bb : Array UInt8) (n : Nat) : List Int := (List.range n).map fun i => f i ((bInts bb).getD i 0)
theorem outF_succ (f : Nat → Int → Int) (bb : Array UInt8) (n : Nat) : outF f bb (n + 1) = outF f bb n ++ [f n ((bInts bb).getD n 0)] := by
  unfold outF; rw [List.range_succ, List.map_append]; rfl
section
variable {prog : Program} {w : World} {A : Around} {E : Value → Shared → Prop} {s : Shared} {h₀ : Heap} {L : Addr} {m : PySem.Str → Option Value} {env : Env}
theorem block {elt iter : PySem.Expr} {a b : PySem.Str} {pa pb tp : Pos} {kk : Nat} {scope : Scope} {cl : List (PySem.Str × Addr)} {pos : Pos} {s₂ : Shared} {e it : Addr} {bb : Array UInt8} {tb : Tok} {news : List (Addr × Obj)} {f : Nat → Int → Int} {RR : Value → Addr → Result → Shared → Prop}
    (hh : A.handled = none) (hei : e ≠ it) (hsz : bb.size ≤ sizeLine) (he : IsEnum s₂.heap e it 0 .none) (hit : IsBytesIter s₂.heap it bb tb 0)
    (hcell : ∀ y ∈ scope.names, y.2 ≠ .cell) (hkind : scope.kind = .function) (hxa : scope.names.lookup a = some .local) (hxb : scope.names.lookup b = some .local) (hab : ¬ a = b)
    (F : Fr h₀ L s₂.heap m) (N : News h₀ L s₂.heap news) (hLe : L ≠ e) (hLi : L ≠ it) (he0 : h₀.get? e = none) (hi0 : h₀.get? it = none) (off : ∀ p ∈ news, p.1 ≠ e ∧ p.1 ≠ it)
    (step : ∀ (k : Nat) (c : Int) t u C oC m₂ h tk led (E' : Value → Shared → Prop), k < bb.size → 0 ≤ c → c < 256 → NsObj oC m₂ → m₂ a = some (.int k t) → m₂ b = some (.int c u) → Fr h₀ L h m → News h₀ L h ((C, oC) :: led) →
      wpAny (model prog w) A (eval elt (compEnvC scope cl C env)) (fun y s' => ∃ h' tk' t', s' = { s₂ with heap := h', toks := tk' } ∧ y = .int (f k c) t' ∧ Fr h₀ L h' m ∧ News h₀ L h' ((C, oC) :: led)) E' { s₂ with heap := h, toks := tk })
    (hRR : ∀ D C h tk m' ys, Fr h₀ L h m → News h₀ L h ((D, lst ys) :: news) → (∀ p ∈ news, p.1 ≠ D) → h.Ns C m' → h₀.get? C = none → h₀.get? D = none → C ≠ L → D ≠ L → C ≠ D → (∀ p ∈ news, p.1 ≠ C) → IntsAre ys (outF f bb bb.size) → RR (.ref D) C (.ok .next) { s₂ with heap := h, toks := tk }) :
    wpAny (model prog w) A (newList []) (fun acc s₃ => wpAny (model prog w) A (newFunctionEnv scope env.globals cl [] env.qual none .none (some env)) (fun cenv s₄ =>
      codeAny (model prog w) A (.compStart (.ListComp elt [⟨.Tuple [.Name a pa, .Name b pb] kk tp, iter, [], 0⟩] scope pos) 0 (.ref e) acc { cenv with scope := relabel scope env }) (RR acc cenv.locals) s₄) E s₃) E s₂ := by
  refine wpAny_newObj_type (wpAny_newFunctionEnv hcell (by intro y hy; simp at hy) (fun h₁ hns₁ hsb₁ => ?_) hkind)
  dsimp only at hns₁ hsb₁ ⊢
  generalize hH2 : s₂.heap.push { cls := .type "list", dict := none, data := .seq ([] : List Value).toArray } = H2 at hns₁ hsb₁ ⊢
  have hC : H2.objs.size = s₂.heap.objs.size + 1 := by rw [← hH2, Heap.size_push]
  have hDC : s₂.heap.objs.size ≠ H2.objs.size := by rw [hC]; exact Nat.ne_of_lt (Nat.lt_succ_self _)
  have below : ∀ b, b < s₂.heap.objs.size → b ≠ H2.objs.size ∧ b ≠ s₂.heap.objs.size := fun b hb => ⟨by rw [hC]; exact Nat.ne_of_lt (Nat.lt_succ_of_lt hb), Nat.ne_of_lt hb⟩
  have helt : e < s₂.heap.objs.size := Heap.lt_size he
  have hilt : it < s₂.heap.objs.size := by obtain ⟨_, q, _⟩ := hit; exact Heap.lt_size q
  have old : ∀ b o, s₂.heap.get? b = some o → h₁.get? b = some o := fun b o x => hsb₁.extBut b o (below b (Heap.lt_size x)).1 (Heap.get?_push_of_some _ (hH2 ▸ Heap.get?_push_of_some _ x))
  have hacc : h₁.get? s₂.heap.objs.size = some (lst []) := hsb₁.extBut _ _ hDC (Heap.get?_push_of_some _ (hH2 ▸ Heap.get?_push_size _ rfl))
  have fresh : ∀ a, s₂.heap.objs.size ≤ a → s₂.heap.get? a = none := fun a ha => by
    cases q : s₂.heap.get? a with
    | none => rfl
    | some o' => exact absurd (Heap.lt_size q) (Nat.not_lt.mpr ha)
  have fresh₀ : ∀ a, s₂.heap.objs.size ≤ a → h₀.get? a = none := fun a ha => by
    cases q : h₀.get? a with
    | none => rfl
    | some o' => have := F.keep a o' q; rw [fresh a ha] at this; cases this
  have hD₀ : h₀.get? s₂.heap.objs.size = none := fresh₀ _ (Nat.le_refl _)
  have hC₀ : h₀.get? H2.objs.size = none := fresh₀ _ (by rw [hC]; exact Nat.le_succ _)
  have hLlt : L < s₂.heap.objs.size := F.ns.lt
  have hDL : s₂.heap.objs.size ≠ L := Ne.symm (below L hLlt).2
  have hCL : H2.objs.size ≠ L := Ne.symm (below L hLlt).1
  have offC : ∀ p ∈ news, p.1 ≠ H2.objs.size := fun p hp => (below _ (Heap.lt_size (N p hp).1)).1
  have offD : ∀ p ∈ news, p.1 ≠ s₂.heap.objs.size := fun p hp => (below _ (Heap.lt_size (N p hp).1)).2
  have W := EB.walks (prog := prog) (w := w) hh e it hei bb tb
  have hwr : ∀ {c : Addr}, c ≠ e → c ≠ it → c ∉ [e, it] := fun h1 h2 q => by
    rcases List.mem_cons.mp q with q | q
    · exact h1 q
    · exact h2 (List.mem_singleton.mp q)
  have loop : ∀ s₃ : Shared, s₃ = { s₂ with heap := h₁, toks := s₂.toks + ([] : List (PySem.Str × Value)).length } →
      codeAny (model prog w) A (.compLoop (.ListComp elt [⟨.Tuple [.Name a pa, .Name b pb] kk tp, iter, [], 0⟩] scope pos) 0 (.ref e) (.ref s₂.heap.objs.size) (compEnvC scope cl H2.objs.size env))
        (RR (.ref s₂.heap.objs.size) H2.objs.size) s₃ := by
    rintro s₃ rfl
    refine kcp_loop
      (fun k s' => ∃ h' tk i ys m', s' = { s₂ with heap := h', toks := tk } ∧ i ≤ bb.size ∧ k = bb.size + 1 - i ∧ IntsAre ys (outF f bb i) ∧ ((∃ old, IsEnum h' e it i old) ∧ IsBytesIter h' it bb tb i) ∧ Fr h₀ L h' m ∧ h'.Ns H2.objs.size m' ∧
        News h₀ L h' ((s₂.heap.objs.size, lst ys) :: news)) ?_ (bb.size + 1)
      ⟨h₁, _, 0, [], _, rfl, Nat.zero_le _, rfl, .nil, ⟨⟨_, old _ _ he⟩, (by obtain ⟨o, ho, r⟩ := hit; exact ⟨o, old _ _ ho, r⟩)⟩, F.keeps old, hns₁, fun p hp => ?_⟩
    · rintro k s' ⟨h', tk, i, ys, m', rfl, hi, rfl, hys, st', F', hn', N'⟩
      by_cases hlt : i < bb.size
      · refine W.item i _ _ _ hlt st' fun T vals h₂ tk₂ hP _ hT hMd hk₂ => ?_
        refine W.go [.Name a pa, .Name b pb] kk tp i T _ _ _ hMd fun h₃ hst₃ hk₃ => ?_
        obtain ⟨c, t, u, hc, rfl⟩ := hP
        have hT₃ : h₃.IsTuple T #[.int i t, .int (c.toNat : Int) u] := hT.at fun o q => hk₃ T o (W.apart i T _ hMd) q
        have up₃ : ∀ c o, c ≠ e → c ≠ it → h'.get? c = some o → h₃.get? c = some o := fun c o h1 h2 x => hk₃ c o (hwr h1 h2) (hk₂ c o (hwr h1 h2) x)
        have hCe : H2.objs.size ≠ e := Ne.symm (below e helt).1
        have hCi : H2.objs.size ≠ it := Ne.symm (below it hilt).1
        refine kcp_assign (env := compEnvC scope cl H2.objs.size env) hh hT₃ (lookup_relabel_local hxa) (lookup_relabel_local hxb) (by simp [compEnvC, relabel, hkind]) (hn'.at' fun o x => up₃ _ o hCe hCi x) fun h₄ tk₄ hn₄ hs₄ => ?_
        have up : ∀ c o, c ≠ e → c ≠ it → c ≠ H2.objs.size → h'.get? c = some o → h₄.get? c = some o := fun c o h1 h2 h3 x => hs₄ c o h3 (up₃ c o h1 h2 x)
        obtain ⟨⟨old₃, he₃⟩, oI, hoI, rI⟩ := hst₃
        have he₄ : IsEnum h₄ e it ((i : Int) + 1) old₃ := hs₄ e _ (Ne.symm hCe) (by simpa using he₃)
        have hi₄ := hs₄ it _ (Ne.symm hCi) hoI
        obtain ⟨oC, heC, hoC⟩ := ns_obj hn₄
        have F₄ : Fr h₀ L h₄ m := ⟨F'.ns.at' fun o x => up _ o hLe hLi (Ne.symm hCL) x, fun c o x => up c o (fun q => by rw [q, he0] at x; cases x) (fun q => by rw [q, hi0] at x; cases x) (fun q => by rw [q, hC₀] at x; cases x) (F'.keep c o x), F'.above⟩
        have hc2 : (bInts bb)[i]? = some (c.toNat : Int) := ints_get hc
        have hcin := ints_in (List.mem_of_getElem? hc2)
        have hgd : (bInts bb).getD i 0 = (c.toNat : Int) := by rw [List.getD_eq_getElem?_getD, hc2]; rfl
        have N₄ : News h₀ L h₄ ((H2.objs.size, oC) :: (e, { cls := .type "enumerate", dict := none, data := .fields #[.none, .bool false, .ref it, rawInt ((i : Int) + 1), .none, old₃], slots := #[] }) :: (it, oI) :: (s₂.heap.objs.size, lst ys) :: news) := fun q hq => by
          rcases List.mem_cons.mp hq with rfl | hq
          · exact ⟨heC, hCL, hC₀⟩
          · rcases List.mem_cons.mp hq with rfl | hq
            · exact ⟨he₄, Ne.symm hLe, he0⟩
            · rcases List.mem_cons.mp hq with rfl | hq
              · exact ⟨hi₄, Ne.symm hLi, hi0⟩
              · have z := N' q hq
                refine ⟨up _ _ ?_ ?_ ?_ z.1, z.2⟩
                · rcases List.mem_cons.mp hq with rfl | hq
                  · exact Ne.symm (below e helt).2
                  · exact (off q hq).1
                · rcases List.mem_cons.mp hq with rfl | hq
                  · exact Ne.symm (below it hilt).2
                  · exact (off q hq).2
                · rcases List.mem_cons.mp hq with rfl | hq
                  · exact hDC
                  · exact offC q hq
        refine wpAny_mono (step i (c.toNat : Int) t u H2.objs.size oC _ h₄ _ _ _ hlt hcin.1 hcin.2 hoC (by simp [hab]) (by simp) F₄ N₄) (fun y s₅ h₅ => ?_) fun _ _ x => x
        obtain ⟨h₅, tk₅, t', rfl, rfl, F₅, N₅⟩ := h₅
        have zC := (N₅ _ (.head _)).1
        have zE := (N₅ _ (.tail _ (.head _))).1
        have zI := (N₅ _ (.tail _ (.tail _ (.head _)))).1
        have zD := (N₅ _ (.tail _ (.tail _ (.tail _ (.head _))))).1
        have hyl : ys.length = i := by rw [hys.length]; simp [outF]
        refine append_at (hsz := by show ys.toArray.size ≤ sizeLine; rw [List.size_toArray, hyl]; exact Nat.le_trans hi hsz) zD fun h₆ hs₆ hD₆ => ?_
        refine ⟨bb.size + 1 - (i + 1), by omega, h₆, tk₅, i + 1, ys ++ [.int (f i (c.toNat : Int)) t'], _, rfl, hlt, rfl, ?_, ⟨⟨old₃, ?_⟩, oI, hs₆.extBut it oI (below it hilt).2 zI, rI⟩, F₅.change hs₆ hDL hD₀, (hoC.ns zC).sameBut hs₆ (Ne.symm hDC), fun q hq => ?_⟩
        · rw [outF_succ, hgd]; exact hys.append (.cons _ t' .nil)
        · have := hs₆.extBut e _ (below e helt).2 zE
          simpa using this
        · rcases List.mem_cons.mp hq with rfl | hq
          · exact ⟨hD₆.trans (congrArg some (lst_snoc ys _)), hDL, hD₀⟩
          · have z := N₅ q (.tail _ (.tail _ (.tail _ (.tail _ hq))))
            exact ⟨hs₆.extBut _ _ (offD q hq) z.1, z.2⟩
      · have hin : i = bb.size := Nat.le_antisymm hi (Nat.not_lt.mp hlt)
        subst hin
        refine W.done _ _ _ st' fun h₂ tk₂ hk₂ => ?_
        have k2 : ∀ c o, c ≠ e → c ≠ it → h'.get? c = some o → h₂.get? c = some o := fun c o h1 h2 x => hk₂ c o (hwr h1 h2) x
        refine hRR _ _ h₂ tk₂ _ ys ⟨F'.ns.at' fun o x => k2 _ o hLe hLi x, fun c o x => k2 c o (fun q => by rw [q, he0] at x; cases x) (fun q => by rw [q, hi0] at x; cases x) (F'.keep c o x), F'.above⟩ (fun q hq => ?_) offD (hn'.at' fun o x => k2 _ o (Ne.symm (below e helt).1) (Ne.symm (below it hilt).1) x) hC₀ hD₀ hCL hDL (Ne.symm hDC) offC hys
        have z := N' q hq
        refine ⟨k2 _ _ ?_ ?_ z.1, z.2⟩
        · rcases List.mem_cons.mp hq with rfl | hq
          · exact Ne.symm (below e helt).2
          · exact (off q hq).1
        · rcases List.mem_cons.mp hq with rfl | hq
          · exact Ne.symm (below it hilt).2
          · exact (off q hq).2
    · rcases List.mem_cons.mp hp with rfl | hp
      · exact ⟨hacc, hDL, hD₀⟩
      · exact ⟨old _ _ (N p hp).1, (N p hp).2⟩
  exact codeAny_compStart_list (loop _ rfl) (wpAny_pyIter_enum (old _ _ he) (loop _ rfl))
end
end EB
namespace EB
open Builtin PySem.W.KBw PySem.W.KBc
theorem rev_ints {b : Array UInt8} {ks : List Int} (hk : bInts b = ks) : bInts (Bytes.sliced b ((b.size : Int) - 1) (-1) (-1)) = ks.reverse := by
  subst hk
  unfold Bytes.sliced
  rw [krv_sliceRange, krv_range, List.filterMap_reverse, krv_all]
  unfold bInts
  rw [← List.map_reverse]
theorem meets_rev (b : Array UInt8) (t : Tok) (a : Addr) (u : Tok) :
    Meets («bytes.__getitem__» ⟨[.bytes b t, .ref a], []⟩) (fun _ R s => s.heap.IsSliceOf a .none .none (.int (-1) u) ∧ b.size ≤ sizeLine ∧ ∀ t' k, R (.ok (.ret (.bytes (Bytes.sliced b ((b.size : Int) - 1) (-1) (-1)) t'))) { s with toks := k }) := by
  refine .of_wp fun prog w A R s hS => ?_
  obtain ⟨⟨o, ho, hc, hd⟩, hsz, h⟩ := hS
  have hT : s.TypeIs (.ref a) "slice" := ⟨o, ho, hc⟩
  show wpAny _ _ (Bytes.payload (.bytes b t) >>= fun r => _) _ _ s
  refine wpAny_bind (wpAny_of_eq (a := b) rfl ?_)
  show wpAny _ _ (Bytes.subscript? (.ref a) >>= fun r => _) _ _ s
  refine wpAny_bind ?_
  unfold Bytes.subscript?
  refine wpAny_bind (wpAny_specialOf hT slice_no_index (wpAny_pure ?_))
  refine wpAny_bind (wpAny_typeOf hT ?_)
  show wpAny _ _ (Bytes.sliceParts (.ref a) >>= fun r => _) _ _ s
  refine wpAny_bind ?_
  unfold Bytes.sliceParts
  refine wpAny_bind (wpAny_field (x := .int (-1) u) ho hd rfl ?_)
  kby_int
  refine wpAny_ite (KBy.ite_no (by decide) ?_)
  refine wpAny_bind (wpAny_field (x := .none) ho hd rfl ?_)
  kby_none
  refine wpAny_bind (wpAny_field (x := .none) ho hd rfl ?_)
  kby_none
  refine wpAny_pure ?_
  have go : wpAny (model prog w) A.in1 (sliceIndices (rawPart none) (rawPart none) (rawPart (some (-1))) b.size) (fun r s' => r = ((b.size : Int) - 1, -1, -1) ∧ s' = s) (fun _ _ => False) s :=
    wpAny_of_eq (sliceIndices_raw none none (some (-1)) b.size (by decide)) ⟨krv_bounds _, rfl⟩
  refine wpAny_bind (wpAny_mono go (fun r s' hr => ?_) fun _ _ e => e.elim)
  obtain ⟨hr1, hr2⟩ := hr
  subst hr1 hr2
  refine wpAny_ite (KBy.ite_no ?_ ?_)
  · simp
  · refine wpAny_bind (wpAny_mkBytes (wpAny_pure ⟨_, rfl, h _ _⟩) ?_)
    refine Nat.le_trans ?_ hsz
    have := congrArg List.length (rev_ints (b := b) rfl)
    rw [List.length_reverse, ints_length, ints_length] at this
    omega
section
variable {prog : Program} {w : World} {A : Around} {E : Value → Shared → Prop} {s : Shared} {value slice : PySem.Expr} {b : Array UInt8} {t : Tok} {h₀ : Heap} {L : Addr} {m : PySem.Str → Option Value} {news : List (Addr × Obj)} {Q : Value → Shared → Prop} {ks : List Int}
theorem slice_rev {u : Tok} (hF : Fr h₀ L s.heap m) (hN : News h₀ L s.heap news) (hk : KBw.bInts b = ks) (hz : ks.length ≤ 1000)
    (h : ∀ h' bb t' k, Fr h₀ L h' m → News h₀ L h' news → KBw.bInts bb = ks.reverse → Q (.bytes bb t') { s with heap := h', toks := k })
    (hs : subscripted slice false (.bytes b t) (.ref s.heap.objs.size) = operate [.ref s.heap.objs.size, .bytes b t] (getItem (.bytes b t) (.ref s.heap.objs.size)) := by with_unfolding_all rfl)
    (ht : ∀ r, letTemporaryGo value (.bytes b t) r = pure () := by intro _; with_unfolding_all rfl) :
    wpAny (model prog w) A (subscriptTail value slice (.bytes b t) (.ref s.heap.objs.size)) Q E { s with heap := s.heap.push { cls := .type "slice", data := .fields #[.none, .none, .int (-1) u] } } :=
  tail_of_ItemOn ⟨"bytes", _, FB.slot_bytes_getitem.lookup, typeIs_bytes _ _ _, getItem_meets (typeIs_bytes _ _ _) (by decide) FB.slot_bytes_getitem FB.entry_bytes_getitem (FB.args_bytes_getitem_2 _ _) (meets_rev b t _ u)
    ⟨Heap.IsSliceOf.new _ _ _ _, by rw [← KBw.ints_length b, hk, sizeLine_eq]; omega, fun t' k => h _ _ _ _ (hF.push _) (News.pushKeep hN _) (rev_ints hk)⟩⟩ hs ht
end
end EB
namespace EB
open PySem.W.KBw PyProof.Rows.LCg
section
variable {prog : Program} {w : World} {A : Around} {E : Value → Shared → Prop} {s : Shared} {h₀ : Heap} {L : Addr} {m : PySem.Str → Option Value} {env : Env}
/-- what the iterable of the comprehension has to bring -/
def Src (prog : Program) (w : World) (A : Around) (h₀ : Heap) (L : Addr) (m : PySem.Str → Option Value) (env : Env) (elt : PySem.Expr) (a b : PySem.Str) (scope : Scope) (cl : List (PySem.Str × Addr)) (f : Nat → Int → Int) (Q : Value → Shared → Prop) (xv : Value) (s₂ : Shared) : Prop :=
  ∃ e it bb tb news, xv = .ref e ∧ A.handled = none ∧ e ≠ it ∧ bb.size ≤ sizeLine ∧ IsEnum s₂.heap e it 0 .none ∧ IsBytesIter s₂.heap it bb tb 0 ∧ Fr h₀ L s₂.heap m ∧ News h₀ L s₂.heap news ∧ L ≠ e ∧ L ≠ it ∧ h₀.get? e = none ∧ h₀.get? it = none ∧ (∀ p ∈ news, p.1 ≠ e ∧ p.1 ≠ it) ∧
    (∀ (k : Nat) (c : Int) t u C oC m₂ h tk led (E' : Value → Shared → Prop), k < bb.size → 0 ≤ c → c < 256 → NsObj oC m₂ → m₂ a = some (.int k t) → m₂ b = some (.int c u) → Fr h₀ L h m → News h₀ L h ((C, oC) :: led) →
      wpAny (model prog w) A (eval elt (compEnvC scope cl C env)) (fun y s' => ∃ h' tk' t', s' = { s₂ with heap := h', toks := tk' } ∧ y = .int (f k c) t' ∧ Fr h₀ L h' m ∧ News h₀ L h' ((C, oC) :: led)) E' { s₂ with heap := h, toks := tk }) ∧
    ∀ D h tk ys, Fr h₀ L h m → News h₀ L h ((D, lst ys) :: news) → (∀ p ∈ news, p.1 ≠ D) → IntsAre ys (outF f bb bb.size) → Q (.ref D) { s₂ with heap := h, toks := tk }
theorem comp {elt ix : PySem.Expr} {a b : PySem.Str} {pa pb tp : Pos} {kk : Nat} {scope : Scope} {cl : List (PySem.Str × Addr)} {pos : Pos} {Q : Value → Shared → Prop} (f : Nat → Int → Int) (_F₀ : Fr h₀ L s.heap m)
    (hclos : closureFor scope env = pure cl) (hcell : ∀ y ∈ scope.names, y.2 ≠ .cell) (hkind : scope.kind = .function)
    (hnames : ∀ y ∈ scope.names, y.2 = .local → scope.names.lookup y.1 = some .local) (hxa : scope.names.lookup a = some .local) (hxb : scope.names.lookup b = some .local) (hab : ¬ a = b)
    (h : wpAny (model prog w) A (eval ix env) (Src prog w A h₀ L m env elt a b scope cl f Q) E s)
    (hs : ∀ x, foldedSetIterable ix env x = pure x := by intro _; rfl) :
    wpAny (model prog w) A (eval (.ListComp elt [⟨.Tuple [.Name a pa, .Name b pb] kk tp, ix, [], 0⟩] scope pos) env) Q E s := by
  rw [eval_ListComp]
  refine wpAny_comprehension_free (use := none) rfl hs hclos hkind hnames (wpAny_mono h (fun xv s₁ h₁ => ?_) fun _ _ e => e)
  obtain ⟨e, it, bb, tb, news, rfl, hh, hei, hsz, he, hit, F, N, hLe, hLi, he0, hi0, off, step, fin⟩ := h₁
  refine wpAny_pyIter_enum he ?_
  refine block (f := f) hh hei hsz he hit hcell hkind hxa hxb hab F N hLe hLi he0 hi0 off step ?_
  intro D C h tk m' ys F' N' o1 hn hC₀ hD₀ hCL hDL hCD offC fi
  refine ⟨m', hn, fun h'' hs'' => fin D h'' tk ys (F'.change hs'' hCL hC₀) (fun p hp => ?_) o1 fi⟩
  refine ⟨hs''.extBut _ _ ?_ (N' p hp).1, (N' p hp).2⟩
  rcases List.mem_cons.mp hp with rfl | hp
  · exact Ne.symm hCD
  · exact offC p hp
theorem src_enum {x : Array UInt8} {t : Tok} {elt : PySem.Expr} {a b : PySem.Str} {scope : Scope} {cl : List (PySem.Str × Addr)} {f : Nat → Int → Int} {Q : Value → Shared → Prop} {news : List (Addr × Obj)}
    (hh : A.handled = none) (hx : x.size ≤ sizeLine) (F : Fr h₀ L s.heap m) (N : News h₀ L s.heap news)
    (step : ∀ (k : Nat) (c : Int) t u C oC m₂ h tk led (E' : Value → Shared → Prop), k < x.size → 0 ≤ c → c < 256 → NsObj oC m₂ → m₂ a = some (.int k t) → m₂ b = some (.int c u) → Fr h₀ L h m → News h₀ L h ((C, oC) :: led) →
      wpAny (model prog w) A (eval elt (compEnvC scope cl C env)) (fun y s' => ∃ h' tk' t', s' = { s with heap := h', toks := tk' } ∧ y = .int (f k c) t' ∧ Fr h₀ L h' m ∧ News h₀ L h' ((C, oC) :: led)) E' { s with heap := h, toks := tk })
    (fin : ∀ D h tk ys, Fr h₀ L h m → News h₀ L h ((D, lst ys) :: news) → (∀ p ∈ news, p.1 ≠ D) → IntsAre ys (outF f x x.size) → Q (.ref D) { s with heap := h, toks := tk }) :
    wpAny (model prog w) A (call (.type "enumerate") [.bytes x t]) (Src prog w A h₀ L m env elt a b scope cl f Q) E s := by
  refine call_enum fun h' he hit _ hk => ?_
  have fr : ∀ c, s.heap.objs.size ≤ c → h₀.get? c = none := fun c hc => by
    cases q : h₀.get? c with
    | none => rfl
    | some o' => exact absurd (Heap.lt_size (F.keep c o' q)) (Nat.not_lt.mpr hc)
  refine ⟨_, _, x, t, news, rfl, hh, Nat.ne_of_gt (Nat.lt_succ_self _), hx, he, hit, F.keeps hk, fun p hp => ⟨hk _ _ (N p hp).1, (N p hp).2⟩, Nat.ne_of_lt (Nat.lt_succ_of_lt F.ns.lt), Nat.ne_of_lt F.ns.lt, fr _ (Nat.le_succ _), fr _ (Nat.le_refl _),
    fun p hp => ⟨Nat.ne_of_lt (Nat.lt_succ_of_lt (Heap.lt_size (N p hp).1)), Nat.ne_of_lt (Heap.lt_size (N p hp).1)⟩, step, fin⟩
end
end EB
theorem whole_sum : ∀ l : List Int, ((List.range l.length).map fun i => l.getD i 0 * 2 ^ (8 * i)).sum = l.foldr (fun k a => a * 256 + k) 0
  | [] => rfl
  | x :: l => by
    rw [List.length_cons, List.range_succ_eq_map, List.map_cons, List.map_map, List.sum_cons, List.foldr_cons, ← whole_sum l]
    have e : ((List.range l.length).map ((fun i => (x :: l).getD i 0 * 2 ^ (8 * i)) ∘ Nat.succ)).sum = ((List.range l.length).map fun i => l.getD i 0 * 2 ^ (8 * i)).sum * 256 := by
      generalize List.range l.length = r
      induction r with
      | nil => rfl
      | cons i r ih =>
        rw [List.map_cons, List.sum_cons, List.map_cons, List.sum_cons, ih, Int.add_mul]
        congr 1
        show l.getD i 0 * 2 ^ (8 * (i + 1)) = _
        rw [show 8 * (i + 1) = 8 * i + 8 by omega, Int.pow_add, Int.mul_assoc]; rfl
    rw [e]
    show x * 2 ^ 0 + _ = _
    omega
theorem whole_num {bb : Array UInt8} {kp : List Int} (hb : KBw.bInts bb = kp.reverse) : (EB.outF (fun k c => c * 2 ^ (8 * k)) bb bb.size).sum = num kp := by
  unfold EB.outF num
  rw [← KBw.ints_length bb, whole_sum, hb, List.foldr_reverse]
section
variable {w : World} {p : Program} {loose : List Str} {mean : ExcName → Option Value} {mg mb : Str → Option Value} {dp un : Nat} {gd : Option (List Code)} {cn : Str} {cs : Scope} {L a : Addr} {ccd : Value} {cl : List (Str × Addr)} {outer : List Env} {A₀ : Around} {base h₀ : Heap} {m : Str → Option Value} {s : Shared} {Q E : Value → Shared → Prop}
theorem loc_10_2 : True := by
  k_with "eval ListComp" => ((fail_if_success (k_extra "off_10_1")); refine Park.h ?_)
  k_with "subscriptTail" => ((fail_if_success (k_extra "off_10_1")); refine Park.h ?_)
  k_with "call type:enumerate" => ((fail_if_success (k_extra "off_10_1")); refine Park.h ?_)
  trivial
theorem whole_call {piece : Array UInt8} {kp : List Int} {v : Tok} (S : Site w p loose mean mg mb dp un cs outer A₀ base h₀ L s.heap m) (hp : KBw.bInts piece = kp) (hl : kp.length ≤ 5)
    (ret : ∀ t h' tk', Ext [] s.heap h' → Q (.int (num kp) t) { s with heap := h', toks := tk' }) :
    wpAny (model Challenge.rw_tk0118_01.row.prog w) (ktrTop dp un gd cn cs L a ccd cl outer) (call (.ref 254) [.bytes piece v]) Q E s := by
  obtain ⟨B, F, X, T, hk, hdp, hun⟩ := S
  have N : News h₀ L s.heap [] := fun _ h => nomatch h
  revert X; k_fill; intro X
  refine wpAny_call ?_
  k_extra "M enter"
  intro g L' h₁ F' N' B' X' T'
  dsimp only
  k_fold
  k_steps
  refine Park.mk ?_
  k_dflt (refine EB.comp (fun k c => c * 2 ^ (8 * k)) (by k_asm) (by with_unfolding_all rfl) (by decide) (by rfl) (by decide) (by rfl) (by rfl) (by decide) ?_)
  k_steps
  refine Park.mk ?_
  rename Fr _ _ _ _ => fE
  rename News _ _ _ _ => nE
  refine EB.slice_rev (s := ⟨_, _, _, _, _⟩) fE nE hp (by omega) ?_
  clear fE nE
  intro h₂ bb t₂ k₂ F₂ N₂ hb
  dsimp only
  k_steps
  refine Park.mk ?_
  have hbs : bb.size = kp.length := by rw [← KBw.ints_length, hb, List.length_reverse]
  refine EB.src_enum rfl (by rw [sizeLine_eq]; omega) F₂ N₂ ?_ ?_
  · intro k c tk u C oC m₂ h tk₃ led E' hkb hc0 hc1 hC ha hb' F₃ N₃
    clear F₂ N₂
    k_steps
    · exact F₃
    · exact N₃
  · intro D h tk ys F₃ N₃ hD hys
    clear F₂ N₂
    k_steps
    rw [whole_num hb]
    refine ret _ _ _ (ext_nil N (fun _ z => nomatch z) kE)
theorem whole_K {piece : Array UInt8} {kp : List Int} {v : Tok} {news : List (Addr × Obj)} (B : Below A₀ base outer h₀) (F : Fr h₀ L s.heap m) (X : (hd.heap_1 w.params).In h₀) (T : Top p loose mean mg mb h₀) (hk : cs.kind = .function) (hdp : dp ≤ 900) (hun : un ≤ 5000)
    (N : News h₀ L s.heap news) (hp : KBw.bInts piece = kp) (hl : kp.length ≤ 5)
    (ret : ∀ t h' tk', Fr h₀ L h' m → News h₀ L h' news → Q (.int (num kp) t) { s with heap := h', toks := tk' }) :
    wpAny (model Challenge.rw_tk0118_01.row.prog w) (ktrTop dp un gd cn cs L a ccd cl outer) (call (.ref 254) [.bytes piece v]) Q E s := by
  exact whole_call ⟨B, F, X, T, hk, hdp, hun⟩ hp hl fun t h' tk' x => ret t h' tk' (ext_nil_fr x F) (ext_nil_news x N)
theorem off_10_1 : True := by
  k_with "off_10_1" => skip
  trivial
end
theorem reg_10 : True := by
  k_with "call ref" => (k_here; (with_reducible show wpAny _ _ (call (Value.ref 254) _) _ _ _); k_dflt (refine' whole_K ?k1 ?k2 ?k3 ?k4 ?k5 ?k6 ?k7 ?k8 ?b1 ?b2 ?_; (case k1 => k_asm); (case k2 => k_asm); (case k3 => k_asm); (case k4 => k_asm); (case k5 => first | exact rfl | assumption); (case k6 => k_extra "M room"); (case k7 => k_extra "M room"); (case k8 => k_asm); (case b1 => kba_ints); (case b2 => first | omega | ((simp only [List.length_take, List.length_drop]); omega)); k_whole); intro t9 h9 k9 F9 N9; (try k_sweep))
  trivial
theorem clip_cut {ks : List Int} {place size : Int} (h1 : 0 ≤ place) (h2 : place < ks.length) (h4 : 0 < size) (h : ¬ (ks.length : Int) < place + size) : (ks.drop (clipAt ks.length place)).take (clipAt ks.length (place + size) - clipAt ks.length place) = cut ks place.toNat size.toNat := by
  rw [clip_int h1 (Int.le_of_lt h2), clip_int (Int.add_nonneg h1 (Int.le_of_lt h4)) (Int.not_lt.mp h), Int.toNat_add h1 (Int.le_of_lt h4), Nat.add_sub_cancel_left]
  rfl
theorem clip_len {ks : List Int} {place size : Int} (h1 : 0 ≤ place) (h2 : place < ks.length) (h4 : 0 < size) : min (clipAt ks.length (place + size) - clipAt ks.length place) (ks.length - clipAt ks.length place) = min size.toNat (ks.length - place.toNat) := by
  have e : clipAt ks.length (place + size) = min (place + size).toNat ks.length := by
    obtain ⟨j, hj⟩ := Int.eq_ofNat_of_zero_le (Int.add_nonneg h1 (Int.le_of_lt h4))
    rw [hj, clipAt_nat]; rfl
  rw [clip_int h1 (Int.le_of_lt h2), e, Int.toNat_add h1 (Int.le_of_lt h4), ← Nat.sub_min_sub_right, Nat.add_sub_cancel_left, Nat.min_assoc, Nat.min_self]
theorem clip_lt {ks : List Int} {place size : Int} (h1 : 0 ≤ place) (h2 : place < ks.length) (h4 : 0 < size) (h : (ks.length : Int) < place + size) (e : ((min (clipAt ks.length (place + size) - clipAt ks.length place) (ks.length - clipAt ks.length place) : Nat) : Int) = size) : False := by
  rw [clip_len h1 h2 h4] at e
  have := Nat.min_le_right size.toNat (ks.length - place.toNat)
  generalize min size.toNat (ks.length - place.toNat) = x at *
  omega
theorem clip_ge {ks : List Int} {place size : Int} (h1 : 0 ≤ place) (h2 : place < ks.length) (h4 : 0 < size) (h : ¬ (ks.length : Int) < place + size) : ((min (clipAt ks.length (place + size) - clipAt ks.length place) (ks.length - clipAt ks.length place) : Nat) : Int) = size := by
  rw [clip_len h1 h2 h4, Nat.min_eq_left, Int.toNat_of_nonneg (Int.le_of_lt h4)]
  omega
section
variable {prog : Program} {w : World} {A : Around} {E : Value → Shared → Prop} {s : Shared} {h₀ : Heap} {L la : Addr} {m : Str → Option Value} {news : List (Addr × Obj)} {ola : Obj} {kvs : List (Int × Value)} {Q : Value → Shared → Prop}
theorem dict_copy (F : Fr h₀ L s.heap m) (N : News h₀ L s.heap news) (hbig : h₀.NoLimit) (hm : (la, ola) ∈ news) (hd : ola.IsDictOf (intKind prog w) kvs) (lo : (la == sysModules) = false) (hsz : kvs.length ≤ 10000)
    (k : ∀ d h' o, Fr h₀ L h' m → News h₀ L h' ((d, o) :: news) → (∀ p ∈ news, p.1 < d) → (d == sysModules) = false → o.IsDictOf (intKind prog w) kvs → Q (.ref d) { s with heap := h' }) :
    wpAny (model prog w) A (call (.type "dict") [.ref la]) Q E s := by
  refine kt_call_dict lo (kda_dict N hm hd) (by rw [sizeLine_eq]; omega) fun h' hm' hs => ?_
  obtain ⟨o', ho', hd'⟩ := Heap.dictOf_iff.mp hm'
  have N1 := News.push F N { cls := .type "dict", data := .dict #[] }
  exact k _ h' o' ((F.push _).change hs (N1 _ (.head _)).2.1 (N1.fresh (.head _))) (N1.setHead N.apart hs ho') (fun p hp => Heap.lt_size (N p hp).1) (F.notModules (modules_low hbig)) hd'
end
theorem loc_11_1 : True := by
  k_with "call type:dict" => (k_here; (with_reducible show wpAny _ _ (call (Value.type "dict") [Value.ref _]) _ _ _); k_dflt (refine' dict_copy ?k1 ?k2 ?k3 ?k4 ?k5 ?k6 ?k7 ?_; (case k1 => k_asm); (case k2 => k_asm); (case k3 => exact Top.nolimit (by assumption)); (case k4 => k_mem); (case k5 => k_asm); (case k6 => k_asm); (case k7 => (rw [KvAre.length (by assumption)]; omega)); k_whole); intro d9 h9 o9 F9 N9 l9 lo9 hd9; (try k_lt l9); (try k_sweep))
  trivial
theorem getM_of_nodup {M : List (Int × Int)} : (M.map (·.1)).Nodup → ∀ p ∈ M, getM M p.1 = some p.2 := by
  induction M with
  | nil => intro _ p hp; exact nomatch hp
  | cons q M ih =>
    intro hn p hp
    simp only [List.map_cons, List.nodup_cons] at hn
    unfold getM
    rcases List.mem_cons.mp hp with rfl | hp
    · rw [if_pos rfl]
    · have : ¬ q.1 = p.1 := fun e => hn.1 (e ▸ List.mem_map_of_mem hp)
      rw [if_neg this]; exact ih hn.2 p hp
theorem kv_keys {kvs : List (Int × Value)} {M : List (Int × Int)} (h : KvAre kvs M) : kvs.map (·.1) = M.map (·.1) := by
  induction h with
  | nil => rfl
  | cons a b t _ ih => simp [ih]
theorem kv_hits {A : Around} {s : Shared} {ka kb : List (Int × Value)} {M M' : List (Int × Int)} (ha : KvAre ka M) (hb : KvAre kb M') (h : ∀ p ∈ M, getM M' p.1 = some p.2) : KeqHits A s kb ka true := by
  induction ha with
  | nil => exact .nil
  | cons k v t _ ih =>
    obtain ⟨t', ht⟩ := hb.get_some k (h (k, v) (.head _))
    have e := KeqHits.hit (A := A) (s := s) (k := k) (v := .int v t) (e := (v == v)) ht (PySem.SeqAt.EqAt.int_int v t v t') (ih fun p hp => h p (.tail _ hp))
    simpa using e
section
variable {prog : Program} {w : World} {A : Around} {E : Value → Shared → Prop} {s : Shared} {h₀ : Heap} {L a b : Addr} {news : List (Addr × Obj)} {oa ob : Obj} {ka kb : List (Int × Value)} {M : List (Int × Int)} {Q : Value → Shared → Prop}
theorem eq_kv (N : News h₀ L s.heap news) (ma : (a, oa) ∈ news) (mb : (b, ob) ∈ news) (da : oa.IsDictOf (intKind prog w) ka) (db : ob.IsDictOf (intKind prog w) kb) (la : (a == sysModules) = false) (lb : (b == sysModules) = false) (ha : KvAre ka M) (hb : KvAre kb M) (hu : A.units < cLine) (h : Q (.bool true) s) :
    wpAny (model prog w) A (compareOp .Eq (.ref a) (.ref b)) Q E s := by
  have hn : (M.map (·.1)).Nodup := by
    obtain ⟨_, _, _, _, _, _, hn⟩ := da
    rw [kv_keys ha] at hn; exact hn
  refine keq_eq la lb (kda_dict N ma da) (kda_dict N mb db) hu (fun _ => kv_hits ha hb (getM_of_nodup hn)) ?_
  rw [ha.length, hb.length]; simpa using h
end
section
variable {w : World} {p : Program} {loose : List Str} {mean : ExcName → Option Value} {mg mb : Str → Option Value} {dp un : Nat} {gd : Option (List Code)} {cn : Str} {cs : Scope} {L a : Addr} {ccd : Value} {cl : List (Str × Addr)} {outer : List Env} {A₀ : Around} {base h₀ : Heap} {m : Str → Option Value} {s : Shared} {Q E : Value → Shared → Prop}
variable {r dx la be th : Addr} {text : Array UInt8} {ks : List Int} {size : Int} {a1 a2 a3 a4 : Int} {t1 t2 t3 t4 t5 t6 : Tok} {n nb nt : Nat} {ola : Obj} {kvs : List (Int × Value)} {M : List (Int × Int)} {vs ws : List Value} {bs there : List Int}

theorem loc_11_3 : True := by
  k_with "compareOp Eq ref ref" => ((fail_if_success (k_extra "off_11_2")); refine Park.h ?_)
  k_with "M nope" => ((fail_if_success (k_extra "off_11_2")); first | exact (clip_lt h1 h2 h4 (by assumption) (by assumption)).elim | exact absurd (clip_ge h1 h2 h4 (by assumption)) (by assumption))
  k_with "eval ListComp" => ((fail_if_success (k_extra "off_11_2")); refine Park.h ?_)
  trivial
set_option maxHeartbeats 2000000 in
theorem putR_call {place : Int} {v v' v'' : Tok} (S : Site w p loose mean mg mb dp un cs outer A₀ base h₀ L s.heap m) (hdp' : dp ≤ 860) (hun' : un ≤ 4800)
    (N : News h₀ L s.heap [(r, instObj 92 dx), (dx, rowD text size la be a1 a2 a3 a4 t1 t2 t3 t4 t5 t6 n), (la, ola), (be, listOf vs.toArray nb), (th, listOf ws.toArray nt)]) (h1 : 0 ≤ place) (hks : KBw.bInts text = ks) (h2 : place < ks.length) (h3 : ks.length ≤ 1000) (h4 : 0 < size) (h5 : size ≤ 5)
    (hd : ola.IsDictOf (intKind Challenge.rw_tk0118_01.row.prog w) kvs) (hkv : KvAre kvs M) (hM : M.length ≤ 1000) (lo : (la == sysModules) = false) (hi : IntsAre vs bs) (hbl : bs.length = ks.length) (hth : IntsAre ws there) (hin : ∀ q ∈ there, 0 ≤ q ∧ q < place) (htl : there.length ≤ 1000)
    (n1 : @Ne Nat la r) (n2 : @Ne Nat la dx) (n3 : @Ne Nat la be) (n4 : @Ne Nat be r) (n5 : @Ne Nat be dx) (n6 : @Ne Nat la th) (n7 : @Ne Nat be th)
    (hlk : ¬ ks.length < place + size → (getM M (num (cut ks place.toNat size.toNat))).getD (-1) ∈ [-1] ++ there.filter (fun q => decide (cutI ks q (q + size) = cutI ks place (place + size))) ∧ ∀ x, x ∈ [-1] ++ there.filter (fun q => decide (cutI ks q (q + size) = cutI ks place (place + size))) → x ≤ (getM M (num (cut ks place.toNat size.toNat))).getD (-1))
    (ret0 : ks.length < place + size → ∀ h' tk', Ext [] s.heap h' → Q (.bool true) { s with heap := h', toks := tk' })
    (ret1 : ¬ ks.length < place + size → ∀ h' tk' o' kvs' vs', Ext [la, be] s.heap h' → News h₀ L h' [(la, o'), (be, listOf vs'.toArray nb)] → o'.IsDictOf (intKind Challenge.rw_tk0118_01.row.prog w) kvs' → KvAre kvs' (putM M (num (cut ks place.toNat size.toNat)) place) →
      IntsAre vs' (bs.set place.toNat ((getM M (num (cut ks place.toNat size.toNat))).getD (-1))) → Q (.bool true) { s with heap := h', toks := tk' }) :
    wpAny (model Challenge.rw_tk0118_01.row.prog w) (ktrTop dp un gd cn cs L a ccd cl outer) (call (.ref 259) [.ref r, .ref r, .int size v, .bytes text v', .int place v'', .ref th]) Q E s := by
  obtain ⟨B, F, X, T, hk, hdp, hun⟩ := S
  revert X; k_fill; intro X
  refine wpAny_call ?_
  k_dflt (refine' enter_defC (binds := [(Str.ofString "row", .ref r), (Str.ofString "owner", .ref r), (Str.ofString "size", .int size v), (Str.ofString "text", .bytes text v'), (Str.ofString "place", .int place v''), (Str.ofString "there", .ref th)]) ?k1 ?k2 ?k3 ?k4 ?k5 ?kA ?kF ?kK ?k6 ?k7 ?k8 ?k9 ?kB ?kD ?_ ?c2 ?c3 ?c4; (case kA => exact rfl); (case kF => exact rfl); (case kK => assumption); (case k1 => k_asm); (case k2 => k_asm); (case k3 => k_asm); (case k4 => k_asm); (case k5 => k_asm); (case k6 => k_is); (case k7 => k_is); (case k8 => (refine Nat.lt_of_le_of_lt (by assumption) ?_; decide)); (case k9 => exact BindsTo.of_eq rfl); (case kB => exact rfl); (case kD => decide +kernel); (case c2 => exact rfl); (case c3 => exact rfl); (case c4 => exact rfl); k_whole)
  intro g L' h₁ tk₁ cells F' N' Y' B' X' T' l1
  k_lt l1
  obtain ⟨oc1, oc2, oc3, hE9, dc1, dc2, dc3⟩ := PyProof.Rows.CellsAre.three Y'; subst hE9; clear Y'
  replace dc1 : oc1.data = Data.cell none := dc1
  replace dc2 : oc2.data = Data.cell (some (.bytes text v')) := dc2
  replace dc3 : oc3.data = Data.cell (some (.int size v)) := dc3
  replace F' : Fr _ _ _ (fun y => if y = Str.ofString "there" then some (.ref th) else if y = Str.ofString "place" then some (.int place v'') else if y = Str.ofString "owner" then some (.ref r) else if y = Str.ofString "row" then some (.ref r) else none) := F'
  simp only [List.cons_append, List.nil_append] at N'
  with_reducible show wpAny _ _ _ _ _ _
  k_fold
  k_steps
  · refine Park.mk ?_
    k_dflt (refine LCt.ListComp_T (F₀ := by k_asm) (by with_unfolding_all rfl) (by decide) (by rfl) (by decide) (by rfl) ?_)
    k_steps
    refine Park.mk ?_
    have hpx : ∀ x ∈ there, 0 ≤ x := fun x hx => (hin x hx).1
    refine restT_ind (fun i ys => IntsAre ys ((there.take i).filter fun q => decide (cutI ks q (q + size) = cutI ks place (place + size)))) _ ?_ ?_ _ 0 [] (Nat.zero_add _) (by simpa using IntsAre.nil)
    · intro i ys v I oI C oC D m₂ h tk E' hi' hR hP hC hx F₉ N₉ off ne
      obtain ⟨q, t, rfl, hq⟩ := ints_at hth hP
      k_steps
      · exact flt_yes hR hq (decide_eq_true (by unfold cutI; assumption))
      · exact flt_no hR hq (fun e => absurd (of_decide_eq_true e) (by unfold cutI; assumption))
    · intro ys hR
      have hR := flt_end hth hR
      have hfl := List.length_filter_le (fun q => decide (cutI ks q (q + size) = cutI ks place (place + size))) there
      k_steps
      refine Park.mk ?_
      have hmx := hlk (by assumption)
      have e9 : ‹Int› = (getM M (num (cut ks place.toNat size.toNat))).getD (-1) := Int.le_antisymm (hmx.2 _ (by assumption)) (by apply_assumption; exact hmx.1)
      subst e9
      have hcut := clip_cut (ks := ks) h1 h2 h4 (by assumption)
      refine eq_intsK (News.isList (by k_asm) (by k_mem)) (by assumption) (News.isList (by k_asm) (by k_mem)) (by assumption) (by k_extra "M units") ?_
      rw [decide_eq_true (by rfl)]
      k_steps
      refine Park.mk ?_
      refine eq_kv (by k_asm) (by k_mem) (by k_mem) (by assumption) (by assumption) (by k_asm) (by k_asm) (by assumption) (by rw [← hcut]; assumption) (by k_extra "M units") ?_
      k_steps
      refine ret1 (by assumption) _ _ _ _ _ (ext_drop N kN kE ?_) (news_sub kN (sub_two (by k_mem) (by k_mem))) (by assumption) (by assumption) (by assumption)
      · intro p hp
        simp only [List.mem_cons, List.not_mem_nil, or_false] at hp
        rcases hp with rfl | rfl | rfl | rfl | rfl
        · exact .inr (by k_mem)
        · exact .inr (by k_mem)
        · exact .inl (by simp)
        · exact .inl (by simp)
        · exact .inr (by k_mem)
  · refine Park.mk ?_
    refine eq_intsK (News.isList (by k_asm) (by k_mem)) hi (News.isList (by k_asm) (by k_mem)) hi (by k_extra "M units") ?_
    rw [decide_eq_true (by rfl)]
    k_steps
    refine Park.mk ?_
    refine eq_kv (by k_asm) (by k_mem) (by k_mem) hd (by assumption) lo (by k_asm) hkv hkv (by k_extra "M units") ?_
    k_steps
    refine ret0 (by assumption) _ _ (ext_drop N kN kE fun p hp => .inr ?_)
    simp only [List.mem_cons, List.not_mem_nil, or_false] at hp
    rcases hp with rfl | rfl | rfl | rfl | rfl <;> k_mem
theorem off_11_2 : True := by
  k_with "off_11_2" => skip
  trivial
end
theorem reg_11 : True := by
  k_with "call type:dict" => (k_here; (with_reducible show wpAny _ _ (call (Value.type "dict") [Value.ref _]) _ _ _); k_dflt (refine' dict_copy ?k1 ?k2 ?k3 ?k4 ?k5 ?k6 ?k7 ?_; (case k1 => k_asm); (case k2 => k_asm); (case k3 => exact Top.nolimit (by assumption)); (case k4 => k_mem); (case k5 => k_asm); (case k6 => k_asm); (case k7 => (rw [KvAre.length (by assumption)]; omega)); k_whole); intro d9 h9 o9 F9 N9 l9 lo9 hd9; (try k_lt l9); (try k_sweep))
  trivial
section
variable {w : World} {p : Program} {loose : List Str} {mean : ExcName → Option Value} {mg mb : Str → Option Value} {dp un : Nat} {gd : Option (List Code)} {cn : Str} {cs : Scope} {L a : Addr} {ccd : Value} {cl : List (Str × Addr)} {outer : List Env} {A₀ : Around} {base h₀ : Heap} {m : Str → Option Value} {s : Shared} {Q E : Value → Shared → Prop}
variable {f fx r dx la be th : Addr} {window chain ahead b1 b2 b3 b4 b5 b6 : Int} {x1 x2 x3 x4 x5 x6 u1 u2 u3 u4 u5 : Tok} {text : Array UInt8} {ks : List Int} {size : Int} {a1 a2 a3 a4 : Int} {t1 t2 t3 t4 t5 t6 : Tok} {n nb nt : Nat} {ola : Obj} {kvs : List (Int × Value)} {M : List (Int × Int)} {vs ws : List Value} {bs there : List Int}

theorem loc_12_2 : True := by
  k_with "compareOp Eq ref ref" => ((fail_if_success (k_extra "off_12_1")); refine Park.h ?_)
  k_with "M nope" => ((fail_if_success (k_extra "off_12_1")); first | exact (clip_lt h1 h2 h4 (by assumption) (by assumption)).elim | exact absurd (clip_ge h1 h2 h4 (by assumption)) (by assumption))
  k_with "eval ListComp" => ((fail_if_success (k_extra "off_12_1")); refine Park.h ?_)
  trivial
set_option maxHeartbeats 2000000 in
theorem putF_call {place : Int} {v v' v'' : Tok} (S : Site w p loose mean mg mb dp un cs outer A₀ base h₀ L s.heap m) (hdp' : dp ≤ 840) (hun' : un ≤ 4700)
    (N : News h₀ L s.heap [(f, instObj 226 fx), (fx, finD text size window chain ahead r b1 b2 b3 b4 b5 b6 x1 x2 x3 x4 x5 x6 u1 u2 u3 u4 u5 6), (r, instObj 92 dx), (dx, rowD text size la be a1 a2 a3 a4 t1 t2 t3 t4 t5 t6 n), (la, ola), (be, listOf vs.toArray nb), (th, listOf ws.toArray nt)]) (h1 : 0 ≤ place) (hks : KBw.bInts text = ks) (h2 : place < ks.length) (h3 : ks.length ≤ 1000) (h4 : 0 < size) (h5 : size ≤ 5)
    (hd : ola.IsDictOf (intKind Challenge.rw_tk0118_01.row.prog w) kvs) (hkv : KvAre kvs M) (hM : M.length ≤ 1000) (lo : (la == sysModules) = false) (hi : IntsAre vs bs) (hbl : bs.length = ks.length) (hth : IntsAre ws there) (hin : ∀ q ∈ there, 0 ≤ q ∧ q < place) (htl : there.length ≤ 1000)
    (n1 : @Ne Nat la r) (n2 : @Ne Nat la dx) (n3 : @Ne Nat la be) (n4 : @Ne Nat be r) (n5 : @Ne Nat be dx) (n6 : @Ne Nat la th) (n7 : @Ne Nat be th) (n8 : @Ne Nat la f) (n9 : @Ne Nat la fx) (na : @Ne Nat be f) (nb1 : @Ne Nat be fx) (nc : @Ne Nat fx f) (nd : @Ne Nat fx r) (ne : @Ne Nat fx dx) (nf1 : @Ne Nat fx th) (hah : ahead ≤ place)
    (hlk : ¬ ks.length < place + size → (getM M (num (cut ks place.toNat size.toNat))).getD (-1) ∈ [-1] ++ there.filter (fun q => decide (cutI ks q (q + size) = cutI ks place (place + size))) ∧ ∀ x, x ∈ [-1] ++ there.filter (fun q => decide (cutI ks q (q + size) = cutI ks place (place + size))) → x ≤ (getM M (num (cut ks place.toNat size.toNat))).getD (-1))
    (ret0 : ks.length < place + size → ∀ u9 h' tk', Ext [fx] s.heap h' → News h₀ L h' [(fx, finD text size window chain (place + 1) r b1 b2 b3 b4 b5 b6 x1 x2 x3 x4 x5 x6 u1 u2 u3 u4 u9 6)] → Q (.bool true) { s with heap := h', toks := tk' })
    (ret1 : ¬ ks.length < place + size → ∀ u9 h' tk' o' kvs' vs', Ext [fx, la, be] s.heap h' → News h₀ L h' [(fx, finD text size window chain (place + 1) r b1 b2 b3 b4 b5 b6 x1 x2 x3 x4 x5 x6 u1 u2 u3 u4 u9 6), (la, o'), (be, listOf vs'.toArray nb)] → o'.IsDictOf (intKind Challenge.rw_tk0118_01.row.prog w) kvs' → KvAre kvs' (putM M (num (cut ks place.toNat size.toNat)) place) →
      IntsAre vs' (bs.set place.toNat ((getM M (num (cut ks place.toNat size.toNat))).getD (-1))) → Q (.bool true) { s with heap := h', toks := tk' }) :
    wpAny (model Challenge.rw_tk0118_01.row.prog w) (ktrTop dp un gd cn cs L a ccd cl outer) (call (.ref 259) [.ref r, .ref f, .int size v, .bytes text v', .int place v'', .ref th]) Q E s := by
  obtain ⟨B, F, X, T, hk, hdp, hun⟩ := S
  revert X; k_fill; intro X
  refine wpAny_call ?_
  k_dflt (refine' enter_defC (binds := [(Str.ofString "row", .ref r), (Str.ofString "owner", .ref f), (Str.ofString "size", .int size v), (Str.ofString "text", .bytes text v'), (Str.ofString "place", .int place v''), (Str.ofString "there", .ref th)]) ?k1 ?k2 ?k3 ?k4 ?k5 ?kA ?kF ?kK ?k6 ?k7 ?k8 ?k9 ?kB ?kD ?_ ?c2 ?c3 ?c4; (case kA => exact rfl); (case kF => exact rfl); (case kK => assumption); (case k1 => k_asm); (case k2 => k_asm); (case k3 => k_asm); (case k4 => k_asm); (case k5 => k_asm); (case k6 => k_is); (case k7 => k_is); (case k8 => (refine Nat.lt_of_le_of_lt (by assumption) ?_; decide)); (case k9 => exact BindsTo.of_eq rfl); (case kB => exact rfl); (case kD => decide +kernel); (case c2 => exact rfl); (case c3 => exact rfl); (case c4 => exact rfl); k_whole)
  intro g L' h₁ tk₁ cells F' N' Y' B' X' T' l1
  k_lt l1
  obtain ⟨oc1, oc2, oc3, hE9, dc1, dc2, dc3⟩ := PyProof.Rows.CellsAre.three Y'; subst hE9; clear Y'
  replace dc1 : oc1.data = Data.cell none := dc1
  replace dc2 : oc2.data = Data.cell (some (.bytes text v')) := dc2
  replace dc3 : oc3.data = Data.cell (some (.int size v)) := dc3
  replace F' : Fr _ _ _ (fun y => if y = Str.ofString "there" then some (.ref th) else if y = Str.ofString "place" then some (.int place v'') else if y = Str.ofString "owner" then some (.ref f) else if y = Str.ofString "row" then some (.ref r) else none) := F'
  simp only [List.cons_append, List.nil_append] at N'
  with_reducible show wpAny _ _ _ _ _ _
  k_fold
  k_steps
  · refine Park.mk ?_
    k_dflt (refine LCt.ListComp_T (F₀ := by k_asm) (by with_unfolding_all rfl) (by decide) (by rfl) (by decide) (by rfl) ?_)
    k_steps
    refine Park.mk ?_
    have hpx : ∀ x ∈ there, 0 ≤ x := fun x hx => (hin x hx).1
    refine restT_ind (fun i ys => IntsAre ys ((there.take i).filter fun q => decide (cutI ks q (q + size) = cutI ks place (place + size)))) _ ?_ ?_ _ 0 [] (Nat.zero_add _) (by simpa using IntsAre.nil)
    · intro i ys v I oI C oC D m₂ h tk E' hi' hR hP hC hx F₉ N₉ off ne
      obtain ⟨q, t, rfl, hq⟩ := ints_at hth hP
      k_steps
      · exact flt_yes hR hq (decide_eq_true (by unfold cutI; assumption))
      · exact flt_no hR hq (fun e => absurd (of_decide_eq_true e) (by unfold cutI; assumption))
    · intro ys hR
      have hR := flt_end hth hR
      have hfl := List.length_filter_le (fun q => decide (cutI ks q (q + size) = cutI ks place (place + size))) there
      k_steps
      refine Park.mk ?_
      have hmx := hlk (by assumption)
      have e9 : ‹Int› = (getM M (num (cut ks place.toNat size.toNat))).getD (-1) := Int.le_antisymm (hmx.2 _ (by assumption)) (by apply_assumption; exact hmx.1)
      subst e9
      have hcut := clip_cut (ks := ks) h1 h2 h4 (by assumption)
      refine eq_intsK (News.isList (by k_asm) (by k_mem)) (by assumption) (News.isList (by k_asm) (by k_mem)) (by assumption) (by k_extra "M units") ?_
      rw [decide_eq_true (by rfl)]
      k_steps
      refine Park.mk ?_
      refine eq_kv (by k_asm) (by k_mem) (by k_mem) (by assumption) (by assumption) (by k_asm) (by k_asm) (by assumption) (by rw [← hcut]; assumption) (by k_extra "M units") ?_
      k_steps
      refine ret1 (by assumption) _ _ _ _ _ _ (ext_drop N kN kE ?_) (news_sub kN (sub_three (by k_mem) (by k_mem) (by k_mem))) (by assumption) (by assumption) (by assumption)
      · intro p hp
        simp only [List.mem_cons, List.not_mem_nil, or_false] at hp
        rcases hp with rfl | rfl | rfl | rfl | rfl | rfl | rfl
        · exact .inr (by k_mem)
        · exact .inl (by simp)
        · exact .inr (by k_mem)
        · exact .inr (by k_mem)
        · exact .inl (by simp)
        · exact .inl (by simp)
        · exact .inr (by k_mem)
  · refine Park.mk ?_
    refine eq_intsK (News.isList (by k_asm) (by k_mem)) hi (News.isList (by k_asm) (by k_mem)) hi (by k_extra "M units") ?_
    rw [decide_eq_true (by rfl)]
    k_steps
    refine Park.mk ?_
    refine eq_kv (by k_asm) (by k_mem) (by k_mem) hd (by assumption) lo (by k_asm) hkv hkv (by k_extra "M units") ?_
    k_steps
    refine ret0 (by assumption) _ _ _ (ext_drop N kN kE ?_) (news_sub kN fun p hp => by rw [List.mem_singleton.mp hp]; k_mem)
    intro p hp
    simp only [List.mem_cons, List.not_mem_nil, or_false] at hp
    rcases hp with rfl | rfl | rfl | rfl | rfl | rfl | rfl
    · exact .inr (by k_mem)
    · exact .inl (by simp)
    all_goals exact .inr (by k_mem)
theorem off_12_1 : True := by
  k_with "off_12_1" => skip
  trivial
end
section
variable {w : World} {p : Program} {loose : List Str} {mean : ExcName → Option Value} {mg mb : Str → Option Value} {dp un : Nat} {gd : Option (List Code)} {cn : Str} {cs : Scope} {L a : Addr} {ccd : Value} {cl : List (Str × Addr)} {outer : List Env} {A₀ : Around} {base h₀ : Heap} {m : Str → Option Value} {s : Shared} {Q E : Value → Shared → Prop}
variable {r dx la be : Addr} {text : Array UInt8} {ks : List Int} {size : Int} {a1 a2 a3 a4 : Int} {t1 t2 t3 t4 t5 t6 : Tok} {n nb : Nat} {ola : Obj} {kvs : List (Int × Value)} {M : List (Int × Int)} {vs : List Value} {bs : List Int}

theorem chain_call {place : Int} {v : Tok} (S : Site w p loose mean mg mb dp un cs outer A₀ base h₀ L s.heap m) (hdp' : dp ≤ 870) (hun' : un ≤ 4800)
    (N : News h₀ L s.heap [(r, instObj 92 dx), (dx, rowD text size la be a1 a2 a3 a4 t1 t2 t3 t4 t5 t6 n), (la, ola), (be, listOf vs.toArray nb)]) (h1 : 0 ≤ place) (hks : KBw.bInts text = ks) (h2 : place ≤ ks.length) (h3 : ks.length ≤ 1000) (h4 : 0 < size) (h5 : size ≤ 5)
    (hd : ola.IsDictOf (intKind Challenge.rw_tk0118_01.row.prog w) kvs) (hkv : KvAre kvs M) (lo : (la == sysModules) = false) (hi : IntsAre vs bs) (hbl : bs.length = ks.length) (hw : Wf bs) (hM : ∀ k v, getM M k = some v → 0 ≤ v ∧ v < bs.length)
    (ret : ∀ l vs' n' h' tk', Ext [] s.heap h' → h'.get? l = some (listOf vs'.toArray n') → s.heap.get? l = none → IntsAre vs' (walkC bs (-1) bs.length (nwF bs ks M size place)) → Q (.ref l) { s with heap := h', toks := tk' }) :
    wpAny (model Challenge.rw_tk0118_01.row.prog w) (ktrTop dp un gd cn cs L a ccd cl outer) (call (.ref 266) [.ref r, .int place v]) Q E s := by
  obtain ⟨B, F, X, T, hk, hdp, hun⟩ := S
  revert X; k_fill; intro X
  refine wpAny_call ?_
  k_extra "M enter"
  intro g L' h₁ F' N' B' X' T'
  dsimp only
  k_fold
  k_with "exec While BoolOp cons nil" => ((fail_if_success (k_extra "off_w13")); k_while (fun script o found => -1 ≤ o ∧ o < bs.length ∧ found ++ walkC bs (-1) ((bs.length : Int) - found.length).toNat o = walkC bs (-1) bs.length (nwF bs ks M size place) ∧ (found.length : Int) ≤ bs.length) (fun script o found => (o + 1).toNat) "other" "found")
  k_with "state" => ((fail_if_success (k_extra "off_w13")); exact ⟨by dsimp only; omega, by dsimp only; omega, by dsimp only; subst_vars; simp, by dsimp only [List.length_nil]; omega⟩)
  k_steps
  k_with "off_w13" => skip
  all_goals first
    | (k_extra "M kend5"
       · dsimp only
         exact cand_turn hw (by assumption) (by assumption) (by assumption) (by omega) (by omega) (by omega)
       · dsimp only
         exact cand_less hw (by assumption) (by assumption) (by omega))
    | (skip
       have e := cand_done ‹_ ++ walkC _ _ _ _ = _› (by omega)
       refine ret _ _ _ _ _ (ext_drop N kN kE ?_) (kN _ (.tail _ (.head _))).1 (kf _ (.tail _ (.head _)) ?_) (by rw [← e]; assumption)
       · intro p hp
         exact .inr (.tail _ (.tail _ hp))
       · simp only [List.map_cons, List.map_nil, List.mem_cons, List.not_mem_nil, or_false, not_or]
         refine ⟨?_, ?_, ?_, ?_⟩ <;> k_extra "k_ne")

theorem chain_K {place : Int} {v : Tok} {news : List (Addr × Obj)} (B : Below A₀ base outer h₀) (F : Fr h₀ L s.heap m) (X : (hd.heap_1 w.params).In h₀) (T : Top p loose mean mg mb h₀) (hk : cs.kind = .function) (hdp : dp ≤ 870) (hun : un ≤ 4800)
    (N : News h₀ L s.heap news) (m1 : (r, instObj 92 dx) ∈ news) (m2 : (dx, rowD text size la be a1 a2 a3 a4 t1 t2 t3 t4 t5 t6 n) ∈ news) (m3 : (la, ola) ∈ news) (m4 : (be, listOf vs.toArray nb) ∈ news)
    (h1 : 0 ≤ place) (hks : KBw.bInts text = ks) (h2 : place ≤ ks.length) (h3 : ks.length ≤ 1000) (h4 : 0 < size) (h5 : size ≤ 5)
    (hd : ola.IsDictOf (intKind Challenge.rw_tk0118_01.row.prog w) kvs) (hkv : KvAre kvs M) (lo : (la == sysModules) = false) (hi : IntsAre vs bs) (hbl : bs.length = ks.length) (hw : Wf bs) (hM : ∀ k v, getM M k = some v → 0 ≤ v ∧ v < bs.length)
    (ret : ∀ l vs' n' h' tk', Fr h₀ L h' m → News h₀ L h' ((l, listOf vs'.toArray n') :: news) → (∀ p ∈ news, p.1 ≠ l) → IntsAre vs' (walkC bs (-1) bs.length (nwF bs ks M size place)) → Q (.ref l) { s with heap := h', toks := tk' }) :
    wpAny (model Challenge.rw_tk0118_01.row.prog w) (ktrTop dp un gd cn cs L a ccd cl outer) (call (.ref 266) [.ref r, .int place v]) Q E s := by
  refine chain_call ⟨B, F, X, T, hk, by omega, by omega⟩ hdp hun (news_sub N (sub_four m1 m2 m3 m4)) h1 hks h2 h3 h4 h5 hd hkv lo hi hbl hw hM fun l vs' n' h' tk' x e hf i' => ?_
  exact ret l vs' n' h' tk' (ext_nil_fr x F) (news_cons x F N e hf) (ne_of_fresh N hf) i'
end
theorem reg_13 : True := by
  k_with "call ref" => (k_here; (with_reducible show wpAny _ _ (call (Value.ref 266) _) _ _ _); k_dflt (refine' chain_K ?k1 ?k2 ?k3 ?k4 ?k5 ?k6 ?k7 ?k8 ?m1 ?m2 ?m3 ?m4 ?b1 ?b2 ?b3 ?b4 ?b5 ?b6 ?d1 ?d2 ?d4 ?d5 ?d6 ?e1 ?e2 ?_; (case k1 => k_asm); (case k2 => k_asm); (case k3 => k_asm); (case k4 => k_asm); (case k5 => first | exact rfl | assumption); (case k6 => k_extra "M room"); (case k7 => k_extra "M room"); (case k8 => k_asm); (case m1 => k_mem); (case m2 => k_mem); (case m3 => k_mem); (case m4 => k_mem); (case b1 => first | (with_reducible assumption) | omega); (case b2 => assumption); (case b3 => first | (with_reducible assumption) | omega); (case b4 => first | (with_reducible assumption) | omega); (case b5 => first | (with_reducible assumption) | omega); (case b6 => first | (with_reducible assumption) | omega); (case d1 => k_asm); (case d2 => k_asm); (case d4 => k_asm); (case d5 => k_asm); (case d6 => first | assumption | omega); (case e1 => k_asm); (case e2 => k_asm); k_whole); intro l9 vs9 n9 h9 k9 F9 N9 ne9 i9; (try k_sweep))
  trivial
section
variable {prog : Program} {w : World} {A : Around} {E : Value → Shared → Prop} {s : Shared} {env : Env} {h₀ : Heap} {body : List Stmt} {Q : Flow → Shared → Prop}
theorem loopStep_own {L : Addr} {wr : List Addr} {own own' : List (Addr × Obj)} {Jn : (Str → Option Value) → List (Addr × Obj) → Prop} {s₁ s₂ : Shared} {Qr : Value → Shared → Prop} {Qb : Shared → Prop} {f : Flow}
    (hs : ∀ p ∈ own', p ∈ own) (h : LoopStepV h₀ L wr own Jn s₁ Qr Qb f s₂) : LoopStepV h₀ L wr own' Jn s₁ Qr Qb f s₂ := by
  have go : ∀ f', LoopStepU h₀ L wr own Jn s₁ f' s₂ → LoopStepU h₀ L wr own' Jn s₁ f' s₂ := by
    rintro f' ⟨e, h', tk, m₂, news₂, rfl, F, N, ha, hJ⟩
    refine ⟨e, h', tk, m₂, news₂, rfl, F, fun p hp => ?_, ha, hJ⟩
    rcases List.mem_append.mp hp with hp | hp
    · exact N p (List.mem_append_left _ (hs p hp))
    · exact N p (List.mem_append_right _ hp)
  cases f with
  | ret v => exact h
  | brk => exact h
  | cont => exact go _ h
  | next => exact go _ h
theorem letGo_name {M : Model} {A : Around} {E : Value → Shared → Prop} {x : Str} {px : Pos} {v it : Value} {Q' : Unit → Shared → Prop} {s' : Shared} (h : Q' () s') : wpAny M A (letOwnedTupleGo (.Name x px) it v) Q' E s' := by
  unfold letOwnedTupleGo
  exact wpAny_pure h
theorem turns_range {x : Str} {px : Pos} {r : Addr} {a b : Int} {t u v : Tok} {n : Nat} {m : Str → Option Value} {news : List (Addr × Obj)} (hh : A.handled = none) (hr : IsRange s.heap r a b 1 t u v) (hsmall : Builtin.Range.small a b 1 = true) (hn : Builtin.Range.rangeSize a b 1 = (n : Int))
    (F : Fr h₀ env.locals s.heap m) (N : News h₀ env.locals s.heap news) (J : Nat → (Str → Option Value) → List (Addr × Obj) → Prop) (h0 : J 0 m news)
    (step : ∀ i m₁ news₁ h₁ tk₁ I oI t, i < n → J i m₁ news₁ → (∀ p ∈ news₁, p.1 ≠ I) → Fr h₀ env.locals h₁ m₁ → News h₀ env.locals h₁ ((I, oI) :: news₁) →
      wpAny (model prog w) A (assign (.Name x px) env (.int (a + i) t)) (fun _ s₃ => wpAny (model prog w) A (execs body env)
        (LoopStepV h₀ env.locals [I] [(I, oI)] (J (i + 1)) { s with heap := h₁, toks := tk₁ } (fun v s' => Q (.ret v) s') fun s' => Q .next s') E s₃) E { s with heap := h₁, toks := tk₁ })
    (done : ∀ h' tk m' news', Fr h₀ env.locals h' m' → News h₀ env.locals h' news' → J n m' news' → Q .next { s with heap := h', toks := tk }) :
    wpAny (model prog w) A (pyIter (.ref r)) (fun it s₂ => TurnsAt prog w A h₀ env (.Name x px) body Q E it s₂) E s := by
  refine wpAny_pyIter_range hr hsmall ?_
  have W : Walks prog w A s.heap.objs.size [s.heap.objs.size] [s.heap.objs.size] n (fun i v => ∃ t, v = .int (a + (i : Nat) * 1) t)
      (fun i h => IsRangeIter h s.heap.objs.size (a + (i : Nat) * 1) ((n : Int) - (i : Nat)) 1) := Walks.range hh _ a 1 n
  refine ⟨s.heap.objs.size, [s.heap.objs.size], [s.heap.objs.size], n, _, _, _, m, news, J, rfl, KTurns.ofWalks W (fun i v s' Q' E' st q => letGo_name q), ?_, ?_, ?_, ?_, F.push _, (fun p hp => ⟨Heap.get?_push_of_some _ (N p hp).1, (N p hp).2⟩), h0, ?_, ?_⟩
  · intro hm
    exact absurd F.ns.lt ((List.mem_singleton.mp hm) ▸ Nat.lt_irrefl _)
  · intro b hb
    rw [List.mem_singleton.mp hb]
    exact next_is_new F
  · intro p hp hI
    exact absurd (Heap.lt_size (N p hp).1) ((List.mem_singleton.mp hI) ▸ Nat.lt_irrefl _)
  · show IsRangeIter _ _ _ _ _
    rw [hn]; simpa using Heap.get?_push_size _ rfl
  · rintro i v m₁ news₁ h₁ tk₁ own hi ⟨t, rfl⟩ hJ hoff hsub hget hall st F₁ N₁
    obtain ⟨oI, hoI⟩ : ∃ oI, h₁.get? s.heap.objs.size = some oI := ⟨_, st⟩
    have hIn : (s.heap.objs.size, oI) ∈ own := hall _ (.head _) (next_is_new F) _ hoI
    have e : (a + ((i : Nat) : Int) * 1) = a + i := by omega
    rw [e]
    refine wpAny_mono (step i m₁ news₁ h₁ tk₁ s.heap.objs.size oI t hi hJ (fun p hp => by simpa using hoff p hp) F₁ (fun p hp => ?_)) (fun _ s₃ z => wpAny_mono z (fun f s₄ z' => loopStep_own (fun p hp => ?_) z') fun _ _ z => z) fun _ _ z => z
    · rcases List.mem_cons.mp hp with rfl | hp
      · exact N₁ _ (List.mem_append_left _ hIn)
      · exact N₁ _ (List.mem_append_right _ hp)
    · have e1 : p.1 = s.heap.objs.size := by simpa using hsub p hp
      have e2 := hget p hp
      rw [e1, hoI] at e2
      have : p = (s.heap.objs.size, oI) := Prod.ext e1 (Option.some.inj e2).symm
      rw [this]; exact .head _
  · intro h' tk m' news' F' N' _ hJ
    exact done h' tk m' news' F' N' hJ
end
theorem loopStep_end {h₀ h' : Heap} {L I : Addr} {oI : Obj} {news₂ led : List (Addr × Obj)} {Jn : (Str → Option Value) → List (Addr × Obj) → Prop} {s₁ : Shared} {tk : Nat} {m m₂ : Str → Option Value} {Qr : Value → Shared → Prop} {Qb : Shared → Prop}
    (F : Fr h₀ L h' m) (N : News h₀ L h' led) (hm : m = m₂) (hI : (I, oI) ∈ led) (hs : ∀ p ∈ news₂, p ∈ led) (ha : ∀ p ∈ news₂, p.1 ≠ I) (hJ : Jn m₂ news₂) : LoopStepV h₀ L [I] [(I, oI)] Jn s₁ Qr Qb .next { s₁ with heap := h', toks := tk } := by
  subst hm
  refine ⟨rfl, h', tk, m, news₂, rfl, F, fun p hp => ?_, fun p hp q => ha p hp (by simpa using q), hJ⟩
  rcases List.mem_cons.mp hp with rfl | hp
  · exact N _ hI
  · exact N _ (hs p hp)
/-- the records of one length: what the law's own count of matches does at a length -/
def nearF (ks : List Int) (looked : List Int) (spot count : Int) : List Int := ((looked.filter fun o => decide (cutI ks o (o + count) = cutI ks spot (spot + count))).map fun o => spot - o).take 1
def mtStep (ks looked : List Int) (spot : Int) (found : List (Int × Int)) (count : Int) : List (Int × Int) :=
  (if found ≠ [] ∧ nearF ks looked spot count = [(found.getLastD (0, 0)).2] then found.dropLast else found) ++ (nearF ks looked spot count).map fun d => (count, d)
def mtF (ks looked : List Int) (spot size : Int) (n : Nat) : List (Int × Int) := ((List.range n).map fun i : Nat => size + (i : Int)).foldl (mtStep ks looked spot) []
theorem mtF_succ {ks looked : List Int} {spot size : Int} (n : Nat) : mtF ks looked spot size (n + 1) = mtStep ks looked spot (mtF ks looked spot size n) (size + n) := by
  unfold mtF
  rw [List.range_succ, List.map_append, List.foldl_append]; rfl
theorem mtStep_len {ks looked : List Int} {spot count : Int} {found : List (Int × Int)} : (mtStep ks looked spot found count).length ≤ found.length + 1 := by
  unfold mtStep
  have : (nearF ks looked spot count).length ≤ 1 := by unfold nearF; simp; omega
  split <;> simp <;> omega
theorem mtF_len {ks looked : List Int} {spot size : Int} : ∀ n, (mtF ks looked spot size n).length ≤ n
  | 0 => by simp [mtF]
  | n + 1 => by rw [mtF_succ]; exact Nat.le_trans mtStep_len (Nat.succ_le_succ (mtF_len n))
theorem fltM_yes {ns : List Int} {ys : List Value} {i : Nat} {k r : Int} {t : Tok} {p : Int → Bool} {f : Int → Int} (hR : IntsAre ys (((ns.take i).filter p).map f)) (hk : ns[i]? = some k) (hp : p k = true) (hr : r = f k) : IntsAre (ys ++ [.int r t]) (((ns.take (i + 1)).filter p).map f) := by
  rw [List.take_add_one, hk, List.filter_append, List.map_append]
  simp only [Option.toList, List.filter_cons, hp, if_true, List.filter_nil, List.map_cons, List.map_nil]
  rw [hr]
  exact hR.append (.cons _ t .nil)
theorem fltM_no {ns : List Int} {ys : List Value} {i : Nat} {k : Int} {p : Int → Bool} {f : Int → Int} (hR : IntsAre ys (((ns.take i).filter p).map f)) (hk : ns[i]? = some k) (hp : ¬ p k = true) : IntsAre ys (((ns.take (i + 1)).filter p).map f) := by
  rw [List.take_add_one, hk, List.filter_append]
  have : p k = false := by simpa using hp
  simp only [Option.toList, List.filter_cons, this, List.filter_nil, Bool.false_eq_true, if_false, List.append_nil]
  exact hR
theorem fltM_end {ws : List Value} {ns : List Int} {ys : List Value} {p : Int → Bool} {f : Int → Int} (h : IntsAre ws ns) (hR : IntsAre ys (((ns.take ws.toArray.size).filter p).map f)) : IntsAre ys ((ns.filter p).map f) := by
  rw [List.size_toArray, h.length, List.take_length] at hR; exact hR
theorem PairsIn.last {tl : List (Addr × Obj)} {us : List Value} {ps : List (Int × Int)} (P : PairsIn tl us ps) (h : ps ≠ []) : ∃ us' a x y t u n, us = us' ++ [.ref a] ∧ (a, tupObj x t y u n) ∈ tl ∧ PairsIn tl us' ps.dropLast ∧ ps.getLastD (0, 0) = (x, y) := by
  induction P with
  | nil => exact absurd rfl h
  | @cons a x y t u n vs qs hm r ih =>
    by_cases hq : qs = []
    · subst hq; cases r
      exact ⟨[], a, x, y, t, u, n, rfl, hm, .nil, rfl⟩
    · obtain ⟨us', a', x', y', t', u', n', e, hm', r', e'⟩ := ih hq
      obtain ⟨q, qs', rfl⟩ := List.exists_cons_of_ne_nil hq
      exact ⟨.ref a :: us', a', x', y', t', u', n', by rw [e]; rfl, hm', .cons hm r', by simpa using e'⟩
theorem PairsIn.snoc {tl : List (Addr × Obj)} {us : List Value} {ps : List (Int × Int)} {a : Addr} {x y : Int} {t u : Tok} {n : Nat} (P : PairsIn tl us ps) (h : (a, tupObj x t y u n) ∈ tl) : PairsIn tl (us ++ [.ref a]) (ps ++ [(x, y)]) := by
  induction P with
  | nil => exact .cons h .nil
  | cons hm _ ih => exact .cons hm ih
theorem news_dup {h₀ h : Heap} {L : Addr} {news : List (Addr × Obj)} {q : Addr × Obj} (N : News h₀ L h news) (hq : q ∈ news) : News h₀ L h (q :: news) := fun p hp => by
  rcases List.mem_cons.mp hp with rfl | hp
  · exact N _ hq
  · exact N _ hp
theorem PairsIn.length {tl : List (Addr × Obj)} {us : List Value} {ps : List (Int × Int)} (P : PairsIn tl us ps) : us.length = ps.length := by
  induction P with
  | nil => rfl
  | cons _ _ ih => simp [ih]
theorem add_listsK {prog : Program} {w : World} {A : Around} {E : Value → Shared → Prop} {s : Shared} {h₀ : Heap} {L a b : Addr} {m : Str → Option Value} {news : List (Addr × Obj)} {Q : Value → Shared → Prop} {vs ws : List Value} {ca cb : Nat} (F : Fr h₀ L s.heap m) (N : News h₀ L s.heap news)
    (ha : (a, listOf vs.toArray ca) ∈ news) (hb : (b, listOf ws.toArray cb) ∈ news) (hz : vs.length + ws.length ≤ 10000)
    (h : ∀ D h', Fr h₀ L h' m → News h₀ L h' ((D, listOf (vs ++ ws).toArray 0) :: news) → (∀ p ∈ news, p.1 < D) → Q (.ref D) { s with heap := h' }) : wpAny (model prog w) A (binaryOp .Add (.ref a) (.ref b)) Q E s :=
  add_lists (hsz := by rw [sizeLine_eq]; omega) F N (N.isList ha) (N.isList hb) fun h' F' N' => h _ h' F' N' fun p hp => Heap.lt_size (N p hp).1
theorem sub_rot {α : Type} {a b c d : α} {r : List α} : ∀ p ∈ a :: b :: c :: d :: r, p ∈ d :: a :: b :: c :: r := fun p hp => by
  simp only [List.mem_cons] at hp ⊢
  rcases hp with h | h | h | h | h <;> simp [h]
theorem pairs_ok (ps : List (Int × Int)) : ∀ d ∈ ps.map pairD, kqdOk 8 d = true := fun d hd => by
  obtain ⟨x, _, rfl⟩ := List.mem_map.mp hd; rfl
def mtB (v3 v2 : Tok) (most size : Int) (lk : Addr) (y : Str) : Option Value := if y = Str.ofString "most" then some (Value.int most v3) else if y = Str.ofString "size" then some (Value.int size v2) else if y = Str.ofString "looked" then some (Value.ref lk) else none
def mtJ (ks looked : List Int) (spot size most : Int) (v3 v2 : Tok) (lk L' : Addr) (oc2 oc3 : Obj) (lks : List Value) (nl : Nat) (i : Nat) (m₁ : Str → Option Value) (news₁ : List (Addr × Obj)) : Prop :=
  ∃ l us c oc cv tl nv, m₁ = (fun y => if y = Str.ofString "near" then nv else if y = Str.ofString "found" then some (Value.ref l) else if y = Str.ofString "most" then some (Value.int most v3) else if y = Str.ofString "size" then some (Value.int size v2) else if y = Str.ofString "looked" then some (Value.ref lk) else none) ∧
      news₁ = (l, listOf (List.toArray us) c) :: (L' + 1 + 1 + 1, oc) :: (L' + 1 + 1, oc2) :: (L' + 1, oc3) :: (lk, listOf lks.toArray nl) :: tl ∧ oc.data = Data.cell cv ∧ PairsIn tl us (mtF ks looked spot size i) ∧ OwnOff tl [l, L' + 1 + 1 + 1, L' + 1 + 1, L' + 1, lk] ∧ L' + 1 + 1 + 1 < l ∧ L' + 1 + 1 < l ∧ L' + 1 < l ∧ lk < l
theorem off_new {tl : List (Addr × Obj)} {I l l' : Addr} {r : List Addr} (h : OwnOff tl (I :: l :: r)) {nw : List (Addr × Obj)} (hl : ∀ p ∈ nw, p.1 < l') (hs : ∀ p ∈ tl, p ∈ nw) : OwnOff tl (I :: l' :: r) := fun p hp b hb => by
  rcases List.mem_cons.mp hb with rfl | hb
  · exact h p hp _ (.head _)
  · rcases List.mem_cons.mp hb with rfl | hb
    · exact Nat.ne_of_lt (hl p (hs p hp))
    · exact h p hp b (.tail _ (.tail _ hb))
theorem off_cons {tl : List (Addr × Obj)} {q : Addr × Obj} {I l a b c d : Addr} (h : OwnOff tl [I, l, a, b, c, d]) (h1 : @Ne Nat q.1 I) (h2 : @Ne Nat q.1 l) (h3 : @Ne Nat q.1 a) (h4 : @Ne Nat q.1 b) (h5 : @Ne Nat q.1 c) (h6 : @Ne Nat q.1 d) : OwnOff (q :: tl) [I, l, a, b, c, d] := fun p hp => by
  rcases List.mem_cons.mp hp with rfl | hp
  · intro x hx
    simp only [List.mem_cons, List.not_mem_nil, or_false] at hx
    rcases hx with rfl | rfl | rfl | rfl | rfl | rfl <;> assumption
  · exact h p hp
theorem mt_end {ks looked : List Int} {spot size most : Int} {v3 v2 : Tok} {lk L' l I : Addr} {oI oc2 oc3 oc : Obj} {lks us : List Value} {nl c i : Nat} {g h' : Heap} {led tl : List (Addr × Obj)} {s₁ : Shared} {tk : Nat} {m : Str → Option Value} {Qr : Value → Shared → Prop} {Qb : Shared → Prop} {cv : Option Value}
    (F : Fr g L' h' m) (N : News g L' h' led) (hf : m (Str.ofString "found") = some (.ref l)) (hb : ∀ y, y ≠ Str.ofString "near" → y ≠ Str.ofString "found" → m y = (if y = Str.ofString "most" then some (Value.int most v3) else if y = Str.ofString "size" then some (Value.int size v2) else if y = Str.ofString "looked" then some (Value.ref lk) else none))
    (hl : (l, listOf (List.toArray us) c) ∈ led) (hc : (L' + 1 + 1 + 1, oc) ∈ led) (hc2 : (L' + 1 + 1, oc2) ∈ led) (hc3 : (L' + 1, oc3) ∈ led) (hlk : (lk, listOf lks.toArray nl) ∈ led) (hI : (I, oI) ∈ led) (dc : oc.data = Data.cell cv)
    (ht : ∀ p ∈ tl, p ∈ led) (P : PairsIn tl us (mtF ks looked spot size (i + 1))) (off : OwnOff tl [I, l, L' + 1 + 1 + 1, L' + 1 + 1, L' + 1, lk])
    (i1 : @Ne Nat l I) (i2 : @Ne Nat (L' + 1 + 1 + 1) I) (i3 : @Ne Nat (L' + 1 + 1) I) (i4 : @Ne Nat (L' + 1) I) (i5 : @Ne Nat lk I) (q1 : L' + 1 + 1 + 1 < l) (q4 : lk < l) :
    LoopStepV g L' [I] [(I, oI)] (mtJ ks looked spot size most v3 v2 lk L' oc2 oc3 lks nl (i + 1)) s₁ Qr Qb .next { s₁ with heap := h', toks := tk } := by
  refine loopStep_end F N rfl hI ?_ ?_ ⟨l, us, c, oc, cv, tl, m (Str.ofString "near"), ?_, rfl, dc, P, (fun p hp b hb => off p hp b (.tail _ hb)), q1, Nat.lt_of_succ_lt q1, Nat.lt_of_succ_lt (Nat.lt_of_succ_lt q1), q4⟩
  · intro p hp
    simp only [List.mem_cons] at hp
    rcases hp with rfl | rfl | rfl | rfl | rfl | hp
    · exact hl
    · exact hc
    · exact hc2
    · exact hc3
    · exact hlk
    · exact ht p hp
  · intro p hp
    simp only [List.mem_cons] at hp
    rcases hp with rfl | rfl | rfl | rfl | rfl | hp
    · exact i1
    · exact i2
    · exact i3
    · exact i4
    · exact i5
    · exact off p hp I (.head _)
  · funext y
    by_cases e1 : y = Str.ofString "near"
    · rw [if_pos e1, e1]
    · rw [if_neg e1]
      by_cases e2 : y = Str.ofString "found"
      · rw [if_pos e2, e2]; exact hf
      · rw [if_neg e2]; exact hb y e1 e2
section
variable {w : World} {p : Program} {loose : List Str} {mean : ExcName → Option Value} {mg mb : Str → Option Value} {dp un : Nat} {gd : Option (List Code)} {cn : Str} {cs : Scope} {L a : Addr} {ccd : Value} {cl : List (Str × Addr)} {outer : List Env} {A₀ : Around} {base h₀ : Heap} {m : Str → Option Value} {s : Shared} {Q E : Value → Shared → Prop}
variable {lk : Addr} {text : Array UInt8} {ks : List Int} {size : Int} {nl : Nat} {lks : List Value} {looked : List Int}

theorem loc_15_2 : True := by
  k_with "compareOp Eq ref ref" => ((fail_if_success (k_extra "off_15_1")); refine Park.h ?_)
  k_with "compareOp NotEq ref ref" => ((fail_if_success (k_extra "off_15_1")); refine Park.h ?_)
  k_with "eval ListComp" => ((fail_if_success (k_extra "off_15_1")); refine Park.h ?_)
  k_with "pyIter ref" => ((fail_if_success (k_extra "off_15_1")); refine Park.h ?_)
  k_with "call builtin:list.pop" => ((fail_if_success (k_extra "off_15_1")); refine Park.h ?_)
  k_with "binaryOp Add ref ref" => ((fail_if_success (k_extra "off_15_1")); refine Park.h ?_)
  k_with "CompEnd" => ((fail_if_success (k_extra "off_15_1")); refine Park.h ?_)
  k_with "LoopStepV" => ((fail_if_success (k_extra "off_15_1")); refine Park.h ?_)
  k_with "exec For Name Call cons nil" => ((fail_if_success (k_extra "off_15_1")); (k_here; (rename Fr _ _ _ _ => lF'); (with_unfolding_all refine' For_turns lF' ?_); k_whole))
  k_with "subscriptTail" => ((fail_if_success (k_extra "off_15_1")); (k_here; (with_reducible show wpAny _ _ (subscriptTail _ _ (Value.ref _) (Value.int (-1) _)) _ _ _); k_dflt (refine item_last (News.isList (by k_asm) (by k_mem)) ?_)))
  k_with "lcg_off" => ((fail_if_success (k_extra "off_15_1")); first | exact True.intro | (with_reducible assumption) | exact off3_same (by with_reducible assumption) rfl | (refine And.intro ⟨by k_extra "k_ne", by k_extra "k_ne", by k_extra "k_ne"⟩ ?_; k_extra "lcg_off"))
  k_with "CompSrc" => ((fail_if_success (k_extra "off_15_1")); (k_here; k_dflt (refine LCg.CompSrc.ledger (by rfl) (by k_asm) (by k_asm) (by k_mem) (by exact Nat.le_of_ble_eq_true rfl) ?_; intro g'; refine Park.h ?_)))
  k_with "M none" => ((fail_if_success (k_extra "off_15_1")); (refine Park.mk ?_; k_dflt (refine LCg.CompRest.zero ?_); k_steps))
  k_with "M one" => ((fail_if_success (k_extra "off_15_1")); (refine Park.mk ?_; k_dflt (refine LCg.CompRest.succ ?_); intro v' I' oI' C' oC' D' m' h' tk' E' hv' hC' hx' F' N' off' ne'; simp only [List.getElem?_toArray, List.getElem?_cons_zero, Option.some.injEq] at hv'; subst hv'; k_steps))
  k_with "M comp2" => ((fail_if_success (k_extra "off_15_1")); (refine Park.mk ?_; k_dflt (refine LCg.ListComp_U (F₀ := by k_asm) (by with_unfolding_all rfl) (by decide) (by rfl) (by decide) (by rfl) ?_); k_steps))
  k_with "M tail" => ((fail_if_success (k_extra "off_15_1")); (intro q hq; (repeat (first | exact hq | refine List.Mem.tail _ ?_))))
  k_with "M lend2" => ((fail_if_success (k_extra "off_15_1")); (refine' mt_end ?F ?N ?hf ?hb ?c1 ?c2 ?c3 ?c4 ?c5 ?c6 ?dc ?_ ?_ ?_ ?i1 ?i2 ?i3 ?i4 ?i5 ?q1 ?q4; (case F => k_asm); (case N => k_asm); (case hf => exact rfl); (case hb => exact (fun y e1 e2 => by simp only [if_neg e1, if_neg e2])); (case c1 => k_mem); (case c2 => k_mem); (case c3 => k_mem); (case c4 => k_mem); (case c5 => k_mem); (case c6 => k_mem); (case dc => assumption); (case i1 => k_extra "k_ne"); (case i2 => assumption); (case i3 => assumption); (case i4 => assumption); (case i5 => assumption); (case q1 => k_extra "M lt"); (case q4 => k_extra "M lt")))
  k_with "M cend1" => ((fail_if_success (k_extra "off_15_1")); (refine Park.mk ?_; refine LCg.CompEnd.intro (by assumption) (by assumption) _ sub_rot (by k_extra "lcg_off") (.inr ⟨_, by k_mem, rfl, _, rfl⟩) (Park.h ?_)))
  k_with "M add" => ((fail_if_success (k_extra "off_15_1")); (refine Park.mk ?_; refine add_listsK (by k_asm) (by k_asm) (by k_mem) (by k_mem) (by (try simp only [List.length_cons, List.length_nil]); omega) (fun D9 h9 F9 N9 l9 => ?_); k_lt l9; k_sweep; k_steps))
  trivial
theorem match_call {spot most : Int} {v v1 v2 v3 : Tok} (S : Site w p loose mean mg mb dp un cs outer A₀ base h₀ L s.heap m) (hdp' : dp ≤ 860) (hun' : un ≤ 4800)
    (N : News h₀ L s.heap [(lk, listOf lks.toArray nl)]) (h1 : 0 ≤ spot) (hks : KBw.bInts text = ks) (h2 : spot ≤ ks.length) (h3 : ks.length ≤ 1000) (h4 : 0 < size) (h5 : size ≤ 5) (hm0 : 0 ≤ most) (hm1 : most ≤ 1000)
    (hi : IntsAre lks looked) (hll : looked.length ≤ 1000)
    (ret : ∀ l us n' tl h' tk', Ext [] s.heap h' → News h₀ L h' ((l, listOf us.toArray n') :: tl) → s.heap.get? l = none → (∀ p ∈ tl, s.heap.get? p.1 = none) → (∀ p ∈ tl, p.1 ≠ l) →
      PairsIn tl us (mtF ks looked spot size (limF ks spot most + 1 - size).toNat) → Q (.ref l) { s with heap := h', toks := tk' }) :
    wpAny (model Challenge.rw_tk0118_01.row.prog w) (ktrTop dp un gd cn cs L a ccd cl outer) (call (.ref 271) [.bytes text v, .int spot v1, .ref lk, .int size v2, .int most v3]) Q E s := by
  obtain ⟨B, F, X, T, hk, hdp, hun⟩ := S
  revert X; k_fill; intro X
  refine wpAny_call ?_
  k_dflt (refine' enter_defC (binds := [(Str.ofString "text", .bytes text v), (Str.ofString "spot", .int spot v1), (Str.ofString "looked", .ref lk), (Str.ofString "size", .int size v2), (Str.ofString "most", .int most v3)]) ?k1 ?k2 ?k3 ?k4 ?k5 ?kA ?kF ?kK ?k6 ?k7 ?k8 ?k9 ?kB ?kD ?_ ?c2 ?c3 ?c4; (case kA => exact rfl); (case kF => exact rfl); (case kK => assumption); (case k1 => k_asm); (case k2 => k_asm); (case k3 => k_asm); (case k4 => k_asm); (case k5 => k_asm); (case k6 => k_is); (case k7 => k_is); (case k8 => (refine Nat.lt_of_le_of_lt (by assumption) ?_; decide)); (case k9 => exact BindsTo.of_eq rfl); (case kB => exact rfl); (case kD => decide +kernel); (case c2 => exact rfl); (case c3 => exact rfl); (case c4 => exact rfl); k_whole)
  intro g L' h₁ tk₁ cells F' N' Y' B' X' T' l1
  k_lt l1
  obtain ⟨oc1, oc2, oc3, hE9, dc1, dc2, dc3⟩ := PyProof.Rows.CellsAre.three Y'; subst hE9; clear Y'
  replace dc1 : oc1.data = Data.cell none := dc1
  replace dc2 : oc2.data = Data.cell (some (.int spot v1)) := dc2
  replace dc3 : oc3.data = Data.cell (some (.bytes text v)) := dc3
  replace F' : Fr _ _ _ (fun y => if y = Str.ofString "most" then some (.int most v3) else if y = Str.ofString "size" then some (.int size v2) else if y = Str.ofString "looked" then some (.ref lk) else none) := F'
  simp only [List.cons_append, List.nil_append] at N'
  with_reducible show wpAny _ _ _ _ _ _
  k_fold
  k_steps
  refine Park.mk ?_
  have hlim : (if (ks.length : Int) - spot < most then (ks.length : Int) - spot else most) = limF ks spot most := rfl
  simp only [hlim] at *
  have hl0 : 0 ≤ limF ks spot most ∧ limF ks spot most ≤ 1000 ∧ limF ks spot most ≤ ks.length - spot := by unfold limF; split <;> omega
  refine turns_range (n := (limF ks spot most + 1 - size).toNat) rfl (by assumption) (PySem.small_one (by omega) (by omega) (by omega) (by omega)) (by rw [PySem.rangeSize_one]; split <;> omega) (by assumption) (by assumption)
    (mtJ ks looked spot size most v3 v2 lk L' oc2 oc3 lks nl)
    ⟨_, [], _, oc1, _, [], none, ?_, rfl, dc1, .nil, ?_, by k_extra "M lt", by k_extra "M lt", by k_extra "M lt", by k_extra "M lt"⟩ ?_ ?_
  · funext y
    by_cases e : y = Str.ofString "near"
    · subst e; rfl
    · rw [if_neg e]
  · intro q hq; exact nomatch hq
  · rintro i m₁ news₁ h₉ tk₉ I oI ti hi' ⟨l, us, c, oc, cv, tl, nv, rfl, rfl, dc, P, off, q1, q2, q3, q4⟩ hI F₉ N₉
    replace F₉ : Fr g L' h₉ _ := F₉
    replace N₉ : News g L' h₉ _ := N₉
    have hIo : OwnOff tl [I, l, L' + 1 + 1 + 1, L' + 1 + 1, L' + 1, lk] := fun q hq b hb => by
      rcases List.mem_cons.mp hb with rfl | hb
      · exact hI q (.tail _ (.tail _ (.tail _ (.tail _ (.tail _ hq)))))
      · exact off q hq b hb
    clear off
    have i1 : @Ne Nat l I := hI _ (.head _)
    have i2 : @Ne Nat (L' + 1 + 1 + 1) I := hI _ (.tail _ (.head _))
    have i3 : @Ne Nat (L' + 1 + 1) I := hI _ (.tail _ (.tail _ (.head _)))
    have i4 : @Ne Nat (L' + 1) I := hI _ (.tail _ (.tail _ (.tail _ (.head _))))
    have i5 : @Ne Nat lk I := hI _ (.tail _ (.tail _ (.tail _ (.tail _ (.head _)))))
    k_steps
    refine Park.mk ?_
    k_dflt (refine LCt.ListComp_T (F₀ := by k_asm) (by with_unfolding_all rfl) (by decide) (by rfl) (by decide) (by rfl) ?_)
    k_steps
    refine Park.mk ?_
    refine restT_ind (fun j ys => IntsAre ys (((looked.take j).filter fun o => decide (cutI ks o (o + (size + i)) = cutI ks spot (spot + (size + i)))).map fun o => spot - o)) _ ?_ ?_ _ 0 [] (Nat.zero_add _) (by simpa using IntsAre.nil)
    · intro j ys vq I2 oI2 C oC D m₂ h tk E' hj hR hP hC hx F8 N8 off ne
      obtain ⟨q, tq, rfl, hq⟩ := ints_at hi hP
      k_steps
      · refine Park.mk ?_
        refine LCg.CompEnd.intro (by assumption) (by assumption) _ (fun _ z => z) off (.inr ⟨_, by k_mem, rfl, _, rfl⟩) ⟨rfl, fltM_yes hR hq (decide_eq_true (by unfold cutI; assumption)) rfl⟩
      · refine Park.mk ?_
        refine LCg.CompEnd.intro (by assumption) (by assumption) _ (fun _ z => z) off (.inr ⟨_, by k_mem, rfl, _, rfl⟩) ⟨rfl, fltM_no hR hq (fun e => absurd (of_decide_eq_true e) (by unfold cutI; assumption))⟩
    · intro ys hR
      have hR := fltM_end hi hR
      have hfl := List.length_filter_le (fun o => decide (cutI ks o (o + (size + (i : Int))) = cutI ks spot (spot + (size + (i : Int))))) looked
      have hml := mtF_len (ks := ks) (looked := looked) (spot := spot) (size := size) i
      k_steps
      rename IntsAre _ (List.take _ _) => hnI
      replace hnI : IntsAre _ (nearF ks looked spot (size + i)) := hnI
      have hsucc : mtF ks looked spot size (i + 1) = mtStep ks looked spot (mtF ks looked spot size i) (size + i) := mtF_succ i
      unfold mtStep at hsucc
      have hul : us.length ≤ 1000 := by rw [P.length]; omega
      have hnl : (nearF ks looked spot (size + (i : Int))).length ≤ 1 := by unfold nearF; simp; omega
      by_cases hne : mtF ks looked spot size i = []
      · have P0 := P
        rw [hne] at P0 hsucc
        cases P0
        rcases hnf : nearF ks looked spot (size + (i : Int)) with _ | ⟨d, _ | ⟨d2, dr⟩⟩
        · rw [hnf] at hnI hsucc
          cases hnI
          refine Park.mk ?_
          refine kqd_ne (by k_asm) (by k_mem) rfl rfl P.toDat (by k_extra "M tail") (by k_mem) rfl rfl DatAll.nil (List.forall_mem_nil _) (pairs_ok _) (List.forall_mem_nil _) (by k_extra "M units") ?_
          rw [decide_eq_true (by rw [hne]; rfl)]
          k_steps
          k_extra "M comp2"
          k_extra "M none"
          k_extra "M add"
          refine Park.mk ?_
          show LoopStepV g L' [I] [(I, oI)] (mtJ ks looked spot size most v3 v2 lk L' oc2 oc3 lks nl (i + 1)) _ _ _ _ _
          k_extra "M lend2"
          · exact tl
          · k_extra "M tail"
          · rw [hsucc]; simpa using PairsIn.nil
          · exact off_new hIo (by with_reducible assumption) (by k_extra "M tail")
        · rw [hnf] at hnI hsucc
          cases hnI with | cons _ td r => ?_
          cases r
          refine Park.mk ?_
          refine kqd_ne (by k_asm) (by k_mem) rfl rfl P.toDat (by k_extra "M tail") (by k_mem) rfl rfl DatAll.nil (List.forall_mem_nil _) (pairs_ok _) (List.forall_mem_nil _) (by k_extra "M units") ?_
          rw [decide_eq_true (by rw [hne]; rfl)]
          k_steps
          k_extra "M comp2"
          k_extra "M one"
          k_extra "M cend1"
          k_extra "M none"
          k_extra "M add"
          refine Park.mk ?_
          show LoopStepV g L' [I] [(I, oI)] (mtJ ks looked spot size most v3 v2 lk L' oc2 oc3 lks nl (i + 1)) _ _ _ _ _
          k_extra "M lend2"
          rotate_left
          · exact (show ∀ p ∈ (_, tupObj (size + (i : Int)) _ d _ _) :: tl, p ∈ _ from List.forall_mem_cons.mpr ⟨by k_mem, by k_extra "M tail"⟩)
          · rw [hsucc]; simpa using PairsIn.cons (.head _) .nil
          · exact off_cons (off_new hIo (by with_reducible assumption) (by k_extra "M tail")) (by k_extra "k_ne") (by k_extra "k_ne") (by k_extra "k_ne") (by k_extra "k_ne") (by k_extra "k_ne") (by k_extra "k_ne")
        · rw [hnf] at hnl; simp only [List.length_cons] at hnl; omega
      · obtain ⟨us', a', x, y, tx, ty, nx, rfl, hm', P', hgl⟩ := P.last hne
        have hdl : mtF ks looked spot size i = (mtF ks looked spot size i).dropLast ++ [(x, y)] := by
          have := List.dropLast_concat_getLast hne
          rw [List.getLastD_eq_getLast?, List.getLast?_eq_some_getLast hne] at hgl
          simp only [Option.getD_some] at hgl
          rw [hgl] at this; exact this.symm
        have hul' : us'.length ≤ 1000 := by rw [P'.length]; simp only [List.length_dropLast]; omega
        have ia : @Ne Nat a' l := hIo _ hm' _ (.tail _ (.head _))
        rename News _ _ _ _ => nZ
        have nZ' := news_dup nZ (q := (a', tupObj x tx y ty nx)) (by repeat (first | exact hm' | refine List.Mem.tail _ ?_))
        clear nZ
        rw [hgl] at hsucc
        rcases hnf : nearF ks looked spot (size + (i : Int)) with _ | ⟨d, _ | ⟨d2, dr⟩⟩
        · rw [hnf] at hnI hsucc
          cases hnI
          refine Park.mk ?_
          refine kqd_ne (by k_asm) (by k_mem) rfl rfl P.toDat (by k_extra "M tail") (by k_mem) rfl rfl DatAll.nil (List.forall_mem_nil _) (pairs_ok _) (List.forall_mem_nil _) (by k_extra "M units") ?_
          rw [decide_eq_false (by simpa using hne)]
          k_steps
          rw [if_neg (by simp)] at hsucc
          refine Park.mk ?_
          refine eq_intsK (News.isList (by k_asm) (by k_mem)) (ns := []) (by exact .nil) (News.isList (by k_asm) (by k_mem)) (ms := [y]) (by exact .cons _ _ .nil) (by k_extra "M units") ?_
          rw [decide_eq_false (by simp)]
          k_steps
          k_extra "M comp2"
          k_extra "M none"
          k_extra "M add"
          refine Park.mk ?_
          show LoopStepV g L' [I] [(I, oI)] (mtJ ks looked spot size most v3 v2 lk L' oc2 oc3 lks nl (i + 1)) _ _ _ _ _
          k_extra "M lend2"
          · exact tl
          · k_extra "M tail"
          · rw [hsucc]; simpa using P
          · exact off_new hIo (by with_reducible assumption) (by k_extra "M tail")
        · rw [hnf] at hnI hsucc
          cases hnI with | cons _ td r => ?_
          cases r
          refine Park.mk ?_
          refine kqd_ne (by k_asm) (by k_mem) rfl rfl P.toDat (by k_extra "M tail") (by k_mem) rfl rfl DatAll.nil (List.forall_mem_nil _) (pairs_ok _) (List.forall_mem_nil _) (by k_extra "M units") ?_
          rw [decide_eq_false (by simpa using hne)]
          k_steps
          refine Park.mk ?_
          refine eq_intsK (News.isList (by k_asm) (by k_mem)) (ns := [d]) (by exact .cons _ _ .nil) (News.isList (by k_asm) (by k_mem)) (ms := [y]) (by exact .cons _ _ .nil) (by k_extra "M units") ?_
          by_cases hdy : d = y
          · rw [decide_eq_true (by rw [hdy])]
            rw [if_pos ⟨hne, by rw [hdy]⟩] at hsucc
            k_steps
            refine Park.mk ?_
            refine kl_pop (by k_asm) (by k_asm) (p := us') (y := .ref a') (by simpa using kpa_last (.ref a') us') (by k_upd) (by rw [sizeLine_eq]; show (us' ++ [Value.ref a']).length ≤ _; omega) fun h9 F9 N9 => ?_
            k_steps
            k_extra "M comp2"
            k_extra "M one"
            k_extra "M cend1"
            k_extra "M none"
            k_extra "M add"
            refine Park.mk ?_
            show LoopStepV g L' [I] [(I, oI)] (mtJ ks looked spot size most v3 v2 lk L' oc2 oc3 lks nl (i + 1)) _ _ _ _ _
            k_extra "M lend2"
            rotate_left
            · exact (show ∀ p ∈ (_, tupObj (size + (i : Int)) _ d _ _) :: tl, p ∈ _ from List.forall_mem_cons.mpr ⟨by k_mem, by k_extra "M tail"⟩)
            · rw [hsucc]; exact (P'.mono fun _ z => .tail _ z).snoc (.head _)
            · exact off_cons (off_new hIo (by with_reducible assumption) (by k_extra "M tail")) (by k_extra "k_ne") (by k_extra "k_ne") (by k_extra "k_ne") (by k_extra "k_ne") (by k_extra "k_ne") (by k_extra "k_ne")
          · rw [decide_eq_false (by simpa using hdy)]
            rw [if_neg (by rintro ⟨_, z⟩; exact hdy (by simpa using z))] at hsucc
            k_steps
            k_extra "M comp2"
            k_extra "M one"
            k_extra "M cend1"
            k_extra "M none"
            k_extra "M add"
            refine Park.mk ?_
            show LoopStepV g L' [I] [(I, oI)] (mtJ ks looked spot size most v3 v2 lk L' oc2 oc3 lks nl (i + 1)) _ _ _ _ _
            k_extra "M lend2"
            rotate_left
            · exact (show ∀ p ∈ (_, tupObj (size + (i : Int)) _ d _ _) :: tl, p ∈ _ from List.forall_mem_cons.mpr ⟨by k_mem, by k_extra "M tail"⟩)
            · rw [hsucc]; exact (P.mono fun _ z => .tail _ z).snoc (.head _)
            · exact off_cons (off_new hIo (by with_reducible assumption) (by k_extra "M tail")) (by k_extra "k_ne") (by k_extra "k_ne") (by k_extra "k_ne") (by k_extra "k_ne") (by k_extra "k_ne") (by k_extra "k_ne")
        · rw [hnf] at hnl; simp only [List.length_cons] at hnl; omega
  · rintro h' tk m' news' F₉ N₉ ⟨l, us, c, oc, cv, tl, nv, rfl, rfl, dc, P, off, q1, q2, q3, q4⟩
    dsimp only
    k_steps
    refine ret l us c tl _ _ (ext_drop N kN kE fun q hq => .inr ?_) (news_head kN fun q hq => ?_) (kf _ (.head _) ?_) (fun q hq => kf q ?_ ?_) (fun q hq => off q hq _ (.head _)) P
    · rw [List.mem_singleton.mp hq]; k_mem
    · repeat (first | exact hq | refine List.Mem.tail _ ?_)
    · intro z; have z := List.mem_singleton.mp z; exact absurd z (Nat.ne_of_gt q4)
    · repeat (first | exact hq | refine List.Mem.tail _ ?_)
    · intro z; have z := List.mem_singleton.mp z; exact off q hq lk (by simp) z
theorem match_K {spot most : Int} {v v1 v2 v3 : Tok} {news : List (Addr × Obj)} (B : Below A₀ base outer h₀) (F : Fr h₀ L s.heap m) (X : (hd.heap_1 w.params).In h₀) (T : Top p loose mean mg mb h₀) (hk : cs.kind = .function) (hdp : dp ≤ 860) (hun : un ≤ 4800)
    (N : News h₀ L s.heap news) (m1 : (lk, listOf lks.toArray nl) ∈ news) (h1 : 0 ≤ spot) (hks : KBw.bInts text = ks) (h2 : spot ≤ ks.length) (h3 : ks.length ≤ 1000) (h4 : 0 < size) (h5 : size ≤ 5) (hm0 : 0 ≤ most) (hm1 : most ≤ 1000)
    (hi : IntsAre lks looked) (hll : looked.length ≤ 1000)
    (ret : ∀ l us n' tl h' tk', Fr h₀ L h' m → News h₀ L h' ((l, listOf us.toArray n') :: (news ++ tl)) → (∀ p ∈ news, p.1 ≠ l) → OwnOff tl (l :: news.map (·.1)) →
      PairsIn tl us (mtF ks looked spot size (limF ks spot most + 1 - size).toNat) → Q (.ref l) { s with heap := h', toks := tk' }) :
    wpAny (model Challenge.rw_tk0118_01.row.prog w) (ktrTop dp un gd cn cs L a ccd cl outer) (call (.ref 271) [.bytes text v, .int spot v1, .ref lk, .int size v2, .int most v3]) Q E s := by
  refine match_call ⟨B, F, X, T, hk, by omega, by omega⟩ hdp hun (news_one N m1) h1 hks h2 h3 h4 h5 hm0 hm1 hi hll fun l us n' tl h' tk' x N' hl ht hne P => ?_
  refine ret l us n' tl h' tk' (ext_nil_fr x F) (fun q hq => ?_) (ne_of_fresh N hl) (fun q hq b hb => ?_) P
  · rcases List.mem_cons.mp hq with rfl | hq
    · exact N' _ (.head _)
    · rcases List.mem_append.mp hq with hq | hq
      · exact ext_nil_news x N q hq
      · exact N' _ (.tail _ hq)
  · rcases List.mem_cons.mp hb with rfl | hb
    · exact hne q hq
    · obtain ⟨z, hz, rfl⟩ := List.mem_map.mp hb
      exact fun e => ne_of_fresh N (ht q hq) z hz e.symm
theorem off_15_1 : True := by
  k_with "off_15_1" => skip
  trivial
end
theorem reg_15 : True := by
  k_with "call ref" => (k_here; (with_reducible show wpAny _ _ (call (Value.ref 271) _) _ _ _); k_dflt (refine' match_K ?k1 ?k2 ?k3 ?k4 ?k5 ?k6 ?k7 ?k8 ?m1 ?b1 ?b2 ?b3 ?b4 ?b5 ?b6 ?b7 ?b8 ?d1 ?d2 ?_; (case k1 => k_asm); (case k2 => k_asm); (case k3 => k_asm); (case k4 => k_asm); (case k5 => first | exact rfl | assumption); (case k6 => k_extra "M room"); (case k7 => k_extra "M room"); (case k8 => k_asm); (case m1 => k_mem); (case b1 => first | (with_reducible assumption) | omega); (case b2 => assumption); (case b3 => first | (with_reducible assumption) | omega); (case b4 => first | (with_reducible assumption) | omega); (case b5 => first | (with_reducible assumption) | omega); (case b6 => first | (with_reducible assumption) | omega); (case b7 => first | (with_reducible assumption) | omega); (case b8 => first | (with_reducible assumption) | omega); (case d1 => k_asm); (case d2 => first | (with_reducible assumption) | omega); k_whole); intro l9 us9 n9 tl9 h9 k9 F9 N9 ne9 of9 pi9; (try simp only [List.cons_append, List.nil_append] at N9); (try simp only [List.map_cons, List.map_nil] at of9); (try k_sweep))
  trivial
/-! the plain law: no program in sight -/
inductive Ch (bs : List Int) : List Int → Prop
  | nil : Ch bs []
  | cons {a : Int} {l : List Int} : 0 ≤ a → bs.getD a.toNat 0 = l.head?.getD (-1) → Ch bs l → Ch bs (a :: l)
theorem Ch.dropWhile {bs : List Int} {q : Int → Bool} {l : List Int} (h : Ch bs l) : Ch bs (l.dropWhile q) := by
  induction h with
  | nil => exact .nil
  | @cons a l h0 h1 h2 ih =>
    rw [List.dropWhile_cons]
    split
    · exact ih
    · exact .cons h0 h1 h2
theorem walk_ch {bs : List Int} {lo : Int} {l : List Int} (h : Ch bs l) : ∀ c, walkC bs lo c (l.head?.getD (-1)) = (l.takeWhile fun o => decide (lo ≤ o)).take c := by
  induction h with
  | nil =>
    intro c
    cases c with
    | zero => rfl
    | succ c => simp [walkC]
  | @cons a l h0 h1 h2 ih =>
    intro c
    cases c with
    | zero => rfl
    | succ c =>
      rw [List.takeWhile_cons]
      show (if a ≠ -1 ∧ lo ≤ a then a :: walkC bs lo c (bs.getD a.toNat 0) else []) = _
      by_cases q : lo ≤ a
      · rw [if_pos ⟨by omega, q⟩, h1, ih c, if_pos (by simpa using q)]; rfl
      · rw [if_neg (fun z => q z.2), if_neg (by simpa using q)]; rfl
theorem dn_ch {bs : List Int} {place : Int} (hp : 0 ≤ place) {l : List Int} (h : Ch bs l) : ∀ f, l.length ≤ f → dn bs place f (l.head?.getD (-1)) = (l.dropWhile fun o => decide (place ≤ o)).head?.getD (-1) := by
  induction h with
  | nil => intro f _; exact dn_stop f (by simp; omega)
  | @cons a l h0 h1 h2 ih =>
    intro f hf
    cases f with
    | zero => simp at hf
    | succ f =>
      rw [List.dropWhile_cons]
      show (if place ≤ a then dn bs place f (bs.getD a.toNat 0) else a) = _
      by_cases q : place ≤ a
      · rw [if_pos q, h1, ih f (by simpa using hf), if_pos (by simpa using q)]
      · rw [if_neg q, if_neg (by simpa using q)]; rfl
theorem desc_drop {place : Int} : ∀ {l : List Int}, l.Pairwise (· > ·) → (l.dropWhile fun o => decide (place ≤ o)) = l.filter fun o => decide (o < place)
  | [], _ => rfl
  | a :: l, h => by
    obtain ⟨h1, h2⟩ := List.pairwise_cons.mp h
    rw [List.dropWhile_cons, List.filter_cons]
    by_cases q : place ≤ a
    · have q' : ¬ a < place := by omega
      simp only [q, q', decide_true, decide_false, if_true, Bool.false_eq_true, if_false]
      exact desc_drop h2
    · have q' : a < place := by omega
      simp only [q, q', decide_true, decide_false, if_true, Bool.false_eq_true, if_false]
      congr 1
      symm
      refine List.filter_eq_self.mpr fun x hx => ?_
      have := h1 x hx
      simp; omega
theorem desc_take {lo : Int} : ∀ {l : List Int}, l.Pairwise (· > ·) → (l.takeWhile fun o => decide (lo ≤ o)) = l.filter fun o => decide (lo ≤ o)
  | [], _ => rfl
  | a :: l, h => by
    obtain ⟨h1, h2⟩ := List.pairwise_cons.mp h
    rw [List.takeWhile_cons, List.filter_cons]
    by_cases q : lo ≤ a
    · simp only [q, decide_true, if_true]
      rw [desc_take h2]
    · simp only [q, decide_false, Bool.false_eq_true, if_false]
      symm
      refine List.filter_eq_nil_iff.mpr fun x hx => ?_
      have := h1 x hx
      simp; omega
theorem walk_new {bs F : List Int} {spot lo : Int} (hc : Ch bs F) (hd : F.Pairwise (· > ·)) (hp : 0 ≤ spot) {f : Nat} (hf : F.length ≤ f) (c : Nat) :
    walkC bs lo c (dn bs spot f (F.head?.getD (-1))) = ((F.filter fun o => decide (o < spot)).filter fun o => decide (lo ≤ o)).take c := by
  rw [dn_ch hp hc f hf, walk_ch hc.dropWhile, desc_drop hd, desc_take (hd.filter _)]

/-! numbers of octets -/
def Oct (ks : List Int) : Prop := ∀ k ∈ ks, 0 ≤ k ∧ k < 256
theorem num_inj' : ∀ {l r : List Int} {a b : Int}, Oct l → Oct r → l.length = r.length → l.foldl (fun a k => a * 256 + k) a = r.foldl (fun a k => a * 256 + k) b → a = b ∧ l = r
  | [], [], a, b, _, _, _, e => ⟨e, rfl⟩
  | [], _ :: _, _, _, _, _, h, _ => by simp at h
  | _ :: _, [], _, _, _, _, h, _ => by simp at h
  | x :: l, y :: r, a, b, hl, hr, h, e => by
    have q := num_inj' (fun k hk => hl k (.tail _ hk)) (fun k hk => hr k (.tail _ hk)) (by simpa using h) e
    have hx := hl x (.head _)
    have hy := hr y (.head _)
    obtain ⟨q1, q2⟩ := q
    dsimp only at q1
    exact ⟨by omega, by rw [q2, show x = y by omega]⟩
theorem num_inj {l r : List Int} (hl : Oct l) (hr : Oct r) (h : l.length = r.length) (e : num l = num r) : l = r := (num_inj' hl hr h e).2
theorem cut_oct {ks : List Int} (h : Oct ks) (p n : Nat) : Oct (cut ks p n) := fun k hk => h k (List.mem_of_mem_drop (List.mem_of_mem_take hk))
theorem cut_len {ks : List Int} (p n : Nat) : (cut ks p n).length = min n (ks.length - p) := by simp [cut]
theorem cutI_eq {ks : List Int} {lo q : Int} (h0 : 0 ≤ lo) (h1 : 0 ≤ q) : cutI ks lo (lo + q) = cut ks lo.toNat q.toNat := by
  obtain ⟨a, rfl⟩ := Int.eq_ofNat_of_zero_le h0
  obtain ⟨b, rfl⟩ := Int.eq_ofNat_of_zero_le h1
  unfold cutI cut
  rw [show ((a : Int) + (b : Int)) = ((a + b : Nat) : Int) by omega, clipAt_nat, clipAt_nat]
  simp only [Int.toNat_natCast]
  by_cases c : a ≤ ks.length
  · rw [Nat.min_eq_left c]
    by_cases c2 : a + b ≤ ks.length
    · rw [Nat.min_eq_left c2, Nat.add_sub_cancel_left]
    · rw [Nat.min_eq_right (by omega)]
      rw [List.take_of_length_le (by simp), List.take_of_length_le (by simp; omega)]
  · rw [Nat.min_eq_right (by omega)]
    rw [List.drop_of_length_le (i := a) (by omega)]
    simp; omega
/-- one text's pieces at two places -/
theorem cut_short {ks : List Int} {o s n : Nat} (ho : o < s) (hs : s ≤ ks.length) (hn : ks.length < s + n) : cut ks o n ≠ cut ks s n := fun e => by
  have := congrArg List.length e
  rw [cut_len, cut_len] at this
  omega
theorem cut_num {ks : List Int} {o s n : Nat} (hk : Oct ks) (ho : o + n ≤ ks.length) (hs : s + n ≤ ks.length) : num (cut ks o n) = num (cut ks s n) ↔ cut ks o n = cut ks s n :=
  ⟨fun e => num_inj (cut_oct hk _ _) (cut_oct hk _ _) (by rw [cut_len, cut_len]; omega) e, fun e => by rw [e]⟩
theorem cut_succ {ks : List Int} {o c : Nat} (h : o < ks.length) : cut ks o (c + 1) = ks.getD o 0 :: cut ks (o + 1) c := by
  unfold cut
  rw [List.drop_eq_getElem_cons h, List.take_succ_cons, List.getD_eq_getElem?_getD, List.getElem?_eq_getElem h]; rfl
theorem lcp_cut {ks : List Int} : ∀ (l s o c : Nat), c ≤ l → s + l ≤ ks.length → o + l ≤ ks.length → (c ≤ lcp ks s o l ↔ cut ks o c = cut ks s c)
  | _, s, o, 0, _, _, _ => by simp [cut]
  | 0, _, _, c + 1, h, _, _ => by omega
  | l + 1, s, o, c + 1, h, h1, h2 => by
    rw [cut_succ (ks := ks) (o := o) (c := c) (by omega), cut_succ (ks := ks) (o := s) (c := c) (by omega)]
    unfold lcp
    have ih := lcp_cut (ks := ks) l (s + 1) (o + 1) c (by omega) (by omega) (by omega)
    by_cases e : ks.getD s 0 = ks.getD o 0
    · rw [if_pos e, e, List.cons.injEq]
      constructor
      · intro q; exact ⟨rfl, ih.mp (by omega)⟩
      · intro q; have := ih.mpr q.2; omega
    · rw [if_neg e, List.cons.injEq]
      constructor
      · intro q; omega
      · intro q; exact absurd q.1.symm e

/-! the records, by a cap on the length -/
def evK (f : Int → Int) (spot K : Int) : List Int → Int → List (Int × Int)
  | [], _ => []
  | o :: r, lg => if lg < min (f o) K then (min (f o) K, spot - o) :: evK f spot K r (min (f o) K) else evK f spot K r lg
theorem evK_nil {f : Int → Int} {spot K : Int} : ∀ {l : List Int} {lg : Int}, K ≤ lg → evK f spot K l lg = []
  | [], _, _ => rfl
  | o :: r, lg, h => by
    unfold evK
    rw [if_neg (by omega)]
    exact evK_nil h
theorem evF_evK {ks : List Int} {place limit : Int} : ∀ {l : List Int} {lg : Int}, 0 ≤ limit → evF ks place limit l lg = evK (fun o => (lcp ks place.toNat o.toNat limit.toNat : Nat)) place limit l lg
  | [], _, _ => rfl
  | o :: r, lg, h => by
    unfold evF evK
    have q := lcp_le (ks := ks) limit.toNat place.toNat o.toNat
    have e : min ((lcp ks place.toNat o.toNat limit.toNat : Nat) : Int) limit = (lcp ks place.toNat o.toNat limit.toNat : Nat) := by omega
    simp only [e]
    by_cases c : limit ≤ lg
    · rw [if_pos c, if_neg (by omega), evK_nil c]
    · rw [if_neg c]
      split
      · rw [evF_evK h]
      · rw [evF_evK h]
def nearL (f : Int → Int) (spot K : Int) (l : List Int) : List Int := ((l.filter fun o => decide (K ≤ f o)).map fun o => spot - o).take 1
theorem nearL_cons {f : Int → Int} {spot K : Int} {o : Int} {l : List Int} : nearL f spot K (o :: l) = if K ≤ f o then [spot - o] else nearL f spot K l := by
  unfold nearL
  rw [List.filter_cons]
  by_cases c : K ≤ f o
  · simp [c]
  · simp [c]
theorem nearL_mem {f : Int → Int} {spot K d : Int} {l : List Int} (h : d ∈ nearL f spot K l) : ∃ o ∈ l, d = spot - o := by
  have h := List.mem_of_mem_take h
  obtain ⟨o, ho, rfl⟩ := List.mem_map.mp h
  exact ⟨o, (List.mem_filter.mp ho).1, rfl⟩
def stepL (near : List Int) (found : List (Int × Int)) (K : Int) : List (Int × Int) := (if found ≠ [] ∧ near = [(found.getLastD (0, 0)).2] then found.dropLast else found) ++ near.map fun d => (K, d)
theorem ev_step {f : Int → Int} {spot K : Int} : ∀ {l : List Int} {lg : Int}, lg ≤ K → l.Nodup → evK f spot (K + 1) l lg = stepL (nearL f spot (K + 1) l) (evK f spot K l lg) (K + 1)
  | [], _, _, _ => by simp [evK, nearL, stepL]
  | o :: r, lg, h, hn => by
    obtain ⟨hn1, hn2⟩ := List.nodup_cons.mp hn
    rw [nearL_cons]
    by_cases c1 : f o ≤ lg
    · have e1 : evK f spot (K + 1) (o :: r) lg = evK f spot (K + 1) r lg := by
        rw [evK, if_neg (by omega)]
      have e2 : evK f spot K (o :: r) lg = evK f spot K r lg := by
        rw [evK, if_neg (by omega)]
      rw [e1, e2, if_neg (by omega)]
      exact ev_step h hn2
    · by_cases c2 : f o ≤ K
      · have e1 : evK f spot (K + 1) (o :: r) lg = (f o, spot - o) :: evK f spot (K + 1) r (f o) := by
          rw [evK, show min (f o) (K + 1) = f o by omega, if_pos (by omega)]
        have e2 : evK f spot K (o :: r) lg = (f o, spot - o) :: evK f spot K r (f o) := by
          rw [evK, show min (f o) K = f o by omega, if_pos (by omega)]
        rw [e1, e2, if_neg (by omega), ev_step c2 hn2]
        generalize hX : evK f spot K r (f o) = X
        unfold stepL
        cases X with
        | nil =>
          have : ¬ nearL f spot (K + 1) r = [spot - o] := fun z => by
            obtain ⟨o', ho', e⟩ := nearL_mem (d := spot - o) (by rw [z]; exact .head _)
            rw [show o = o' by omega] at hn1
            exact hn1 ho'
          simp [this]
        | cons x X =>
          show (f o, spot - o) :: ((if x :: X ≠ [] ∧ nearL f spot (K + 1) r = [((x :: X).getLastD (0, 0)).2] then (x :: X).dropLast else x :: X) ++ _) =
            (if (f o, spot - o) :: x :: X ≠ [] ∧ nearL f spot (K + 1) r = [((x :: X).getLastD (0, 0)).2] then (f o, spot - o) :: (x :: X).dropLast else (f o, spot - o) :: x :: X) ++ _
          by_cases c : nearL f spot (K + 1) r = [((x :: X).getLastD (0, 0)).2]
          · rw [if_pos ⟨by simp, c⟩, if_pos ⟨by simp, c⟩]; rfl
          · rw [if_neg (fun z => c z.2), if_neg (fun z => c z.2)]; rfl
      · have e1 : evK f spot (K + 1) (o :: r) lg = [(K + 1, spot - o)] := by
          rw [evK, show min (f o) (K + 1) = K + 1 by omega, if_pos (by omega), evK_nil (Int.le_refl _)]
        rw [e1, if_pos (by omega)]
        by_cases c3 : lg < K
        · have e2 : evK f spot K (o :: r) lg = [(K, spot - o)] := by
            rw [evK, show min (f o) K = K by omega, if_pos c3, evK_nil (Int.le_refl _)]
          rw [e2]; simp [stepL]
        · rw [evK_nil (by omega)]; simp [stepL]
theorem mt_ev {ks looked : List Int} {spot size limit : Int} (hs : 0 ≤ spot) (hz : 0 < size) (hl0 : 0 ≤ limit) (hl : limit ≤ ks.length - spot) (hk : ∀ o ∈ looked, 0 ≤ o ∧ o < spot) (hn : looked.Nodup) :
    ∀ n : Nat, (n : Int) ≤ limit + 1 - size → mtF ks looked spot size n = evK (fun o => (lcp ks spot.toNat o.toNat limit.toNat : Nat)) spot (size - 1 + n) looked (size - 1)
  | 0, _ => by
    rw [evK_nil (by omega)]; rfl
  | n + 1, h => by
    rw [mtF_succ, mt_ev hs hz hl0 hl hk hn n (by omega), show (size - 1 + ((n + 1 : Nat) : Int)) = (size - 1 + (n : Int)) + 1 by omega, ev_step (by omega) hn]
    have e : nearF ks looked spot (size + n) = nearL (fun o => (lcp ks spot.toNat o.toNat limit.toNat : Nat)) spot (size - 1 + n + 1) looked := by
      unfold nearF nearL
      congr 2
      refine List.filter_congr fun o ho => ?_
      obtain ⟨o0, o1⟩ := hk o ho
      rw [cutI_eq o0 (by omega), cutI_eq hs (by omega)]
      have := lcp_cut (ks := ks) limit.toNat spot.toNat o.toNat (size + n).toNat (by omega) (by omega) (by omega)
      by_cases c : cut ks o.toNat (size + n).toNat = cut ks spot.toNat (size + n).toNat
      · have := this.mpr c
        rw [decide_eq_true c, decide_eq_true (by dsimp only; omega)]
      · have : ¬ (size + (n : Int)).toNat ≤ lcp ks spot.toNat o.toNat limit.toNat := fun z => c (this.mp z)
        rw [decide_eq_false c, decide_eq_false (by dsimp only; omega)]
    unfold mtStep stepL
    rw [e, show size + (n : Int) = size - 1 + n + 1 by omega]
theorem mt_evF {ks looked : List Int} {spot size most : Int} (hs : 0 ≤ spot) (hsl : spot ≤ ks.length) (hz : 0 < size) (hm : 0 ≤ most) (hk : ∀ o ∈ looked, 0 ≤ o ∧ o < spot) (hn : looked.Nodup) :
    evF ks spot (limF ks spot most) looked (size - 1) = mtF ks looked spot size (limF ks spot most + 1 - size).toNat := by
  have hl : 0 ≤ limF ks spot most ∧ limF ks spot most ≤ ks.length - spot := by unfold limF; split <;> omega
  rw [evF_evK hl.1]
  by_cases c : limF ks spot most + 1 - size ≤ 0
  · rw [show (limF ks spot most + 1 - size).toNat = 0 by omega, evK_nil (by omega)]; rfl
  · rw [mt_ev hs hz hl.1 hl.2 hk hn _ (by omega)]
    congr 1
    omega

/-! a row of places -/
/-- the entered places with a number, the latest first -/
def rowL (ks : List Int) (size : Int) (there : List Int) (x : Int) : List Int := there.reverse.filter fun p => decide (p + size ≤ ks.length ∧ num (cut ks p.toNat size.toNat) = x)
structure RowInv (ks : List Int) (size : Int) (there : List Int) (M : List (Int × Int)) (bs : List Int) : Prop where
  len : bs.length = ks.length
  look : ∀ x, getM M x = (rowL ks size there x).head?
  ch : ∀ x, Ch bs (rowL ks size there x)
  wf : Wf bs
  ml : M.length ≤ there.length
structure There (there : List Int) (n : Int) : Prop where
  asc : there.Pairwise (· < ·)
  rng : ∀ q ∈ there, 0 ≤ q ∧ q < n
theorem There.nil {n : Int} : There [] n := ⟨.nil, fun _ h => nomatch h⟩
theorem There.snoc {there : List Int} {n : Int} (h : There there n) (h0 : 0 ≤ n) : There (there ++ [n]) (n + 1) := by
  refine ⟨List.pairwise_append.mpr ⟨h.asc, List.pairwise_singleton .., fun a ha b hb => ?_⟩, fun q hq => ?_⟩
  · rw [List.mem_singleton.mp hb]; exact (h.rng a ha).2
  · rcases List.mem_append.mp hq with hq | hq
    · have := h.rng q hq; omega
    · rw [List.mem_singleton.mp hq]; omega
theorem There.more {there : List Int} {n : Int} (h : There there n) : There there (n + 1) := ⟨h.asc, fun q hq => by have := h.rng q hq; omega⟩
theorem asc_len : ∀ {l : List Int} {lo hi : Int}, lo ≤ hi → l.Pairwise (· < ·) → (∀ q ∈ l, lo ≤ q ∧ q < hi) → (l.length : Int) ≤ hi - lo
  | [], _, _, h, _, _ => by simp; omega
  | a :: l, lo, hi, h, hp, hr => by
    obtain ⟨h1, h2⟩ := List.pairwise_cons.mp hp
    have ha := hr a (.head _)
    have := asc_len (l := l) (lo := a + 1) (hi := hi) (by omega) h2 fun q hq => ⟨by have := h1 q hq; omega, (hr q (.tail _ hq)).2⟩
    simp only [List.length_cons]; omega
theorem There.length {there : List Int} {n : Int} (h : There there n) (h0 : 0 ≤ n) : (there.length : Int) ≤ n := by
  have := asc_len h0 h.asc h.rng; omega
theorem rowL_mem {ks there : List Int} {size x p : Int} (h : p ∈ rowL ks size there x) : p ∈ there ∧ p + size ≤ ks.length ∧ num (cut ks p.toNat size.toNat) = x := by
  obtain ⟨h1, h2⟩ := List.mem_filter.mp h
  exact ⟨List.mem_reverse.mp h1, of_decide_eq_true h2⟩
theorem rowL_desc {ks there : List Int} {size x n : Int} (h : There there n) : (rowL ks size there x).Pairwise (· > ·) := (List.pairwise_reverse.mpr h.asc).filter _
theorem rowL_len {ks there : List Int} {size x n : Int} (h : There there n) (h0 : 0 ≤ n) : ((rowL ks size there x).length : Int) ≤ n := by
  have a := h.length h0
  have b : (rowL ks size there x).length ≤ there.reverse.length := List.length_filter_le _ _
  rw [List.length_reverse] at b
  omega
theorem rowL_snoc {ks there : List Int} {size x place : Int} : rowL ks size (there ++ [place]) x = if place + size ≤ ks.length ∧ num (cut ks place.toNat size.toNat) = x then place :: rowL ks size there x else rowL ks size there x := by
  unfold rowL
  rw [List.reverse_append, List.reverse_singleton, List.singleton_append, List.filter_cons]
  by_cases c : place + size ≤ ks.length ∧ num (cut ks place.toNat size.toNat) = x
  · rw [if_pos c, decide_eq_true c, if_pos rfl]
  · rw [if_neg c, decide_eq_false c]; rfl
theorem Ch.set {bs l : List Int} {i : Nat} {v : Int} (h : Ch bs l) (hn : ∀ a ∈ l, a.toNat ≠ i) : Ch (bs.set i v) l := by
  induction h with
  | nil => exact .nil
  | @cons a l h0 h1 h2 ih =>
    refine .cons h0 ?_ (ih fun b hb => hn b (.tail _ hb))
    rw [← h1, List.getD_eq_getElem?_getD, List.getD_eq_getElem?_getD, List.getElem?_set_ne (Ne.symm (hn a (.head _)))]
theorem getM_append {M : List (Int × Int)} {k v x : Int} : getM (M ++ [(k, v)]) x = match getM M x with | some y => some y | none => if k = x then some v else none := by
  induction M with
  | nil => simp [getM]
  | cons p M ih =>
    obtain ⟨a, b⟩ := p
    simp only [List.cons_append, getM]
    split
    · rfl
    · exact ih
theorem getM_map {M : List (Int × Int)} {k v x : Int} : getM (M.map fun p => if p.1 = k then (p.1, v) else p) x = match getM M x with | none => none | some y => if k = x then some v else some y := by
  induction M with
  | nil => rfl
  | cons p M ih =>
    obtain ⟨a, b⟩ := p
    simp only [List.map_cons, getM]
    by_cases c : a = k
    · simp only [if_pos c, getM]
      by_cases d : a = x
      · rw [if_pos d, if_pos d]; simp only [if_pos (c.symm.trans d)]
      · rw [if_neg d, if_neg d]; exact ih
    · simp only [if_neg c, getM]
      by_cases d : a = x
      · rw [if_pos d, if_pos d]; simp only [if_neg (fun z : k = x => c (d.trans z.symm))]
      · rw [if_neg d, if_neg d]; exact ih
theorem getM_none {M : List (Int × Int)} {k : Int} : getM M k = none ↔ ¬ M.any (fun p => p.1 = k) = true := by
  induction M with
  | nil => simp [getM]
  | cons p M ih =>
    obtain ⟨a, b⟩ := p
    simp only [getM, List.any_cons, Bool.or_eq_true, decide_eq_true_eq, not_or]
    by_cases c : a = k
    · simp [c]
    · rw [if_neg c, ih]; exact ⟨fun z => ⟨c, z⟩, fun z => z.2⟩
theorem getM_put {M : List (Int × Int)} {k v x : Int} : getM (putM M k v) x = if k = x then some v else getM M x := by
  unfold putM
  by_cases c : M.any (fun p => p.1 = k) = true
  · rw [if_pos c, getM_map]
    by_cases d : k = x
    · subst d
      cases e : getM M k with
      | none => exact absurd c (getM_none.mp e)
      | some y => simp
    · simp only [if_neg d]
      cases getM M x <;> rfl
  · rw [if_neg c, getM_append]
    by_cases d : k = x
    · subst d; rw [getM_none.mpr c]
    · simp only [if_neg d]
      cases getM M x <;> rfl
theorem RowInv.hM {ks there M bs} {size n : Int} (I : RowInv ks size there M bs) (Th : There there n) (hn : n ≤ ks.length) : ∀ k v, getM M k = some v → 0 ≤ v ∧ v < bs.length := fun k v h => by
  rw [I.look k] at h
  have := Th.rng v (rowL_mem (List.mem_of_mem_head? h)).1
  rw [I.len]; omega
theorem RowInv.old {ks there M bs} {size n : Int} (I : RowInv ks size there M bs) (Th : There there n) (h0 : 0 ≤ n) (x : Int) : -1 ≤ (getM M x).getD (-1) ∧ (getM M x).getD (-1) < n := by
  rw [I.look x]
  cases e : (rowL ks size there x).head? with
  | none => simp; omega
  | some v =>
    have := Th.rng v (rowL_mem (List.mem_of_mem_head? e)).1
    simp only [Option.getD_some]; omega
theorem RowInv.start {ks : List Int} {size : Int} {k : Nat} (hk : k = ks.length) : RowInv ks size [] [] (List.replicate k (-1)) :=
  ⟨by simp [hk], fun _ => rfl, fun _ => .nil, fun i hi => by
    have : (List.replicate k (-1 : Int)).getD i 0 = -1 := by
      rw [List.getD_eq_getElem?_getD, List.getElem?_eq_getElem hi]; simp
    omega, Nat.le_refl _⟩
theorem RowInv.skip {ks there M bs} {size place : Int} (I : RowInv ks size there M bs) (c : ks.length < place + size) : RowInv ks size (there ++ [place]) M bs := by
  have e : ∀ x, rowL ks size (there ++ [place]) x = rowL ks size there x := fun x => by
    rw [rowL_snoc, if_neg (fun z => by omega)]
  exact ⟨I.len, fun x => by rw [e]; exact I.look x, fun x => by rw [e]; exact I.ch x, I.wf, by have := I.ml; simp; omega⟩
theorem RowInv.put {ks there M bs} {size place : Int} (I : RowInv ks size there M bs) (Th : There there place) (h0 : 0 ≤ place) (hp : place < ks.length) (c : ¬ ks.length < place + size) :
    RowInv ks size (there ++ [place]) (putM M (num (cut ks place.toNat size.toNat)) place) (bs.set place.toNat ((getM M (num (cut ks place.toNat size.toNat))).getD (-1))) := by
  generalize hy : num (cut ks place.toNat size.toNat) = y
  have e : ∀ x, rowL ks size (there ++ [place]) x = if y = x then place :: rowL ks size there x else rowL ks size there x := fun x => by
    rw [rowL_snoc, hy]
    by_cases d : y = x
    · rw [if_pos ⟨by omega, d⟩, if_pos d]
    · rw [if_neg (fun z => d z.2), if_neg d]
  have hl := I.len
  refine ⟨by rw [List.length_set, hl], fun x => ?_, fun x => ?_, fun i hi => ?_, ?_⟩
  · rw [getM_put, e]
    by_cases d : y = x
    · rw [if_pos d, if_pos d]; rfl
    · rw [if_neg d, if_neg d]; exact I.look x
  · have base : Ch (bs.set place.toNat ((getM M y).getD (-1))) (rowL ks size there x) := (I.ch x).set fun a ha => by
      have := Th.rng a (rowL_mem ha).1
      omega
    rw [e]
    by_cases d : y = x
    · subst d
      rw [if_pos rfl]
      refine .cons h0 ?_ base
      rw [List.getD_eq_getElem?_getD, List.getElem?_set_self (by omega), I.look y]; rfl
    · rw [if_neg d]; exact base
  · rw [List.length_set] at hi
    by_cases d : i = place.toNat
    · subst d
      rw [List.getD_eq_getElem?_getD, List.getElem?_set_self hi]
      have := I.old Th h0 y
      simp only [Option.getD_some]
      omega
    · rw [List.getD_eq_getElem?_getD, List.getElem?_set_ne (Ne.symm d), ← List.getD_eq_getElem?_getD]
      exact I.wf i hi
  · have := putM_length M y place
    have := I.ml
    simp; omega
/-- what the row gives as the latest place of a number is the greatest of the entered ones that are alike -/
theorem RowInv.max {ks there M bs} {size place : Int} (I : RowInv ks size there M bs) (Th : There there place) (hk : Oct ks) (h0 : 0 ≤ place) (hz : 0 < size) (c : ¬ ks.length < place + size) :
    (getM M (num (cut ks place.toNat size.toNat))).getD (-1) ∈ [-1] ++ there.filter (fun q => decide (cutI ks q (q + size) = cutI ks place (place + size))) ∧
      ∀ x, x ∈ [-1] ++ there.filter (fun q => decide (cutI ks q (q + size) = cutI ks place (place + size))) → x ≤ (getM M (num (cut ks place.toNat size.toNat))).getD (-1) := by
  have key : ∀ q ∈ there, (cutI ks q (q + size) = cutI ks place (place + size) ↔ q ∈ rowL ks size there (num (cut ks place.toNat size.toNat))) := fun q hq => by
    have hr := Th.rng q hq
    rw [cutI_eq hr.1 (by omega), cutI_eq h0 (by omega), ← cut_num hk (by omega) (by omega)]
    unfold rowL
    rw [List.mem_filter, List.mem_reverse]
    exact ⟨fun z => ⟨hq, decide_eq_true ⟨by omega, z⟩⟩, fun z => (of_decide_eq_true z.2).2⟩
  have hd := rowL_desc (ks := ks) (size := size) (x := num (cut ks place.toNat size.toNat)) Th
  rw [I.look]
  generalize hR : rowL ks size there (num (cut ks place.toNat size.toNat)) = R at key hd
  have back : ∀ x, x ∈ there.filter (fun q => decide (cutI ks q (q + size) = cutI ks place (place + size))) ↔ x ∈ R := fun x => by
    rw [List.mem_filter]
    constructor
    · rintro ⟨a, b⟩; exact (key x a).mp (of_decide_eq_true b)
    · intro z
      have : x ∈ there := (rowL_mem (hR ▸ z)).1
      exact ⟨this, decide_eq_true ((key x this).mpr z)⟩
  cases R with
  | nil =>
    refine ⟨List.mem_append_left _ (.head _), fun x hx => ?_⟩
    rcases List.mem_append.mp hx with hx | hx
    · rw [List.mem_singleton.mp hx]; simp
    · exact nomatch (back x).mp hx
  | cons a R =>
    simp only [List.head?_cons, Option.getD_some]
    refine ⟨List.mem_append_right _ ((back a).mpr (.head _)), fun x hx => ?_⟩
    have ha := Th.rng a (rowL_mem (ks := ks) (size := size) (x := num (cut ks place.toNat size.toNat)) (hR ▸ List.mem_cons_self)).1
    rcases List.mem_append.mp hx with hx | hx
    · rw [List.mem_singleton.mp hx]; omega
    · rcases List.mem_cons.mp ((back x).mp hx) with rfl | h
      · exact Int.le_refl _
      · exact Int.le_of_lt ((List.pairwise_cons.mp hd).1 x h)
/-- the entered places ahead of one that are alike with it in so many octets, the latest first -/
def alikeF (ks there : List Int) (spot size : Int) : List Int := there.reverse.filter fun o => decide (o < spot ∧ cutI ks o (o + size) = cutI ks spot (spot + size))
theorem alikeF_mem {ks there : List Int} {spot size n o : Int} (Th : There there n) (h : o ∈ alikeF ks there spot size) : 0 ≤ o ∧ o < spot := by
  obtain ⟨h1, h2⟩ := List.mem_filter.mp h
  exact ⟨(Th.rng o (List.mem_reverse.mp h1)).1, (of_decide_eq_true h2).1⟩
theorem alikeF_desc {ks there : List Int} {spot size n : Int} (Th : There there n) : (alikeF ks there spot size).Pairwise (· > ·) := (List.pairwise_reverse.mpr Th.asc).filter _
theorem alikeF_len {ks there : List Int} {spot size : Int} : (alikeF ks there spot size).length ≤ there.length := by
  have b : (alikeF ks there spot size).length ≤ there.reverse.length := List.length_filter_le _ _
  rwa [List.length_reverse] at b
theorem desc_nodup {l : List Int} (h : l.Pairwise (· > ·)) : l.Nodup := h.imp fun z => by omega
theorem RowInv.new {ks there M bs} {size spot n lo : Int} (I : RowInv ks size there M bs) (Th : There there n) (hn0 : 0 ≤ n) (hn : n ≤ ks.length) (hk : Oct ks) (h0 : 0 ≤ spot) (h1 : spot ≤ ks.length) (hz : 0 < size) (c : Nat) :
    walkC bs lo c (nwF bs ks M size spot) = ((alikeF ks there spot size).filter fun o => decide (lo ≤ o)).take c := by
  unfold nwF
  by_cases q : (ks.length : Int) < spot + size
  · rw [if_pos q]
    have e : alikeF ks there spot size = [] := List.filter_eq_nil_iff.mpr fun o ho z => by
      obtain ⟨z1, z2⟩ := of_decide_eq_true z
      have := Th.rng o (List.mem_reverse.mp ho)
      rw [cutI_eq this.1 (by omega), cutI_eq h0 (by omega)] at z2
      exact cut_short (by omega) (by omega) (by omega) z2
    rw [e]
    have := walk_ch (bs := bs) (lo := lo) .nil c
    simpa using this
  · rw [if_neg q, I.look, walk_new (I.ch _) (rowL_desc Th) h0 (by have := rowL_len (ks := ks) (size := size) (x := num (cut ks spot.toNat size.toNat)) Th hn0; have := I.len; omega)]
    congr 2
    unfold rowL alikeF
    rw [List.filter_filter]
    refine List.filter_congr fun o ho => ?_
    have hr := Th.rng o (List.mem_reverse.mp ho)
    by_cases d : o < spot
    · rw [decide_eq_true d, Bool.true_and]
      refine decide_eq_decide.mpr ?_
      rw [cutI_eq hr.1 (by omega), cutI_eq h0 (by omega), ← cut_num hk (by omega) (by omega)]
      exact ⟨fun z => ⟨d, z.2⟩, fun z => ⟨by omega, z.2⟩⟩
    · rw [decide_eq_false d, Bool.false_and, decide_eq_false (fun z => d z.1)]
theorem RowInv.chain {ks there M bs} {size spot n : Int} (I : RowInv ks size there M bs) (Th : There there n) (hn0 : 0 ≤ n) (hn : n ≤ ks.length) (hk : Oct ks) (h0 : 0 ≤ spot) (h1 : spot ≤ ks.length) (hz : 0 < size) :
    walkC bs (-1) bs.length (nwF bs ks M size spot) = alikeF ks there spot size := by
  rw [I.new Th hn0 hn hk h0 h1 hz, List.filter_eq_self.mpr, List.take_of_length_le]
  · have := alikeF_len (ks := ks) (there := there) (spot := spot) (size := size)
    have := Th.length hn0
    have := I.len
    omega
  · intro o ho
    have := alikeF_mem Th ho
    exact decide_eq_true (by omega)
theorem cut_split {ks : List Int} {o s q : Nat} : cut ks o (q + 1) = cut ks s (q + 1) ↔ cut ks o q = cut ks s q ∧ cut ks (o + q) 1 = cut ks (s + q) 1 := by
  have sp : ∀ a, cut ks a (q + 1) = cut ks a q ++ cut ks (a + q) 1 := fun a => by
    unfold cut; rw [List.take_add, List.drop_drop]
  have t1 : ∀ a, (cut ks a (q + 1)).take q = cut ks a q := fun a => by
    unfold cut; rw [List.take_take, Nat.min_eq_left (Nat.le_succ q)]
  have t2 : ∀ a, (cut ks a (q + 1)).drop q = cut ks (a + q) 1 := fun a => by
    unfold cut; rw [List.drop_take, List.drop_drop, Nat.add_sub_cancel_left]
  constructor
  · intro e
    exact ⟨by rw [← t1, e, t1], by rw [← t2, e, t2]⟩
  · rintro ⟨e1, e2⟩
    rw [sp, sp, e1, e2]
theorem longer_eq {ks there : List Int} {spot size n : Int} (Th : There there n) (h0 : 0 ≤ spot) (hz : 0 < size) :
    ((alikeF ks there spot size).filter fun o => decide (cutI ks (o + size) (o + size + 1) = cutI ks (spot + size) (spot + size + 1))) = alikeF ks there spot (size + 1) := by
  unfold alikeF
  rw [List.filter_filter]
  refine List.filter_congr fun o ho => ?_
  have hr := Th.rng o (List.mem_reverse.mp ho)
  rw [cutI_eq (by omega) (by omega), cutI_eq (by omega) (by omega), cutI_eq hr.1 (by omega), cutI_eq h0 (by omega), cutI_eq hr.1 (by omega), cutI_eq h0 (by omega)]
  have := cut_split (ks := ks) (o := o.toNat) (s := spot.toNat) (q := size.toNat)
  rw [show (size + 1).toNat = size.toNat + 1 by omega, show (o + size).toNat = o.toNat + size.toNat by omega, show (spot + size).toNat = spot.toNat + size.toNat by omega, show (1 : Int).toNat = 1 from rfl, ← Bool.decide_and]
  refine decide_eq_decide.mpr ?_
  rw [this]
  exact ⟨fun z => ⟨z.2.1, z.2.2, z.1⟩, fun z => ⟨z.2.2, z.1, z.2.1⟩⟩
theorem looked_eq {ks there M bs} {size spot n window : Int} {c : Nat} (I : RowInv ks size there M bs) (Th : There there n) (hn0 : 0 ≤ n) (hn : n ≤ ks.length) (hk : Oct ks) (h0 : 0 ≤ spot) (h1 : spot ≤ ks.length) (hz : 0 < size) :
    walkC bs (spot - window) c (nwF bs ks M size spot) = ((alikeF ks there spot size).filter fun o => decide (spot - o ≤ window)).take c := by
  rw [I.new Th hn0 hn hk h0 h1 hz]
  congr 2
  funext o
  exact decide_eq_decide.mpr (by omega)
theorem looked_mt {ks there : List Int} {size spot n window most : Int} {c : Nat} (Th : There there n) (h0 : 0 ≤ spot) (h1 : spot ≤ ks.length) (hz : 0 < size) (hm : 0 ≤ most) :
    evF ks spot (limF ks spot most) (((alikeF ks there spot size).filter fun o => decide (spot - o ≤ window)).take c) (size - 1) = mtF ks (((alikeF ks there spot size).filter fun o => decide (spot - o ≤ window)).take c) spot size (limF ks spot most + 1 - size).toNat :=
  mt_evF h0 h1 hz hm (fun o ho => alikeF_mem Th ((List.mem_filter.mp (List.mem_of_mem_take ho)).1)) (desc_nodup (((alikeF_desc Th).filter _).sublist (List.take_sublist _ _)))
theorem sub_rot3 {α : Type} {a b c d e f : α} {r : List α} : ∀ p ∈ d :: e :: f :: a :: b :: c :: r, p ∈ a :: b :: c :: d :: e :: f :: r := fun p hp => by
  simp only [List.mem_cons] at hp ⊢
  rcases hp with h | h | h | h | h | h | h <;> simp [h]
theorem ints_dat {led : List (Addr × Obj)} {vs : List Value} {ns : List Int} (h : IntsAre vs ns) : DatAll led vs (ns.map Dat.int) := by
  induction h with
  | nil => exact .nil
  | cons k t _ ih => exact .cons (.int _ _) ih
theorem ints_ok (ns : List Int) : kqdOk 8 (.list (ns.map Dat.int)) = true := by
  simp only [kqdOk, List.all_map, List.all_eq_true]
  intro x _; rfl
theorem two_ok {a b : Dat} (ha : kqdOk 8 a = true) (hb : kqdOk 8 b = true) : ∀ d ∈ [a, b], kqdOk 8 d = true := fun d hd => by
  simp only [List.mem_cons, List.not_mem_nil, or_false] at hd
  rcases hd with rfl | rfl <;> assumption
theorem gc7 {h₀ h : Heap} {L : Addr} {a b c d e f g : Addr × Obj} {r : List (Addr × Obj)} (N : News h₀ L h (a :: b :: c :: d :: e :: f :: g :: r)) : News h₀ L h (f :: r) := news_sub N fun p hp => by
  simp only [List.mem_cons] at hp ⊢
  rcases hp with h | h <;> simp [h]
theorem dec_self {α : Type} (x : α) (i : Decidable (x = x)) : @decide (x = x) i = true := decide_eq_true rfl
theorem gc4 {h₀ h : Heap} {L : Addr} {a b c d : Addr × Obj} {r : List (Addr × Obj)} (N : News h₀ L h (a :: b :: c :: d :: r)) : News h₀ L h (b :: r) := news_sub N fun p hp => by
  simp only [List.mem_cons] at hp ⊢
  rcases hp with h | h <;> simp [h]
theorem evF_len {ks : List Int} {p l : Int} : ∀ (L : List Int) (lg : Int), (evF ks p l L lg).length ≤ L.length
  | [], _ => Nat.le_refl _
  | o :: r, lg => by
    unfold evF
    split
    · exact Nat.zero_le _
    · split
      · exact Nat.succ_le_succ (evF_len r _)
      · exact Nat.le_trans (evF_len r _) (Nat.le_succ _)
theorem PairsIn.at {tl : List (Addr × Obj)} {us : List Value} {ps : List (Int × Int)} (P : PairsIn tl us ps) : ∀ {i : Nat} {v : Value}, us[i]? = some v → ∃ a x y t u n, v = .ref a ∧ (a, tupObj x t y u n) ∈ tl := by
  induction P with
  | nil => intro i v e; simp at e
  | cons hm _ ih =>
    intro i v e
    cases i with
    | zero => exact ⟨_, _, _, _, _, _, (Option.some.inj (by simpa using e)).symm, hm⟩
    | succ i => exact ih (i := i) (by simpa using e)
theorem pairs_any {prog prog' : Program} {w w' : World} {es : List DictEntry} {kvs : List (Int × Value)} (h : Pairs (intKind prog w) es kvs) : Pairs (intKind prog' w') es kvs := by
  induction h with
  | nil => exact .nil
  | cons h1 h2 _ ih => exact .cons h1 h2 ih
theorem dict_any {prog prog' : Program} {w w' : World} {o : Obj} {kvs : List (Int × Value)} (h : o.IsDictOf (intKind prog w) kvs) : o.IsDictOf (intKind prog' w') kvs := by
  obtain ⟨es, ep, a, b, c, d, e⟩ := h
  exact ⟨es, ep, a, b, c, pairs_any d, e⟩
theorem rest_same {prog : Program} {w : World} {A : Around} {h₀ : Heap} {L : Addr} {m : Str → Option Value} {env : Env} {elt : PySem.Expr} {x : Str} {scope : Scope} {cl : List (Str × Addr)} {s : Shared} {S : List (Addr × Obj) → Prop}
    {Fin : List Value → List (Addr × Obj) → Prop} {news : List (Addr × Obj)} {us : List Value}
    (step : ∀ (i : Nat) (ys : List Value) (v : Value) I oI C oC D m₂ h tk (E' : Value → Shared → Prop), us[i]? = some v → LCg.NsObj oC m₂ → m₂ x = some v → Fr h₀ L h m → News h₀ L h ((I, oI) :: (C, oC) :: (D, LCg.lst ys) :: news) → LCg.Off3 I C D news → ((@Ne Nat I C) ∧ (@Ne Nat I D) ∧ (@Ne Nat C D)) →
      wpAny (model prog w) A (eval elt (compEnvC scope cl C env)) (LCg.CompEnd h₀ L m { s with heap := h, toks := tk } I oI C oC D (LCg.lst ys) S (fun y news' => news' = news ∧ y = v)) E' { s with heap := h, toks := tk })
    (fin : Fin us news) : LCg.CompRest prog w A h₀ L m env elt x scope cl s S (fun i v => us.toArray[i]? = some v) Fin us.toArray.size 0 [] news := by
  refine rest_ind (fun i ys => ys = us.take i) _ ?_ ?_ _ 0 [] (Nat.zero_add _) rfl
  · intro i ys v I oI C oC D m₂ h tk E' hi hR hP hC hx F N off ne
    have hP' : us[i]? = some v := by simpa using hP
    refine wpAny_mono (step i ys v I oI C oC D m₂ h tk E' hP' hC hx F N off ne) (fun y s₂ z => ?_) fun _ _ z => z
    obtain ⟨h', tk', news', e1, F', N', o', hS, rfl, rfl⟩ := z
    refine ⟨h', tk', _, e1, F', N', o', hS, rfl, ?_⟩
    rw [hR, List.take_add_one, hP']; rfl
  · intro ys hR
    rw [List.size_toArray, List.take_length] at hR
    rw [hR]; exact fin
section
open PySem.SeqAt
variable {A : Around} {s : Shared}
theorem eqat_refs {l b : Addr} (h : RcAt A s (.ref l) (.ref b) true) : EqAt A s (.ref l) (.ref b) true := by
  by_cases e : l = b
  · subst e; exact EqAt.same _
  · exact EqAt.of_refs e h
theorem rc_two {l b p q p' q' : Addr} (hl : s.heap.IsList l [Value.ref p, Value.ref q].toArray) (hb : s.heap.IsList b [Value.ref p', Value.ref q'].toArray) (hu : A.units < cLine) (h1 : RcAt A.in1 s (.ref p) (.ref p') true) (h2 : RcAt A.in1 s (.ref q) (.ref q') true) : RcAt A s (.ref l) (.ref b) true :=
  fun prog w E Q h => RcAt.lists (e := fun _ => true) hl hb rfl hu (fun j j1 j2 => by
    match j, j1, j2 with
    | 0, _, _ => exact eqat_refs h1
    | 1, _, _ => exact eqat_refs h2
    | k + 2, j1, _ => exact absurd j1 (by simp)) prog w E Q h
theorem rc_ints {a b : Addr} {vs us : List Value} {ns : List Int} (hl : s.heap.IsList a vs.toArray) (hi : IntsAre vs ns) (hl' : s.heap.IsList b us.toArray) (hi' : IntsAre us ns) (hu : A.units + 64 < cLine) : RcAt A s (.ref a) (.ref b) true :=
  fun prog w E Q h => eq_intsK (prog := prog) (w := w) hl hi hl' hi' hu (by rw [dec_self]; exact h)
theorem rc_kv {prog : Program} {w : World} {h₀ : Heap} {L a b : Addr} {news : List (Addr × Obj)} {oa ob : Obj} {ka kb : List (Int × Value)} {M : List (Int × Int)} (N : News h₀ L s.heap news) (ma : (a, oa) ∈ news) (mb : (b, ob) ∈ news) (da : oa.IsDictOf (intKind prog w) ka) (db : ob.IsDictOf (intKind prog w) kb)
    (la : (a == sysModules) = false) (lb : (b == sysModules) = false) (ha : KvAre ka M) (hb : KvAre kb M) (hu : A.units < cLine) : RcAt A s (.ref a) (.ref b) true :=
  fun prog' w' E Q h => eq_kv (prog := prog') (w := w') N ma mb (dict_any da) (dict_any db) la lb ha hb hu h
end
section
variable {w : World} {p : Program} {loose : List Str} {mean : ExcName → Option Value} {mg mb : Str → Option Value} {dp un : Nat} {gd : Option (List Code)} {cn : Str} {cs : Scope} {L a : Addr} {ccd : Value} {cl : List (Str × Addr)} {outer : List Env} {A₀ : Around} {base h₀ : Heap} {m : Str → Option Value} {s : Shared} {Q E : Value → Shared → Prop}
variable {f fx r dx la be q dy lc bf rw sh th : Addr} {text : Array UInt8} {ks : List Int} {size window chain ahead : Int} {a1 a2 a3 a4 b1 b2 b3 b4 b5 b6 c1 c2 c3 c4 : Int} {t1 t2 t3 t4 t5 t6 x1 x2 x3 x4 x5 x6 u1 u2 u3 u4 u5 y1 y2 y3 y4 y5 y6 z1 z2 z3 : Tok} {n nf nb n2 nb2 nr ns nt : Nat} {ola olb : Obj} {kvs kvs2 : List (Int × Value)} {M M2 : List (Int × Int)} {vs vs2 ws : List Value} {bs bs2 there : List Int}

theorem loc_17_2 : True := by
  k_with "compareOp Eq ref ref" => ((fail_if_success (k_extra "off_17_1")); refine Park.h ?_)
  k_with "compareOp NotEq ref ref" => ((fail_if_success (k_extra "off_17_1")); refine Park.h ?_)
  k_with "exec Assign cons ListComp" => ((fail_if_success (k_extra "off_17_1")); refine Park.h ?_)
  k_with "eval ListComp" => ((fail_if_success (k_extra "off_17_1")); refine Park.h ?_)
  k_with "CompEnd" => ((fail_if_success (k_extra "off_17_1")); refine Park.h ?_)
  k_with "CompSrc" => ((fail_if_success (k_extra "off_17_1")); (k_here; k_dflt (refine LCg.CompSrc.ledger (by rfl) (by k_asm) (by k_asm) (by k_mem) (by exact Nat.le_of_ble_eq_true rfl) ?_; intro g'; refine Park.h ?_)))
  k_with "M acomp" => ((fail_if_success (k_extra "off_17_1")); (refine Park.mk ?_; k_dflt (refine LCg.Assign_ListComp_U (F₀ := by k_asm) (by rfl) (by with_unfolding_all rfl) (by rfl) (by decide) (by rfl) (by decide) (by rfl) (by rfl) (by rfl) ?_); k_steps))
  k_with "M none" => ((fail_if_success (k_extra "off_17_1")); (refine Park.mk ?_; k_dflt (refine LCg.CompRest.zero ?_); k_steps))
  k_with "M one" => ((fail_if_success (k_extra "off_17_1")); (refine Park.mk ?_; k_dflt (refine LCg.CompRest.succ ?_); intro v' I' oI' C' oC' D' m' h' tk' E' hv' hC' hx' F' N' off' ne'; simp only [List.getElem?_toArray, List.getElem?_cons_zero, List.getElem?_cons_succ, Option.some.injEq] at hv'; subst hv'))
  k_with "lcg_off" => ((fail_if_success (k_extra "off_17_1")); first | exact True.intro | (with_reducible assumption) | exact off3_same (by with_reducible assumption) rfl | (refine And.intro ⟨by k_extra "k_ne", by k_extra "k_ne", by k_extra "k_ne"⟩ ?_; k_extra "lcg_off"))
  k_with "M cend3" => ((fail_if_success (k_extra "off_17_1")); (refine Park.mk ?_; refine LCg.CompEnd.intro (by assumption) (by assumption) _ sub_rot3 (by k_extra "lcg_off") (.inr ⟨_, by k_mem, rfl, _, rfl⟩) (Park.h ?_)))
  k_with "M clear" => ((fail_if_success (k_extra "off_17_1")); ((repeat (rename @Ne Nat _ _ => zz; clear zz)); (repeat (rename @LT.lt Nat _ _ _ => zz; clear zz))))
  k_with "M acompT" => ((fail_if_success (k_extra "off_17_1")); (refine Park.mk ?_; k_dflt (refine LCt.Assign_ListComp_T (F₀ := by k_asm) (by rfl) (by with_unfolding_all rfl) (by with_unfolding_all rfl) (by decide) (by rfl) (by decide) (by rfl) (by rfl) (by rfl) ?_); k_steps; refine Park.mk ?_))
  k_with "M cend0" => ((fail_if_success (k_extra "off_17_1")); (refine Park.mk ?_; refine LCg.CompEnd.intro (by assumption) (by assumption) _ (fun _ z => z) (by assumption) (.inr ⟨_, by k_mem, rfl, _, rfl⟩) (Park.h ?_); refine Park.mk ?_))
  k_with "M comp2" => ((fail_if_success (k_extra "off_17_1")); (refine Park.mk ?_; k_dflt (refine LCg.ListComp_U (F₀ := by k_asm) (by with_unfolding_all rfl) (by decide) (by rfl) (by decide) (by rfl) ?_); k_steps))
  k_with "M split" => ((fail_if_success (k_extra "off_17_1")); (rename @Ne Nat _ _ ∧ _ => ne9; (repeat ((have q9 := And.left ne9); (replace ne9 := And.right ne9)))))
  k_with "M cend1" => ((fail_if_success (k_extra "off_17_1")); (refine Park.mk ?_; refine LCg.CompEnd.intro (by assumption) (by assumption) _ sub_rot (by k_extra "lcg_off") (.inr ⟨_, by k_mem, rfl, _, rfl⟩) (Park.h ?_)))
  k_with "M compT" => ((fail_if_success (k_extra "off_17_1")); (refine Park.mk ?_; k_dflt (refine LCt.ListComp_T (F₀ := by k_asm) (by with_unfolding_all rfl) (by decide) (by rfl) (by decide) (by rfl) ?_); k_steps; refine Park.mk ?_))
  k_with "CompSrc" => ((fail_if_success (k_extra "off_17_1")); (k_here; k_dflt (refine LCg.CompSrc.ledger (by rfl) (by k_asm) (by k_asm) (by k_mem) (by first | exact Nat.le_of_ble_eq_true rfl | (rw [List.size_toArray, PairsIn.length (by assumption)]; exact Nat.le_trans (evF_len _ _) (Nat.le_trans (walkC_len _ _) (by rw [sizeLine_eq]; omega)))) ?_; intro g'; refine Park.h ?_)))
  k_with "M tail" => ((fail_if_success (k_extra "off_17_1")); (intro q hq; (repeat (first | exact hq | refine List.Mem.tail _ ?_))))
  k_with "M tail2" => ((fail_if_success (k_extra "off_17_1")); (intro q hq; (repeat (first | exact List.mem_append_left _ hq | exact List.mem_append_right _ hq | refine List.Mem.tail _ ?_))))
  k_with "M cend1l" => ((fail_if_success (k_extra "off_17_1")); (refine Park.mk ?_; refine LCg.CompEnd.intro (by assumption) (by assumption) _ sub_rot (by k_extra "lcg_off") (.inr ⟨_, by k_mem, rfl, _, rfl⟩) (Park.h ?_)))
  trivial
theorem asked_call {spot most : Int} {v v2 v3 : Tok} (S : Site w p loose mean mg mb dp un cs outer A₀ base h₀ L s.heap m) (hdp' : dp ≤ 800) (hun' : un ≤ 4500)
    (N : News h₀ L s.heap [(f, instObj 226 fx), (fx, finD text size window chain ahead r b1 b2 b3 b4 b5 b6 x1 x2 x3 x4 x5 x6 u1 u2 u3 u4 u5 nf), (r, instObj 92 dx), (dx, rowD text size la be a1 a2 a3 a4 t1 t2 t3 t4 t5 t6 n), (la, ola), (be, listOf vs.toArray nb),
      (q, instObj 92 dy), (dy, rowD text (size + 1) lc bf c1 c2 c3 c4 y1 y2 y3 y4 y5 y6 n2), (lc, olb), (bf, listOf vs2.toArray nb2), (rw, listOf [Value.ref r, Value.ref q].toArray nr), (sh, listOf [Value.int size z1, Value.int window z2, Value.int chain z3].toArray ns), (th, listOf ws.toArray nt)])
    (h1 : 0 ≤ spot) (hks : KBw.bInts text = ks) (h2 : spot ≤ ks.length) (h3 : ks.length ≤ 1000) (h4 : 0 < size) (h5 : size ≤ 4)
    (hd : ola.IsDictOf (intKind Challenge.rw_tk0118_01.row.prog w) kvs) (hkv : KvAre kvs M) (hM : M.length ≤ 1000) (lo : (la == sysModules) = false) (hi : IntsAre vs bs) (hbl : bs.length = ks.length) (hw : Wf bs) (hMv : ∀ k v, getM M k = some v → 0 ≤ v ∧ v < bs.length)
    (hd2 : olb.IsDictOf (intKind Challenge.rw_tk0118_01.row.prog w) kvs2) (hkv2 : KvAre kvs2 M2) (hM2 : M2.length ≤ 1000) (lo2 : (lc == sysModules) = false) (hi2 : IntsAre vs2 bs2) (hbl2 : bs2.length = ks.length) (hw2 : Wf bs2) (hMv2 : ∀ k v, getM M2 k = some v → 0 ≤ v ∧ v < bs2.length)
    (hth : IntsAre ws there) (hin : ∀ q ∈ there, 0 ≤ q ∧ q < 1000) (htl : there.length ≤ 1000)
    (hc0 : 0 < chain) (hc1 : chain ≤ 1000) (hw0 : 0 < window) (hw1 : window ≤ 1000) (hm0 : 0 ≤ most) (hm1 : most ≤ 1000)
    (e1 : walkC bs (-1) bs.length (nwF bs ks M size spot) = alikeF ks there spot size)
    (e2 : walkC bs2 (-1) bs2.length (nwF bs2 ks M2 (size + 1) spot) = (alikeF ks there spot size).filter fun o => decide (cutI ks (o + size) (o + size + 1) = cutI ks (spot + size) (spot + size + 1)))
    (e3 : walkC bs (spot - window) chain.toNat (nwF bs ks M size spot) = ((alikeF ks there spot size).filter fun o => decide (spot - o ≤ window)).take chain.toNat)
    (e4 : evF ks spot (limF ks spot most) (((alikeF ks there spot size).filter fun o => decide (spot - o ≤ window)).take chain.toNat) (size - 1) = mtF ks (((alikeF ks there spot size).filter fun o => decide (spot - o ≤ window)).take chain.toNat) spot size (limF ks spot most + 1 - size).toNat)
    (ret : ∀ h' tk', Ext [] s.heap h' → Q (.bool true) { s with heap := h', toks := tk' }) :
    wpAny (model Challenge.rw_tk0118_01.row.prog w) (ktrTop dp un gd cn cs L a ccd cl outer) (call (.ref 276) [.ref f, .ref rw, .bytes text v, .ref sh, .int spot v2, .int most v3, .ref th]) Q E s := by
  obtain ⟨B, F, X, T, hk, hdp, hun⟩ := S
  revert X; k_fill; intro X
  refine wpAny_call ?_
  k_dflt (refine' enter_defC (binds := [(Str.ofString "finder", .ref f), (Str.ofString "rows", .ref rw), (Str.ofString "text", .bytes text v), (Str.ofString "shape", .ref sh), (Str.ofString "spot", .int spot v2), (Str.ofString "most", .int most v3), (Str.ofString "there", .ref th)]) ?k1 ?k2 ?k3 ?k4 ?k5 ?kA ?kF ?kK ?k6 ?k7 ?k8 ?k9 ?kB ?kD ?_ ?c2 ?c3 ?c4; (case kA => exact rfl); (case kF => exact rfl); (case kK => assumption); (case k1 => k_asm); (case k2 => k_asm); (case k3 => k_asm); (case k4 => k_asm); (case k5 => k_asm); (case k6 => k_is); (case k7 => k_is); (case k8 => (refine Nat.lt_of_le_of_lt (by assumption) ?_; decide)); (case k9 => exact BindsTo.of_eq rfl); (case kB => exact rfl); (case kD => decide +kernel); (case c2 => exact rfl); (case c3 => exact rfl); (case c4 => exact rfl); k_whole)
  intro g L' h₁ tk₁ cells F' N' Y' B' X' T' l1
  k_lt l1
  obtain ⟨oc1, oc2, oc3, oc4, hE9, dc1, dc2, dc3, dc4⟩ := PyProof.Rows.CellsAre.four Y'; subst hE9; clear Y'
  replace dc1 : oc1.data = Data.cell none := dc1
  replace dc2 : oc2.data = Data.cell none := dc2
  replace dc3 : oc3.data = Data.cell (some (.int spot v2)) := dc3
  replace dc4 : oc4.data = Data.cell (some (.bytes text v)) := dc4
  replace F' : Fr _ _ _ (fun y => if y = Str.ofString "there" then some (.ref th) else if y = Str.ofString "most" then some (.int most v3) else if y = Str.ofString "shape" then some (.ref sh) else if y = Str.ofString "rows" then some (.ref rw) else if y = Str.ofString "finder" then some (.ref f) else none) := F'
  simp only [List.cons_append, List.nil_append] at N'
  with_reducible show wpAny _ _ _ _ _ _
  k_fold
  k_steps
  k_extra "M acomp"
  k_extra "M one"
  k_steps
  k_extra "M cend3"
  k_extra "M clear"
  k_extra "M one"
  k_steps
  k_extra "M cend3"
  k_extra "M clear"
  k_extra "M none"
  k_extra "M acompT"
  rename IntsAre _ (List.reverse _) => hrev
  refine restT_ind (fun i ys => IntsAre ys ((there.reverse.take i).filter fun o => decide (o < spot ∧ cutI ks o (o + size) = cutI ks spot (spot + size)))) _ ?_ ?_ _ 0 [] (Nat.zero_add _) (by simpa using IntsAre.nil)
  · intro i ys v I oI C oC D m₂ h tk E' hi' hR hP hC hx F₉ N₉ off ne
    obtain ⟨o, t, rfl, hq⟩ := ints_at hrev hP
    k_steps
    · k_extra "M cend0"
      exact ⟨rfl, flt_yes hR hq (decide_eq_true ⟨by assumption, by unfold cutI; assumption⟩)⟩
    · k_extra "M cend0"
      exact ⟨rfl, flt_no hR hq (fun e => absurd (of_decide_eq_true e).2 (by unfold cutI; assumption))⟩
    · k_extra "M cend0"
      exact ⟨rfl, flt_no hR hq (fun e => absurd (of_decide_eq_true e).1 (by assumption))⟩
  intro ys hR
  have hA : IntsAre ys (alikeF ks there spot size) := flt_end hrev hR
  clear hR hrev
  have hAl : (alikeF ks there spot size).length ≤ 1000 := Nat.le_trans alikeF_len htl
  have hAm : ∀ o ∈ alikeF ks there spot size, 0 ≤ o ∧ o < 1000 := fun o ho => hin o (List.mem_reverse.mp (List.mem_filter.mp ho).1)
  k_steps
  k_extra "M clear"
  k_extra "M acompT"
  refine restT_ind (fun i ys => IntsAre ys (((alikeF ks there spot size).take i).filter fun o => decide (cutI ks (o + size) (o + size + 1) = cutI ks (spot + size) (spot + size + 1)))) _ ?_ ?_ _ 0 [] (Nat.zero_add _) (by simpa using IntsAre.nil)
  · intro i ys v I oI C oC D m₂ h tk E' hi' hR hP hC hx F₉ N₉ off ne
    obtain ⟨o, t, rfl, hq⟩ := ints_at hA hP
    k_steps
    · k_extra "M cend0"
      exact ⟨rfl, flt_yes hR hq (decide_eq_true (by unfold cutI; assumption))⟩
    · k_extra "M cend0"
      exact ⟨rfl, flt_no hR hq (fun e => absurd (of_decide_eq_true e) (by unfold cutI; assumption))⟩
  intro zs hR
  have hG := flt_end hA hR
  clear hR
  k_steps
  k_extra "M clear"
  k_extra "M comp2"
  k_extra "M one"
  k_steps
  rename IntsAre _ (walkC _ _ _ _) => hC1
  rw [e1] at hC1
  k_extra "M cend1"
  k_extra "M clear"
  k_extra "M one"
  k_steps
  rename IntsAre _ (walkC _ _ _ _) => hC2
  rw [e2] at hC2
  k_extra "M cend1"
  k_extra "M clear"
  k_extra "M none"
  k_extra "M clear"
  refine Park.mk ?_
  refine kqd_ne (ds := [.list ((alikeF ks there spot size).map .int), .list (((alikeF ks there spot size).filter fun o => decide (cutI ks (o + size) (o + size + 1) = cutI ks (spot + size) (spot + size + 1))).map .int)])
    (es := [.list ((alikeF ks there spot size).map .int), .list (((alikeF ks there spot size).filter fun o => decide (cutI ks (o + size) (o + size + 1) = cutI ks (spot + size) (spot + size + 1))).map .int)])
    (by k_asm) (by k_mem) rfl rfl (.cons (.list (by k_mem) (ints_dat hC1)) (.cons (.list (by k_mem) (ints_dat hC2)) .nil)) (fun _ z => z) (by k_mem) rfl rfl (.cons (.list (by k_mem) (ints_dat hA)) (.cons (.list (by k_mem) (ints_dat hG)) .nil)) (fun _ z => z)
    (two_ok (ints_ok _) (ints_ok _)) (two_ok (ints_ok _) (ints_ok _)) (by k_extra "M units") ?_
  rw [dec_self]
  k_steps
  rename News _ _ _ _ => nZ
  have nG := gc7 nZ
  clear nZ hC1 hC2 hG
  k_extra "M compT"
  refine restT_ind (fun i ys => IntsAre ys (((alikeF ks there spot size).take i).filter fun o => decide (spot - o ≤ window))) _ ?_ ?_ _ 0 [] (Nat.zero_add _) (by simpa using IntsAre.nil)
  · intro i ys v I oI C oC D m₂ h tk E' hi' hR hP hC hx F₉ N₉ off ne
    obtain ⟨o, t, rfl, hq⟩ := ints_at hA hP
    have hob := hAm o (List.mem_of_getElem? hq)
    k_steps
    · k_extra "M cend0"
      exact ⟨rfl, flt_yes hR hq (decide_eq_true (by assumption))⟩
    · k_extra "M cend0"
      exact ⟨rfl, flt_no hR hq (fun e => absurd (of_decide_eq_true e) (by assumption))⟩
  intro zs hR
  have hB := flt_end hA hR
  have hBl : ((alikeF ks there spot size).filter fun o => decide (spot - o ≤ window)).length ≤ 1000 := Nat.le_trans (List.length_filter_le _ _) hAl
  clear hR
  k_steps
  rename IntsAre _ (List.take _ _) => hT
  rename IntsAre _ (walkC _ _ _ _) => hC
  rw [e3] at hC
  have hTl : (((alikeF ks there spot size).filter fun o => decide (spot - o ≤ window)).take chain.toNat).length ≤ 1000 := Nat.le_trans (by rw [List.length_take]; exact Nat.min_le_right _ _) hBl
  k_extra "M clear"
  refine Park.mk ?_
  refine ne_intsK (News.isList (by k_asm) (by k_mem)) hC (News.isList (by k_asm) (by k_mem)) hT (by k_extra "M units") ?_
  rw [dec_self]
  k_steps
  rename News _ _ _ _ => nZ
  have nG := gc4 nZ
  clear nZ hC hA hB
  k_extra "M comp2"
  rename PairsIn _ _ _ => P1
  rw [e3, e4] at P1
  refine Park.mk ?_
  refine rest_same ?_ ?_
  · intro i ys v I oI C oC D m₂ h tk E' hP hC hx F₉ N₉ off ne
    obtain ⟨a', x, y, t', u', n', rfl, hm⟩ := P1.at hP
    have N₁ := news_dup N₉ (q := (a', tupObj x t' y u' n')) (by repeat (first | exact hm | refine List.Mem.tail _ ?_))
    clear N₉
    k_steps
    refine Park.mk ?_
    exact LCg.CompEnd.intro (by assumption) (by assumption) _ (fun _ z => .tail _ z) off (.inr ⟨_, by k_mem, rfl, _, rfl⟩) ⟨rfl, rfl⟩
  k_steps
  k_extra "M clear"
  rename PairsIn _ _ _ => P2
  refine Park.mk ?_
  refine kqd_ne (by k_asm) (by k_mem) rfl rfl P1.toDat (by k_extra "M tail2") (by k_mem) rfl rfl P2.toDat (by k_extra "M tail2") (pairs_ok _) (pairs_ok _) (by k_extra "M units") ?_
  rw [dec_self]
  k_steps
  k_extra "M comp2"
  k_extra "M one"
  k_steps
  k_extra "M cend1l"
  k_extra "M clear"
  k_extra "M one"
  k_steps
  k_extra "M cend1l"
  k_extra "M clear"
  k_extra "M none"
  k_extra "M clear"
  refine Park.mk ?_
  refine (rc_two (News.isList (by k_asm) (by k_mem)) (News.isList (by k_asm) (by k_mem)) (by k_extra "M units")
    (rc_two (News.isList (by k_asm) (by k_mem)) (News.isList (by k_asm) (by k_mem)) (by k_extra "M units") (rc_ints (News.isList (by k_asm) (by k_mem)) hi (News.isList (by k_asm) (by k_mem)) hi (by k_extra "M units")) (rc_kv (by k_asm) (by k_mem) (by k_mem) hd (by assumption) lo (by assumption) hkv hkv (by k_extra "M units")))
    (rc_two (News.isList (by k_asm) (by k_mem)) (News.isList (by k_asm) (by k_mem)) (by k_extra "M units") (rc_ints (News.isList (by k_asm) (by k_mem)) hi2 (News.isList (by k_asm) (by k_mem)) hi2 (by k_extra "M units")) (rc_kv (by k_asm) (by k_mem) (by k_mem) hd2 (by assumption) lo2 (by assumption) hkv2 hkv2 (by k_extra "M units"))) : PySem.SeqAt.RcAt _ _ _ _ true) _ _ _ _ ?_
  k_steps
  refine ret _ _ (ext_drop N kN kE fun p hp => .inr ?_)
  simp only [List.mem_cons, List.not_mem_nil, or_false] at hp
  rcases hp with rfl | rfl | rfl | rfl | rfl | rfl | rfl | rfl | rfl | rfl | rfl | rfl | rfl <;> k_mem
theorem off_17_1 : True := by
  k_with "off_17_1" => skip
  trivial
end
def txJ (box : Addr) (goal : Int) (v : Tok) (n : Nat) (k : Nat) (m₁ : Str → Option Value) (news₁ : List (Addr × Obj)) : Prop :=
  ∃ (values turn : Int) (kv kt : Tok) (l : Addr) (fs : List Int) (vs : List Value) (c : Nat) (d : Int) (u1 : Tok) (st : Int) (u2 : Tok) (nv : Option Value),
    m₁ = (fun y => if y = Str.ofString "begin" then nv else if y = Str.ofString "found" then some (Value.ref l) else if y = Str.ofString "turn" then some (Value.int turn kt) else if y = Str.ofString "values" then some (Value.int values kv) else if y = Str.ofString "goal" then some (Value.int goal v) else if y = Str.ofString "box" then some (Value.ref box) else none) ∧
      news₁ = [(l, listOf vs.toArray c), (box, boxObj d u1 st u2 n)] ∧ @Ne Nat l box ∧ IntsAre vs fs ∧ (∀ x ∈ fs, 0 ≤ x ∧ x < 256) ∧ (fs.length : Int) ≤ goal + 10 ∧ 0 ≤ st ∧ st < 2 ^ 31 ∧ (1 ≤ values ∧ values ≤ 3 ∧ 0 ≤ turn ∧ turn ≤ 3) ∧ k = (goal - fs.length).toNat
theorem tx_start {box l : Addr} {goal values turn d st : Int} {v kv kt u1 u2 : Tok} {n : Nat} {m : Str → Option Value} (hg : 0 ≤ goal)
    (hm : ∀ y, m y = if y = Str.ofString "begin" then none else if y = Str.ofString "found" then some (Value.ref l) else if y = Str.ofString "turn" then some (Value.int turn kt) else if y = Str.ofString "values" then some (Value.int values kv) else if y = Str.ofString "goal" then some (Value.int goal v) else if y = Str.ofString "box" then some (Value.ref box) else none)
    (c1 : @Ne Nat l box) (c2 : 0 ≤ st) (c3 : st < 2 ^ 31) (c4 : 1 ≤ values) (c5 : values ≤ 3) (c6 : 0 ≤ turn) (c7 : turn ≤ 3) : txJ box goal v n goal.toNat m [(l, listOf #[] 0), (box, boxObj d u1 st u2 n)] :=
  ⟨values, turn, kv, kt, l, [], [], 0, d, u1, st, u2, none, funext hm, rfl, c1, .nil, (fun x hx => nomatch hx), by simp; omega, c2, c3, ⟨c4, c5, c6, c7⟩, by simp⟩
theorem tx_end {box l L : Addr} {goal values turn d st : Int} {v kv kt u1 u2 : Tok} {n k c tk : Nat} {g h' : Heap} {s₁ : Shared} {m : Str → Option Value} {led : List (Addr × Obj)} {fs : List Int} {vs : List Value}
    (F : Fr g L h' m) (N : News g L h' led)
    (hm : ∀ y, y ≠ Str.ofString "begin" → y ≠ Str.ofString "found" → m y = if y = Str.ofString "turn" then some (Value.int turn kt) else if y = Str.ofString "values" then some (Value.int values kv) else if y = Str.ofString "goal" then some (Value.int goal v) else if y = Str.ofString "box" then some (Value.ref box) else none)
    (hf : m (Str.ofString "found") = some (.ref l)) (hl : (l, listOf vs.toArray c) ∈ led) (hb : (box, boxObj d u1 st u2 n) ∈ led) (hlb : @Ne Nat l box) (hi : IntsAre vs fs) (hx : ∀ x ∈ fs, 0 ≤ x ∧ x < 256) (hz : (fs.length : Int) ≤ goal + 10)
    (c2 : 0 ≤ st) (c3 : st < 2 ^ 31) (c4 : 1 ≤ values) (c5 : values ≤ 3) (c6 : 0 ≤ turn) (c7 : turn ≤ 3) (hk : (goal - fs.length).toNat < k) : WhileStep g L s₁ (txJ box goal v n) k .next { s₁ with heap := h', toks := tk } := by
  refine WhileStep.intro F (news_sub N (sub_two hl hb)) hk ⟨values, turn, kv, kt, l, fs, vs, c, d, u1, st, u2, m (Str.ofString "begin"), ?_, rfl, hlb, hi, hx, hz, c2, c3, ⟨c4, c5, c6, c7⟩, rfl⟩
  funext y
  by_cases e1 : y = Str.ofString "begin"
  · rw [if_pos e1, e1]
  · rw [if_neg e1]
    by_cases e2 : y = Str.ofString "found"
    · rw [if_pos e2, e2]; exact hf
    · rw [if_neg e2]; exact hm y e1 e2
theorem oct_snoc {fs : List Int} (h : ∀ x ∈ fs, 0 ≤ x ∧ x < 256) {k : Int} (h0 : 0 ≤ k) (h1 : k < 256) : ∀ x ∈ fs ++ [k], 0 ≤ x ∧ x < 256 := fun x hx => by
  rcases List.mem_append.mp hx with hx | hx
  · exact h x hx
  · rw [List.mem_singleton.mp hx]; exact ⟨h0, h1⟩
theorem oct_more {fs : List Int} (h : ∀ x ∈ fs, 0 ≤ x ∧ x < 256) {a b : Nat} : ∀ x ∈ fs ++ (fs.drop a).take b, 0 ≤ x ∧ x < 256 := fun x hx => by
  rcases List.mem_append.mp hx with hx | hx
  · exact h x hx
  · exact h x (List.mem_of_mem_drop (List.mem_of_mem_take hx))
section
variable {w : World} {p : Program} {loose : List Str} {mean : ExcName → Option Value} {mg mb : Str → Option Value} {dp un : Nat} {gd : Option (List Code)} {cn : Str} {cs : Scope} {L a : Addr} {ccd : Value} {cl : List (Str × Addr)} {outer : List Env} {A₀ : Around} {base h₀ : Heap} {m : Str → Option Value} {s : Shared} {Q E : Value → Shared → Prop}
theorem loc_18_2 : True := by
  k_with "exec While Compare cons nil" => ((fail_if_success (k_extra "off_18_1")); refine Park.h ?_)
  k_with "WhileStep" => ((fail_if_success (k_extra "off_18_1")); refine Park.h ?_)
  k_with "call type:bytes" => ((fail_if_success (k_extra "off_18_1")); refine Park.h ?_)
  trivial
theorem text_call {box : Addr} {d st goal : Int} {t u v : Tok} {n : Nat} (S : Site w p loose mean mg mb dp un cs outer A₀ base h₀ L s.heap m) (hdp' : dp ≤ 880) (hun' : un ≤ 4900)
    (N : News h₀ L s.heap [(box, boxObj d t st u n)]) (h1 : 0 ≤ st) (h2 : st < 2 ^ 31) (h3 : 0 < goal) (h4 : goal < 30)
    (ret : ∀ (text : Array UInt8) t' d' u1 st' u2 h' tk', ((KBw.bInts text).length : Int) = goal → 0 ≤ st' → st' < 2 ^ 31 → Ext [box] s.heap h' → News h₀ L h' [(box, boxObj d' u1 st' u2 n)] → Q (.bytes text t') { s with heap := h', toks := tk' }) :
    wpAny (model Challenge.rw_tk0118_01.row.prog w) (ktrTop dp un gd cn cs L a ccd cl outer) (call (.ref 249) [.ref box, .int goal v]) Q E s := by
  obtain ⟨B, F, X, T, hk, hdp, hun⟩ := S
  revert X; k_fill; intro X
  refine wpAny_call ?_
  k_dflt (refine' enter_def (binds := [(Str.ofString "box", .ref box), (Str.ofString "goal", .int goal v)]) ?k1 ?k2 ?k3 ?k4 ?k5 ?kA ?kF ?kK ?k6 ?k7 ?k8 ?k9 ?kB ?_ ?c2 ?c3 ?c4 ?c5; (case kA => exact rfl); (case kF => exact rfl); (case kK => assumption); (case k1 => k_asm); (case k2 => k_asm); (case k3 => k_asm); (case k4 => k_asm); (case k5 => k_asm); (case k6 => k_is); (case k7 => k_is); (case k8 => (refine Nat.lt_of_le_of_lt (by assumption) ?_; decide)); (case k9 => exact BindsTo.of_eq rfl); (case c5 => decide); (case kB => exact locs rfl); (case c2 => exact rfl); (case c3 => exact rfl); (case c4 => exact rfl); k_whole)
  intro g L' h₁ F' N' B' X' T'
  k_fold
  k_steps
  refine Park.mk ?_
  rename News _ _ _ _ => nZ
  have nG := news_sub nZ (l := [_, _]) (fun p hp => .tail _ hp)
  clear nZ
  refine' While_inv (J := txJ box goal v n) (n₀ := goal.toNat) ?F nG (tx_start (by omega) ?hm ?c1 ?c2 ?c3 ?c4 ?c5 ?c6 ?c7) ?turn
  case F => assumption
  case hm =>
    intro y
    by_cases e3 : y = Str.ofString "begin"
    · subst e3; rfl
    · rw [if_neg e3]
      by_cases e4 : y = Str.ofString "found"
      · subst e4; rfl
      · rw [if_neg e4]
        by_cases e5 : y = Str.ofString "turn"
        · subst e5; rfl
        · rw [if_neg e5]
          by_cases e6 : y = Str.ofString "values"
          · subst e6; rfl
          · rw [if_neg e6]
            by_cases e1 : y = Str.ofString "goal"
            · subst e1; rfl
            · rw [if_neg e1]
              by_cases e2 : y = Str.ofString "box"
              · subst e2; rfl
              · rw [if_neg e2]
                simp only [List.reverse_cons, List.reverse_nil, List.nil_append, List.cons_append, List.lookup]
                have b1 : (y == Str.ofString "goal") = false := by simpa using e1
                have b2 : (y == Str.ofString "box") = false := by simpa using e2
                simp only [b1, b2, if_neg e3, if_neg e4, if_neg e5, if_neg e6]
  case c1 => k_extra "k_ne"
  case c2 => assumption
  case c3 => assumption
  case c4 => omega
  case c5 => omega
  case c6 => omega
  case c7 => omega
  case turn =>
    rintro k m₁ news₁ h₉ tk₉ F₉ N₉ ⟨values, turn, kv, kt, l, fs, vs, c, d₁, u₁, st₁, u₂, nv, rfl, rfl, hlb, hi, hb, hl, hs0, hs1, ⟨hv0, hv1, ht0, ht1⟩, rfl⟩
    by_cases hfe : fs = []
    · subst hfe
      cases hi
      have hn0 : (([] : List Int).length : Int) = 0 := rfl
      k_steps
      all_goals ((refine Park.mk ?_; (rename News _ _ _ _ => nE); (try simp only [List.push_toArray] at nE); refine' tx_end (values := values) (turn := turn) (kv := kv) (kt := kt) ?F nE ?hm ?hf ?hl ?hb ?hlb ?hi ?hx ?hz ?c2 ?c3 hv0 hv1 ht0 ht1 ?hk; (case F => assumption); (case hm => exact (fun y e1 e2 => by simp only [if_neg e1, if_neg e2])); (case hf => exact rfl); (case hl => k_mem); (case hb => k_mem); (case hlb => k_extra "k_ne"); (case c2 => assumption); (case c3 => assumption)); (case hi => exact .cons _ _ .nil); (case hx => exact oct_snoc (fs := []) (fun x hx => nomatch hx) (by omega) (by omega)); (case hz => (simp only [List.length_append, List.length_cons, List.length_nil]; omega)); (case hk => (simp only [List.length_append, List.length_cons, List.length_nil]; omega)))
    · have hfl : 0 < (fs.length : Int) := by have := List.length_pos_iff.mpr hfe; omega
      k_steps
      rotate_right
      · refine Park.mk ?_
        rename IntsAre _ (List.take _ _) => hT
        rename News _ _ _ _ => nE
        rename Fr _ _ _ _ => fE
        have hgl : goal.toNat ≤ fs.length := by omega
        refine KBa.make_K fE nE rfl (News.isList nE (by k_mem)) hT (fun x hx => hb x (List.mem_of_mem_take hx)) (by rw [List.length_take]; exact Nat.le_trans (Nat.min_le_left _ _) (Int.toNat_le.mpr (Int.le_of_lt (Int.lt_trans h4 (by decide))))) fun h' t' k F₂ N₂ hIn => ?_
        have hbi := KBa.ints_make hIn
        k_steps
        refine ret _ _ _ _ _ _ _ _ (by rw [hbi, List.length_take, Nat.min_eq_left hgl]; exact Int.toNat_of_nonneg (Int.le_of_lt h3)) hs0 hs1 (ext_drop N kN kE fun p hp => .inl (by rw [List.mem_singleton.mp hp]; exact .head _)) (news_sub kN fun p hp => by rw [List.mem_singleton.mp hp]; k_mem)
      all_goals ((refine Park.mk ?_; (rename News _ _ _ _ => nE); (try simp only [List.push_toArray] at nE); refine' tx_end (values := values) (turn := turn) (kv := kv) (kt := kt) ?F nE ?hm ?hf ?hl ?hb ?hlb ?hi ?hx ?hz ?c2 ?c3 hv0 hv1 ht0 ht1 ?hk; (case F => assumption); (case hm => exact (fun y e1 e2 => by simp only [if_neg e1, if_neg e2])); (case hf => exact rfl); (case hl => k_mem); (case hb => k_mem); (case hlb => k_extra "k_ne"); (case c2 => assumption); (case c3 => assumption)); (case hi => first | exact hi.append (.cons _ _ .nil) | assumption); (case hx => first | exact oct_snoc hb (by omega) (by omega) | exact oct_more hb); (case hz => (simp only [List.length_append, List.length_cons, List.length_nil, List.length_take, List.length_drop]; omega)); (case hk => (simp only [List.length_append, List.length_cons, List.length_nil, List.length_take, List.length_drop]; omega)))
theorem text_K {box : Addr} {d st goal : Int} {t u v : Tok} {n : Nat} {news : List (Addr × Obj)} {f : Obj → List (Addr × Obj)} (B : Below A₀ base outer h₀) (F : Fr h₀ L s.heap m) (X : (hd.heap_1 w.params).In h₀) (T : Top p loose mean mg mb h₀) (hk : cs.kind = .function) (hdp : dp ≤ 880) (hun : un ≤ 4900)
    (N : News h₀ L s.heap news) (U : ∀ o', Upd box (boxObj d t st u n) o' news (f o')) (h1 : 0 ≤ st) (h2 : st < 2 ^ 31) (h3 : 0 < goal) (h4 : goal < 30)
    (ret : ∀ (text : Array UInt8) t' d' u1 st' u2 h' tk', ((KBw.bInts text).length : Int) = goal → 0 ≤ st' → st' < 2 ^ 31 → Fr h₀ L h' m → News h₀ L h' (f (boxObj d' u1 st' u2 n)) → Q (.bytes text t') { s with heap := h', toks := tk' }) :
    wpAny (model Challenge.rw_tk0118_01.row.prog w) (ktrTop dp un gd cn cs L a ccd cl outer) (call (.ref 249) [.ref box, .int goal v]) Q E s := by
  have hm := upd_mem (U (boxObj d t st u n))
  refine text_call ⟨B, F, X, T, hk, by omega, by omega⟩ hdp hun (news_one N hm) h1 h2 h3 h4 fun text t' d' u1 st' u2 h' tk' a1 a3 a4 e n' => ?_
  exact ret text t' d' u1 st' u2 h' tk' a1 a3 a4 (e.fr F (by simpa using Ne.symm (N _ hm).2.1) (by simpa using (N _ hm).2.2)) (news_upd N (U _) e (n' _ (.head _)).1)
theorem off_18_1 : True := by
  k_with "off_18_1" => skip
  trivial
end
theorem reg_18 : True := by
  k_with "call ref" => (k_here; (with_reducible show wpAny _ _ (call (Value.ref 249) _) _ _ _); k_dflt (refine' text_K ?k1 ?k2 ?k3 ?k4 ?k5 ?k6 ?k7 ?k8 ?k9 ?a1 ?a2 ?a3 ?a4 ?_; (case k1 => k_asm); (case k2 => k_asm); (case k3 => k_asm); (case k4 => k_asm); (case k5 => first | exact rfl | assumption); (case k6 => k_extra "M room"); (case k7 => k_extra "M room"); (case k8 => k_asm); (case k9 => (intro o9; k_upd)); (case a1 => first | (with_reducible assumption) | omega); (case a2 => first | (with_reducible assumption) | omega); (case a3 => first | (with_reducible assumption) | omega); (case a4 => first | (with_reducible assumption) | omega); k_whole); intro x9 t9 d9 u9 e9 v9 h9 k9 xl9 sa9 sb9 F9 N9; (try dsimp only at N9); (try k_sweep))
  trivial
theorem Ext.mono {S T : List Addr} {h h' : Heap} (x : Ext S h h') (hs : ∀ a ∈ S, a ∈ T) : Ext T h h' := fun a o n e => x a o (fun q => n (hs a q)) e
theorem sub_five {α : Type} {a b c d e : α} {l : List α} (h1 : a ∈ l) (h2 : b ∈ l) (h3 : c ∈ l) (h4 : d ∈ l) (h5 : e ∈ l) : ∀ p ∈ [a, b, c, d, e], p ∈ l := fun p hp => by
  simp only [List.mem_cons, List.not_mem_nil, or_false] at hp
  rcases hp with rfl | rfl | rfl | rfl | rfl <;> assumption
theorem oct_bytes (a : Array UInt8) : Oct (KBw.bInts a) := fun k hk => by
  unfold KBw.bInts at hk
  obtain ⟨x, _, rfl⟩ := List.mem_map.mp hk
  have := UInt8.toNat_lt x
  omega
section
variable {w : World} {p : Program} {loose : List Str} {mean : ExcName → Option Value} {mg mb : Str → Option Value} {dp un : Nat} {gd : Option (List Code)} {cn : Str} {cs : Scope} {L a : Addr} {ccd : Value} {cl : List (Str × Addr)} {outer : List Env} {A₀ : Around} {base h₀ : Heap} {m : Str → Option Value} {s : Shared} {Q E : Value → Shared → Prop}
variable {f fx r dx la be th : Addr} {window chain ahead b1 b2 b3 b4 b5 b6 : Int} {x1 x2 x3 x4 x5 x6 u1 u2 u3 u4 u5 : Tok} {text : Array UInt8} {ks : List Int} {size : Int} {a1 a2 a3 a4 : Int} {t1 t2 t3 t4 t5 t6 : Tok} {n nb nt : Nat} {ola : Obj} {kvs : List (Int × Value)} {M : List (Int × Int)} {vs ws : List Value} {bs there : List Int}

theorem putF_J {place : Int} {v v' v'' : Tok} {news : List (Addr × Obj)} (B : Below A₀ base outer h₀) (F : Fr h₀ L s.heap m) (X : (hd.heap_1 w.params).In h₀) (T : Top p loose mean mg mb h₀) (hk : cs.kind = .function) (hdp : dp ≤ 840) (hun : un ≤ 4700)
    (N : News h₀ L s.heap news) (m1 : (f, instObj 226 fx) ∈ news) (m2 : (fx, finD text size window chain ahead r b1 b2 b3 b4 b5 b6 x1 x2 x3 x4 x5 x6 u1 u2 u3 u4 u5 6) ∈ news) (m3 : (r, instObj 92 dx) ∈ news) (m4 : (dx, rowD text size la be a1 a2 a3 a4 t1 t2 t3 t4 t5 t6 n) ∈ news) (m5 : (la, ola) ∈ news) (m6 : (be, listOf vs.toArray nb) ∈ news) (m7 : (th, listOf ws.toArray nt) ∈ news)
    (h1 : 0 ≤ place) (hks : KBw.bInts text = ks) (h2 : place < ks.length) (h3 : ks.length ≤ 1000) (h4 : 0 < size) (h5 : size ≤ 5)
    (hd : ola.IsDictOf (intKind Challenge.rw_tk0118_01.row.prog w) kvs) (hkv : KvAre kvs M) (lo : (la == sysModules) = false) (hi : IntsAre vs bs) (hth : IntsAre ws there) (Th : There there place) (I : RowInv ks size there M bs) (hah : ahead ≤ place)
    (o1 : @LT.lt Nat _ th fx) (o2 : @LT.lt Nat _ fx f) (o3 : @LT.lt Nat _ f dx) (o4 : @LT.lt Nat _ dx r) (o5 : @LT.lt Nat _ r la) (o6 : @LT.lt Nat _ la be)
    (ret : ∀ u9 o' kvs' M' vs' bs' h' tk', Fr h₀ L h' m → Ext [fx, la, be] s.heap h' → News h₀ L h' [(fx, finD text size window chain (place + 1) r b1 b2 b3 b4 b5 b6 x1 x2 x3 x4 x5 x6 u1 u2 u3 u4 u9 6), (la, o'), (be, listOf (List.toArray vs') nb)] → o'.IsDictOf (intKind Challenge.rw_tk0118_01.row.prog w) kvs' → KvAre kvs' M' → IntsAre vs' bs' → RowInv ks size (there ++ [place]) M' bs' → Q (.bool true) { s with heap := h', toks := tk' }) :
    wpAny (model Challenge.rw_tk0118_01.row.prog w) (ktrTop dp un gd cn cs L a ccd cl outer) (call (.ref 259) [.ref r, .ref f, .int size v, .bytes text v', .int place v'', .ref th]) Q E s := by
  have hOct : Oct ks := hks ▸ oct_bytes text
  have hTl := Th.length h1
  have hMl := I.ml
  have far : ∀ b ∈ [fx, la, be], L ≠ b ∧ h₀.get? b = none := fun b hb => by
    simp only [List.mem_cons, List.not_mem_nil, or_false] at hb
    rcases hb with rfl | rfl | rfl
    · exact ⟨Ne.symm (N _ m2).2.1, (N _ m2).2.2⟩
    · exact ⟨Ne.symm (N _ m5).2.1, (N _ m5).2.2⟩
    · exact ⟨Ne.symm (N _ m6).2.1, (N _ m6).2.2⟩
  have fr : ∀ h', Ext [fx, la, be] s.heap h' → Fr h₀ L h' m := fun h' x => x.fr F (fun q => (far L q).1 rfl) fun b hb => (far b hb).2
  refine putF_call (f := f) (fx := fx) (r := r) (dx := dx) (la := la) (be := be) (th := th) (n := n) (nb := nb) (nt := nt) (ola := ola) (vs := vs) (ws := ws) (a1 := a1) (a2 := a2) (a3 := a3) (a4 := a4) (b1 := b1) (b2 := b2) (b3 := b3) (b4 := b4) (b5 := b5) (b6 := b6) (t1 := t1) (t2 := t2) (t3 := t3) (t4 := t4) (t5 := t5) (t6 := t6) (x1 := x1) (x2 := x2) (x3 := x3) (x4 := x4) (x5 := x5) (x6 := x6) (u1 := u1) (u2 := u2) (u3 := u3) (u4 := u4) (u5 := u5) (window := window) (chain := chain) ⟨B, F, X, T, hk, by omega, by omega⟩ hdp hun (fun q hq => ?_) h1 hks h2 h3 h4 h5 hd hkv (by omega) lo hi I.len hth Th.rng (by omega) (by omega) (by omega) (by omega) (by omega) (by omega) (by omega) (by omega) (by omega) (by omega) (by omega) (by omega) (by omega) (by omega) (by omega) (by omega) hah (fun c => I.max Th hOct h1 h4 c) (fun c u9 h' tk' x N' => ?_) (fun c u9 h' tk' o' kvs' vs' x N' d' k' i' => ?_)
  · simp only [List.mem_cons, List.not_mem_nil, or_false] at hq
    rcases hq with rfl | rfl | rfl | rfl | rfl | rfl | rfl <;> exact N _ (by assumption)
  · have x' : Ext [fx, la, be] s.heap h' := x.mono fun b hb => by rw [List.mem_singleton.mp hb]; exact .head _
    have e1 : la ∉ [fx] := by simp only [List.mem_singleton]; exact Nat.ne_of_gt (Nat.lt_trans o2 (Nat.lt_trans o3 (Nat.lt_trans o4 o5)))
    have e2 : be ∉ [fx] := by simp only [List.mem_singleton]; exact Nat.ne_of_gt (Nat.lt_trans o2 (Nat.lt_trans o3 (Nat.lt_trans o4 (Nat.lt_trans o5 o6))))
    refine ret u9 ola kvs M vs bs h' tk' (fr h' x') x' (fun q hq => ?_) hd hkv hi (I.skip c)
    simp only [List.mem_cons, List.not_mem_nil, or_false] at hq
    rcases hq with rfl | rfl | rfl
    · exact N' _ (.head _)
    · exact ⟨x _ _ e1 (N _ m5).1, (N _ m5).2⟩
    · exact ⟨x _ _ e2 (N _ m6).1, (N _ m6).2⟩
  · exact ret u9 o' kvs' _ vs' _ h' tk' (fr h' x) x N' d' k' i' (I.put Th h1 h2 c)

theorem putR_J {place : Int} {v v' v'' : Tok} {news : List (Addr × Obj)} (B : Below A₀ base outer h₀) (F : Fr h₀ L s.heap m) (X : (hd.heap_1 w.params).In h₀) (T : Top p loose mean mg mb h₀) (hk : cs.kind = .function) (hdp : dp ≤ 840) (hun : un ≤ 4700)
    (N : News h₀ L s.heap news) (m3 : (r, instObj 92 dx) ∈ news) (m4 : (dx, rowD text size la be a1 a2 a3 a4 t1 t2 t3 t4 t5 t6 n) ∈ news) (m5 : (la, ola) ∈ news) (m6 : (be, listOf vs.toArray nb) ∈ news) (m7 : (th, listOf ws.toArray nt) ∈ news)
    (h1 : 0 ≤ place) (hks : KBw.bInts text = ks) (h2 : place < ks.length) (h3 : ks.length ≤ 1000) (h4 : 0 < size) (h5 : size ≤ 5)
    (hd : ola.IsDictOf (intKind Challenge.rw_tk0118_01.row.prog w) kvs) (hkv : KvAre kvs M) (lo : (la == sysModules) = false) (hi : IntsAre vs bs) (hth : IntsAre ws there) (Th : There there place) (I : RowInv ks size there M bs)
    (o1 : @LT.lt Nat _ th dx) (o4 : @LT.lt Nat _ dx r) (o5 : @LT.lt Nat _ r la) (o6 : @LT.lt Nat _ la be)
    (ret : ∀ o' kvs' M' vs' bs' h' tk', Fr h₀ L h' m → Ext [la, be] s.heap h' → News h₀ L h' [(la, o'), (be, listOf (List.toArray vs') nb)] → o'.IsDictOf (intKind Challenge.rw_tk0118_01.row.prog w) kvs' → KvAre kvs' M' → IntsAre vs' bs' → RowInv ks size (there ++ [place]) M' bs' → Q (.bool true) { s with heap := h', toks := tk' }) :
    wpAny (model Challenge.rw_tk0118_01.row.prog w) (ktrTop dp un gd cn cs L a ccd cl outer) (call (.ref 259) [.ref r, .ref r, .int size v, .bytes text v', .int place v'', .ref th]) Q E s := by
  have hOct : Oct ks := hks ▸ oct_bytes text
  have hTl := Th.length h1
  have hMl := I.ml
  have far : ∀ b ∈ [la, be], L ≠ b ∧ h₀.get? b = none := fun b hb => by
    simp only [List.mem_cons, List.not_mem_nil, or_false] at hb
    rcases hb with rfl | rfl
    · exact ⟨Ne.symm (N _ m5).2.1, (N _ m5).2.2⟩
    · exact ⟨Ne.symm (N _ m6).2.1, (N _ m6).2.2⟩
  have fr : ∀ h', Ext [la, be] s.heap h' → Fr h₀ L h' m := fun h' x => x.fr F (fun q => (far L q).1 rfl) fun b hb => (far b hb).2
  refine putR_call ⟨B, F, X, T, hk, by omega, by omega⟩ (by omega) (by omega) (news_sub N (sub_five m3 m4 m5 m6 m7)) h1 hks h2 h3 h4 h5 hd hkv (by omega) lo hi I.len hth Th.rng (by omega) (by omega) (by omega) (by omega) (by omega) (by omega) (by omega) (by omega) (fun c => I.max Th hOct h1 h4 c) (fun c h' tk' x => ?_) (fun c h' tk' o' kvs' vs' x N' d' k' i' => ?_)
  · have x' : Ext [la, be] s.heap h' := x.mono fun b hb => nomatch hb
    exact ret ola kvs M vs bs h' tk' (fr h' x') x' (ext_nil_news x (news_sub N (sub_two m5 m6))) hd hkv hi (I.skip c)
  · exact ret o' kvs' _ vs' _ h' tk' (fr h' x) x N' d' k' i' (I.put Th h1 h2 c)
end
section
variable {w : World} {p : Program} {loose : List Str} {mean : ExcName → Option Value} {mg mb : Str → Option Value} {dp un : Nat} {gd : Option (List Code)} {cn : Str} {cs : Scope} {L a : Addr} {ccd : Value} {cl : List (Str × Addr)} {outer : List Env} {A₀ : Around} {base h₀ : Heap} {m : Str → Option Value} {s : Shared} {Q E : Value → Shared → Prop}
variable {f fx r dx la be q dy lc bf rw sh th : Addr} {text : Array UInt8} {ks : List Int} {size window chain ahead : Int} {a1 a2 a3 a4 b1 b2 b3 b4 b5 b6 c1 c2 c3 c4 : Int} {t1 t2 t3 t4 t5 t6 x1 x2 x3 x4 x5 x6 u1 u2 u3 u4 u5 y1 y2 y3 y4 y5 y6 z1 z2 z3 : Tok} {n nf nb n2 nb2 nr ns nt : Nat} {ola olb : Obj} {kvs kvs2 : List (Int × Value)} {M M2 : List (Int × Int)} {vs vs2 ws : List Value} {bs bs2 there : List Int}
theorem asked_J {spot most place : Int} {v v2 v3 : Tok} {news : List (Addr × Obj)} (B : Below A₀ base outer h₀) (F : Fr h₀ L s.heap m) (X : (hd.heap_1 w.params).In h₀) (T : Top p loose mean mg mb h₀) (hk : cs.kind = .function) (hdp : dp ≤ 800) (hun : un ≤ 4500)
    (N : News h₀ L s.heap news) (hs : ∀ e ∈ [(f, instObj 226 fx), (fx, finD text size window chain ahead r b1 b2 b3 b4 b5 b6 x1 x2 x3 x4 x5 x6 u1 u2 u3 u4 u5 nf), (r, instObj 92 dx), (dx, rowD text size la be a1 a2 a3 a4 t1 t2 t3 t4 t5 t6 n), (la, ola), (be, listOf vs.toArray nb),
      (q, instObj 92 dy), (dy, rowD text (size + 1) lc bf c1 c2 c3 c4 y1 y2 y3 y4 y5 y6 n2), (lc, olb), (bf, listOf vs2.toArray nb2), (rw, listOf [Value.ref r, Value.ref q].toArray nr), (sh, listOf [Value.int size z1, Value.int window z2, Value.int chain z3].toArray ns), (th, listOf ws.toArray nt)], e ∈ news)
    (h1 : 0 ≤ spot) (hks : KBw.bInts text = ks) (h2 : spot ≤ ks.length) (h3 : ks.length ≤ 1000) (h4 : 0 < size) (h5 : size ≤ 4) (h6 : 0 ≤ place) (h7 : place ≤ ks.length)
    (hd : ola.IsDictOf (intKind Challenge.rw_tk0118_01.row.prog w) kvs) (hkv : KvAre kvs M) (lo : (la == sysModules) = false) (hi : IntsAre vs bs) (I : RowInv ks size there M bs)
    (hd2 : olb.IsDictOf (intKind Challenge.rw_tk0118_01.row.prog w) kvs2) (hkv2 : KvAre kvs2 M2) (lo2 : (lc == sysModules) = false) (hi2 : IntsAre vs2 bs2) (I2 : RowInv ks (size + 1) there M2 bs2)
    (hth : IntsAre ws there) (Th : There there place) (hc0 : 0 < chain) (hc1 : chain ≤ 1000) (hw0 : 0 < window) (hw1 : window ≤ 1000) (hm0 : 0 ≤ most) (hm1 : most ≤ 1000)
    (ret : ∀ h' tk', Fr h₀ L h' m → News h₀ L h' news → Q (.bool true) { s with heap := h', toks := tk' }) :
    wpAny (model Challenge.rw_tk0118_01.row.prog w) (ktrTop dp un gd cn cs L a ccd cl outer) (call (.ref 276) [.ref f, .ref rw, .bytes text v, .ref sh, .int spot v2, .int most v3, .ref th]) Q E s := by
  have hOct : Oct ks := hks ▸ oct_bytes text
  have hTl := Th.length h6
  have hMl := I.ml
  have hMl2 := I2.ml
  refine asked_call ⟨B, F, X, T, hk, by omega, by omega⟩ hdp hun (news_sub N hs) h1 hks h2 h3 h4 h5 hd hkv (by omega) lo hi I.len I.wf (I.hM Th h7) hd2 hkv2 (by omega) lo2 hi2 I2.len I2.wf (I2.hM Th h7) hth (fun o ho => by have := Th.rng o ho; omega) (by omega) hc0 hc1 hw0 hw1 hm0 hm1
    (I.chain Th h6 h7 hOct h1 h2 h4) ((I2.chain Th h6 h7 hOct h1 h2 (by omega)).trans (longer_eq Th h1 h4).symm) (looked_eq I Th h6 h7 hOct h1 h2 h4) (looked_mt Th h1 h2 h4 hm0) fun h' tk' x => ret h' tk' (ext_nil_fr x F) (ext_nil_news x N)
end
def JoinP (h₀ : Heap) (L : Addr) (P : (Str → Option Value) → List (Addr × Obj) → Prop) (s : Shared) (f : Flow) (s' : Shared) : Prop :=
  f = .next ∧ ∃ m' led h' tk, s' = { s with heap := h', toks := tk } ∧ Fr h₀ L h' m' ∧ News h₀ L h' led ∧ P m' led
theorem join_p {M : Model} {A : Around} {t : Sem Flow} {E : Value → Shared → Prop} {Q : Flow → Shared → Prop} {s : Shared} {h₀ : Heap} {L : Addr} {P : (Str → Option Value) → List (Addr × Obj) → Prop} (h : wpAny M A t (JoinP h₀ L P s) E s)
    (k : ∀ m' led h' tk, Fr h₀ L h' m' → News h₀ L h' led → P m' led → Q .next { s with heap := h', toks := tk }) : wpAny M A t Q E s :=
  wpAny_mono h (fun f s' z => by obtain ⟨rfl, m', led, h', tk, rfl, F', N', p⟩ := z; exact k m' led h' tk F' N' p) fun _ _ z => z
theorem led_upd {h₀ h h' : Heap} {L : Addr} {S : List Addr} {news up led : List (Addr × Obj)} (N : News h₀ L h news) (x : Ext S h h') (N' : News h₀ L h' up) (hs : ∀ e ∈ led, e ∈ up ∨ (e ∈ news ∧ e.1 ∉ S)) : News h₀ L h' led := fun e he => by
  rcases hs e he with q | ⟨q, n⟩
  · exact N' e q
  · exact ⟨x _ _ n (N e q).1, (N e q).2⟩
theorem led_F {h₀ h h' : Heap} {L fx la be : Addr} {e0 e1 e2 e3 e5 e6 e9 e10 e11 e12 e13 e14 : Addr × Obj} {o4 p4 o7 p7 o8 p8 : Obj} (N : News h₀ L h [e0, e1, e2, e3, (fx, o4), e5, e6, (la, o7), (be, o8), e9, e10, e11, e12, e13, e14]) (x : Ext [fx, la, be] h h') (N' : News h₀ L h' [(fx, p4), (la, p7), (be, p8)])
    (hne : ∀ b ∈ [e0.1, e1.1, e2.1, e3.1, e5.1, e6.1, e9.1, e10.1, e11.1, e12.1, e13.1, e14.1], b ∉ [fx, la, be]) : News h₀ L h' [e0, e1, e2, e3, (fx, p4), e5, e6, (la, p7), (be, p8), e9, e10, e11, e12, e13, e14] :=
  led_upd N x N' (List.forall_mem_cons.mpr ⟨.inr ⟨(.head _), hne _ (.head _)⟩, List.forall_mem_cons.mpr ⟨.inr ⟨(.tail _ (.head _)), hne _ (.tail _ (.head _))⟩, List.forall_mem_cons.mpr ⟨.inr ⟨(.tail _ (.tail _ (.head _))), hne _ (.tail _ (.tail _ (.head _)))⟩, List.forall_mem_cons.mpr ⟨.inr ⟨(.tail _ (.tail _ (.tail _ (.head _)))), hne _ (.tail _ (.tail _ (.tail _ (.head _))))⟩, List.forall_mem_cons.mpr ⟨.inl (.head _), List.forall_mem_cons.mpr ⟨.inr ⟨(.tail _ (.tail _ (.tail _ (.tail _ (.tail _ (.head _)))))), hne _ (.tail _ (.tail _ (.tail _ (.tail _ (.head _)))))⟩, List.forall_mem_cons.mpr ⟨.inr ⟨(.tail _ (.tail _ (.tail _ (.tail _ (.tail _ (.tail _ (.head _))))))), hne _ (.tail _ (.tail _ (.tail _ (.tail _ (.tail _ (.head _))))))⟩, List.forall_mem_cons.mpr ⟨.inl (.tail _ (.head _)), List.forall_mem_cons.mpr ⟨.inl (.tail _ (.tail _ (.head _))), List.forall_mem_cons.mpr ⟨.inr ⟨(.tail _ (.tail _ (.tail _ (.tail _ (.tail _ (.tail _ (.tail _ (.tail _ (.tail _ (.head _)))))))))), hne _ (.tail _ (.tail _ (.tail _ (.tail _ (.tail _ (.tail _ (.head _)))))))⟩, List.forall_mem_cons.mpr ⟨.inr ⟨(.tail _ (.tail _ (.tail _ (.tail _ (.tail _ (.tail _ (.tail _ (.tail _ (.tail _ (.tail _ (.head _))))))))))), hne _ (.tail _ (.tail _ (.tail _ (.tail _ (.tail _ (.tail _ (.tail _ (.head _))))))))⟩, List.forall_mem_cons.mpr ⟨.inr ⟨(.tail _ (.tail _ (.tail _ (.tail _ (.tail _ (.tail _ (.tail _ (.tail _ (.tail _ (.tail _ (.tail _ (.head _)))))))))))), hne _ (.tail _ (.tail _ (.tail _ (.tail _ (.tail _ (.tail _ (.tail _ (.tail _ (.head _)))))))))⟩, List.forall_mem_cons.mpr ⟨.inr ⟨(.tail _ (.tail _ (.tail _ (.tail _ (.tail _ (.tail _ (.tail _ (.tail _ (.tail _ (.tail _ (.tail _ (.tail _ (.head _))))))))))))), hne _ (.tail _ (.tail _ (.tail _ (.tail _ (.tail _ (.tail _ (.tail _ (.tail _ (.tail _ (.head _))))))))))⟩, List.forall_mem_cons.mpr ⟨.inr ⟨(.tail _ (.tail _ (.tail _ (.tail _ (.tail _ (.tail _ (.tail _ (.tail _ (.tail _ (.tail _ (.tail _ (.tail _ (.tail _ (.head _)))))))))))))), hne _ (.tail _ (.tail _ (.tail _ (.tail _ (.tail _ (.tail _ (.tail _ (.tail _ (.tail _ (.tail _ (.head _)))))))))))⟩, List.forall_mem_cons.mpr ⟨.inr ⟨(.tail _ (.tail _ (.tail _ (.tail _ (.tail _ (.tail _ (.tail _ (.tail _ (.tail _ (.tail _ (.tail _ (.tail _ (.tail _ (.tail _ (.head _))))))))))))))), hne _ (.tail _ (.tail _ (.tail _ (.tail _ (.tail _ (.tail _ (.tail _ (.tail _ (.tail _ (.tail _ (.tail _ (.head _))))))))))))⟩, List.forall_mem_nil _⟩⟩⟩⟩⟩⟩⟩⟩⟩⟩⟩⟩⟩⟩⟩)
theorem led_R {h₀ h h' : Heap} {L lc bf : Addr} {e0 e1 e2 e3 e4 e5 e6 e7 e8 e9 e10 e13 e14 : Addr × Obj} {o11 p11 o12 p12 : Obj} (N : News h₀ L h [e0, e1, e2, e3, e4, e5, e6, e7, e8, e9, e10, (lc, o11), (bf, o12), e13, e14]) (x : Ext [lc, bf] h h') (N' : News h₀ L h' [(lc, p11), (bf, p12)])
    (hne : ∀ b ∈ [e0.1, e1.1, e2.1, e3.1, e4.1, e5.1, e6.1, e7.1, e8.1, e9.1, e10.1, e13.1, e14.1], b ∉ [lc, bf]) : News h₀ L h' [e0, e1, e2, e3, e4, e5, e6, e7, e8, e9, e10, (lc, p11), (bf, p12), e13, e14] :=
  led_upd N x N' (List.forall_mem_cons.mpr ⟨.inr ⟨(.head _), hne _ (.head _)⟩, List.forall_mem_cons.mpr ⟨.inr ⟨(.tail _ (.head _)), hne _ (.tail _ (.head _))⟩, List.forall_mem_cons.mpr ⟨.inr ⟨(.tail _ (.tail _ (.head _))), hne _ (.tail _ (.tail _ (.head _)))⟩, List.forall_mem_cons.mpr ⟨.inr ⟨(.tail _ (.tail _ (.tail _ (.head _)))), hne _ (.tail _ (.tail _ (.tail _ (.head _))))⟩, List.forall_mem_cons.mpr ⟨.inr ⟨(.tail _ (.tail _ (.tail _ (.tail _ (.head _))))), hne _ (.tail _ (.tail _ (.tail _ (.tail _ (.head _)))))⟩, List.forall_mem_cons.mpr ⟨.inr ⟨(.tail _ (.tail _ (.tail _ (.tail _ (.tail _ (.head _)))))), hne _ (.tail _ (.tail _ (.tail _ (.tail _ (.tail _ (.head _))))))⟩, List.forall_mem_cons.mpr ⟨.inr ⟨(.tail _ (.tail _ (.tail _ (.tail _ (.tail _ (.tail _ (.head _))))))), hne _ (.tail _ (.tail _ (.tail _ (.tail _ (.tail _ (.tail _ (.head _)))))))⟩, List.forall_mem_cons.mpr ⟨.inr ⟨(.tail _ (.tail _ (.tail _ (.tail _ (.tail _ (.tail _ (.tail _ (.head _)))))))), hne _ (.tail _ (.tail _ (.tail _ (.tail _ (.tail _ (.tail _ (.tail _ (.head _))))))))⟩, List.forall_mem_cons.mpr ⟨.inr ⟨(.tail _ (.tail _ (.tail _ (.tail _ (.tail _ (.tail _ (.tail _ (.tail _ (.head _))))))))), hne _ (.tail _ (.tail _ (.tail _ (.tail _ (.tail _ (.tail _ (.tail _ (.tail _ (.head _)))))))))⟩, List.forall_mem_cons.mpr ⟨.inr ⟨(.tail _ (.tail _ (.tail _ (.tail _ (.tail _ (.tail _ (.tail _ (.tail _ (.tail _ (.head _)))))))))), hne _ (.tail _ (.tail _ (.tail _ (.tail _ (.tail _ (.tail _ (.tail _ (.tail _ (.tail _ (.head _))))))))))⟩, List.forall_mem_cons.mpr ⟨.inr ⟨(.tail _ (.tail _ (.tail _ (.tail _ (.tail _ (.tail _ (.tail _ (.tail _ (.tail _ (.tail _ (.head _))))))))))), hne _ (.tail _ (.tail _ (.tail _ (.tail _ (.tail _ (.tail _ (.tail _ (.tail _ (.tail _ (.tail _ (.head _)))))))))))⟩, List.forall_mem_cons.mpr ⟨.inl (.head _), List.forall_mem_cons.mpr ⟨.inl (.tail _ (.head _)), List.forall_mem_cons.mpr ⟨.inr ⟨(.tail _ (.tail _ (.tail _ (.tail _ (.tail _ (.tail _ (.tail _ (.tail _ (.tail _ (.tail _ (.tail _ (.tail _ (.tail _ (.head _)))))))))))))), hne _ (.tail _ (.tail _ (.tail _ (.tail _ (.tail _ (.tail _ (.tail _ (.tail _ (.tail _ (.tail _ (.tail _ (.head _))))))))))))⟩, List.forall_mem_cons.mpr ⟨.inr ⟨(.tail _ (.tail _ (.tail _ (.tail _ (.tail _ (.tail _ (.tail _ (.tail _ (.tail _ (.tail _ (.tail _ (.tail _ (.tail _ (.tail _ (.head _))))))))))))))), hne _ (.tail _ (.tail _ (.tail _ (.tail _ (.tail _ (.tail _ (.tail _ (.tail _ (.tail _ (.tail _ (.tail _ (.tail _ (.head _)))))))))))))⟩, List.forall_mem_nil _⟩⟩⟩⟩⟩⟩⟩⟩⟩⟩⟩⟩⟩⟩⟩)
theorem lw_map {m c : Str → Option Value} (h : ∀ y, y ≠ Str.ofString "most" → y ≠ Str.ofString "spot" → y ≠ Str.ofString "place" → m y = c y) :
    ∃ pv sv mv, m = fun y => if y = Str.ofString "most" then mv else if y = Str.ofString "spot" then sv else if y = Str.ofString "place" then pv else c y := by
  refine ⟨m (Str.ofString "place"), m (Str.ofString "spot"), m (Str.ofString "most"), funext fun y => ?_⟩
  by_cases e1 : y = Str.ofString "most"
  · rw [if_pos e1, e1]
  · rw [if_neg e1]
    by_cases e2 : y = Str.ofString "spot"
    · rw [if_pos e2, e2]
    · rw [if_neg e2]
      by_cases e3 : y = Str.ofString "place"
      · rw [if_pos e3, e3]
      · rw [if_neg e3]; exact h y e1 e2 e3
theorem menu2 {a b r lo hi : Int} (h0 : 0 ≤ r) (h1 : r < 2) (a0 : lo ≤ a) (a1 : a ≤ hi) (b0 : lo ≤ b) (b1 : b ≤ hi) : lo ≤ [a, b].getD r.toNat 0 ∧ [a, b].getD r.toNat 0 ≤ hi := by
  have : r = 0 ∨ r = 1 := by omega
  rcases this with rfl | rfl
  · exact ⟨a0, a1⟩
  · exact ⟨b0, b1⟩
theorem sub_asked {α : Type} {l i b a1 a2 a3 a4 a5 a6 a7 a8 a9 a10 a11 a12 a13 : α} : ∀ e ∈ [a1, a2, a3, a4, a5, a6, a7, a8, a9, a10, a11, a12, a13], e ∈ [l, i, b, a13, a1, a2, a3, a4, a5, a6, a7, a8, a9, a10, a11, a12] := by
  iterate 13 (refine List.forall_mem_cons.mpr ⟨by k_mem, ?_⟩)
  exact List.forall_mem_nil _
theorem loop_close {h₀ h' : Heap} {L I : Addr} {oI : Obj} {l : Addr × Obj} {led : List (Addr × Obj)} {Jn : (Str → Option Value) → List (Addr × Obj) → Prop} {s₁ : Shared} {tk : Nat} {m : Str → Option Value} {Qr : Value → Shared → Prop} {Qb : Shared → Prop}
    (F : Fr h₀ L h' m) (N : News h₀ L h' (l :: (I, oI) :: led)) (ha : ∀ p ∈ led, p.1 ≠ I) (hJ : Jn m led) : LoopStepV h₀ L [I] [(I, oI)] Jn s₁ Qr Qb .next { s₁ with heap := h', toks := tk } :=
  loopStep_end F N rfl (.tail _ (.head _)) (fun p hp => .tail _ (.tail _ hp)) ha hJ
theorem gc9 {h₀ h : Heap} {L : Addr} {a b c d e f g i j : Addr × Obj} {r : List (Addr × Obj)} (N : News h₀ L h (a :: b :: c :: d :: e :: f :: g :: i :: j :: r)) : News h₀ L h r := news_sub N fun p hp => .tail _ (.tail _ (.tail _ (.tail _ (.tail _ (.tail _ (.tail _ (.tail _ (.tail _ hp))))))))
theorem ints_rep {t : Tok} : ∀ n : Nat, IntsAre (List.replicate n [Value.int (-1) t]).flatten (List.replicate n (-1))
  | 0 => .nil
  | n + 1 => .cons (-1) t (ints_rep n)
theorem rcne_two {A : Around} {s : Shared} {l b p q p' q' : Addr} (hl : s.heap.IsList l [Value.ref p, Value.ref q].toArray) (hb : s.heap.IsList b [Value.ref p', Value.ref q'].toArray) (hu : A.units < cLine) (h1 : PySem.SeqAt.RcAt A.in1 s (.ref p) (.ref p') true) (h2 : PySem.SeqAt.RcAt A.in1 s (.ref q) (.ref q') true) : PySem.SeqAt.RcNeAt A s (.ref l) (.ref b) false :=
  fun prog w E Q h => PySem.SeqAt.RcNeAt.lists (e := fun _ => true) hl hb rfl hu (fun j j1 j2 => by
    match j, j1, j2 with
    | 0, _, _ => exact eqat_refs h1
    | 1, _, _ => exact eqat_refs h2
    | k + 2, j1, _ => exact absurd j1 (by simp)) prog w E Q h
/-- the names of the law ahead of the loop -/
def lwB (rw sh f q th bx sc : Addr) (text : Array UInt8) (size window chain : Int) (tz tw tcn tx : Tok) (b : Bool) : Str → Option Value := fun y => if y = Str.ofString "rows" then some (Value.ref rw) else if y = Str.ofString "shape" then some (Value.ref sh) else if y = Str.ofString "finder" then some (Value.ref f) else if y = Str.ofString "second" then some (Value.ref q) else if y = Str.ofString "chain" then some (Value.int chain tcn) else if y = Str.ofString "there" then some (Value.ref th) else if y = Str.ofString "size" then some (Value.int size tz) else if y = Str.ofString "window" then some (Value.int window tw) else if y = Str.ofString "text" then some (Value.bytes text tx) else if y = Str.ofString "small" then some (Value.bool b) else if y = Str.ofString "box" then some (Value.ref bx) else if y = Str.ofString "script" then some (Value.ref sc) else none
/-- what stands between two turns: the ledger of the law's own objects, entered up to a place -/
inductive LwS (w : World) (bx th f fx r dx la be q dy lc bf rw sh : Addr) (text : Array UInt8) (ks : List Int) (size window chain a1 a2 a3 a4 b1 b2 b3 b4 b5 b6 c1 c2 c3 c4 : Int) (t1 t2 t3 t4 t5 t6 x1 x2 x3 x4 x5 x6 u1 u2 u3 u4 y1 y2 y3 y4 y5 y6 tz tw tcn : Tok) (nn : Nat) (i : Int) : List (Addr × Obj) → Prop
  | mk (d st : Int) (t u u5 : Tok) (ws : List Value) (tn : Nat) (there : List Int) (ahead : Int) (ola olb : Obj) (kvs kvs2 : List (Int × Value)) (M M2 : List (Int × Int)) (vs vs2 : List Value) (bs bs2 : List Int)
      (h1 : 0 ≤ st ∧ st < 2 ^ 31) (h2 : IntsAre ws there ∧ There there i ∧ ahead ≤ i) (h3 : ola.IsDictOf (intKind Challenge.rw_tk0118_01.row.prog w) kvs ∧ KvAre kvs M ∧ IntsAre vs bs ∧ RowInv ks size there M bs)
      (h4 : olb.IsDictOf (intKind Challenge.rw_tk0118_01.row.prog w) kvs2 ∧ KvAre kvs2 M2 ∧ IntsAre vs2 bs2 ∧ RowInv ks (size + 1) there M2 bs2) :
      LwS w bx th f fx r dx la be q dy lc bf rw sh text ks size window chain a1 a2 a3 a4 b1 b2 b3 b4 b5 b6 c1 c2 c3 c4 t1 t2 t3 t4 t5 t6 x1 x2 x3 x4 x5 x6 u1 u2 u3 u4 y1 y2 y3 y4 y5 y6 tz tw tcn nn i
        [(bx, boxObj d t st u nn), (th, listOf (List.toArray ws) tn), (f, instObj 226 fx), (fx, finD text size window chain ahead r b1 b2 b3 b4 b5 b6 x1 x2 x3 x4 x5 x6 u1 u2 u3 u4 u5 6), (r, instObj 92 dx), (dx, rowD text size la be a1 a2 a3 a4 t1 t2 t3 t4 t5 t6 4), (la, ola), (be, listOf (List.toArray vs) 0), (q, instObj 92 dy), (dy, rowD text (size + 1) lc bf c1 c2 c3 c4 y1 y2 y3 y4 y5 y6 4), (lc, olb), (bf, listOf (List.toArray vs2) 0), (rw, listOf [Value.ref r, Value.ref q].toArray 0), (sh, listOf [Value.int size tz, Value.int window tw, Value.int chain tcn].toArray 0)]
/-- a predicate by a name of its own -/
theorem named2 {α β : Type} (P : α → β → Prop) : ∃ S : α → β → Prop, (∀ a b, P a b → S a b) ∧ ∀ a b, S a b → P a b := ⟨P, fun _ _ h => h, fun _ _ h => h⟩
/-- addresses that rise -/
def Srt : List Addr → Prop
  | a :: b :: l => @LT.lt Nat _ a b ∧ Srt (b :: l)
  | _ => True
inductive Bef (x y : Addr) : List Addr → Prop
  | here {l : List Addr} : y ∈ l → Bef x y (x :: l)
  | there {z : Addr} {l : List Addr} : Bef x y l → Bef x y (z :: l)
theorem srt_cons {a b : Addr} {l : List Addr} (h : @LT.lt Nat _ a b) (k : Srt (b :: l)) : Srt (a :: b :: l) := ⟨h, k⟩
theorem srt_one {a : Addr} : Srt [a] := trivial
theorem srt_tail {a : Addr} : ∀ {l : List Addr}, Srt (a :: l) → Srt l
  | [], _ => trivial
  | _ :: _, h => h.2
theorem srt_all {l : List Addr} : ∀ {a : Addr}, Srt (a :: l) → ∀ y ∈ l, @LT.lt Nat _ a y := by
  induction l with
  | nil => intro a _ y hy; exact nomatch hy
  | cons c l ih =>
    intro a h y hy
    rcases List.mem_cons.mp hy with rfl | hy
    · exact h.1
    · exact Nat.lt_trans h.1 (ih h.2 y hy)
theorem srt_lt {l : List Addr} {x y : Addr} (h : Srt l) (b : Bef x y l) : @LT.lt Nat _ x y := by
  induction b with
  | here hy => exact srt_all h _ hy
  | there _ ih => exact ih (srt_tail h)
theorem srt_ne {l : List Addr} {x y : Addr} (h : Srt l) (b : Bef x y l) : @Ne Nat x y := Nat.ne_of_lt (srt_lt h b)
theorem ne_mem {l : List Addr} {x y : Addr} (h : ∀ b ∈ l, b ≠ y) (m : x ∈ l) : @Ne Nat x y := h x m
theorem nin3 {x a b c : Addr} (h1 : @Ne Nat x a) (h2 : @Ne Nat x b) (h3 : @Ne Nat x c) : x ∉ [a, b, c] := fun h => by
  simp only [List.mem_cons, List.not_mem_nil, or_false] at h
  rcases h with h | h | h
  · exact h1 h
  · exact h2 h
  · exact h3 h
theorem nin2 {x a b : Addr} (h1 : @Ne Nat x a) (h2 : @Ne Nat x b) : x ∉ [a, b] := fun h => by
  simp only [List.mem_cons, List.not_mem_nil, or_false] at h
  rcases h with h | h
  · exact h1 h
  · exact h2 h
theorem lwJ_start {rw sh f q th bx sc : Addr} {text : Array UInt8} {size window chain : Int} {tz tw tcn tx : Tok} {b : Bool} : ∃ pv sv mv : Option Value, lwB rw sh f q th bx sc text size window chain tz tw tcn tx b = fun y => if y = Str.ofString "most" then mv else if y = Str.ofString "spot" then sv else if y = Str.ofString "place" then pv else lwB rw sh f q th bx sc text size window chain tz tw tcn tx b y := by
  refine ⟨none, none, none, funext fun y => ?_⟩
  by_cases e1 : y = Str.ofString "most"
  · subst e1; rfl
  · rw [if_neg e1]
    by_cases e2 : y = Str.ofString "spot"
    · subst e2; rfl
    · rw [if_neg e2]
      by_cases e3 : y = Str.ofString "place"
      · subst e3; rfl
      · rw [if_neg e3]
section
variable {w : World} {p : Program} {loose : List Str} {mean : ExcName → Option Value} {mg mb : Str → Option Value} {h₀ : Heap} {L fa : Addr} {cd : Value} {s : Shared} {Q : Flow → Shared → Prop} {E : Value → Shared → Prop}
variable {name qual : Str} {params : Arguments} {body : List Stmt} {scope : Scope} {dV kV doc pm cdv ct oc : Value} {an od : Option Addr} {osl : Array (Option Value)}
variable {sc bx th f fx r dx la be q dy lc bf rw sh : Addr} {b : Bool} {text : Array UInt8} {ks : List Int} {size window chain d st : Int} {tx tz tw tcn t u : Tok} {nn ncn : Nat}
variable {a1 a2 a3 a4 b1 b2 b3 b4 b5 b6 c1 c2 c3 c4 : Int} {t1 t2 t3 t4 t5 t6 x1 x2 x3 x4 x5 x6 u1 u2 u3 u4 u5 y1 y2 y3 y4 y5 y6 : Tok} {ola olb : Obj} {vs vs2 : List Value} {led : List (Addr × Obj)}
theorem loc_20_2 : True := by
  k_with "M memA" => ((fail_if_success (k_extra "off_20_1")); first | (with_reducible apply List.mem_cons_self) | (with_reducible apply List.mem_cons_of_mem; k_extra "M memA"))
  k_with "M bef" => ((fail_if_success (k_extra "off_20_1")); first | (with_reducible apply Bef.here; k_extra "M memA") | (with_reducible apply Bef.there; k_extra "M bef"))
  k_with "M srt" => ((fail_if_success (k_extra "off_20_1")); first | exact srt_ne (by with_reducible assumption) (by k_extra "M bef") | exact Ne.symm (srt_ne (by with_reducible assumption) (by k_extra "M bef")))
  k_with "M fact" => ((fail_if_success (k_extra "off_20_1")); first | exact srt_ne (by with_reducible assumption) (by k_extra "M bef") | exact ne_mem (by with_reducible assumption) (by k_extra "M memA"))
  k_with "compareOp NotEq ref ref" => ((fail_if_success (k_extra "off_20_1")); refine Park.h ?_)
  k_with "eval ListComp" => ((fail_if_success (k_extra "off_20_1")); refine Park.h ?_)
  k_with "CompEnd" => ((fail_if_success (k_extra "off_20_1")); refine Park.h ?_)
  k_with "CompSrc" => ((fail_if_success (k_extra "off_20_1")); (k_here; k_dflt (refine LCg.CompSrc.ledger (by rfl) (by k_asm) (by k_asm) (by k_mem) (by exact Nat.le_of_ble_eq_true rfl) ?_; intro g'; refine Park.h ?_)))
  k_with "M none" => ((fail_if_success (k_extra "off_20_1")); (refine Park.mk ?_; k_dflt (refine LCg.CompRest.zero ?_); k_steps))
  k_with "M one" => ((fail_if_success (k_extra "off_20_1")); (refine Park.mk ?_; k_dflt (refine LCg.CompRest.succ ?_); intro v' I' oI' C' oC' D' m' h' tk' E' hv' hC' hx' F' N' off' ne'; simp only [List.getElem?_toArray, List.getElem?_cons_zero, List.getElem?_cons_succ, Option.some.injEq] at hv'; subst hv'))
  k_with "lcg_off" => ((fail_if_success (k_extra "off_20_1")); first | exact True.intro | (with_reducible assumption) | exact off3_same (by with_reducible assumption) rfl | (refine And.intro ⟨by k_extra "k_ne", by k_extra "k_ne", by k_extra "k_ne"⟩ ?_; k_extra "lcg_off"))
  k_with "M comp2" => ((fail_if_success (k_extra "off_20_1")); (refine Park.mk ?_; k_dflt (refine LCg.ListComp_U (F₀ := by k_asm) (by with_unfolding_all rfl) (by decide) (by rfl) (by decide) (by rfl) ?_); k_steps))
  k_with "M cend1l" => ((fail_if_success (k_extra "off_20_1")); (refine Park.mk ?_; refine LCg.CompEnd.intro (by assumption) (by assumption) _ sub_rot (by k_extra "lcg_off") (.inr ⟨_, by k_mem, rfl, _, rfl⟩) (Park.h ?_)))
  k_with "M clear2" => ((fail_if_success (k_extra "off_20_1")); ((repeat (rename @Ne Nat _ _ => zz; clear zz)); (repeat (rename @Ne Nat _ _ ∧ _ => zz; clear zz))))
  k_with "exec For Name Call cons nil" => ((fail_if_success (k_extra "off_20_1")); (k_here; (rename Fr _ _ _ _ => lF'); (with_unfolding_all refine' For_turns lF' ?_ (by intro _; rfl) (by assumption)); k_whole))
  k_with "pyIter ref" => ((fail_if_success (k_extra "off_20_1")); refine Park.h ?_)
  k_with "LoopStepV" => ((fail_if_success (k_extra "off_20_1")); refine Park.h ?_)
  k_with "JoinP" => ((fail_if_success (k_extra "off_20_1")); refine Park.h ?_)
  k_with "exec If" => ((fail_if_success (k_extra "off_20_1")); (k_here; (with_reducible show wpAny _ _ (exec (Stmt.If (Expr.Compare (Expr.Call _ _ _ _) _ _ _) _ _ _) _) _ _ _); (fail_if_success (goal_has Mine.JoinP)); refine Park.h ?_))
  k_with "call ref" => ((fail_if_success (k_extra "off_20_1")); (k_here; (with_reducible show wpAny _ _ (call (Value.ref 259) _) _ _ _); refine Park.h ?_))
  k_with "call ref" => ((fail_if_success (k_extra "off_20_1")); (k_here; (with_reducible show wpAny _ _ (call (Value.ref 276) _) _ _ _); refine Park.h ?_))
  trivial
theorem lw_F {bx th f fx r dx la be q dy lc bf rw sh : Addr} (pw : Srt [bx, th, fx, f, dx, r, la, be, dy, q, lc, bf, rw, sh]) : ∀ b ∈ [bx, th, f, r, dx, q, dy, lc, bf, rw, sh], b ∉ [fx, la, be] := by
  iterate 11 (refine List.forall_mem_cons.mpr ⟨nin3 (by k_extra "M srt") (by k_extra "M srt") (by k_extra "M srt"), ?_⟩)
  exact List.forall_mem_nil _
theorem lw_R {bx th f fx r dx la be q dy lc bf rw sh : Addr} (pw : Srt [bx, th, fx, f, dx, r, la, be, dy, q, lc, bf, rw, sh]) : ∀ b ∈ [bx, th, f, fx, r, dx, la, be, q, dy, rw, sh], b ∉ [lc, bf] := by
  iterate 12 (refine List.forall_mem_cons.mpr ⟨nin2 (by k_extra "M srt") (by k_extra "M srt"), ?_⟩)
  exact List.forall_mem_nil _
theorem law_d (ho : (hd.heap_1 w.params).lookup 281 = some ⟨oc, od, .func (fnOf name qual params body scope dV kV doc pm an cdv ct), osl⟩)
    (B : Below callerA h₀ [] h₀) (X : (hd.heap_1 w.params).In h₀) (T : Top p loose mean mg mb h₀)
    (F : Fr h₀ L s.heap (lwB rw sh f q th bx sc text size window chain tz tw tcn tx b))
    (N : News h₀ L s.heap led) (m0 : (bx, boxObj d t st u nn) ∈ led) (m1 : (th, listOf #[] ncn) ∈ led) (m2 : (f, instObj 226 fx) ∈ led) (m3 : (fx, finD text size window chain 0 r b1 b2 b3 b4 b5 b6 x1 x2 x3 x4 x5 x6 u1 u2 u3 u4 u5 6) ∈ led) (m4 : (r, instObj 92 dx) ∈ led) (m5 : (dx, rowD text size la be a1 a2 a3 a4 t1 t2 t3 t4 t5 t6 4) ∈ led) (m6 : (la, ola) ∈ led) (m7 : (be, listOf (List.toArray vs) 0) ∈ led) (m8 : (q, instObj 92 dy) ∈ led) (m9 : (dy, rowD text (size + 1) lc bf c1 c2 c3 c4 y1 y2 y3 y4 y5 y6 4) ∈ led) (m10 : (lc, olb) ∈ led) (m11 : (bf, listOf (List.toArray vs2) 0) ∈ led) (m12 : (rw, listOf [Value.ref r, Value.ref q].toArray 0) ∈ led) (m13 : (sh, listOf [Value.int size tz, Value.int window tw, Value.int chain tcn].toArray 0) ∈ led)
    (pw : Srt [bx, th, fx, f, dx, r, la, be, dy, q, lc, bf, rw, sh])
    (hd1 : ola.IsDictOf (intKind Challenge.rw_tk0118_01.row.prog w) []) (lo1 : (la == sysModules) = false) (hi1 : IntsAre vs (List.replicate ks.length (-1))) (hd2 : olb.IsDictOf (intKind Challenge.rw_tk0118_01.row.prog w) []) (lo2 : (lc == sysModules) = false) (hi2 : IntsAre vs2 (List.replicate ks.length (-1)))
    (hks : KBw.bInts text = ks) (h3 : 3 ≤ (ks.length : Int)) (h18 : (ks.length : Int) ≤ 18) (hz1 : 1 ≤ size) (hz2 : size ≤ 3) (hw1 : 1 ≤ window) (hw2 : window ≤ 30) (hc1 : 1 ≤ chain) (hc2 : chain ≤ 30) (hs0 : 0 ≤ st) (hs1 : st < 2 ^ 31)
    (hE : PassesOwn (model Challenge.rw_tk0118_01.row.prog w) (callerA.deeper (envOf qual scope L fa cd)) (envOf qual scope L fa cd) E)
    (ret : ∀ m' h' tk', Fr h₀ L h' m' → Q (.ret (.bool true)) { s with heap := h', toks := tk' }) :
    wpAny (model Challenge.rw_tk0118_01.row.prog w) (callerA.deeper (envOf qual scope L fa cd)) (execs (body.drop 7) (envOf qual scope L fa cd)) Q E s := by
  revert X ho; k_fill; intro ho X
  cases ho
  dsimp only [List.drop]
  have N1 : News h₀ L s.heap [(bx, boxObj d t st u nn), (th, listOf #[] ncn), (f, instObj 226 fx), (fx, finD text size window chain 0 r b1 b2 b3 b4 b5 b6 x1 x2 x3 x4 x5 x6 u1 u2 u3 u4 u5 6), (r, instObj 92 dx), (dx, rowD text size la be a1 a2 a3 a4 t1 t2 t3 t4 t5 t6 4), (la, ola), (be, listOf (List.toArray vs) 0), (q, instObj 92 dy), (dy, rowD text (size + 1) lc bf c1 c2 c3 c4 y1 y2 y3 y4 y5 y6 4), (lc, olb), (bf, listOf (List.toArray vs2) 0), (rw, listOf [Value.ref r, Value.ref q].toArray 0), (sh, listOf [Value.int size tz, Value.int window tw, Value.int chain tcn].toArray 0)] := news_sub N (List.forall_mem_cons.mpr ⟨m0, List.forall_mem_cons.mpr ⟨m1, List.forall_mem_cons.mpr ⟨m2, List.forall_mem_cons.mpr ⟨m3, List.forall_mem_cons.mpr ⟨m4, List.forall_mem_cons.mpr ⟨m5, List.forall_mem_cons.mpr ⟨m6, List.forall_mem_cons.mpr ⟨m7, List.forall_mem_cons.mpr ⟨m8, List.forall_mem_cons.mpr ⟨m9, List.forall_mem_cons.mpr ⟨m10, List.forall_mem_cons.mpr ⟨m11, List.forall_mem_cons.mpr ⟨m12, List.forall_mem_cons.mpr ⟨m13, List.forall_mem_nil _⟩⟩⟩⟩⟩⟩⟩⟩⟩⟩⟩⟩⟩⟩)
  clear N m0 m1 m2 m3 m4 m5 m6 m7 m8 m9 m10 m11 m12 m13
  k_steps
  k_extra "M comp2"
  k_extra "M one"
  k_steps
  k_extra "M cend1l"
  k_extra "M one"
  k_steps
  k_extra "M cend1l"
  k_extra "M none"
  refine Park.mk ?_
  rename Obj.IsDictOf (intKind _ _) _ _ => hdE
  have hrep : ∀ t : Tok, IntsAre (List.replicate ((ks.length : Int)).toNat [Value.int (-1) t]).flatten (List.replicate ks.length (-1)) := fun t => by rw [Int.toNat_natCast]; exact ints_rep _
  refine (rcne_two (News.isList (by k_asm) (by k_mem)) (News.isList (by k_asm) (by k_mem)) (by k_extra "M units")
    (rc_two (News.isList (by k_asm) (by k_mem)) (News.isList (by k_asm) (by k_mem)) (by k_extra "M units") (rc_ints (News.isList (by k_asm) (by k_mem)) hi1 (News.isList (by k_asm) (by k_mem)) (hrep _) (by k_extra "M units")) (rc_kv (by k_asm) (by k_mem) (by k_mem) hd1 hdE lo1 (by assumption) .nil .nil (by k_extra "M units")))
    (rc_two (News.isList (by k_asm) (by k_mem)) (News.isList (by k_asm) (by k_mem)) (by k_extra "M units") (rc_ints (News.isList (by k_asm) (by k_mem)) hi2 (News.isList (by k_asm) (by k_mem)) (hrep _) (by k_extra "M units")) (rc_kv (by k_asm) (by k_mem) (by k_mem) hd2 hdE lo2 (by assumption) .nil .nil (by k_extra "M units"))) : PySem.SeqAt.RcNeAt _ _ _ _ false) _ _ _ _ ?_
  rename News _ _ _ _ => nZ
  have nG := gc9 nZ
  clear nZ hrep hdE
  k_steps
  refine Park.mk ?_
  obtain ⟨S, hS1, hS2⟩ := named2 (LwS w bx th f fx r dx la be q dy lc bf rw sh text ks size window chain a1 a2 a3 a4 b1 b2 b3 b4 b5 b6 c1 c2 c3 c4 t1 t2 t3 t4 t5 t6 x1 x2 x3 x4 x5 x6 u1 u2 u3 u4 y1 y2 y3 y4 y5 y6 tz tw tcn nn)
  have hF0 := lw_F pw
  have hR0 := lw_R pw
  refine turns_range (n := ks.length) rfl (by assumption) (PySem.small_one (by omega) (by omega) (by omega) (by omega)) (by rw [PySem.rangeSize_one]; split <;> omega) (by assumption) (by assumption)
    (fun i m₁ news₁ => (∃ pv sv mv, m₁ = fun y => if y = Str.ofString "most" then mv else if y = Str.ofString "spot" then sv else if y = Str.ofString "place" then pv else lwB rw sh f q th bx sc text size window chain tz tw tcn tx b y) ∧ S (0 + (i : Int)) news₁) ⟨lwJ_start, hS1 _ _ (.mk d st t u u5 [] ncn [] 0 ola olb [] [] [] [] vs vs2 (List.replicate ks.length (-1)) (List.replicate ks.length (-1)) ⟨hs0, hs1⟩ ⟨.nil, There.nil, by omega⟩ ⟨hd1, .nil, hi1, RowInv.start rfl⟩ ⟨hd2, .nil, hi2, RowInv.start rfl⟩)⟩ ?_ ?_
  · rintro i m₁ news₁ h₉ tk₉ I oI ti hi' ⟨⟨pv, sv, mv, rfl⟩, hSi⟩ hI F₉ N₉
    obtain ⟨d₁, st₁, t', u', u5', ws, tn, there, ahead, ola₁, olb₁, kvs, kvs2, M, M2, vs₁, vs₂, bs, bs2, ⟨hs2, hs3⟩, ⟨hth, Th, hah⟩, ⟨hd3, hkv, hi3, I1⟩, ⟨hd4, hkv2, hi4, I2⟩⟩ := hS2 _ _ hSi
    replace F₉ : Fr h₀ L h₉ _ := F₉
    replace N₉ : News h₀ L h₉ _ := N₉
    have hIa : ∀ b ∈ [bx, th, f, fx, r, dx, la, be, q, dy, lc, bf, rw, sh], b ≠ I := fun b hb => by
      simp only [List.mem_cons, List.not_mem_nil, or_false] at hb
      rcases hb with rfl | rfl | rfl | rfl | rfl | rfl | rfl | rfl | rfl | rfl | rfl | rfl | rfl | rfl <;> exact hI (_, _) (by k_mem)
    clear hI hSi hd1 hi1 hd2 hi2
    have hwl : ws.length ≤ 1000 := by have := Th.length (by omega); rw [hth.length]; omega
    have hF : ∀ b ∈ [I, bx, th, f, r, dx, q, dy, lc, bf, rw, sh], b ∉ [fx, la, be] := List.forall_mem_cons.mpr ⟨nin3 (by k_extra "k_ne") (by k_extra "k_ne") (by k_extra "k_ne"), hF0⟩
    have hR : ∀ b ∈ [I, bx, th, f, fx, r, dx, la, be, q, dy, rw, sh], b ∉ [lc, bf] := List.forall_mem_cons.mpr ⟨nin2 (by k_extra "k_ne") (by k_extra "k_ne"), hR0⟩
    k_steps
    refine Park.mk ?_
    refine join_p (h₀ := h₀) (L := L) (P := fun m' led => m' = (fun y => if y = Str.ofString "place" then some (Value.int (0 + (i : Int)) ti) else if y = Str.ofString "most" then mv else if y = Str.ofString "spot" then sv else if y = Str.ofString "place" then pv else lwB rw sh f q th bx sc text size window chain tz tw tcn tx b y) ∧ ∃ led0, led = (I, oI) :: led0 ∧ S (0 + (i : Int) + 1) led0) ?_ ?_
    · k_steps
      · refine Park.mk ?_
        k_dflt (refine putF_J (by k_asm) (by k_asm) (by k_asm) (by k_asm) rfl (by k_extra "M room") (by k_extra "M room") (by k_asm) (by k_mem) (by k_mem) (by k_mem) (by k_mem) (by k_mem) (by k_mem) (by k_mem) (by omega) hks (by omega) (by omega) (by omega) (by omega) hd3 hkv lo1 hi3 hth Th I1 hah (srt_lt pw (by k_extra "M bef")) (srt_lt pw (by k_extra "M bef")) (srt_lt pw (by k_extra "M bef")) (srt_lt pw (by k_extra "M bef")) (srt_lt pw (by k_extra "M bef")) (srt_lt pw (by k_extra "M bef")) ?_)
        intro u9 o' kvs' M' vs' bs' h' tk' F' x' N' hd' hkv' hi5 I3
        rename News _ _ _ (_ :: _ :: _ :: _ :: _) => nZ
        have nG := led_F nZ x' N' hF
        clear nZ x' N'
        k_steps
        refine Park.mk ?_
        k_dflt (refine putR_J (by k_asm) (by k_asm) (by k_asm) (by k_asm) rfl (by k_extra "M room") (by k_extra "M room") (by k_asm) (by k_mem) (by k_mem) (by k_mem) (by k_mem) (by k_mem) (by omega) hks (by omega) (by omega) (by omega) (by omega) hd4 hkv2 lo2 hi4 hth Th I2 (srt_lt pw (by k_extra "M bef")) (srt_lt pw (by k_extra "M bef")) (srt_lt pw (by k_extra "M bef")) (srt_lt pw (by k_extra "M bef")) ?_)
        intro o2' kvs2' M2' vs2' bs2' h' tk' F' x' N' hd6 hkv6 hi6 I4
        have nG2 := led_R nG x' N' hR
        clear nG x' N'
        k_steps
        refine Park.mk ?_
        rename News _ _ _ _ => nE
        simp only [List.push_toArray] at nE
        exact ⟨rfl, _, _, _, _, rfl, by assumption, nE, rfl, _, rfl, hS1 _ _ (.mk _ _ _ _ _ _ _ _ _ _ _ _ _ _ _ _ _ _ _ ⟨by assumption, by assumption⟩ ⟨hth.append (.cons _ _ .nil), Th.snoc (by omega), by omega⟩ ⟨hd', hkv', hi5, I3⟩ ⟨hd6, hkv6, hi6, I4⟩)⟩
      · refine Park.mk ?_
        exact ⟨rfl, _, _, _, _, rfl, by assumption, by assumption, rfl, _, rfl, hS1 _ _ (.mk _ _ _ _ _ _ _ _ _ _ _ _ _ _ _ _ _ _ _ ⟨by assumption, by assumption⟩ ⟨hth, Th.more, by omega⟩ ⟨hd3, hkv, hi3, I1⟩ ⟨hd4, hkv2, hi4, I2⟩)⟩
    · rintro _ _ h₈ tk₈ F₈ N₈ ⟨rfl, led0, rfl, hSj⟩
      obtain ⟨d₂, st₂, t₂, u₂, u5₂, ws₂, tn₂, there₂, ahead₂, ola₂, olb₂, kvs₃, kvs₄, M₃, M₄, vs₃, vs₄, bs₃, bs₄, ⟨hs4, hs5⟩, ⟨hth₂, Th₂, hah₂⟩, ⟨hd5, hkv₂, hi5, I3⟩, ⟨hd6, hkv₃, hi6, I4⟩⟩ := hS2 _ _ hSj
      clear hSj hd3 hkv hi3 I1 hd4 hkv2 hi4 I2 hth Th hah hwl hs2 hs3
      k_steps
      refine Park.mk ?_
      k_dflt (refine' asked_J (f := f) (fx := fx) (r := r) (dx := dx) (la := la) (be := be) (q := q) (dy := dy) (lc := lc) (bf := bf) (rw := rw) (sh := sh) (th := th) (size := size) (window := window) (chain := chain) (a1 := a1) (a2 := a2) (a3 := a3) (a4 := a4) (b1 := b1) (b2 := b2) (b3 := b3) (b4 := b4) (b5 := b5) (b6 := b6) (c1 := c1) (c2 := c2) (c3 := c3) (c4 := c4) (t1 := t1) (t2 := t2) (t3 := t3) (t4 := t4) (t5 := t5) (t6 := t6) (x1 := x1) (x2 := x2) (x3 := x3) (x4 := x4) (x5 := x5) (x6 := x6) (u1 := u1) (u2 := u2) (u3 := u3) (u4 := u4) (y1 := y1) (y2 := y2) (y3 := y3) (y4 := y4) (y5 := y5) (y6 := y6) (text := text) (ks := ks) (u5 := u5₂) (ahead := ahead₂) (ola := ola₂) (olb := olb₂) (vs := vs₃) (vs2 := vs₄) (ws := ws₂) (nt := tn₂) (n := 4) (nf := 6) (nb := 0) (n2 := 4) (nb2 := 0) (nr := 0) (ns := 0) (z1 := tz) (z2 := tw) (z3 := tcn) (place := 0 + (i : Int) + 1) ?k1 ?k2 ?k3 ?k4 rfl ?k6 ?k7 ?k8 ?hs ?h1 hks ?h2 ?j1 ?j2 ?j3 ?j4 ?j5 hd5 hkv₂ lo1 hi5 I3 hd6 hkv₃ lo2 hi6 I4 hth₂ Th₂ ?j6 ?j7 ?j8 ?j9 ?hm0 ?hm1 ?ret; (case k1 => k_asm); (case k2 => k_asm); (case k3 => k_asm); (case k4 => k_asm); (case k6 => k_extra "M room"); (case k7 => k_extra "M room"); (case k8 => k_asm); (case hs => exact sub_asked); (case h1 => (split <;> omega)); (case h2 => (split <;> omega)); (case j1 => omega); (case j2 => omega); (case j3 => omega); (case j4 => omega); (case j5 => omega); (case j6 => omega); (case j7 => omega); (case j8 => omega); (case j9 => omega); (case hm0 => exact (menu2 (lo := 0) (hi := 30) (by assumption) (by assumption) (by omega) (by omega) (by omega) (by omega)).1); (case hm1 => exact Int.le_trans (menu2 (lo := 0) (hi := 30) (by assumption) (by assumption) (by omega) (by omega) (by omega) (by omega)).2 (by omega)))
      intro h' tk' F' N'
      k_steps
      refine Park.mk ?_
      rename News _ _ _ _ => nE
      rename Fr _ _ _ _ => fE
      refine loop_close fE nE ?ha ⟨lw_map (fun y e1 e2 e3 => by simp only [if_neg e1, if_neg e2, if_neg e3]), ?hx⟩
      case hx =>
        rw [show (0 : Int) + ((i + 1 : Nat) : Int) = 0 + (i : Int) + 1 by omega]
        exact hS1 _ _ (.mk _ _ _ _ _ _ _ _ _ _ _ _ _ _ _ _ _ _ _ ⟨by assumption, by assumption⟩ ⟨hth₂, Th₂, hah₂⟩ ⟨hd5, hkv₂, hi5, I3⟩ ⟨hd6, hkv₃, hi6, I4⟩)
      case ha =>
        intro p hp
        simp only [List.mem_cons, List.not_mem_nil, or_false] at hp
        rcases hp with rfl | rfl | rfl | rfl | rfl | rfl | rfl | rfl | rfl | rfl | rfl | rfl | rfl | rfl <;> exact hIa _ (by simp)
  · rintro h' tk m' news' F₇ N₇ ⟨⟨pv, sv, mv, rfl⟩, hSj⟩
    replace F₇ : Fr h₀ L h' _ := F₇
    dsimp only
    k_steps
    exact ret _ _ _ (by assumption)
theorem off_20_1 : True := by
  k_with "off_20_1" => skip
  trivial
end
theorem bb_look : typeLookup (.type "bytes") "__bytes__" = pure (some (.builtin "bytes.__bytes__")) := by rw [typeLookup_type, builtinLookup_eq_fast]; kernel_rfl
section
variable {prog : Program} {w : World} {A : Around} {E : Value → Shared → Prop} {s : Shared} {b : Array UInt8} {t : Tok} {Q : Value → Shared → Prop}
theorem bb_new (hQ : Q (.bytes b t) s) : codeAny (model prog w) A (.call (.builtin "bytes.__new__") ⟨[.type "bytes", .bytes b t], []⟩) (wants Q E) s := by
  refine codeAny_of_tree ?_
  show wpAny _ A.in1 (do checkBuiltinCall "bytes.__new__" ⟨[.type "bytes", .bytes b t], []⟩; again (.builtin "bytes.__new__" ⟨[.type "bytes", .bytes b t], []⟩)) _ _ s
  refine wpAny_bind (wpAny_of_eq (F.bm_newCall _) (wpAny_pure ⟨plainId_quiet F.bm_plain _, codeAny_builtin F.bm_entry ?_⟩))
  rw [Around.under_plainId F.bm_plain _]
  unfold Builtin.«bytes.__new__»
  refine wpAny_bind (wpAny_of_eq (a := true) rfl ?_)
  refine bm_if_false rfl ?_
  refine wpAny_bind (wpAny_of_eq F.bm_sub ?_)
  refine bm_if_false rfl ?_
  refine wpAny_bind (wpAny_of_eq (F.bm_bind _) ?_)
  refine wpAny_bind (wpAny_of_eq (a := ()) rfl ?_)
  refine wpAny_bind (wpAny_of_eq (a := ()) rfl ?_)
  refine bm_if_false rfl ?_
  refine wpAny_bind (wpAny_of_eq (KBy.special_eq bb_look) ?_)
  refine wpAny_bind (wpAny_rule ?_)
  refine wpAny_bind (wpAny_of_eq (a := .type "bytes") rfl ?_)
  refine bm_if_true (by decide) ?_
  show wpAny _ _ (if (Value.type "bytes" == Value.type "bytes") = true then _ else _) _ _ _
  refine bm_if_true (by decide) ?_
  first
    | exact wpAny_pure hQ
    | exact wpAny_bind (wpAny_pure (wpAny_pure hQ))
theorem call_bb (hQ : Q (.bytes b t) s) : wpAny (model prog w) A (call (.type "bytes") [.bytes b t]) Q E s := by
  refine callType_codes (Q₁ := fun obj s₁ => s₁.TypeIs obj "bytes" ∧ Q obj s₁) F.bm_called (F.bm_typeCall _) F.entry_object_init
    (bb_new ⟨PySem.W.typeIs_bytes _ _ _, hQ⟩) fun obj s₁ h₁ => ?_
  exact ⟨h₁.1, F.args_object_init_2 obj _, object_init_meets F.bm_called.init.lookup F.bm_called.made (by decide) prog w A.in1 _ s₁ ⟨h₁.1, rfl, h₁.2⟩⟩
end
theorem loc_21_1 : True := by
  k_with "call type:bytes" => (k_here; (with_reducible show wpAny _ _ (call (Value.type "bytes") [Value.bytes _ _]) _ _ _); refine call_bb ?_)
  trivial
section
variable {w : World} {p : Program} {loose : List Str} {mean : ExcName → Option Value} {mg mb : Str → Option Value} {h₀ : Heap} {L fa : Addr} {cd : Value} {s : Shared} {Q : Flow → Shared → Prop} {E : Value → Shared → Prop}
variable {name qual : Str} {params : Arguments} {body : List Stmt} {scope : Scope} {dV kV doc pm cdv ct oc : Value} {an od : Option Addr} {osl : Array (Option Value)}
variable {sc bx th : Addr} {b : Bool} {text : Array UInt8} {ks : List Int} {size window chain d st : Int} {tx tz tw tcn t u : Tok} {nn ncn : Nat}
theorem loc_21_3 : True := by
  k_with "execs cons" => ((fail_if_success (k_extra "off_21_2")); (k_here; (with_reducible show wpAny _ _ (execs (Stmt.If (Expr.Compare _ _ _ _) [Stmt.Return _ _] _ _ :: _) _) _ _ _); refine Park.h ?_))
  trivial
theorem law_c {stmts : List Stmt} (hb : stmts = body.drop 5) (ho : (hd.heap_1 w.params).lookup 281 = some ⟨oc, od, .func (fnOf name qual params body scope dV kV doc pm an cdv ct), osl⟩)
    (B : Below callerA h₀ [] h₀) (X : (hd.heap_1 w.params).In h₀) (T : Top p loose mean mg mb h₀)
    (F : Fr h₀ L s.heap (fun y => if y = Str.ofString "chain" then some (Value.int chain tcn) else if y = Str.ofString "there" then some (Value.ref th) else if y = Str.ofString "size" then some (Value.int size tz) else if y = Str.ofString "window" then some (Value.int window tw) else if y = Str.ofString "text" then some (Value.bytes text tx) else if y = Str.ofString "small" then some (Value.bool b) else if y = Str.ofString "box" then some (Value.ref bx) else if y = Str.ofString "script" then some (Value.ref sc) else none))
    (N : News h₀ L s.heap [(th, listOf #[] ncn), (bx, boxObj d t st u nn)]) (hks : KBw.bInts text = ks) (h3 : 3 ≤ (ks.length : Int)) (h18 : (ks.length : Int) ≤ 18) (hz1 : 1 ≤ size) (hz2 : size ≤ 3) (hw1 : 1 ≤ window) (hw2 : window ≤ 30) (hc1 : 1 ≤ chain) (hc2 : chain ≤ 30) (hs0 : 0 ≤ st) (hs1 : st < 2 ^ 31) (hbt : @LT.lt Nat _ bx th)
    (hE : PassesOwn (model Challenge.rw_tk0118_01.row.prog w) (callerA.deeper (envOf qual scope L fa cd)) (envOf qual scope L fa cd) E)
    (ret : ∀ m' h' tk', Fr h₀ L h' m' → Q (.ret (.bool true)) { s with heap := h', toks := tk' }) :
    wpAny (model Challenge.rw_tk0118_01.row.prog w) (callerA.deeper (envOf qual scope L fa cd)) (execs stmts (envOf qual scope L fa cd)) Q E s := by
  subst hb
  revert X ho; k_fill; intro ho X
  have ho2 := ho
  cases ho
  dsimp only [List.drop]
  k_steps
  refine Park.mk ?_
  have hrep : ∀ t : Tok, IntsAre (List.replicate ((ks.length : Int)).toNat [Value.int (-1) t]).flatten (List.replicate ks.length (-1)) := fun t => by rw [Int.toNat_natCast]; exact ints_rep _
  rename News _ _ _ _ => nZ
  rename Fr _ _ _ _ => fZ
  k_dflt (refine' law_d ho2 B X T fZ nZ ?m0 ?m1 ?m2 ?m3 ?m4 ?m5 ?m6 ?m7 ?m8 ?m9 ?m10 ?m11 ?m12 ?m13 ?pw ?hd1 ?lo1 ?hi1 ?hd2 ?lo2 ?hi2 hks h3 h18 hz1 hz2 hw1 hw2 hc1 hc2 hs0 hs1 hE ?ret; (case m0 => k_mem); (case m1 => k_mem); (case m12 => k_mem); (case m13 => k_mem); (case m2 => k_mem); (case m3 => k_mem); (case m4 => k_mem); (case m5 => k_mem); (case m6 => k_mem); (case m7 => k_mem); (case m8 => k_mem); (case m9 => k_mem); (case m10 => k_mem); (case m11 => k_mem); (case pw => exact srt_cons hbt (srt_cons (by k_extra "M lt") (srt_cons (by k_extra "M lt") (srt_cons (by k_extra "M lt") (srt_cons (by k_extra "M lt") (srt_cons (by k_extra "M lt") (srt_cons (by k_extra "M lt") (srt_cons (by k_extra "M lt") (srt_cons (by k_extra "M lt") (srt_cons (by k_extra "M lt") (srt_cons (by k_extra "M lt") (srt_cons (by k_extra "M lt") (srt_cons (by k_extra "M lt") srt_one))))))))))))); (case hd1 => assumption); (case lo1 => assumption); (case hi1 => exact hrep _); (case hd2 => assumption); (case lo2 => assumption); (case hi2 => exact hrep _); (case ret => exact fun m' h' tk' f' => ret m' h' tk' f'))
theorem off_21_2 : True := by
  k_with "off_21_2" => skip
  trivial
end
def JoinV (h₀ : Heap) (L : Addr) (m : Str → Option Value) (P : Value → List (Addr × Obj) → Prop) (x : Str) (s : Shared) (f : Flow) (s' : Shared) : Prop :=
  f = .next ∧ ∃ v led h' tk, s' = { s with heap := h', toks := tk } ∧ Fr h₀ L h' (fun y => if y = x then some v else m y) ∧ News h₀ L h' led ∧ P v led
def JoinW (h₀ : Heap) (L : Addr) (m : Str → Option Value) (P : Value → Value → List (Addr × Obj) → Prop) (x z : Str) (s : Shared) (f : Flow) (s' : Shared) : Prop :=
  f = .next ∧ ∃ v1 v2 led h' tk, s' = { s with heap := h', toks := tk } ∧ Fr h₀ L h' (fun y => if y = x then some v1 else if y = z then some v2 else m y) ∧ News h₀ L h' led ∧ P v1 v2 led
section
variable {M : Model} {A : Around} {t : Sem Flow} {E : Value → Shared → Prop} {Q : Flow → Shared → Prop} {s : Shared} {h₀ : Heap} {L : Addr} {m : Str → Option Value}
theorem join_v {P : Value → List (Addr × Obj) → Prop} {x : Str} (_ : Fr h₀ L s.heap m) (h : wpAny M A t (JoinV h₀ L m P x s) E s)
    (k : ∀ v led h' tk, Fr h₀ L h' (fun y => if y = x then some v else m y) → News h₀ L h' led → P v led → Q .next { s with heap := h', toks := tk }) : wpAny M A t Q E s :=
  wpAny_mono h (fun f s' z => by obtain ⟨rfl, v, led, h', tk, rfl, F', N', p⟩ := z; exact k v led h' tk F' N' p) fun _ _ z => z
theorem join_w {P : Value → Value → List (Addr × Obj) → Prop} {x z : Str} (_ : Fr h₀ L s.heap m) (h : wpAny M A t (JoinW h₀ L m P x z s) E s)
    (k : ∀ v1 v2 led h' tk, Fr h₀ L h' (fun y => if y = x then some v1 else if y = z then some v2 else m y) → News h₀ L h' led → P v1 v2 led → Q .next { s with heap := h', toks := tk }) : wpAny M A t Q E s :=
  wpAny_mono h (fun f s' z => by obtain ⟨rfl, v1, v2, led, h', tk, rfl, F', N', p⟩ := z; exact k v1 v2 led h' tk F' N' p) fun _ _ z => z
theorem join_box {sc box : Addr} {d st : Int} {u1 u2 : Tok} {n : Nat} {rest : List (Addr × Obj)} (F : Fr h₀ L s.heap m) (N : News h₀ L s.heap ((box, boxObj d u1 st u2 n) :: rest))
    (hm : ∀ y, m y = if y = Str.ofString "box" then some (.ref box) else if y = Str.ofString "script" then some (.ref sc) else none) (h0 : 0 ≤ st) (h1 : st < 2 ^ 31)
    (h : wpAny M A t (JoinV h₀ L m (fun v led => ∃ b, v = .bool b ∧ led = (box, boxObj d u1 st u2 n) :: rest) (Str.ofString "small") s) E s)
    (k : ∀ sc bx dd tt ss uu nn b h' tk, 0 ≤ ss → ss < 2 ^ 31 → Fr h₀ L h' (fun y => if y = Str.ofString "small" then some (.bool b) else if y = Str.ofString "box" then some (.ref bx) else if y = Str.ofString "script" then some (.ref sc) else none) →
      News h₀ L h' [(bx, boxObj dd tt ss uu nn)] → Q .next { s with heap := h', toks := tk }) : wpAny M A t Q E s := by
  refine join_v F h fun v led h' tk F' N' p => ?_
  obtain ⟨b, rfl, rfl⟩ := p
  obtain rfl : m = _ := funext hm
  exact k sc box d u1 st u2 n b h' tk h0 h1 F' (news_sub N' fun p hp => by rw [List.mem_singleton.mp hp]; exact .head _)
end
theorem loc_22_1 : True := by
  k_with "exec Assign" => (k_here; (with_reducible show wpAny _ _ (exec (Stmt.Assign [Expr.Name _ _] (Expr.BoolOp _ _ _) _) _) _ _ _); (fail_if_success (goal_has Mine.JoinV)); refine Park.h ?_)
  k_with "exec Assign" => (k_here; (with_reducible show wpAny _ _ (exec (Stmt.Assign [Expr.Name _ _] (Expr.Call (Expr.Name (Str.ofString "_law_text") _) _ _ _) _) _) _ _ _); (fail_if_success (goal_has Mine.JoinV)); refine Park.h ?_)
  k_with "exec Assign" => (k_here; (with_reducible show wpAny _ _ (exec (Stmt.Assign [Expr.Tuple [Expr.Name (Str.ofString "size") _, _] _ _] _ _) _) _ _ _); (fail_if_success (goal_has Mine.JoinW)); refine Park.h ?_)
  k_with "exec Assign" => (k_here; (with_reducible show wpAny _ _ (exec (Stmt.Assign [Expr.Tuple [Expr.Name (Str.ofString "chain") _, _] _ _] _ _) _) _ _ _); (fail_if_success (goal_has Mine.JoinW)); refine Park.h ?_)
  k_with "execs cons" => (k_here; (with_reducible show wpAny _ _ (execs (Stmt.Assign [Expr.Tuple [Expr.Name (Str.ofString "finder") _, _] _ _] _ _ :: _) _) _ _ _); refine Park.h ?_)
  k_with "JoinV" => refine Park.h ?_
  k_with "JoinW" => refine Park.h ?_
  k_with "exec If" => (k_here; (with_reducible show wpAny _ _ (exec (Stmt.If (Expr.Compare _ _ _ _) [Stmt.Return _ _] _ _) _) _ _ _); refine Park.h ?_)
  trivial
theorem main : PySem.Challenge.rw_tk0118_01.Holds := hd (by
  k_go0
  (all_goals try k_fold)
  k_with "pyIter ref" => ((fail_if_success (k_extra "off_w22")); k_state (fun pre d st => 0 ≤ d ∧ 1 ≤ st ∧ st < 2147483648) "digits" "state")
  k_steps
  k_with "off_w22" => skip
  refine Park.mk ?_
  refine' join_box (by k_asm) (by k_asm) ?hm ?h0 ?h1 ?hh ?hk
  case hm =>
    intro y
    by_cases e1 : y = Str.ofString "box"
    · rw [if_pos e1, if_pos e1]
    · rw [if_neg e1, if_neg e1]
      by_cases e2 : y = Str.ofString "script"
      · subst e2; rfl
      · rw [if_neg e2]
        have b1 : (y == Str.ofString "script") = false := by simpa using e2
        simp only [List.reverse_cons, List.reverse_nil, List.nil_append, List.lookup, b1]
  case h0 => omega
  case h1 => omega
  case hh =>
    k_steps
    all_goals (refine Park.mk ?_; exact ⟨rfl, _, _, _, _, rfl, by assumption, by assumption, _, rfl, rfl⟩)
  intro sc bx dd tt ss uu nn b h' tk hs0 hs1 F₁ N₁
  k_steps
  refine Park.mk ?_
  replace F₁ : Fr _ _ _ _ := F₁
  refine join_v (P := fun v led => ∃ text t d u1 st u2, v = .bytes text t ∧ led = [(bx, boxObj d u1 st u2 nn)] ∧ (3 ≤ ((KBw.bInts text).length : Int) ∧ ((KBw.bInts text).length : Int) ≤ 18 ∧ 0 ≤ st ∧ st < 2 ^ 31)) (x := Str.ofString "text") F₁ ?_ ?_
  · k_steps
    all_goals (refine Park.mk ?_; exact ⟨rfl, _, _, _, _, rfl, by assumption, by assumption, _, _, _, _, _, _, rfl, rfl, by omega, by omega, by omega, by omega⟩)
  rintro _ _ h₂ tk₂ F₂ N₂ ⟨text, tx, d₂, ta, st₂, tb, rfl, rfl, hl3, hl18, hst0, hst1⟩
  k_steps
  refine Park.mk ?_
  refine join_w (P := fun v1 v2 led => ∃ size window tz tw d u1 st u2, v1 = .int size tz ∧ v2 = .int window tw ∧ led = [(bx, boxObj d u1 st u2 nn)] ∧ (1 ≤ size ∧ size ≤ 3 ∧ 1 ≤ window ∧ window ≤ 30 ∧ 0 ≤ st ∧ st < 2 ^ 31)) (x := Str.ofString "size") (z := Str.ofString "window") F₂ ?_ ?_
  · k_steps
    all_goals (refine Park.mk ?_; exact ⟨rfl, _, _, _, _, _, rfl, by assumption, news_sub (by assumption) (fun p hp => by rw [List.mem_singleton.mp hp]; k_mem), _, _, _, _, _, _, _, _, rfl, rfl, rfl, by omega, by omega, (menu2 (lo := 1) (hi := 30) (by assumption) (by assumption) (by omega) (by omega) (by omega) (by omega)).1, (menu2 (lo := 1) (hi := 30) (by assumption) (by assumption) (by omega) (by omega) (by omega) (by omega)).2, by assumption, by assumption⟩)
  rintro _ _ _ h₃ tk₃ F₃ N₃ ⟨size, window, tz, tw, d₃, tc, st₃, te, rfl, rfl, rfl, hz1, hz2, hw1, hw2, hst2, hst3⟩
  k_steps
  refine Park.mk ?_
  refine join_w (P := fun v1 v2 led => ∃ chain tz th cn d u1 st u2, v1 = .int chain tz ∧ v2 = .ref th ∧ led = [(th, listOf #[] cn), (bx, boxObj d u1 st u2 nn)] ∧ (1 ≤ chain ∧ chain ≤ 30 ∧ 0 ≤ st ∧ st < 2 ^ 31) ∧ bx < th) (x := Str.ofString "chain") (z := Str.ofString "there") F₃ ?_ ?_
  · k_steps
    all_goals (refine Park.mk ?_; exact ⟨rfl, _, _, _, _, _, rfl, by assumption, news_sub (by assumption) (sub_two (by k_mem) (by k_mem)), _, _, _, _, _, _, _, _, rfl, rfl, rfl, ⟨(menu2 (lo := 1) (hi := 30) (by assumption) (by assumption) (by omega) (by omega) (by omega) (by omega)).1, (menu2 (lo := 1) (hi := 30) (by assumption) (by assumption) (by omega) (by omega) (by omega) (by omega)).2, by assumption, by assumption⟩, by k_extra "M lt"⟩)
  rintro _ _ _ h₄ tk₄ F₄ N₄ ⟨chain, tcn, th, ncn, d₄, tf, st₄, tg, rfl, rfl, rfl, ⟨hc1, hc2, hst4, hst5⟩, hbt⟩
  k_steps
  refine Park.mk ?_
  k_dflt (refine' law_c (text := text) (sc := sc) (bx := bx) (th := th) ?hb ?ho ?k1 ?k2 ?k3 ?k4 N₄ rfl hl3 hl18 hz1 hz2 hw1 hw2 hc1 hc2 hst4 hst5 hbt ?hE ?ret; (case k4 => exact F₄); (case ho => k_is); (case hb => exact rfl); (case k1 => k_asm); (case k2 => k_asm); (case k3 => k_asm); (case hE => passes_own))
  intro m' h' tk' F'
  k_steps
  all_goals (try k_data)
  all_goals w_report)
end Mine

theorem PySem.Challenge.cw_tk0118_01_holds : PySem.Challenge.rw_tk0118_01.Holds := by
  exact Mine.main
