import PyProof.Rows.All
import Wide.All
import OpenK.AllK
import Wide.FinOn
import PyProof.ExcInit
import PyProof.ExcClass2
import PyProof.InstStoreFacts
import Lean
import PySem.Challenge.RW_pq1405_01
open PySem PySem.W PyProof.Rows PySem.Calls
set_option Elab.async false
set_option maxRecDepth 100000
set_option maxHeartbeats 8000000
namespace Mine
noncomputable def topRunT (tb : String → Option Builtin) (p : Program) (w : World) (n₀ : Nat) (ann : Option Value) : Nat → SharedT → Thread → Option SharedT
  | 0, _, _ => none
  | n + 1, s, t => match through t with
    | true => some s
    | false => match Fast.tw6613529449190102663 n₀ ann t with
      | false => none
      | true => match Fast.tw10156331382660048174 (Fast.tw11892475500146522536 tb) p w s t with
        | some (s', t') => topRunT tb p w n₀ ann n s' t'
        | none => none
theorem topRunT_spec {tb : String → Option Builtin} {p : Program} {w : World} {n₀ : Nat} {ann : Option Value} : ∀ (n : Nat) (s : SharedT) (t : Thread) (r : SharedT), topRunT tb p w n₀ ann n s t = some r → topRun tb p w n₀ ann n s.abs t = some r.abs
  | 0, _, _, _, h => by cases h
  | n + 1, s, t, r, h => by
    unfold topRunT at h
    rw [← Fast.te6613529449190102663, ← Fast.te10156331382660048174, ← Fast.te11892475500146522536] at h
    unfold topRun
    cases ht : through t with
    | true => rw [ht] at h; cases h; rfl
    | false =>
      rw [ht] at h
      cases hk : stepOk n₀ ann t with
      | false => rw [hk] at h; cases h
      | true =>
        rw [hk] at h
        cases hs : stepT (denote tb) p w s t with
        | none => rw [hs] at h; cases h
        | some x =>
          obtain ⟨s', t'⟩ := x
          rw [hs] at h
          dsimp only at h ⊢
          rw [stepT_spec hs]
          exact topRunT_spec n s' t' r h
def mkT (os : List Obj) : Nat → Nat → Nat → BT
  | 0, _, _ => .nil
  | n + 1, a, b => match os[b]? with
    | some o => .node o (mkT os n (2 * a) (a + b)) (mkT os n (2 * a) (2 * a + b))
    | none => .nil
noncomputable def bootT (p : Params) : BT := mkT (boot_heap p).objs.toList 8 1 0
theorem left_boot {p q : Program} {loose : List Str} {Xt : Shared → Bool} {α : Type} {Yf : Shared → α} {Ya : World → α} {N : Nat} {g0 : Bool} {life : Life} {ann : Option Value}
    (open_ : ∀ w : World, (fencedOpening treeTable p w N).map (fun s => (s.heap, s.gens, s.drawn, s.toks)) = some (boot_heap w.params, Array.mk [], boot_drawn, boot_toks))
    (size : ∀ w : World, ((boot_heap w.params).isNs mainGlobals, (boot_heap w.params).objs.size, (boot_heap w.params).nsMap mainGlobals "__annotations__") = (true, 11, ann))
    (tree : ∀ w : World, absHeap (bootT w.params) 11 life = boot_heap w.params)
    (hA : ∀ (w : World) (os : OsState), (topRunT treeTable p w 11 ann N ⟨bootT w.params, 11, life, Array.mk [], boot_drawn, boot_toks, os⟩ (topStub p)).map (fun s => staticsOk (importedModules p.main.body) (boot_heap w.params) s.abs.heap && namesBound p s.abs.heap && gensDone s.abs && laidKept (boot_heap w.params) s.abs.heap) = some true)
    (hB : ∀ (w : World) (os : OsState), (topRunT treeTable p w 11 ann N ⟨bootT w.params, 11, life, Array.mk [], boot_drawn, boot_toks, os⟩ (topStub p)).map (fun s => openSeen q loose (importedModules p.main.body) Xt g0 s.abs) = some (openGood q loose))
    (hC : ∀ (w : World) (os : OsState), (topRunT treeTable p w 11 ann N ⟨bootT w.params, 11, life, Array.mk [], boot_drawn, boot_toks, os⟩ (topStub p)).map (fun s => Yf s.abs) = some (Ya w)) :
    LeftO p q loose Xt Yf Ya N g0 := fun w => by
  obtain ⟨⟨h', gs, d, k, os⟩, e, e'⟩ := Option.map_eq_some_iff.mp (open_ w)
  obtain ⟨rfl, rfl, rfl, rfl⟩ : h' = boot_heap w.params ∧ gs = Array.mk [] ∧ d = boot_drawn ∧ k = boot_toks := by simpa using e'
  obtain ⟨z1, z2, z3⟩ : _ ∧ _ ∧ _ := by simpa only [Prod.mk.injEq] using size w
  obtain ⟨sT, r, l1⟩ := Option.map_eq_some_iff.mp (hA w os)
  have l2 := hB w os
  rw [r] at l2
  replace l2 : openSeen q loose (importedModules p.main.body) Xt g0 sT.abs = openGood q loose := Option.some.inj l2
  have l3 := hC w os
  rw [r] at l3
  replace l3 : Yf sT.abs = Ya w := Option.some.inj l3
  have r' := topRunT_spec _ _ _ _ r
  have ea : (SharedT.abs ⟨bootT w.params, 11, life, Array.mk [], boot_drawn, boot_toks, os⟩) = ⟨boot_heap w.params, Array.mk [], boot_drawn, boot_toks, os⟩ := by
    unfold SharedT.abs; dsimp only; rw [tree w]
  rw [ea] at r'
  have t : topFrom treeTable p w N ⟨boot_heap w.params, Array.mk [], boot_drawn, boot_toks, os⟩ = some sT.abs := by
    unfold topFrom
    dsimp only
    rw [z1, z2, z3]
    show (topRun treeTable p w 11 ann N ⟨boot_heap w.params, Array.mk [], boot_drawn, boot_toks, os⟩ (topStub p)).bind _ = _
    rw [r']
    show (match (staticsOk (importedModules p.main.body) (boot_heap w.params) sT.abs.heap && namesBound p sT.abs.heap && gensDone sT.abs && laidKept (boot_heap w.params) sT.abs.heap) with | true => some sT.abs | false => none) = _
    rw [l1]
  unfold openEnds
  rw [e]
  show (topFrom treeTable p w N ⟨boot_heap w.params, Array.mk [], boot_drawn, boot_toks, os⟩).map _ = _
  rw [t]
  show some (_, _) = _
  rw [l2, l3]
inductive Cut (P : Prop) : Prop
  | mk : P → Cut P
theorem Cut.out {P : Prop} (h : Cut P) : P := by
  cases h with | mk h => exact h
theorem join4 {A B C W G : Prop} (f : Cut A → Cut B → Cut C → Cut W → G) (h : A ∧ B ∧ C ∧ W) : G := f (.mk h.1) (.mk h.2.1) (.mk h.2.2.1) (.mk h.2.2.2)
/-- the claims that the head leaves for theorems of their own -/
def prem1 {A B C W G : Prop} (_ : A ∧ B ∧ C ∧ W → G) : Prop := A
def prem2 {A B C W G : Prop} (_ : A ∧ B ∧ C ∧ W → G) : Prop := B
def prem3 {A B C W G : Prop} (_ : A ∧ B ∧ C ∧ W → G) : Prop := C
/-- the look at the law, without the twins of its program (the tool's own look makes a proof of n*n lambdas) -/
theorem law_said : OpenLaw.wellSaid PySem.Challenge.rw_pq1405_01 = true := by
  rw [Fast.te9446332074065402090]
  delta Fast.tw9446332074065402090
  (repeat' (first | with_reducible refine look_both ?_ ?_ | delta Fast.tw17960256430627541270 | delta Fast.tw2436336058641802641 | delta Fast.tw12908688711261696721))
  all_goals decide +kernel
section
local macro_rules | `(tactic| o_law) => `(tactic| refine holds_law law_said fun said => ?_)
local macro_rules | `(tactic| first | refine $h:ident $args* | fail $_s:str) => `(tactic| (refine' join4 (fun hA hB hC hW => ?f) ?hall; (case' f => refine $h:ident $args*); (case hl => (refine left_boot (life := {}) (ann := some (Value.ref 6)) (boot_open rfl (by decide +kernel) (fun _ => rfl)) (fun w => by kernel_rfl) (fun w => by kernel_rfl) ?ga ?gb ?gc; (case ga => exact hA.out); (case gb => exact hB.out); (case gc => exact hC.out))); (case hc => exact hW.out); (all_goals skip)))
open_top hd for PySem.Challenge.rw_pq1405_01
end
theorem run1 : prem1 hd := by
  delta prem1
  intro w os
  rewrite [Fast.te14364793385576792824]
  kernel_rfl
theorem run2 : prem2 hd := by
  delta prem2
  intro w os
  rewrite [Fast.te14364793385576792824, Fast.te4187177175401517315]
  kernel_rfl
theorem run3 : prem3 hd := by
  delta prem3
  intro w os
  rewrite [Fast.te14364793385576792824]
  kernel_rfl
theorem join_walk {A B C W G : Prop} (h : A ∧ B ∧ C ∧ W → G) (a : A) (b : B) (c : C) (w : W) : G := h ⟨a, b, c, w⟩
theorem hdW : type_of% (join_walk hd run1 run2 run3) := join_walk hd run1 run2 run3
local macro_rules | `(tactic| walk_at $s:str) => `(tactic| k_extra $(Lean.Syntax.mkStrLit ("m:" ++ s.getString)))
theorem off_Hd : True := by
  w_top off
  k_with_none
  trivial
abbrev Led := List (Addr × Obj)

/-- a call of the def at f with vs, from a ledger, ends in Post of the ledger behind it and of what it hands back -/
def Does (w : World) (mean : ExcName → Option Value) (mg mb : Str → Option Value) (f : Addr) (vs : List Value) (d u : Nat) (news : Led) (Post : Led → Value → Prop) : Prop :=
  ∀ (dp un : Nat) (gd : Option (List Code)) (cn : Str) (cs : Scope) (a : Addr) (ccd : Value) (cl : List (Str × Addr)) (outer : List Env) (A₀ : Around) (base h₀ : Heap) (L : Addr) (m : Str → Option Value) (s : Shared)
    (Q E : Value → Shared → Prop),
    Below A₀ base outer h₀ → Fr h₀ L s.heap m → (hd.heap_1 w.params).In h₀ → News h₀ L s.heap news → Top hd.view_1 (looseW hd.view_1 [Str.ofString "number_text"]) mean mg mb h₀ → cs.kind = .function → dp + d < recursionLimit → un + u < cLine →
    (∀ r h' tk' news', Fr h₀ L h' m → News h₀ L h' news' → Post news' r → Q r { s with heap := h', toks := tk' }) →
    wpAny (model PySem.Challenge.rw_pq1405_01.row.prog w) (ktrTop dp un gd cn cs L a ccd cl outer) (call (.ref f) vs) Q E s

theorem UpdF.upd {d : Addr} {o : Obj} {l : Led} {g : Obj → Led} (h : UpdF d o l g) (o' : Obj) : Upd d o o' l (g o') := by
  induction h with
  | head h => exact .head h
  | tail h _ ih => exact .tail h ih
theorem UpdF.mem {d : Addr} {o : Obj} {l : Led} {g : Obj → Led} (h : UpdF d o l g) : (d, o) ∈ l := by
  induction h with
  | head h => exact .head _
  | tail h _ ih => exact .tail _ ih
theorem UpdF.mem' {d : Addr} {o : Obj} {l : Led} {g : Obj → Led} (h : UpdF d o l g) (o' : Obj) : (d, o') ∈ g o' := by
  induction h with
  | head h => exact .head _
  | tail h _ ih => exact .tail _ ih
theorem UpdF.self {d : Addr} {o : Obj} {l : Led} {g : Obj → Led} (h : UpdF d o l g) : g o = l := by
  induction h with
  | head h => rfl
  | tail h _ ih => show _ :: _ = _; rw [ih]

section
variable {w : World} {mean : ExcName → Option Value} {mg mb : Str → Option Value} {f : Addr} {vs : List Value} {d u : Nat} {news : Led} {Post : Led → Value → Prop}
theorem does_use {dp un : Nat} {gd : Option (List Code)} {cn : Str} {cs : Scope} {a : Addr} {ccd : Value} {cl : List (Str × Addr)} {outer : List Env} {A₀ : Around} {base h₀ : Heap} {L : Addr} {m : Str → Option Value} {s : Shared}
    {Q E : Value → Shared → Prop} (B : Below A₀ base outer h₀) (F : Fr h₀ L s.heap m) (X : (hd.heap_1 w.params).In h₀) (N : News h₀ L s.heap news) (T : Top hd.view_1 (looseW hd.view_1 [Str.ofString "number_text"]) mean mg mb h₀) (hk : cs.kind = .function)
    (C : Does w mean mg mb f vs d u news Post) (hdp : dp + d < recursionLimit) (hun : un + u < cLine)
    (ret : ∀ r h' tk' news', Fr h₀ L h' m → News h₀ L h' news' → Post news' r → Q r { s with heap := h', toks := tk' }) :
    wpAny (model PySem.Challenge.rw_pq1405_01.row.prog w) (ktrTop dp un gd cn cs L a ccd cl outer) (call (.ref f) vs) Q E s :=
  C _ _ _ _ _ _ _ _ _ _ _ _ _ _ _ _ _ B F X N T hk hdp hun ret
end
theorem off1_mem {D : Addr} : ∀ {l : Led}, LCg.Off1 D l → ∀ p ∈ l, p.1 ≠ D
  | [], _, _, h => nomatch h
  | _ :: _, x, p, h => by
    rcases List.mem_cons.mp h with rfl | h
    · exact x.1
    · exact off1_mem x.2 p h
theorem ne_all {news : Led} {c d : Addr} (h : AllLt d news) (hd : @LE.le Nat _ d c) : ∀ p ∈ news, p.1 ≠ c := by
  intro p hp
  have : @LT.lt Nat _ p.1 d := by
    induction news with
    | nil => cases hp
    | cons q r ih =>
      rcases List.mem_cons.mp hp with rfl | hp
      · exact h.1
      · exact ih h.2 hp
  exact Nat.ne_of_lt (Nat.lt_of_lt_of_le this hd)
theorem ne_raw {news : Led} {c d : Addr} (h : ∀ p ∈ news, p.1 < d) (hd : @LE.le Nat _ d c) : ∀ p ∈ news, p.1 ≠ c :=
  fun p hp => Nat.ne_of_lt (Nat.lt_of_lt_of_le (h p hp) hd)
local macro_rules | `(tactic| k_all) => `(tactic| k_extra "m:my all")
theorem reg_Mc_1 : True := by
  k_with "m:my all" => (first | assumption | exact ne_raw (by assumption) (by omega) | exact ne_all (by assumption) (by omega) | exact ne_all (And.right (by assumption)) (by omega) | exact ne_all (And.right (And.right (by assumption))) (by omega) | exact ne_all (And.right (And.right (And.right (by assumption)))) (by omega) | exact ne_all (And.right (And.right (And.right (And.right (by assumption))))) (by omega) | exact ne_all (And.right (And.right (And.right (And.right (And.right (by assumption)))))) (by omega) | exact ne_all (And.right (And.right (And.right (And.right (And.right (And.right (by assumption))))))) (by omega) | exact ne_all (And.right (And.right (And.right (And.right (And.right (And.right (And.right (by assumption)))))))) (by omega) | exact off1_mem (by assumption) | exact off1_mem (And.right (by assumption)) | exact off1_mem (And.right (And.right (by assumption))) | exact off1_mem (And.right (And.right (And.right (by assumption)))) | exact off1_mem (And.right (And.right (And.right (And.right (by assumption))))) | exact off1_mem (And.right (And.right (And.right (And.right (And.right (by assumption)))))) | exact off1_mem (And.right (And.right (And.right (And.right (And.right (And.right (by assumption))))))) | exact off1_mem (And.right (And.right (And.right (And.right (And.right (And.right (And.right (by assumption)))))))))
  trivial
local macro_rules | `(tactic| k_mem) => `(tactic| k_extra "m:my mem")
local macro_rules | `(tactic| is_list) => `(tactic| k_extra "m:my is_list")
local macro_rules | `(tactic| k_upd) => `(tactic| k_extra "m:my upd")
local macro_rules | `(tactic| k_room) => `(tactic| k_extra "m:my room")
local macro_rules | `(tactic| k_units) => `(tactic| k_extra "m:my units")
theorem reg_Mc_2 : True := by
  k_with "m:my mem" => (first | exact List.mem_cons_self | (refine' List.mem_cons_of_mem _ ?_; k_mem) | assumption)
  k_with "m:my is_list" => (exact News.isList (by assumption) (by k_mem))
  k_with "m:my upd" => (exact UpdF.upd (by assumption) _)
  k_with "m:my room" => (ktr_room)
  k_with "m:my units" => (ktr_units)
  k_with "m:my use" => (((case k2 => k_asm); (case k1 => k_asm); (case k3 => k_asm); (case k4 => k_asm); (case k5 => k_asm); (case kK => first | exact rfl | assumption)))
  k_with "m:my rooms" => (((case kd => ktr_room); (case ku => ktr_units)))
  trivial
theorem reg_Mc_3 : True := by
  k_with "m:my enterC" => ((refine' code_defC ?k1 ?k2 ?k3 ?k4 ?k5 ?kA ?kF ?kK ?k6 ?k7 ?k8 ?k9 ?kB ?kD ?_ ?c2 ?c3 ?c4; (case kA => exact rfl); (case kF => exact rfl); (case kK => assumption); (case k1 => k_asm); (case k2 => k_asm); (case k3 => k_asm); (case k4 => k_asm); (case k5 => k_asm); (case k6 => k_is); (case k7 => k_is); (case k8 => ktr_room); (case k9 => exact BindsTo.of_eq rfl); (case kB => exact rfl); (case kD => decide +kernel); (case c2 => exact rfl); (case c3 => exact rfl); (case c4 => exact rfl); k_whole; intro _ _ _ _ _ _ _ N'w Y'w _ _ _ l1'w; (try k_lt l1'w); k_cells Y'w; (try simp only [List.cons_append, List.nil_append] at N'w); (try dsimp only); (try k_fold)))
  k_with "m:my steps" => (repeat' ((fail_if_success (with_reducible show LCg.CompSrc _ _ _ _ _ _ _ _ _ _ _ _ _ _)); (fail_if_success (with_reducible show LCg.CompEnd _ _ _ _ _ _ _ _ _ _ _ _ _ _)); (first | (k_unfold; (try dsimp only)) | (k_end; wrow_close) | walk1 | (dsimp only; walk1) | (leave1; walk_say "STEP leave1"; try dsimp only) | fail "no step")))
  trivial
theorem bead_does (w : World) (mean : ExcName → Option Value) (mg mb : Str → Option Value) (l : Addr) (vs : List Value) (ns : List Int) (n : Nat) (k : Int) (t : Tok) (news : Led) (nw : Obj → Led)
    (hI : IntsAre vs ns) (hn : ns.length ≤ 80) (hk : 0 < k ∧ k ≤ 7) (U : UpdF l (listOf vs.toArray n) news nw) (hm : (l, listOf vs.toArray n) ∈ news) :
    Does w mean mg mb 391 [.ref l, .int k t] 2 20 news (fun news' r => ∃ vs' ns' n' i t', news' = nw (listOf vs'.toArray n') ∧ IntsAre vs' ns' ∧ ns'.length ≤ 80 ∧ r = .int i t' ∧ 0 ≤ i ∧ i < k) := by
  unfold Does; k_fill
  intro dp un gd cn cs a ccd cl outer A₀ base h₀ L m s Q E B F X N T hcs hdp hu hret
  refine wpAny_call ?_
  (k_dflt ktr_enter)
  have hvl := hI.length
  w_strict k_steps
  · refine hret _ _ _ _ (by k_asm) (by k_asm) ⟨_, _, _, _, _, rfl, (by assumption), ?_, rfl, ?_, ?_⟩
    · rw [List.length_dropLast]; omega
    · exact Int.fmod_nonneg_of_pos _ hk.1
    · exact Int.fmod_lt_of_pos _ hk.1
  · exact hret _ _ _ _ (by k_asm) (by k_asm) ⟨_, _, _, _, _, (UpdF.self U).symm, hI, hn, rfl, by omega, by omega⟩
theorem ints_reverse {vs : List Value} {ns : List Int} (h : IntsAre vs ns) : IntsAre vs.reverse ns.reverse := by
  induction h with
  | nil => exact .nil
  | cons n t _ ih =>
    rw [List.reverse_cons, List.reverse_cons]
    exact ih.append (.cons _ _ .nil)
theorem reverse_I {prog : Program} {w : World} {A : Around} {E : Value → Shared → Prop} {s : Shared} {h₀ : Heap} {L D : Addr} {m : Str → Option Value} {news news' : List (Addr × Obj)} {n : Nat} {us : List Value} {l : List Int} {Q : Value → Shared → Prop}
    (F : Fr h₀ L s.heap m) (N : News h₀ L s.heap news) (U : Upd D (listOf us.toArray n) (listOf us.reverse.toArray n) news news') (hi : IntsAre us l) (hz : l.length ≤ 16777216)
    (h : ∀ h', Fr h₀ L h' m → News h₀ L h' news' → IntsAre us.reverse l.reverse → Q .none { s with heap := h' }) : wpAny (model prog w) A (call (.builtin "list.reverse") [.ref D]) Q E s :=
  kl_reverse F N rfl U (by rw [PySem.sizeLine_eq]; show us.length ≤ _; rw [hi.length]; exact hz) fun h' F' N' => h h' F' N' (ints_reverse hi)
theorem reg_Beads_1 : True := by
  k_with "m:call builtin:list.reverse" => ((k_here; (with_reducible show wpAny _ _ (call (Value.builtin _) [Value.ref _]) _ _ _); k_dflt (refine' reverse_I ?F ?N ?U ?i ?z ?_; (case F => k_asm); (case N => k_asm); (case U => k_upd); (case i => assumption); (case z => (rw [List.length_take]; omega))); intro _ _ _ _))
  trivial
theorem beads_does (w : World) (mean : ExcName → Option Value) (mg mb : Str → Option Value) (l : Addr) (vs : List Value) (ns : List Int) (a1 a2 : Addr) (o1 o2 : Obj) 
    (hI : IntsAre vs ns) (hn : ns.length ≤ 63) :
   ∀ (dp un : Nat) (gd : Option (List Code)) (cn : Str) (cs : Scope) (a : Addr) (ccd : Value) (cl : List (Str × Addr)) (outer : List Env) (A₀ : Around) (base h₀ : Heap) (L : Addr) (m : Str → Option Value) (s : Shared)
    (Q E : Value → Shared → Prop),
    Below A₀ base outer h₀ → Fr h₀ L s.heap m → (hd.heap_1 w.params).In h₀ → News h₀ L s.heap [(a1, o1), (a2, o2)] → Top hd.view_1 (looseW hd.view_1 [Str.ofString "number_text"]) mean mg mb h₀ → cs.kind = .function → dp + 2 < recursionLimit → un + 20 < cLine →
    base.IsList l vs.toArray →
    (∀ r h' tk' vs' ns' n', Fr h₀ L h' m → News h₀ L h' [(r, listOf (List.toArray vs') n'), (a1, o1), (a2, o2)] → (∀ p ∈ [(a1, o1), (a2, o2)], p.1 < r) → IntsAre vs' ns' → ns'.length ≤ 80 → Q (.ref r) { s with heap := h', toks := tk' }) →
    wpAny (model PySem.Challenge.rw_pq1405_01.row.prog w) (ktrTop dp un gd cn cs L a ccd cl outer) (call (.ref 384) [.ref l]) Q E s := by
  k_fill
  intro dp un gd cn cs a ccd cl outer A₀ base h₀ L m s Q E B F X N T hcs hdp hu hl hret
  (k_with "pyIter ref" => (k_of "cell" => k_state (fun pre beads => beads.length ≤ 12 * pre.length) "beads"))
  (k_with "pyIter ref" => (k_of "lap" => k_state_given ["beads!"] (fun b₀ pre beads mass => beads.length ≤ b₀.length + pre.length) "beads" "mass"))
  refine wpAny_call ?_
  have hvl := hI.length
  have hb1 := hl.at (B.stays l)
  (k_dflt ktr_enter)
  (rename Below _ _ _ _ => Bn); k_lift Bn
  w_strict k_steps
  refine hret _ _ _ _ _ _ (by k_asm) (cb_drop (by k_asm) (by kcj_all)) ?_ (by assumption) ?_
  · intro p hp
    simp only [List.mem_cons, List.not_mem_nil, or_false] at hp
    rcases hp with rfl | rfl
    · exact ltN (by omega)
    · exact ltN (by omega)
  · rw [List.length_reverse, List.length_take]; omega
theorem off_Beads : True := by
  w_top off
  k_with_none
  k_with "m:my all" => (first | assumption | exact ne_raw (by assumption) (by omega) | exact ne_all (by assumption) (by omega) | exact ne_all (And.right (by assumption)) (by omega) | exact ne_all (And.right (And.right (by assumption))) (by omega) | exact ne_all (And.right (And.right (And.right (by assumption)))) (by omega) | exact ne_all (And.right (And.right (And.right (And.right (by assumption))))) (by omega) | exact ne_all (And.right (And.right (And.right (And.right (And.right (by assumption)))))) (by omega) | exact ne_all (And.right (And.right (And.right (And.right (And.right (And.right (by assumption))))))) (by omega) | exact ne_all (And.right (And.right (And.right (And.right (And.right (And.right (And.right (by assumption)))))))) (by omega) | exact off1_mem (by assumption) | exact off1_mem (And.right (by assumption)) | exact off1_mem (And.right (And.right (by assumption))) | exact off1_mem (And.right (And.right (And.right (by assumption)))) | exact off1_mem (And.right (And.right (And.right (And.right (by assumption))))) | exact off1_mem (And.right (And.right (And.right (And.right (And.right (by assumption)))))) | exact off1_mem (And.right (And.right (And.right (And.right (And.right (And.right (by assumption))))))) | exact off1_mem (And.right (And.right (And.right (And.right (And.right (And.right (And.right (by assumption)))))))))
  k_with "m:my mem" => (first | exact List.mem_cons_self | (refine' List.mem_cons_of_mem _ ?_; k_mem) | assumption)
  k_with "m:my is_list" => (exact News.isList (by assumption) (by k_mem))
  k_with "m:my upd" => (exact UpdF.upd (by assumption) _)
  k_with "m:my room" => (ktr_room)
  k_with "m:my units" => (ktr_units)
  k_with "m:my use" => (((case k2 => k_asm); (case k1 => k_asm); (case k3 => k_asm); (case k4 => k_asm); (case k5 => k_asm); (case kK => first | exact rfl | assumption)))
  k_with "m:my rooms" => (((case kd => ktr_room); (case ku => ktr_units)))
  k_with "m:my enterC" => ((refine' code_defC ?k1 ?k2 ?k3 ?k4 ?k5 ?kA ?kF ?kK ?k6 ?k7 ?k8 ?k9 ?kB ?kD ?_ ?c2 ?c3 ?c4; (case kA => exact rfl); (case kF => exact rfl); (case kK => assumption); (case k1 => k_asm); (case k2 => k_asm); (case k3 => k_asm); (case k4 => k_asm); (case k5 => k_asm); (case k6 => k_is); (case k7 => k_is); (case k8 => ktr_room); (case k9 => exact BindsTo.of_eq rfl); (case kB => exact rfl); (case kD => decide +kernel); (case c2 => exact rfl); (case c3 => exact rfl); (case c4 => exact rfl); k_whole; intro _ _ _ _ _ _ _ N'w Y'w _ _ _ l1'w; (try k_lt l1'w); k_cells Y'w; (try simp only [List.cons_append, List.nil_append] at N'w); (try dsimp only); (try k_fold)))
  k_with "m:my steps" => (repeat' ((fail_if_success (with_reducible show LCg.CompSrc _ _ _ _ _ _ _ _ _ _ _ _ _ _)); (fail_if_success (with_reducible show LCg.CompEnd _ _ _ _ _ _ _ _ _ _ _ _ _ _)); (first | (k_unfold; (try dsimp only)) | (k_end; wrow_close) | walk1 | (dsimp only; walk1) | (leave1; walk_say "STEP leave1"; try dsimp only) | fail "no step")))
  trivial
section
variable {prog : Program} {w : World} {A : Around} {E : Value → Shared → Prop} {h : Heap} {g : Array GenState} {d : Drawn} {t : Nat} {os : OsState} {K : Frag}
variable {nm q : Str} {C N : Addr} {bs bm bmB : List Value} {hdct : Bool} {sn : List Str} {sub : List Value} {ab : Bool} {col : Option Bool} {dd : Option Addr} {k0 k1 k2 k3 k5 : Option Value} {B newId initId : String}

theorem type_call_init (F : ExcBaseFacts B newId initId bmB) (T : OwnTail h bmB bm) (X : K.In h) {rest : List Value} {fI : Addr} {oI : Obj} {Q : Fin → Shared → Prop}
    (hC : h.get? C = some (excClassObj nm q C N bs bm hdct sn sub ab col dd k0 k1 k2 k3 k5 newId)) (hi : findIn K (.ref C) "__init__" = some (some (.ref fI)))
    (hfI : h.get? fI = some oI) (hfc : oI.cls = .type "function")
    (hq : ∀ h' e, Heap.MadeExcOf h h' e (.ref C) rest →
      wpAny (model prog w) A (call (.ref fI) (.ref e :: rest)) (fun r s' => r = .none ∧ Q (.done (.ret (.ref e))) s') E ⟨h', g, d, t, os⟩) (hrest : rest.length ≤ sizeLine := by size_fits) :
    wpAny (model prog w) A (Builtin.«type.__call__» ⟨.ref C :: rest, []⟩) Q E ⟨h, g, d, t, os⟩ := by
  repeat (first | with_reducible refine wpAny_loadPart_at hC ?_ | with_reducible refine wpAny_madeBy_exc hC ?_ | wp_step)
  refine codeAny_call_builtin_code (Code.quiet_builtin _ F.quiet) (wpAny_check_new_subT F T hC ?_)
  refine codeAny_exc_new_subT F T hC ?_ hrest
  show wpAny _ _ _ _ _ _
  have up : ∀ b o, h.get? b = some o → ((h.push { cls := .type "tuple", data := .seq rest.toArray }).push { cls := .ref C, data := .fields #[.ref h.objs.size, .none, .none, .none, .bool false, .none] }).get? b = some o :=
    fun b o e => Heap.get?_push_of_some _ (Heap.get?_push_of_some _ e)
  have hC₁ := up _ _ hC
  have hfI₁ := up _ _ hfI
  have X₁ : K.In ((h.push { cls := .type "tuple", data := .seq rest.toArray }).push { cls := .ref C, data := .fields #[.ref h.objs.size, .none, .none, .none, .bool false, .none] }) := X.keeps up
  have hget : ((h.push { cls := .type "tuple", data := .seq rest.toArray }).push
      { cls := .ref C, data := .fields #[.ref h.objs.size, .none, .none, .none, .bool false, .none] }).get? (h.objs.size + 1) = some
      { cls := .ref C, data := .fields #[.ref h.objs.size, .none, .none, .none, .bool false, .none] } := by heap_get
  have hcC : (Value.ref C :: bm).contains (.ref C) = true := by simp
  unfold isInstance
  repeat (first | with_reducible refine wpAny_loadPart_at hget ?_ | (with_reducible refine wpAny_isSubtype_exc hC₁ ?_; rw [hcC]) | wp_step)
  show wpAny _ _ (typeLookup (.ref C) _) _ _ _
  refine (looks_findIn X₁ hi).here ?_
  refine wpAny_holding (wpAny_bind ?_)
  unfold bindSpecial
  refine wpAny_bind (wpAny_typeOf (T := "function") ⟨_, hfI₁, hfc⟩ ?_)
  rw [if_pos (by decide)]
  refine wpAny_pure (wpAny_bind (wpAny_mono (hq _ (h.objs.size + 1) ⟨up, Heap.get?_none_of_le (Nat.le_succ _), h.objs.size, hget, Heap.get?_none_of_le (Nat.le_refl _), ?_⟩) (fun r s' hr => ?_) fun _ _ x => x))
  · exact Heap.get?_push_of_some _ (Heap.get?_push_at rfl rfl)
  · obtain ⟨rfl, hQ⟩ := hr
    wp_walk
    exact hQ

theorem call_init (F : ExcBaseFacts B newId initId bmB) (T : OwnTail h bmB bm) (X : K.In h) {rest : List Value} {fI : Addr} {oI : Obj} {Q : Value → Shared → Prop}
    (hC : h.get? C = some (excClassObj nm q C N bs bm hdct sn sub ab col dd k0 k1 k2 k3 k5 newId)) (hi : findIn K (.ref C) "__init__" = some (some (.ref fI)))
    (hfI : h.get? fI = some oI) (hfc : oI.cls = .type "function")
    (hq : ∀ h' e, Heap.MadeExcOf h h' e (.ref C) rest →
      wpAny (model prog w) (A.under (.builtin "type.__call__" ⟨.ref C :: rest, []⟩)) (call (.ref fI) (.ref e :: rest)) (fun r s' => r = .none ∧ Q (.ref e) s') E ⟨h', g, d, t, os⟩) (hrest : rest.length ≤ sizeLine := by size_fits) :
    wpAny (model prog w) A (call (.ref C) rest) Q E ⟨h, g, d, t, os⟩ := by
  have f1 := tc_lookup
  have f2 := tc_bind (.ref C)
  have hT : (⟨h, g, d, t, os⟩ : Shared).TypeIs (.ref C) "type" := ⟨_, hC, rfl⟩
  refine wpAny_call (codeAny_of_tree ?_)
  show wpAny _ _ (callAny (.ref C) _) _ _ _
  repeat (any_goals (first | assumption | with_reducible refine wpAny_loadPart_at hC ?_ | wp_step))
  refine ⟨rfl, ?_⟩
  refine codeAny_call_builtin_at (Code.quiet_builtin _ (by decide +kernel)) entry_typeCall (wpAny_check_type_call_sub hC (type_call_init (hrest := hrest) F T X hC hi hfI hfc fun h' e hm => ?_))
  exact hq h' e hm
end
section
variable {prog : Program} {w : World} {A : Around} {E : Value → Shared → Prop} {R : Result → Shared → Prop} {s : Shared} {K : Frag} {x C L : Addr} {h₀ : Heap} {m : Str → Option Value} {news : List (Addr × Obj)}

/-- the plain store, where the classes behind C refuse nothing -/
theorem osa_openR {cd : ClassData} {ox : Obj} {od : Option Obj} {name : Str} {tk : Tok} {v : Value} (X : K.In s.heap) (I : InstAt s.heap x ox C od) (hc : clsIn K C = some cd)
    (hob : cd.mro.contains (.type "object") = true) (hpass : refuseLoop (.ref x) "__setattr__" cd.mro = pure ()) (ht : takerIn K C name = some none)
    (h : ∀ b, wpAny (model prog w) A.in1 (Builtin.ObjectAttr.storeInOwnDict (.ref x) (.ref C) (.str name tk) name v b)
      (fun fin s' => match fin with | .done f => R (.ok f) s' | .again c' => c'.quiet = true ∧ codeAny (model prog w) A c' R s') (fun e s' => R (.error e) s') s) :
    codeAny (model prog w) A (.call (.builtin "object.__setattr__") ⟨[.ref x, .str name tk, v], []⟩) R s := by
  have SF := PySem.F.store_object
  have ne : cd.mro.isEmpty = false := by cases q : cd.mro with | nil => rw [q] at hob; cases hob | cons _ _ => rfl
  have sub : Looks (model prog w) s.heap (isInstance (.ref x) (.type "object")) true := I.type.andThen (looks_mroIn X (by unfold mroIn; rw [hc, Option.bind_some, if_neg (by rw [ne]; decide), hob]))
  refine codeAny_call_builtin SF.slot.plain SF.entry (@check_slot (model prog w) _ _ s "object.__setattr__" "object" "__setattr__" (.ref x) [.str name tk, v] [] _ SF.kind SF.split sub (SF.args (.ref x) (.str name tk) v) ?_)
  obtain ⟨attr, ha, hr⟩ := Option.bind_eq_some_iff.mp ht
  have hm : Looks (model prog w) s.heap (mroOf (.ref C)) cd.mro := (looks_clsIn X hc).andThen .now
  have L3 : Looks (model prog w) s.heap (Builtin.ObjectAttr.storeTaker? attr) none := by
    cases attr with
    | none => cases hr; exact .now
    | some a =>
      obtain ⟨b, hb, hbb⟩ := Option.map_eq_some_iff.mp hr
      refine (looks_takesIn X hb).andThen ?_
      cases b
      · exact .now
      · cases hbb
  rw [osa_eq, refuse_eq]
  refine wpAny_bind (wpAny_bind (I.type.here (wpAny_bind (hm.here ?_))))
  rw [hpass]
  exact wpAny_pure (wpAny_bind (I.type.here (wpAny_bind ((looks_findIn X ha).here (wpAny_bind (L3.here (h _)))))))

theorem UpdF.split' {d : Addr} {o : Obj} {l : Led} {g : Obj → Led} (h : UpdF d o l g) : ∃ pre post, l = pre ++ (d, o) :: post ∧ (∀ o', g o' = pre ++ (d, o') :: post) ∧ (∀ p ∈ pre, p.1 ≠ d) ∧ ∀ p ∈ post, p.1 ≠ d := h.split

theorem set_fresh {cd : ClassData} {ox : Obj} {name : Str} {v : Value} {nw : Obj → Led} {Q : Unit → Shared → Prop} (F : Fr h₀ L s.heap m) (X₀ : K.In h₀) (N : News h₀ L s.heap news) (U : UpdF x ox news nw)
    (hcl : ox.cls = .ref C) (hno : ∀ c, ox.data ≠ .cls c) (hfr : ox.isFreed = false) (hdn : ox.dict = none) (hs : findIn K (.ref C) "__setattr__" = some (some (.builtin "object.__setattr__"))) (hc : clsIn K C = some cd) (hhd : cd.hasDict = true)
    (hob : cd.mro.contains (.type "object") = true) (hpass : refuseLoop (.ref x) "__setattr__" cd.mro = pure ()) (ht : takerIn K C name = some none)
    (h : ∀ dx h' tk tk', Fr h₀ L h' m → News h₀ L h' ((dx, dictOf [⟨PyData.keyHash w.params name, .str name tk, v⟩] 1) :: nw { ox with dict := some dx }) → (∀ p ∈ news, p.1 < dx) → Q () { s with heap := h', toks := tk' }) :
    wpAny (model prog w) A (setAttr (.ref x) name v) Q E s := by
  obtain ⟨pre, post, rfl, hg, h1, h2⟩ := U.split
  have hx := (N (x, ox) (by simp)).1
  have X := X₀.keeps F.keep
  have hnc : notCls ox = true := by
    unfold notCls
    split
    · rename_i c e; exact absurd e (hno c)
    · rfl
  have I : InstAt s.heap x ox C none := ⟨hx, hcl, hnc, by rw [hdn]; trivial⟩
  refine set_plain X I hs (osa_openR (s := { s with toks := s.toks + 1 }) X I hc hob hpass ht fun b => ?_)
  unfold Builtin.ObjectAttr.storeInOwnDict
  refine wpAny_bind (wpAny_pure (wpAny_bind ?_))
  show wpAny _ _ (instanceDict x true) _ _ _
  unfold instanceDict
  refine wpAny_bind (wpAny_loadPart hx ?_)
  obtain ⟨oc, odi, oda, osl⟩ := ox
  dsimp only at hcl hdn hno
  subst hcl hdn
  dsimp only
  refine wpAny_bind (Looks.here (s := { s with toks := s.toks + 1 }) (looks_clsIn X hc) ?_)
  rw [hhd]
  have tail : ∀ (h₁ : Heap), Fr h₀ L h₁ m → News h₀ L h₁ ((s.heap.objs.size, dictOf [] 0) :: (pre ++ (x, ({ cls := .ref C, dict := some s.heap.objs.size, data := oda, slots := osl } : Obj)) :: post)) →
      wpAny (model prog w) A.in1 (Builtin.ObjectAttr.storeInDict s.heap.objs.size (.str name s.toks) name v)
        (fun fin s' => match fin with | .done f => (match (Except.ok f : Result) with | .ok (.ret _) => Q () s' | .ok _ => False | .error e => E e s') | .again c' => c'.quiet = true ∧ codeAny (model prog w) A c' (fun r s' => match r with | .ok (.ret _) => Q () s' | .ok _ => False | .error e => E e s') s')
        (fun e s' => match (Except.error e : Result) with | .ok (.ret _) => Q () s' | .ok _ => False | .error e => E e s') { s with heap := h₁, toks := s.toks + 1 } := by
    intro h₁ F₁ N₁
    have hlt : ∀ p ∈ pre ++ (x, ({ cls := .ref C, dict := some s.heap.objs.size, data := oda, slots := osl } : Obj)) :: post, p.1 ≠ s.heap.objs.size := by
      intro p hp
      rcases List.mem_append.mp hp with hp | hp
      · exact Nat.ne_of_lt (Heap.lt_size (N p (List.mem_append_left _ hp)).1)
      · rcases List.mem_cons.mp hp with rfl | hp
        · exact Nat.ne_of_lt (Heap.lt_size hx)
        · exact Nat.ne_of_lt (Heap.lt_size (N p (List.mem_append_right _ (.tail _ hp))).1)
    obtain ⟨U1, U2⟩ := news_upd (pre := []) (f := Obj.putName name (PyData.keyHash w.params name) (.str name (s.toks + 1)) v) F₁ N₁ (fun _ h => nomatch h) hlt (putName_dict ..) rfl
    have D := (N₁ _ (List.Mem.head _)).1
    have D' := (U2 _ (List.Mem.head _)).1
    unfold Builtin.ObjectAttr.storeInDict
    refine wpAny_bind (wpAny_pure (wpAny_bind ?_))
    unfold nsSet
    refine wpAny_bind (wpAny_bind (wpAny_askSetting (wpAny_pure (wpAny_bind (wpAny_mkText (wpAny_bind (wpAny_loadPart D ?_)))))))
    dsimp only
    rw [aRefKeyMayBeTheName_at]
    rw [if_neg (by simp)]
    refine wpAny_updatePart D ?_
    refine wpAny_bind (wpAny_lookBehind D' (pastItsLine_dict (Nat.le_of_ble_eq_true rfl)) ?_)
    have U3 : News h₀ L (h₁.update s.heap.objs.size (Obj.putName name (PyData.keyHash w.params name) (Value.str name (s.toks + 1)) v)) ((s.heap.objs.size, dictOf [⟨PyData.keyHash w.params name, .str name (s.toks + 1), v⟩] 1) :: nw ({ cls := .ref C, dict := some s.heap.objs.size, data := oda, slots := osl } : Obj)) := by
      rw [hg]; exact U2
    exact wpAny_pure (h _ _ _ _ U1 U3 fun p hp => Heap.lt_size (N p hp).1)
  rw [if_neg (by decide), if_neg (by simp [typeHasDict])]
  split
  · rename_i c
    exact absurd rfl (hno c)
  · have hx₁ : (s.heap.push emptyDict).get? x = some { cls := .ref C, dict := none, data := oda, slots := osl } := Heap.get?_push_of_some _ hx
    refine wpAny_bind (wpAny_alloc (wpAny_bind (wpAny_update hx₁ (wpAny_pure ?_))))
    obtain ⟨F₂, N₂⟩ := news_upd (pre := (s.heap.objs.size, emptyDict) :: pre) (f := fun o => { cls := o.cls, dict := some s.heap.objs.size, data := o.data, slots := o.slots }) (F.push emptyDict) (N.push F emptyDict)
      (fun p hp => by
        rcases List.mem_cons.mp hp with rfl | hp
        · exact Nat.ne_of_gt (Heap.lt_size hx)
        · exact h1 p hp) h2 rfl (by cases oda <;> first | rfl | exact hfr)
    exact tail _ F₂ N₂
end
theorem dict_mapFields (o : Obj) (f : Array Value → Array Value) : (o.mapFields f).dict = o.dict := by
  obtain ⟨c, d, dt, sl⟩ := o
  cases dt <;> rfl

/-- an exception with its trace, its class and its own dict told -/
def TracedD (h base : Heap) (e : Addr) (cls : Value) (dd : Option Addr) (fl : Value) : Prop :=
  ∃ oe vs T oT ts, h.get? e = some oe ∧ (oe.cls = cls ∧ oe.dict = dd) ∧ oe.data = .fields vs ∧ vs[1]? = some (.ref T) ∧ base.get? T = none ∧ T ≠ e ∧ h.get? T = some oT ∧ oT.data = .fields ts ∧ ts[3]? = some fl
def PassedD (base : Heap) (l : List Env) (e : Addr) (cls : Value) (dd : Option Addr) (fl : Value) (h h' : Heap) : Prop :=
  base.StaysIn h' ∧ h'.FunFrames base l ∧ TracedD h' base e cls dd fl ∧ h.UpToSlots h'

section
variable {M : Model} {A : Around} {E : Value → Shared → Prop} {s : Shared} {base : Heap} {env : Env} {outer l : List Env} {L e : Addr} {cls : Value} {dd : Option Addr}

/-- a new row of the trace, laid behind what the exception holds -/
theorem entryD {oe : Obj} {vs : Array Value} {head : Value} {hadNext : Bool} {Q : Unit → Shared → Prop}
    (hfr : A.frames = some (env :: outer)) (hl : s.heap.FunFrames base (env :: outer)) (hf : env.frame = some L)
    (he : s.heap.get? e = some oe) (hkb : base.StaysIn s.heap) (hen : base.get? e = none) (hd : oe.data = .fields vs) (hsz : 1 < vs.size)
    (h : ∀ h', PassedD base (env :: outer) e oe.cls oe.dict (rawInt L) s.heap h' → Q () { s with heap := h' }) :
    wpAny M A (do let a ← frameOf env; let pl ← entryPlaceOf L hadNext; let b ← EntryCells.newEntry head a .none (rawInt L) .none pl; setField (.ref e) 1 b) Q E s := by
  have off : e ∉ (env :: outer).filterMap (·.frame) := fun hm => by
    obtain ⟨_, o, ho, hnf⟩ := hl.mem hm
    rw [he] at ho; injection ho with ho; subst ho; exact hnf vs hd
  refine wpAny_bind (wpAny_frameOf_fun hfr hl hf fun h₁ hs₁ => ?_)
  refine wpAny_bind (wpAny_entryPlaceOf fun pl hpl => ?_)
  unfold EntryCells.newEntry newFields
  refine wpAny_bind (wpAny_newObj_type ?_ (hpl.sizeOk5 _ _ _ _ _))
  have e₁ : h₁.get? e = some oe := (hs₁.2.1 e off).trans he
  have b₁ : base.StaysIn h₁ := fun b o hb => (hs₁.2.1 b fun hm => by rw [(hl.mem hm).1] at hb; cases hb).trans (hkb b o hb)
  generalize hoT : ({ cls := .type "traceback", dict := none, data := .fields ([head, .ref L, .none, rawInt L, .none] ++ (if pl.isEmpty then List.replicate 6 Value.none else pl)).toArray } : Obj) = oT
  have dT : oT.data = .fields ([head, .ref L, .none, rawInt L, .none] ++ (if pl.isEmpty then List.replicate 6 Value.none else pl)).toArray := by rw [← hoT]
  have e₂ := Heap.get?_push_of_some (h := h₁) oT e₁
  refine wpAny_setField e₂ hd hsz (h _ ?_)
  have nT : h₁.objs.size ≠ e := Nat.ne_of_gt (Heap.lt_size e₁)
  have d₃ := Obj.data_mapFields hd (·.setIfInBounds 1 (Value.ref h₁.objs.size))
  have e₃ := Heap.get?_update_self (Obj.mapFields (·.setIfInBounds 1 (Value.ref h₁.objs.size))) e₂ (Obj.isFreed_of_fields d₃)
  have T₃ := (Heap.get?_update_other (h₁.push oT) (Obj.mapFields (·.setIfInBounds 1 (Value.ref h₁.objs.size))) (Ne.symm nT)).trans (Heap.get?_push_size h₁ (Obj.isFreed_of_fields dT))
  have keep : ∀ b o, b ≠ e → h₁.get? b = some o → ((h₁.push oT).update e (Obj.mapFields (·.setIfInBounds 1 (Value.ref h₁.objs.size)))).get? b = some o := fun b o hbe hb => by
    rw [Heap.get?_update_other _ _ (Ne.symm hbe)]
    exact Heap.get?_push_of_some _ hb
  have plain : ∀ b o, s.heap.get? b = some o → (∀ vs, o.data ≠ .fields vs) → b ≠ e := fun b o hb hnf q => by
    rw [q, he] at hb; injection hb with hb; subst hb; exact hnf vs hd
  refine ⟨fun b o hb => keep b o (fun q => by rw [q, hen] at hb; cases hb) (b₁ b o hb), hl.of_keeps fun b o hb hnf => ?_, ?_, fun b o hb hnf => ?_⟩
  · obtain ⟨sl, hs⟩ := hs₁.2.2 b o hb
    exact ⟨_, keep b _ (plain b o hb hnf) hs, rfl⟩
  · refine ⟨_, _, h₁.objs.size, _, _, e₃, ⟨Obj.cls_mapFields _ _, dict_mapFields _ _⟩, d₃, by simp [hsz], b₁.fresh, nT, T₃, dT, ?_⟩
    first
      | (simp; done)
      | (rcases hpl with rfl | ⟨_, _, _, _, _, _, _, rfl⟩ <;> simp)
  · obtain ⟨sl, hs⟩ := hs₁.2.2 b o hb
    exact ⟨sl, keep b _ (plain b o hb hnf) hs⟩

theorem flightD {fl : Value} {Q : Unit → Shared → Prop} (hkb : base.StaysIn s.heap) (hl : s.heap.FunFrames base l) (ht : TracedD s.heap base e cls dd fl)
    (h : ∀ h', PassedD base l e cls dd .none s.heap h' → Q () { s with heap := h' }) : wpAny M A (setFlight (.ref e) none) Q E s := by
  obtain ⟨oe, vs, T, oT, ts, he, hcls, hd, h1, hnT, hTe, hT, hdT, h3⟩ := ht
  have sz : 3 < ts.size := (Array.getElem?_eq_some_iff.mp h3).1
  have other : ∀ b, b ≠ T → (s.heap.update T (Obj.mapFields (·.setIfInBounds 3 ((none : Option Addr).elim Value.none fun f => rawInt f)))).get? b = s.heap.get? b :=
    fun b hb => Heap.get?_update_other _ _ (Ne.symm hb)
  have plain : ∀ b o, s.heap.get? b = some o → (∀ vs, o.data ≠ .fields vs) → b ≠ T := fun b o hb hnf q => by
    rw [q, hT] at hb; injection hb with hb; subst hb; exact hnf ts hdT
  unfold setFlight
  refine wpAny_bind (wpAny_field he hd h1 ?_)
  rw [if_pos (show (Value.ref T != Value.none) = true from by simp)]
  refine wpAny_setField hT hdT sz (h _ ⟨fun b o hb => (other b fun q => by rw [q, hnT] at hb; cases hb).trans (hkb b o hb),
    hl.of_keeps fun b o hb hnf => ⟨o, (other b (plain b o hb hnf)).trans hb, rfl⟩, ?_, fun b o hb hnf => ⟨o.slots, (other b (plain b o hb hnf)).trans hb⟩⟩)
  exact ⟨oe, vs, T, _, _, (other e (Ne.symm hTe)).trans he, hcls, hd, h1, hnT, hTe, Heap.get?_update_self _ hT (Obj.isFreed_of_fields (Obj.data_mapFields hdT _)), Obj.data_mapFields hdT _, by simp [sz]⟩

/-- the frame that raised is left -/
theorem leavesD {oe : Obj} {vs : Array Value} {Q : Unit → Shared → Prop}
    (hfr : A.frames = some (env :: outer)) (hl : s.heap.FunFrames base (env :: outer)) (hf : env.frame = some L)
    (he : s.heap.get? e = some oe) (hkb : base.StaysIn s.heap) (hen : base.get? e = none) (hd : oe.data = .fields vs) (h1 : vs[1]? = some .none)
    (h : ∀ h', PassedD base outer e oe.cls oe.dict .none s.heap h' → Q () { s with heap := h' }) : wpAny M A (leaving env (.ref e)) Q E s := by
  unfold leaving noteFrame
  simp only [hf]
  refine wpAny_bind (wpAny_bind (wpAny_field he hd h1 ?_))
  rw [if_neg (by decide)]
  refine entryD hfr hl hf he hkb hen hd (Array.getElem?_eq_some_iff.mp h1).1 fun h' ⟨k1, k2, k3, k4⟩ => ?_
  exact flightD k1 k2 k3 fun h'' ⟨j1, ⟨_, _, j2⟩, j3, j4⟩ => h h'' ⟨j1, j2, j3, k4.trans j4⟩

/-- the frame that catches looks -/
theorem looksD {Q : Unit → Shared → Prop}
    (hfr : A.frames = some (env :: outer)) (hl : s.heap.FunFrames base (env :: outer)) (hf : env.frame = some L) (ht : TracedD s.heap base e cls dd .none) (hkb : base.StaysIn s.heap) (hen : base.get? e = none)
    (h : ∀ h', PassedD base (env :: outer) e cls dd (rawInt L) s.heap h' → Q () { s with heap := h' }) : wpAny M A (noteFrame (.ref e) env) Q E s := by
  obtain ⟨oe, vs, T, oT, ts, he, ⟨hcls, hdd⟩, hd, h1, hnT, hTe, hT, hdT, h3⟩ := ht
  subst hcls hdd
  unfold noteFrame
  simp only [hf]
  refine wpAny_bind (wpAny_field he hd h1 ?_)
  rw [if_pos (show (Value.ref T != Value.none) = true from by simp)]
  refine wpAny_bind (wpAny_field hT hdT h3 ?_)
  rw [if_neg (show ¬ ((Value.none == rawInt L) = true) from by simp [rawInt])]
  refine wpAny_bind (wpAny_setField hT hdT (Array.getElem?_eq_some_iff.mp h3).1 ?_)
  have other : ∀ b, b ≠ T → (s.heap.update T (Obj.mapFields (·.setIfInBounds 3 Value.none))).get? b = s.heap.get? b := fun b hb => Heap.get?_update_other _ _ (Ne.symm hb)
  have plain : ∀ b o, s.heap.get? b = some o → (∀ vs, o.data ≠ .fields vs) → b ≠ T := fun b o hb hnf q => by
    rw [q, hT] at hb; injection hb with hb; subst hb; exact hnf ts hdT
  refine entryD hfr (hl.of_keeps fun b o hb hnf => ⟨o, (other b (plain b o hb hnf)).trans hb, rfl⟩) hf ((other e (Ne.symm hTe)).trans he)
    (fun b o hb => (other b fun q => by rw [q, hnT] at hb; cases hb).trans (hkb b o hb)) hen hd (Array.getElem?_eq_some_iff.mp h1).1
    fun h' ⟨x1, x2, x3, x4⟩ => h h' ⟨x1, x2, x3, fun b o hb hnf => x4 b o ((other b (plain b o hb hnf)).trans hb) hnf⟩
end
/-- in flight behind its frame: what the ledger held stands, and the exception's dict is dx -/
def RaisedD (base G : Heap) (l : List Env) (e : Addr) (cls : Value) (dx : Addr) (news : Led) (h : Heap) : Prop :=
  ∃ B, base.StaysIn B ∧ (∀ b o, G.get? b = some o → b ∉ l.filterMap (·.frame) → B.get? b = some o) ∧ (∀ q ∈ news, B.get? q.1 = some q.2 ∧ G.get? q.1 = none ∧ base.get? q.1 = none) ∧
    B.StaysIn h ∧ B.get? e = none ∧ h.FunFrames B l ∧ TracedD h B e cls (some dx) .none
section
variable {M : Model} {A : Around} {E : Value → Shared → Prop} {s' : Shared} {base g : Heap} {outer : List Env} {L a e dx : Addr} {m : Str → Option Value} {name : Str} {scope : Scope} {cd : Value} {news : Led}
theorem leave_raiseD {oe : Obj} {vs : Array Value} {Q : Unit → Shared → Prop} (K : Below A base outer g) (F : Fr g L s'.heap m) (N : News g L s'.heap ((e, oe) :: news)) (off : ∀ q ∈ news, q.1 ≠ e)
    (hdd : oe.dict = some dx) (hd : oe.data = .fields vs) (h1 : vs[1]? = some .none)
    (hQ : ∀ h', RaisedD base g outer e oe.cls dx news h' → g.UpToSlots h' → Q () { s' with heap := h' }) (hk : scope.kind = .function := by rfl) :
    wpAny M (A.deeper (envOf name scope L a cd)) (leaving (envOf name scope L a cd) (.ref e)) Q E s' := by
  have K' := K.push (name := name) (a := a) (cd := cd) F hk
  have Ne' := N (e, oe) (.head _)
  have heb : base.get? e = none := fresh_of_stays K.stays Ne'.2.2
  have hin : ∀ env ∈ (envOf name scope L a cd :: outer), ∀ b, env.frame = some b → b ∈ e :: (envOf name scope L a cd :: outer).filterMap (·.frame) := fun env he b hb => .tail _ (List.mem_filterMap.mpr ⟨env, he, hb⟩)
  have st : base.StaysIn (hideAll s'.heap (e :: (envOf name scope L a cd :: outer).filterMap (·.frame))) := fun b o q => hideAll_get _ (K'.stays b o q) fun hm => by
    rcases List.mem_cons.mp hm with z | hm
    · rw [z, heb] at q; cases q
    · rw [(K'.frames.mem hm).1] at q; cases q
  have sg : ∀ b o, g.get? b = some o → b ∉ outer.filterMap (·.frame) → (hideAll s'.heap (e :: (envOf name scope L a cd :: outer).filterMap (·.frame))).get? b = some o := fun b o q nm => hideAll_get _ (F.keep b o q) fun hm => by
    rcases List.mem_cons.mp hm with z | hm
    · rw [z, Ne'.2.2] at q; cases q
    · rcases kts_mem hm with z | z
      · rw [z, kts_self F] at q; cases q
      · exact nm z
  have hl : ∀ q ∈ news, (hideAll s'.heap (e :: (envOf name scope L a cd :: outer).filterMap (·.frame))).get? q.1 = some q.2 ∧ g.get? q.1 = none ∧ base.get? q.1 = none := fun q hq => by
    have Nq := N q (.tail _ hq)
    refine ⟨hideAll_get _ Nq.1 fun hm => ?_, Nq.2.2, fresh_of_stays K.stays Nq.2.2⟩
    rcases List.mem_cons.mp hm with z | hm
    · exact off q hq z
    · obtain ⟨env, he, hf⟩ := List.mem_filterMap.mp hm
      rcases List.mem_cons.mp he with rfl | he
      · exact Nq.2.1 (Option.some.inj hf).symm
      · obtain ⟨o, ho, _⟩ := (K.frames.mem (List.mem_filterMap.mpr ⟨env, he, hf⟩)).2
        rw [Nq.2.2] at ho; cases ho
  refine leavesD K'.stack (funFrames_hide K'.frames hin) rfl Ne'.1 (fun b o q => of_hideAll _ q) (hideAll_none _ (.head _)) hd h1 fun h' ⟨j1, j2, j3, j4⟩ => ?_
  rw [hdd] at j3
  exact hQ h' ⟨_, st, sg, hl, j1, hideAll_none _ (.head _), j2, j3⟩ ((Heap.UpToSlots.of_keeps F.keep).trans j4)
end

section
variable {prog : Program} {w : World} {A₀ : Around} {E : Value → Shared → Prop} {s' : Shared} {base g g₀ G : Heap} {outer : List Env} {L a e dx C : Addr} {m : Str → Option Value} {name : Str} {scope : Scope} {cd : Value}
  {n : Str} {b₀ : Stmt} {suite : List Stmt} {pos np : Pos} {rest : List ExceptHandler} {Q : Flow → Shared → Prop} {news : Led} {KF : Frag}
  {p : Program} {loose : List Str} {mean : ExcName → Option Value} {mg mb : Str → Option Value} {x : Str}
theorem caughtD (R : RaisedD base G (envOf name scope L a cd :: outer) e (.ref C) dx news s'.heap) (F : Fr g L G m) (K : Below A₀ base outer g) (hsm : G.UpToSlots s'.heap) (XB : KF.In base) (TB : Top p loose mean mg mb base)
    (D : KtsDicts (outer.filterMap (·.frame)) g) (T0 : KtsTurn (outer.filterMap (·.frame)) g₀ g)
    (ex : nsIn KF mainGlobals x = some (some (.ref C))) (q : ktsIn KF C "BaseException" = true)
    (k : ∀ h' g' oe vs tk, KtsTurn (outer.filterMap (·.frame)) g₀ g' → Fr g' L h' (fun y => if y = n then some (.ref e) else m y) → News g' L h' ((e, oe) :: news) → oe.cls = .ref C → oe.dict = some dx → oe.data = .fields vs → Below A₀ base outer g' → KF.In g' → Top p loose mean mg mb g' → KtsDicts (outer.filterMap (·.frame)) g' →
      wpAny (model prog w) ((A₀.deeper (envOf name scope L a cd)).mark (some (.ref e))) (execs (b₀ :: suite) (envOf name scope L a cd))
        (fun f s₄ => wpAny (model prog w) (A₀.deeper (envOf name scope L a cd)) (do bindName (envOf name scope L a cd) n .none; unbindBehindTheSuite (envOf name scope L a cd) n pos) (fun _ s₅ => Q f s₅) E s₄)
        (AsSuiteRaised (model prog w) ((A₀.deeper (envOf name scope L a cd)).mark (some (.ref e))) (envOf name scope L a cd) n pos (notedBy (model prog w) ((A₀.deeper (envOf name scope L a cd)).mark (some (.ref e))) (envOf name scope L a cd) (cameBackBy (model prog w) (A₀.deeper (envOf name scope L a cd)) (envOf name scope L a cd) E)))
        { s' with heap := h', toks := tk })
    (hk : scope.kind = .function := by rfl) (hlo : (envOf name scope L a cd).kindOf n = some .local := by rfl) (hx : (envOf name scope L a cd).kindOf x = some .globalImplicit := by rfl) (hd : (x == ("__debug__" : Str)) = false := by decide) :
    wpAny (model prog w) (A₀.deeper (envOf name scope L a cd)) (noteFrame (.ref e) (envOf name scope L a cd))
      (fun _ s₂ => wpAny (model prog w) (A₀.deeper (envOf name scope L a cd)) (setFlight (.ref e) none) (fun _ s₃ =>
        wpAny (model prog w) (A₀.deeper (envOf name scope L a cd)) (handleBy (.ref e) (envOf name scope L a cd) (.ExceptHandler (some (.Name x np)) (some n) (b₀ :: suite) pos :: rest)) Q E s₃) E s₂) E s' := by
  obtain ⟨B, hB, hBG, hl, f1, f2, f3, f4⟩ := R
  have hL : B.get? L = none := by
    obtain ⟨_, ⟨L', _, hf, hn', _⟩, _⟩ := f3
    obtain rfl : L = L' := Option.some.inj hf
    exact hn'
  refine looksD (Around.frames_deeper K.stack) f3 rfl f4 f1 f2 fun h₄ ⟨a1, a2, a3, a4⟩ => ?_
  refine flightD a1 a2 a3 fun h₅ ⟨b1, b2, b3, b4⟩ => ?_
  have hsm₅ := a4.trans b4
  obtain ⟨g₅, T₅, F₅, K₅⟩ := kts_ground K F hBG b1 (hsm.trans hsm₅)
  have X₅ : KF.In g₅ := XB.keeps K₅.stays
  have P₅ : TopRead p loose mg mb g₅ := topRead_of (TB.keeps K₅.stays)
  obtain ⟨ob, _, _, _, _, hob, ⟨hobc, _⟩, _⟩ := id b3
  obtain ⟨nm, q', N, bs, bm, hdct, sn, sub, ab, col, dd, k0, k1, k2, k3, k5, newId, hC, hbase, hbT⟩ := kts_cls X₅ q
  have hC₅ := F₅.keep _ _ hC
  refine wpAny_handleBy_cons (codeAny_handlers_test (name_K F₅ X₅ P₅ ex ?_ hk hx hd)) (by intro q; cases q)
  refine wpAny_excMatches_sub_self hC₅ hob hobc hbase (codeAny_handlers_suite_as ?_)
  refine flightD b1 b2 b3 fun h₆ ⟨c1, c2, c3, c4⟩ => ?_
  have hsm₆ := (hsm.trans hsm₅).trans c4
  obtain ⟨g₆, T₆, F₆, K₆⟩ := kts_ground K F hBG c1 hsm₆
  obtain ⟨oe, ws, _, _, _, hoe, ⟨hoec, hoedd⟩, hoed, _⟩ := c3
  have ne₆ : g₆.get? e = none := T₆.none_ _ (kts_fresh F hBG f2 fun o ho m => by
    obtain ⟨_, o', ho', hd⟩ := K.frames.mem m
    rw [ho] at ho'
    cases ho'
    obtain ⟨sl, hs⟩ := hsm₆ _ _ (F.keep _ _ ho) hd
    rw [hoe] at hs
    cases hs
    exact hd _ hoed)
  have N₆ := News.more F₆ News.nil hoe (fun es n q => by rw [hoed] at q; cases q) ne₆
  have Nl : News g₆ L h₆ news := fun q hq => ⟨c1 _ _ (hl q hq).1, (fun z => by have := (hl q hq).1; rw [z, hL] at this; cases this), T₆.none_ _ (kts_none F.keep (hl q hq).2.1)⟩
  have X₆ : KF.In g₆ := XB.keeps K₆.stays
  have P₆ : Top p loose mean mg mb g₆ := TB.keeps K₆.stays
  have D₆ : KtsDicts (outer.filterMap (·.frame)) g₆ := D.turn T₆
  have N₇ : News g₆ L h₆ ((e, oe) :: news) := fun q hq => by
    rcases List.mem_cons.mp hq with rfl | hq
    · exact N₆ _ (.head _)
    · exact Nl q hq
  refine stN F₆ N₇ (fun h₇ F₇ N₈ => ?_) hk hlo
  exact k h₇ g₆ oe ws _ (T0.trans T₆) F₇ N₈ hoec hoedd hoed K₆ X₆ P₆ D₆
end
abbrev excObj (dx t : Addr) : Obj := { cls := .ref 51, dict := some dx, data := .fields #[.ref t, .none, .none, .none, .bool false, .none] }
abbrev msgDict (w : World) (v : Value) (k : Tok) : Obj := dictOf [⟨PyData.keyHash w.params (Str.ofString "message"), .str (Str.ofString "message") k, v⟩] 1
theorem refusal_does (w : World) (mean : ExcName → Option Value) (mg mb : Str → Option Value) (x : Str) (xt : Tok) (news : Led) :
    Does w mean mg mb 51 [.str x xt] 4 40 news (fun news' r => ∃ e dx t ot k, r = .ref e ∧ news' = (e, excObj dx t) :: (dx, msgDict w (.str x xt) k) :: (t, ot) :: news ∧ dx ≠ e ∧ t ≠ e ∧ ∀ q ∈ news, q.1 ≠ e) := by
  unfold Does; k_fill
  intro dp un gd cn cs a ccd cl outer A₀ base h₀ L m s Q E B F X N T hcs hdp hu hret
  obtain ⟨h, g, d, tks, os⟩ := s
  have X' := X.keeps F.keep
  have hC : h.get? 51 = some (excClassObj _ _ 51 _ _ _ _ _ _ _ _ _ _ _ _ _ _ "Exception.__new__") := X' _ _ (by k_is)
  have hT : OwnTail h [.type "Exception", .type "BaseException", .type "object"] [Value.ref 31, Value.type "Exception", Value.type "BaseException", Value.type "object"] := tail_of_in X' (by kernel_rfl)
  have hfI : h.get? 48 = some _ := X' _ _ (by k_is)
  have hi : findIn (hd.heap_1 w.params) (.ref 51) "__init__" = some (some (.ref 48)) := by k_is
  refine call_init PySem.F.excBase_Exception hT X' hC hi hfI rfl fun h' e hm => ?_
  obtain ⟨t, he, htn, ht⟩ := hm.there
  have F' := F.keeps hm.keeps
  have none₀ : ∀ {b : Addr}, h.get? b = none → h₀.get? b = none := fun {b} q => by
    cases q' : h₀.get? b with
    | none => rfl
    | some o => have := F.keep b o q'; rw [q] at this; cases this
  have N1 := News.more F' (N.grown hm.keeps) ht (fun es n q => by cases q) (none₀ htn)
  have N2 := News.more F' N1 he (fun es n q => by cases q) (none₀ hm.new)
  have off : ∀ q ∈ news, q.1 ≠ e := fun q hq z => by
    have := (N q hq).1
    rw [z] at this
    have h2 := hm.new
    rw [this] at h2; cases h2
  have hte : t ≠ e := fun z => by rw [z] at ht; rw [he] at ht; cases ht
  clear N1
  refine wpAny_call ?_
  (k_dflt ktr_enter)
  w_strict k_steps
  have U : UpdF e ({ cls := .ref 51, data := .fields #[.ref t, .none, .none, .none, .bool false, .none] } : Obj) ((e, { cls := .ref 51, data := .fields #[.ref t, .none, .none, .none, .bool false, .none] }) :: (t, { cls := .type "tuple", data := .seq #[Value.str x xt] }) :: news) _ := .head (by
    intro p hp
    rcases List.mem_cons.mp hp with rfl | hp
    · exact hte
    · exact off p hp)
  refine set_fresh (by assumption) (by assumption) (by assumption) U rfl (fun c q => by cases q) rfl rfl (by k_is) (by k_is : clsIn (hd.heap_1 w.params) 51 = some _) rfl (by decide) ?_ (by k_is) ?_
  · rw [refuseLoop_ref, refuseLoop_ref]
    exact PySem.F.store_Exception.passes _
  · intro dx h2 k2 tk2 F2 N2 lt2
    dsimp only
    w_strict k_steps
    refine hret _ _ _ _ (by k_asm) (cb_drop (by k_asm) ?_) ⟨e, dx, t, { cls := .type "tuple", data := .seq #[Value.str x xt] }, k2, rfl, rfl, ?_, hte, off⟩
    · intro p hp
      rcases List.mem_cons.mp hp with rfl | hp
      · exact .tail _ (.head _)
      · rcases List.mem_cons.mp hp with rfl | hp
        · exact .head _
        · exact .tail _ (.tail _ hp)
    · exact Nat.ne_of_gt (lt2 _ (.head _))
theorem reg_Lk_1 : True := by
  k_with "m:exec While Compare cons nil" => ((k_here; k_dflt (refine whl_start 100 ?_)))
  k_with "m:getMethod ref" => ((k_here; (with_reducible show wpAny _ _ (getMethod (Value.ref _) (PySem.Str.ofString "get") _) _ _ _); k_dflt (refine kdg_method (knd := PySem.strKind _ _) (by k_asm) (by k_mem) (by k_asm) ?_)))
  k_with "m:call builtin:dict.get" => ((k_here; k_dflt (refine kdg_get1 (knd := PySem.strKind _ _) (by k_asm) (by k_mem) (by k_asm) (by k_asm) (strKind_is _ _ _ _) (some _) (by rfl) ?_); (try dsimp only [Option.getD])))
  trivial
abbrev ent (w : World) (name : String) (k : Tok) (v : Value) : DictEntry := ⟨PyData.keyHash w.params (Str.ofString name), .str (Str.ofString name) k, v⟩
abbrev vecDict (w : World) (k1 k2 k3 k4 k5 : Tok) (kind items attrs : Value) : Obj :=
  dictOf [ent w "kind" k1 kind, ent w "items" k2 items, ent w "attrs" k3 attrs, ent w "shared" k4 (.bool false), ent w "loose" k5 (.bool false)] 5
abbrev envDict (w : World) (k1 k2 k3 k4 k5 k6 k7 k8 k9 : Tok) (no : Int) (fd ld : Addr) : Obj :=
  dictOf [ent w "kind" k1 (.str (Str.ofString "environment") k8), ent w "number" k2 (.int no k9), ent w "parent" k3 .none, ent w "attrs" k4 .none, ent w "frame" k5 (.ref fd), ent w "locked" k6 (.bool false), ent w "locks" k7 (.ref ld)] 7
/-- a Vector of the ledger: its kind, the list of its items, its attributes -/
def VecAt (w : World) (news : Led) (v : Addr) (kind : String) (it : Addr) (at_ : Value) : Prop :=
  ∃ d k1 k2 k3 k4 k5 k6, (v, instObj 99 d) ∈ news ∧ (d, vecDict w k1 k2 k3 k4 k5 (.str (Str.ofString kind) k6) (.ref it) at_) ∈ news
theorem VecAt.mono {w : World} {news news' : Led} {v it : Addr} {kind : String} {at_ : Value} (h : VecAt w news v kind it at_) (k : ∀ p ∈ news, p ∈ news') : VecAt w news' v kind it at_ :=
  let ⟨d, a, b, c, e, f, g, h1, h2⟩ := h; ⟨d, a, b, c, e, f, g, k _ h1, k _ h2⟩
/-- an Environment of the ledger whose frame holds the name .Generic alone -/
def EnvAt (w : World) (news : Led) (ev g : Addr) : Prop :=
  ∃ ed fd ld k1 k2 k3 k4 k5 k6 k7 k8 k9 no o, (ev, instObj 121 ed) ∈ news ∧ (ed, envDict w k1 k2 k3 k4 k5 k6 k7 k8 k9 no fd ld) ∈ news ∧ (fd, o) ∈ news ∧
    o.IsDictOf (PySem.strKind PySem.Challenge.rw_pq1405_01.row.prog w) [(Str.ofString ".Generic", .ref g)] ∧ (fd == sysModules) = false
theorem EnvAt.mono {w : World} {news news' : Led} {ev g : Addr} (h : EnvAt w news ev g) (k : ∀ p ∈ news, p ∈ news') : EnvAt w news' ev g :=
  let ⟨ed, fd, ld, k1, k2, k3, k4, k5, k6, k7, k8, k9, no, o, h1, h2, h3, h4, h5⟩ := h; ⟨ed, fd, ld, k1, k2, k3, k4, k5, k6, k7, k8, k9, no, o, k _ h1, k _ h2, k _ h3, h4, h5⟩
theorem lookup_does (w : World) (mean : ExcName → Option Value) (mg mb : Str → Option Value) (news : Led) (ev g : Addr) (t : Tok) (he : EnvAt w news ev g) :
    Does w mean mg mb 351 [.ref ev, .str (Str.ofString ".Generic") t] 2 20 news (fun news' r => news' = news ∧ r = .ref g) := by
  unfold Does; k_fill
  intro dp un gd cn cs a ccd cl outer A₀ base h₀ L m s Q E B F X N T hcs hdp hu hret
  obtain ⟨ed, fd, ld, k1, k2, k3, k4, k5, k6, k7, k8, k9, no, o, h1, h2, h3, h4, h5⟩ := he
  refine wpAny_call ?_
  (k_dflt ktr_enter)
  w_strict k_steps
  exact hret _ _ _ _ (by k_asm) (by k_asm) ⟨rfl, rfl⟩
theorem reg_Lk_2 : True := by
  k_with "m:call ref" => ((k_here; (with_reducible show wpAny _ _ (call (Value.ref 351) _) _ _ _); k_dflt (refine' does_use ?k1 ?k2 ?k3 ?k4 ?k5 ?kK (lookup_does _ _ _ _ _ _ _ _ ?ke) ?kd ?ku ?_; walk_at "my use"; (case ke => assumption); walk_at "my rooms"); (intro _ _ _ _ _ _ hP'w); (obtain ⟨e1'w, e2'w⟩ := hP'w); (subst e2'w); (have e3'w := Eq.symm e1'w); (subst e3'w); (try dsimp only)))
  trivial
theorem group_name_does (w : World) (mean : ExcName → Option Value) (mg mb : Str → Option Value) (news : Led) (ev g gl : Addr) (gn : Nat) (at_ : Value) (x : Str) (xt : Tok) (he : EnvAt w news ev g)
    (hv : VecAt w news g "character" gl at_) (hl : (gl, listOf #[Value.str x xt] gn) ∈ news) :
    Does w mean mg mb 358 [.ref ev] 4 40 news (fun news' r => news' = news ∧ r = .str x xt) := by
  unfold Does; k_fill
  intro dp un gd cn cs a ccd cl outer A₀ base h₀ L m s Q E B F X N T hcs hdp hu hret
  have hv' := hv
  obtain ⟨vd, k1, k2, k3, k4, k5, k6, h1, h2⟩ := hv
  refine wpAny_call ?_
  (k_dflt ktr_enter)
  w_strict k_steps
  exact hret _ _ _ _ (by k_asm) (by k_asm) ⟨rfl, rfl⟩
theorem reg_Gn_1 : True := by
  k_with "m:call ref" => ((k_here; (with_reducible show wpAny _ _ (call (Value.ref 358) _) _ _ _); k_dflt (refine' does_use ?k1 ?k2 ?k3 ?k4 ?k5 ?kK (group_name_does _ _ _ _ _ _ _ _ _ _ _ _ ?ke ?kv ?kl) ?kd ?ku ?_; walk_at "my use"; (case ke => assumption); (case kv => assumption); (case kl => assumption); walk_at "my rooms"); (intro _ _ _ _ _ _ hP'w); (obtain ⟨e1'w, e2'w⟩ := hP'w); (subst e2'w); (have e3'w := Eq.symm e1'w); (subst e3'w); (try dsimp only)))
  k_with "m:call ref" => ((k_here; (with_reducible show wpAny _ _ (call (Value.ref 51) _) _ _ _); k_dflt (refine' does_use ?k1 ?k2 ?k3 ?k4 ?k5 ?kK (refusal_does _ _ _ _ _ _ _) ?kd ?ku ?_; walk_at "my use"; walk_at "my rooms"); (intro _ _ _ _ _ _ hP'w); (obtain ⟨_, _, _, _, _, e1'w, e2'w, _, _, _⟩ := hP'w); (subst e2'w); (have e3'w := Eq.symm e1'w); (subst e3'w); (try dsimp only)))
  trivial
section
variable {M : Model} {A : Around} {E : Value → Shared → Prop} {s : Shared} {env : Env}
/-- ready to be raised: an exception of an own class, with a dict -/
def RaisableD (E : Value → Shared → Prop) (v : Value) (s₁ : Shared) : Prop :=
  ∃ a t dx C nm q N bs bm hdct sn sub ab col dd k0 k1 k2 k3 k5 newId, v = .ref a ∧ s₁.heap.get? C = some (excClassObj nm q C N bs bm hdct sn sub ab col dd k0 k1 k2 k3 k5 newId) ∧ bm.contains (.type "BaseException") = true ∧
    s₁.heap.get? a = some ({ cls := .ref C, dict := some dx, data := .fields #[.ref t, .none, .none, .none, .bool false, .none] } : Obj) ∧ E (.ref a) s₁
theorem Raise_own {e : PySem.Expr} {pos : Pos} {Q : Flow → Shared → Prop} (hh : A.handled = none) (h : wpAny M A (eval e env) (RaisableD E) E s) : wpAny M A (exec (.Raise (some e) none pos) env) Q E s := by
  show wpAny M A (do standAt pos; raiseStmt env (some (do let v ← eval e env; standAt pos; pure v)) none) Q E s
  refine wpAny_bind (wpAny_standAt ?_)
  unfold raiseStmt
  dsimp only
  refine wpAny_bind (wpAny_bind (wpAny_mono h (fun v s₁ h₁ => wpAny_bind (wpAny_standAt (wpAny_pure ?_))) fun _ _ x => x))
  obtain ⟨a, t, dx, C, nm, q, N, bs, bm, hdct, sn, sub, ab, col, dd, k0, k1, k2, k3, k5, newId, rfl, hC, hb, he, hE⟩ := h₁
  have hcB : (Value.ref C :: bm).contains (.type "BaseException") = true := by rw [List.contains_cons, hb, Bool.or_true]
  obtain ⟨hp, g, d, tk, os⟩ := s₁
  repeat (first | with_reducible refine wpAny_loadPart_at he ?_ | with_reducible refine wpAny_loadPart_at hC ?_ | (with_reducible refine wpAny_isSubtype_exc hC ?_; rw [hcB]) | wp_step)
  exact wpAny_raiseNew_none hh hE
end
theorem raisableD_of {K : Frag} {E : Value → Shared → Prop} {s₁ : Shared} {h₀ : Heap} {L a dx t : Addr} {m : Str → Option Value} {news : Led} (F : Fr h₀ L s₁.heap m) (X : K.In h₀) (q : ktsIn K 51 "BaseException" = true) (N : News h₀ L s₁.heap news) (hm : (a, excObj dx t) ∈ news)
    (hE : E (.ref a) s₁) : RaisableD E (.ref a) s₁ := by
  obtain ⟨nm, qn, N', bs, bm, hdct, sn, sub, ab, col, dd, k0, k1, k2, k3, k5, newId, hC, hbase, _⟩ := kts_cls (X.keeps F.keep) q
  exact ⟨a, t, dx, 51, nm, qn, N', bs, bm, hdct, sn, sub, ab, col, dd, k0, k1, k2, k3, k5, newId, rfl, hC, hbase, (N _ hm).1, hE⟩
theorem reg_Nn_1 : True := by
  k_with "m:exec Raise some none" => ((k_here; (with_reducible show wpAny _ _ (exec (Stmt.Raise (some (Expr.Call (Expr.Name _ _) (_ :: _) [] _)) none _) _) _ _ _); k_dflt (refine Raise_own (by rfl) ?_)))
  k_with "m:RaisableD" => ((k_dflt (refine' raisableD_of (K := hd.heap_1 _) ?k1 ?k2 ?k3 ?k4 ?k5 ?_; (case k1 => k_asm); (case k2 => k_asm); (case k3 => kernel_rfl); (case k4 => k_asm); (case k5 => k_mem))))
  trivial
/-- a call of the def at f with vs ends in a Refusal that flies out of it -/
def Raises (w : World) (mean : ExcName → Option Value) (mg mb : Str → Option Value) (f : Addr) (vs : List Value) (d u : Nat) (news : Led) (Post : Led → Addr → Prop) : Prop :=
  ∀ (dp un : Nat) (gd : Option (List Code)) (cn : Str) (cs : Scope) (a : Addr) (ccd : Value) (outer : List Env) (A₀ : Around) (base h₀ : Heap) (L : Addr) (m : Str → Option Value) (s : Shared)
    (Q E : Value → Shared → Prop),
    Below A₀ base outer h₀ → Fr h₀ L s.heap m → (hd.heap_1 w.params).In h₀ → News h₀ L s.heap news → Top hd.view_1 (looseW hd.view_1 [Str.ofString "number_text"]) mean mg mb h₀ → cs.kind = .function → dp + d < recursionLimit → un + u < cLine →
    (∀ e dx h' tk' G news', Fr h₀ L G m → RaisedD base G (envX cn cs L a ccd [] :: outer) e (.ref 51) dx news' h' → G.UpToSlots h' → Post news' dx → E (.ref e) { s with heap := h', toks := tk' }) →
    wpAny (model PySem.Challenge.rw_pq1405_01.row.prog w) (ktrTop dp un gd cn cs L a ccd [] outer) (call (.ref f) vs) Q E s
theorem no_numbers_raises (w : World) (mean : ExcName → Option Value) (mg mb : Str → Option Value) (news : Led) (ar ev g gl : Addr) (gn : Nat) (at_ : Value) (x : Str) (xt : Tok) (hx : x.length ≤ 10) (he : EnvAt w news ev g)
    (hv : VecAt w news g "character" gl at_) (hl : (gl, listOf #[Value.str x xt] gn) ∈ news) :
    Raises w mean mg mb 365 [.none, .ref ar, .ref ev] 8 80 news (fun news' dx => ∃ k mt, (dx, msgDict w (.str (Str.ofString "‘" ++ x ++ Str.ofString "’ not meaningful for factors") mt) k) ∈ news' ∧ ∀ q ∈ news, q ∈ news') := by
  unfold Raises; k_fill
  intro dp un gd cn cs a ccd outer A₀ base h₀ L m s Q E B F X N T hcs hdp hu hret
  refine wpAny_call ?_
  (k_dflt ktr_enter)
  w_strict k_steps
  refine leave_raiseD (by assumption) (by assumption) (by assumption) ?_ rfl rfl rfl ?_ rfl
  · intro q hq
    rcases List.mem_cons.mp hq with rfl | hq
    · assumption
    · rcases List.mem_cons.mp hq with rfl | hq
      · assumption
      · exact (by assumption : ∀ q ∈ news, q.1 ≠ _) q hq
  · intro h' R U
    exact hret _ _ _ _ _ _ (by assumption) R U ⟨_, _, .head _, fun q hq => .tail _ (.tail _ hq)⟩
section
variable {prog : Program} {w : World} {A₀ A : Around} {s : Shared} {base h₀ : Heap} {L : Addr} {m : Str → Option Value} {env : Env} {news : Led} {K : Frag} {p : Program} {loose : List Str} {mean : ExcName → Option Value} {mg mb : Str → Option Value}
    {R : Result → Shared → Prop} {name qual : Str} {params : Arguments} {body : List Stmt} {scope : Scope} {dV kV doc pm cdv ct oc : Value} {an od : Option Addr} {osl : Array (Option Value)} {f : Addr} {args : Args} {binds : List (Str × Value)}
/-- a def is entered from the first frame, be it one with cells; the slots of that frame may turn while it runs -/
theorem code_defSX (B : Below A₀ base [] h₀) (F : Fr h₀ L s.heap m) (X₀ : K.In h₀) (N : News h₀ L s.heap news) (T : Top p loose mean mg mb h₀) (hA : A.frames = some [env]) (hf : env.frame = some L) (hke : env.scope.kind = .function)
    (ho : K.lookup f = some ⟨oc, od, .func (fnOf name qual params body scope dV kV doc pm an cdv ct), osl⟩) (hcd : codeIn K cdv qual = true) (hroom : A.depth < recursionLimit)
    (hbind : BindsTo s (fnOf name qual params body scope dV kV doc pm an cdv ct) args binds) (hloc : ∀ y ∈ binds, scope.names.lookup y.1 = some .local)
    (h : ∀ g L' h₁, Fr h₀ L g m → Fr g L' h₁ (fun y => binds.reverse.lookup y) → News g L' h₁ news → Below A base [env] g → K.In g → Top p loose mean mg mb g → KtsDicts ([env].filterMap (·.frame)) g →
      wpAny (model prog w) (A.deeper (envOf qual scope L' f cdv)) (execs body (envOf qual scope L' f cdv))
        (fun fl s' => LeaveS0 ([env].filterMap (·.frame)) h₀ L m g R (match fl with | .ret v => v | _ => .none) s')
        (fun e s' => wpAny (model prog w) (A.deeper (envOf qual scope L' f cdv)) (leaving (envOf qual scope L' f cdv) e) (fun _ s'' => R (.error e) s'') (fun e' s'' => R (.error e') s'') s')
        { s with heap := h₁, toks := s.toks + binds.length })
    (hco : scope.isCoroutine = false) (hgen : scope.isGenerator = false) (hk : scope.kind = .function)
    (hcell : ∀ x ∈ scope.names, x.2 ≠ .cell) : codeAny (model prog w) A (.call (.ref f) args) R s := by
  have X := X₀.keeps F.keep
  obtain ⟨FG, BG, st, _⟩ := groundX (R := R) B F N hA hf hke
  have hfs : [env].filterMap (·.frame) = [L] := by simp [hf]
  obtain ⟨oL, es, ep, hLg, hLd, hLk, hLf⟩ := FG.ns
  refine codeAny_call_def (fd := fnX name qual params body scope [] dV kV doc pm an cdv ct) (body := body) (binds := binds) hroom (X _ _ ho) rfl (T.nolimit.keeps F.keep) (codeRec_of X hcd) rfl hbind hcell hloc (fun h₁ hns hk₁ => ?_) hco hgen hk
  refine wpAny_mono (h _ s.heap.objs.size h₁ FG ⟨hns, fun b o e => hk₁ b o (of_hideAll _ e), Nat.le_of_eq (hideAll_size _ _)⟩
    (fun p hp => ⟨hk₁ _ _ (N p hp).1, Nat.ne_of_lt (Heap.lt_size (N p hp).1), hideAll_none _ (List.mem_map_of_mem hp)⟩) BG (X₀.keeps st) (T.keeps st) (fun b hb => by
      rw [hfs] at hb
      obtain rfl := List.mem_singleton.mp hb
      exact ⟨oL, es, ep, hLg, hLd⟩)) (fun fl s' hl => ?_) fun _ _ y => y
  obtain ⟨g', L', m', news', T', F', N', k⟩ := hl
  have nL₀ : h₀.get? L = none := kts_self F
  obtain ⟨sl, hs⟩ := T'.up hLg
  refine k ⟨⟨_, es, ep, F'.keep _ _ hs, hLd, hLk, hLf⟩, fun b o e => F'.keep b o (T'.other b o (st b o e) (fun q => by
    rw [hfs] at q
    obtain rfl := List.mem_singleton.mp q
    rw [nL₀] at e; cases e)), F.above⟩ fun p hp => ⟨(N' p hp).1, fun q => ?_, ?_⟩
  · have := (N' p hp).2.2; rw [q, hs] at this; cases this
  · cases q : h₀.get? p.1 with
    | none => rfl
    | some o =>
      obtain ⟨sl', hs'⟩ := T'.up (st _ _ q)
      have := (N' p hp).2.2
      rw [hs'] at this
      cases this
end
section
variable {prog : Program} {w : World} {A : Around} {E : Value → Shared → Prop} {s : Shared} {K : Frag} {x C : Addr} {ox : Obj} {od : Option Obj} {name : Str} {expr : Bool} {Q : Value → Shared → Prop}
/-- an attribute of an exception's own dict -/
theorem get_exc {v : Value} (X : K.In s.heap) (I : InstAt s.heap x ox C od) (hga : findIn K (.ref C) "__getattribute__" = some (some (.builtin "BaseException.__getattribute__")))
    (hgt : findIn K (.ref C) "__getattr__" = some none) (hsub : mroIn K C (.type "BaseException") = some true) (hf : findObj K C od name = some (.value v)) (hh : handedIn v = true) (h : Q v { s with toks := s.toks + 1 }) :
    wpAny (model prog w) A (getAttr (.ref x) name expr) Q E s := by
  obtain ⟨hp, g, d, t, os⟩ := s
  have L0 := I.type (M := model prog w)
  have L1 := looks_findIn (M := model prog w) X hga
  have L2 := looks_findIn (M := model prog w) X hgt
  have L3 := looks_find (M := model prog w) X I hf
  have hk : builtinKind "BaseException.__getattribute__" = some .slot := by decide +kernel
  have hsplit : splitId "BaseException.__getattribute__" = some ("BaseException", "__getattribute__") := by decide +kernel
  have sub : Looks (model prog w) hp (isInstance (.ref x) (.type "BaseException")) true := L0.andThen (looks_mroIn X hsub)
  have SL := PySem.F.attr_Exception.ga
  have hx0 : (expr && onTheHeap (Value.builtin "BaseException.__getattribute__")) = false := by cases expr <;> rfl
  have hx2 : (Value.builtin "BaseException.__getattribute__" == Value.builtin "object.__getattribute__") = false := by decide +kernel
  unfold getAttr getAttrBy
  refine wpAny_bind (wpAny_mkText (wpAny_holding (wpAny_bind (L0.at (wpAny_bind (L1.at ?_))))))
  dsimp only
  rw [hx2, Bool.and_false, if_neg Bool.false_ne_true]
  unfold getAttrByItsOwn
  refine wpAny_bind (show wpAny _ _ (typeLookup (.ref C) "__getattr__") _ _ _ from L2.at ?_)
  refine wpAny_bind (wpAny_attempt (wpAny_holding ?_))
  unfold callGetattribute boundAndCalled
  rw [hx0, if_neg Bool.false_ne_true, SL.bind]
  refine wpAny_bind (wpAny_pure (wpAny_call ?_))
  refine codeAny_call_builtin SL.plain PySem.F.entry_bexc_ga (@check_slot (model prog w) _ _ _ "BaseException.__getattribute__" "BaseException" "__getattribute__" (.ref x) [.str name t] [] _ hk hsplit sub (PySem.F.args_bexc_ga (.ref x) (.str name t)) ?_)
  refine wpAny_bind (wpAny_pure (wpAny_bind (wpAny_pure (wpAny_bind (L0.at (wpAny_bind (L3.at ?_)))))))
  refine wpAny_pure ?_
  show wpAny _ _ (handedOut v) _ _ _
  rw [handedOut_of hh]; exact wpAny_pure h
end
theorem get_msg {w : World} {A : Around} {E : Value → Shared → Prop} {s : Shared} {h₀ : Heap} {L e dx : Addr} {m : Str → Option Value} {news : Led} {oe : Obj} {vs : Array Value} {x : Str} {xt k : Tok} {expr : Bool} {Q : Value → Shared → Prop}
    (F : Fr h₀ L s.heap m) (X : (hd.heap_1 w.params).In h₀) (N : News h₀ L s.heap news) (hm : (e, oe) ∈ news) (hd' : (dx, msgDict w (.str x xt) k) ∈ news) (hc : oe.cls = .ref 51) (hdd : oe.dict = some dx) (hdata : oe.data = .fields vs)
    (hga : findIn (hd.heap_1 w.params) (.ref 51) "__getattribute__" = some (some (.builtin "BaseException.__getattribute__"))) (hgt : findIn (hd.heap_1 w.params) (.ref 51) "__getattr__" = some none) (hsub : mroIn (hd.heap_1 w.params) 51 (.type "BaseException") = some true)
    (hf : findObj (hd.heap_1 w.params) 51 (some (msgDict w (.str x xt) k)) (Str.ofString "message") = some (.value (.str x xt)))
    (h : Q (.str x xt) { s with toks := s.toks + 1 }) : wpAny (model PySem.Challenge.rw_pq1405_01.row.prog w) A (getAttr (.ref e) (Str.ofString "message") expr) Q E s :=
  get_exc (X.keeps F.keep) ⟨(N _ hm).1, hc, by unfold notCls; rw [hdata], by rw [hdd]; exact (N _ hd').1⟩ hga hgt hsub hf rfl h
section
variable {w : World} {mean : ExcName → Option Value} {mg mb : Str → Option Value} {f : Addr} {vs : List Value} {d u : Nat} {news : Led} {Post : Led → Addr → Prop}
theorem raises_use {dp un : Nat} {gd : Option (List Code)} {cn : Str} {cs : Scope} {a : Addr} {ccd : Value} {outer : List Env} {A₀ : Around} {base h₀ : Heap} {L : Addr} {m : Str → Option Value} {s : Shared}
    {Q E : Value → Shared → Prop} (B : Below A₀ base outer h₀) (F : Fr h₀ L s.heap m) (X : (hd.heap_1 w.params).In h₀) (N : News h₀ L s.heap news) (T : Top hd.view_1 (looseW hd.view_1 [Str.ofString "number_text"]) mean mg mb h₀) (hk : cs.kind = .function)
    (C : Raises w mean mg mb f vs d u news Post) (hdp : dp + d < recursionLimit) (hun : un + u < cLine)
    (ret : ∀ e dx h' tk' G news', Fr h₀ L G m → RaisedD base G (envX cn cs L a ccd [] :: outer) e (.ref 51) dx news' h' → G.UpToSlots h' → Post news' dx → E (.ref e) { s with heap := h', toks := tk' }) :
    wpAny (model PySem.Challenge.rw_pq1405_01.row.prog w) (ktrTop dp un gd cn cs L a ccd [] outer) (call (.ref f) vs) Q E s :=
  C _ _ _ _ _ _ _ _ _ _ _ _ _ _ _ _ B F X N T hk hdp hun ret
end
theorem reg_Ge_1 : True := by
  k_with "m:getAttr ref" => ((k_here; (with_reducible show wpAny _ _ (getAttr (Value.ref _) (PySem.Str.ofString "message") _) _ _ _); k_dflt (refine' get_msg ?k1 ?k2 ?k3 ?k4 ?k5 ?k6 ?k7 ?k8 ?k9 ?k10 ?k11 ?k12 ?_; (case k1 => k_asm); (case k2 => k_asm); (case k3 => k_asm); (case k6 => assumption); (case k7 => assumption); (case k8 => assumption); (case k4 => k_mem); (case k5 => k_mem); (case k9 => k_is); (case k10 => k_is); (case k11 => k_is); (case k12 => with_unfolding_all rfl))))
  trivial
theorem reg_Vc_1 : True := by
  k_with "m:my class" => (((refine' call_cls ?k1 ?k2 ?k3 ?k4 ?k5 ?k6 ?_; (case k1 => k_asm); (case k2 => k_asm); (case k3 => k_asm); (case k4 => k_is); (case k5 => k_is); (case k6 => k_is); k_whole; intro _ _ _ _ _ l1'w l2'w; (try k_lt l1'w); (try k_lt2 l2'w)); (refine' code_def ?k1 ?k2 ?k3 ?k4 ?k5 ?kA ?kF ?kK ?k6 ?k7 ?k8 ?k9 ?kB ?_ ?c2 ?c3 ?c4 ?c5; (case kA => exact rfl); (case kF => exact rfl); (case kK => assumption); (case k1 => k_asm); (case k2 => k_asm); (case k3 => k_asm); (case k4 => k_asm); (case k5 => k_asm); (case k6 => k_is); (case k7 => k_is); (case k8 => ktr_room); (case k9 => first | exact BindsTo.of_eq rfl | exact binds_K (by k_in) rfl (by k_is) rfl rfl rfl); (case c5 => decide); (case kB => exact locs rfl); (case c2 => exact rfl); (case c3 => exact rfl); (case c4 => exact rfl); k_whole; intro _ _ _ _ _ _ _ _ _; (try dsimp only); (try k_fold))))
  trivial
/-- a call of the class Vector -/
theorem vector_does (w : World) (mean : ExcName → Option Value) (mg mb : Str → Option Value) (news : Led) (kind : Str) (kt : Tok) (it : Addr) :
    Does w mean mg mb 99 [.str kind kt, .ref it] 4 40 news (fun news' r => ∃ v d k1 k2 k3 k4 k5, r = .ref v ∧
      news' = (v, instObj 99 d) :: (d, vecDict w k1 k2 k3 k4 k5 (.str kind kt) (.ref it) .none) :: news ∧ (∀ q ∈ news, q.1 < d) ∧ (@LT.lt Nat _ d v)) := by
  unfold Does; k_fill
  intro dp un gd cn cs a ccd cl outer A₀ base h₀ L m s Q E B F X N T hcs hdp hu hret
  k_dflt (walk_at "my class")
  w_strict k_steps
  exact hret _ _ _ _ (by k_asm) (by k_asm) ⟨_, _, _, _, _, _, _, rfl, rfl, by assumption, by omega⟩
/-- an Environment made anew -/
def EnvNew (w : World) (no : Int) (nt : Tok) (news news' : Led) (r : Value) : Prop :=
  ∃ e ed fd ld o1 o2 k1 k2 k3 k4 k5 k6 k7 k8, r = .ref e ∧ news' = (ld, o2) :: (fd, o1) :: (e, instObj 121 ed) :: (ed, envDict w k1 k2 k3 k4 k5 k6 k7 k8 nt no fd ld) :: news ∧ (fd == sysModules) = false ∧
    o1.IsDictOf (PySem.strKind PySem.Challenge.rw_pq1405_01.row.prog w) [] ∧ PyProof.V.FlatPairs PyData.str [] [] ∧ o1.IsDictOf (PySem.intKind PySem.Challenge.rw_pq1405_01.row.prog w) [] ∧ PyProof.V.FlatPairs PyData.int [] [] ∧
    (∀ q ∈ news, q.1 < ed) ∧ (@LT.lt Nat _ ed e) ∧ (@LT.lt Nat _ e fd) ∧ (@LT.lt Nat _ fd ld)
/-- a call of the class Environment -/
theorem envm_does (w : World) (mean : ExcName → Option Value) (mg mb : Str → Option Value) (news : Led) (no : Int) (nt : Tok) :
    Does w mean mg mb 121 [.int no nt, .none] 4 40 news (EnvNew w no nt news) := by
  unfold Does; k_fill
  intro dp un gd cn cs a ccd cl outer A₀ base h₀ L m s Q E B F X N T hcs hdp hu hret
  k_dflt (walk_at "my class")
  w_strict k_steps
  exact hret _ _ _ _ (by k_asm) (by k_asm) ⟨_, _, _, _, _, _, _, _, _, _, _, _, _, _, rfl, rfl, ‹(_ == sysModules) = false›, by assumption, by assumption, by assumption, by assumption, by assumption, by omega, by omega, by omega⟩
theorem reg_Vc_2 : True := by
  k_with "m:call ref" => ((k_here; (with_reducible show wpAny _ _ (call (Value.ref 99) [Value.str _ _, Value.ref _]) _ _ _); k_dflt (refine' does_use ?k1 ?k2 ?k3 ?k4 ?k5 ?kK (vector_does _ _ _ _ _ _ _ _) ?kd ?ku ?_; walk_at "my use"; walk_at "my rooms"); (intro _ _ _ _ _ _ hP'w); (k_dflt (obtain ⟨_, _, _, _, _, _, _, e1'w, e2'w, l1'w, _⟩ := hP'w)); (have l0'w := l1'w); (try k_lt l0'w); (subst e1'w); (subst e2'w); (try dsimp only)))
  k_with "m:call ref" => ((k_here; (with_reducible show wpAny _ _ (call (Value.ref 121) [Value.int _ _, Value.none]) _ _ _); k_dflt (refine' does_use ?k1 ?k2 ?k3 ?k4 ?k5 ?kK (envm_does _ _ _ _ _ _ _) ?kd ?ku ?_; walk_at "my use"; walk_at "my rooms"); (intro _ _ _ _ _ _ hP'w); (k_dflt (obtain ⟨_, _, _, _, _, _, _, _, _, _, _, _, _, _, e1'w, e2'w, _, _, _, _, _, l1'w, _, _, _⟩ := hP'w)); (have l0'w := l1'w); (try k_lt l0'w); (subst e1'w); (subst e2'w); (try dsimp only)))
  trivial
/-- as Does, from the first frame, whose slots may turn meanwhile -/
def DoesT (w : World) (mean : ExcName → Option Value) (mg mb : Str → Option Value) (f : Addr) (vs : List Value) (d u : Nat) (news : Led) (Post : Led → Value → Prop) : Prop :=
  ∀ (dp un : Nat) (gd : Option (List Code)) (cn : Str) (cs : Scope) (a : Addr) (ccd : Value) (cl : List (Str × Addr)) (A₀ : Around) (base h₀ : Heap) (L : Addr) (m : Str → Option Value) (s : Shared)
    (Q E : Value → Shared → Prop),
    Below A₀ base [] h₀ → (hd.heap_1 w.params).In base → Top hd.view_1 (looseW hd.view_1 [Str.ofString "number_text"]) mean mg mb base → Fr h₀ L s.heap m → (hd.heap_1 w.params).In h₀ → News h₀ L s.heap news → Top hd.view_1 (looseW hd.view_1 [Str.ofString "number_text"]) mean mg mb h₀ → cs.kind = .function → dp + d < recursionLimit → un + u < cLine →
    (∀ r h' tk' news', Fr h₀ L h' m → News h₀ L h' news' → Post news' r → Q r { s with heap := h', toks := tk' }) →
    wpAny (model PySem.Challenge.rw_pq1405_01.row.prog w) (ktrTop dp un gd cn cs L a ccd cl []) (call (.ref f) vs) Q E s
theorem told_no_numbers (w : World) (mean : ExcName → Option Value) (mg mb : Str → Option Value) (news : Led) (ar : Addr) (x : Str) (xt : Tok) (hx : x.length ≤ 10) :
    DoesT w mean mg mb 410 [.ref 365, .ref ar, .str x xt] 12 120 news (fun news' r => ∃ tp tn mt, r = .ref tp ∧
      (tp, ({ cls := .type "tuple", data := .seq #[.none, .str (Str.ofString "‘" ++ x ++ Str.ofString "’ not meaningful for factors") mt] tn } : Obj)) ∈ news' ∧ ∀ q ∈ news, q ∈ news') := by
  unfold DoesT; k_fill
  intro dp un gd cn cs a ccd cl A₀ base h₀ L m s Q E B XB TB F X N T hcs hdp hu hret
  refine wpAny_call ?_
  k_dflt (refine' code_defSX ?k1 ?k2 ?k3 ?k4 ?k5 ?kA ?kF ?kK ?k6 ?k7 ?k8 ?k9 ?kB ?_ ?c2 ?c3 ?c4 ?c5; (case kA => exact rfl); (case kF => exact rfl); (case kK => assumption); (case k1 => k_asm); (case k2 => k_asm); (case k3 => exact X); (case k4 => k_asm); (case k5 => exact T); (case k6 => k_is); (case k7 => k_is); (case k8 => ktr_room); (case k9 => exact BindsTo.of_eq rfl); (case c5 => decide); (case kB => exact locs rfl); (case c2 => exact rfl); (case c3 => exact rfl); (case c4 => exact rfl))
  intro g' L' h' FG' F' N' B' X' T' D'
  (try dsimp only)
  (try k_fold)
  w_strict (repeat' ((fail_if_success (with_reducible show wpAny _ _ (call (Value.ref 365) _) _ _ _)); (first | (k_unfold; (try dsimp only)) | (k_end; wrow_close) | walk1 | (dsimp only; walk1) | (leave1; walk_say "STEP leave1"; try dsimp only) | fail "no step")))
  k_dflt (refine' raises_use ?k1 ?k2 ?k3 ?k4 ?k5 ?kK (no_numbers_raises _ _ _ _ _ _ _ _ _ _ _ _ _ hx ?ke ?kv ?kl) ?kd ?ku ?_; walk_at "my use"; (case ke => exact ⟨_, _, _, _, _, _, _, _, _, _, _, _, _, _, by k_mem, by k_mem, by k_mem, by assumption, by assumption⟩); (case kv => exact ⟨_, _, _, _, _, _, _, by k_mem, by k_mem⟩); (case kl => k_mem); walk_at "my rooms")
  intro e dx h2 tk2 G news2 FG2 R2 U2 hP2
  obtain ⟨k2, mt, hmd, hsub⟩ := hP2
  dsimp only
  refine caughtD (KF := hd.heap_1 w.params) R2 FG2 (by assumption) U2 XB TB D' KtsTurn.refl (by k_is) (by kernel_rfl) ?_
  intro h3 g3 oe vs tk3 KT3 F3 N3 hcls hdict hdata K3 X3 T3 D3
  w_strict k_steps
  refine hret _ _ _ _ (by k_asm) (by k_asm) ⟨_, _, _, rfl, .head _, fun q hq => .tail _ (.tail _ (hsub q ?_))⟩
  repeat (first | exact hq | refine List.Mem.tail _ ?_)
abbrev sO : Str := Str.ofString "ordered"
abbrev sF : Str := Str.ofString "factor"
/-- the texts of a class attribute -/
def sortsOf (ord : Bool) (t1 t2 : Tok) : Array Value := if ord then #[.str sO t1, .str sF t2] else #[.str sF t2]
/-- a factor of the ledger: its codes, its levels, is it ordered -/
def FacAt (w : World) (news : Led) (f : Addr) (cs lv : List Dat) (ord : Bool) : Prop :=
  ∃ it ad ivs n1 o lvv cv li lvs n2 ci n3 t1 t2, VecAt w news f "integer" it (.ref ad) ∧ (it, listOf (List.toArray ivs) n1) ∈ news ∧ DatAll [] ivs cs ∧ (ad, o) ∈ news ∧
    o.IsDictOf (PySem.strKind PySem.Challenge.rw_pq1405_01.row.prog w) [(Str.ofString "levels", .ref lvv), (Str.ofString "class", .ref cv)] ∧ (ad == sysModules) = false ∧
    VecAt w news lvv "character" li .none ∧ (li, listOf (List.toArray lvs) n2) ∈ news ∧ DatAll [] lvs lv ∧
    VecAt w news cv "character" ci .none ∧ (ci, listOf (sortsOf ord t1 t2) n3) ∈ news
theorem FacAt.mono {w : World} {news news' : Led} {f : Addr} {cs lv : List Dat} {ord : Bool} (h : FacAt w news f cs lv ord) (k : ∀ p ∈ news, p ∈ news') : FacAt w news' f cs lv ord := by
  obtain ⟨it, ad, ivs, n1, o, lvv, cv, li, lvs, n2, ci, n3, t1, t2, h1, h2, h3, h4, h5, h6, h7, h8, h9, h10, h11⟩ := h
  exact ⟨it, ad, ivs, n1, o, lvv, cv, li, lvs, n2, ci, n3, t1, t2, h1.mono k, k _ h2, h3, k _ h4, h5, h6, h7.mono k, k _ h8, h9, h10.mono k, k _ h11⟩
theorem is_ordered_does (w : World) (mean : ExcName → Option Value) (mg mb : Str → Option Value) (news : Led) (f : Addr) (cs lv : List Dat) (ord : Bool) (hf : FacAt w news f cs lv ord) :
    Does w mean mg mb 325 [.ref f] 6 80 news (fun news' r => news' = news ∧ r = .bool ord) := by
  unfold Does; k_fill
  intro dp un gd cn cs' a ccd cl outer A₀ base h₀ L m s Q E B F X N T hcs hdp hu hret
  obtain ⟨it, ad, ivs, n1, o, lvv, cv, li, lvs, n2, ci, n3, t1, t2, ⟨fd, k1, k2, k3, k4, k5, k6, h1, h1'⟩, h2, h3, h4, h5, h6, ⟨ld, l1, l2, l3, l4, l5, l6, h7, h7'⟩, h8, h9, ⟨cd, c1, c2, c3, c4, c5, c6, h10, h10'⟩, h11⟩ := hf
  refine wpAny_call ?_
  cases ord
  · replace h11 : (ci, listOf #[.str sF t2] n3) ∈ news := h11
    (k_dflt ktr_enter)
    w_strict k_steps
    refine hret _ _ _ _ (by k_asm) (cb_drop (by k_asm) fun p hp => ?_) ⟨rfl, congrArg Value.bool (by decide +kernel)⟩
    repeat (first | exact hp | refine List.mem_cons_of_mem _ ?_)
  · replace h11 : (ci, listOf #[.str sO t1, .str sF t2] n3) ∈ news := h11
    (k_dflt ktr_enter)
    w_strict k_steps
    refine hret _ _ _ _ (by k_asm) (cb_drop (by k_asm) fun p hp => ?_) ⟨rfl, congrArg Value.bool (by decide +kernel)⟩
    repeat (first | exact hp | refine List.mem_cons_of_mem _ ?_)
section
variable {prog : Program} {w : World} {A : Around} {h₀ : Heap} {L : Addr} {m : Str → Option Value} {env : Env} {elt : PySem.Expr} {x : Str} {scope : Scope} {cl : List (Str × Addr)} {s : Shared} {S : Led → Prop} {P : Nat → Value → Prop} {Fin : List Value → Led → Prop}
/-- the turns of a comprehension by an invariant over what is made and the ledger -/
theorem compRest_inv (J : Nat → List Value → Led → Prop) {n : Nat}
    (step : ∀ i ys news v I oI C oC D m₂ h tk (E' : Value → Shared → Prop), i < n → J i ys news → P i v → LCg.NsObj oC m₂ → m₂ x = some v → Fr h₀ L h m → News h₀ L h ((I, oI) :: (C, oC) :: (D, LCg.lst ys) :: news) → LCg.Off3 I C D news → ((@Ne Nat I C) ∧ (@Ne Nat I D) ∧ (@Ne Nat C D)) →
      wpAny (model prog w) A (eval elt (compEnvC scope cl C env)) (LCg.CompEnd h₀ L m { s with heap := h, toks := tk } I oI C oC D (LCg.lst ys) S (fun y news' => J (i + 1) (ys ++ [y]) news')) E' { s with heap := h, toks := tk })
    (fin : ∀ ys news, J n ys news → Fin ys news) {news : Led} (h0 : J 0 [] news) : LCg.CompRest prog w A h₀ L m env elt x scope cl s S P Fin n 0 [] news := by
  have all : ∀ k i ys news, i + k = n → J i ys news → LCg.CompRest prog w A h₀ L m env elt x scope cl s S P Fin k i ys news := by
    intro k
    induction k with
    | zero => intro i ys news e hJ; exact LCg.CompRest.zero (fin _ _ (by rw [← e]; exact hJ))
    | succ k ih =>
      intro i ys news e hJ
      refine LCg.CompRest.succ fun v I oI C oC D m₂ h tk E' hP hC hx F N off ne => ?_
      refine wpAny_mono (step i ys news v I oI C oC D m₂ h tk E' (by omega) hJ hP hC hx F N off ne) (fun y s₂ hE => ?_) fun _ _ q => q
      obtain ⟨h', tk', news', e1, F', N', off', hS, hr⟩ := hE
      exact ⟨h', tk', news', e1, F', N', off', hS, ih (i + 1) _ _ (by omega) hr⟩
  exact all n 0 [] news (Nat.zero_add n) h0
end
theorem datAll_get {news : Led} : ∀ {vs : List Value} {ds : List Dat} {i : Nat} {v : Value}, DatAll news vs ds → vs[i]? = some v → ∃ d, ds[i]? = some d ∧ DatIn news v d
  | _ :: _, _ :: _, 0, _, .cons h _, e => by cases e; exact ⟨_, rfl, h⟩
  | _ :: _, _ :: _, i + 1, v, .cons _ r, e => datAll_get (i := i) r (by simpa using e)
theorem datAll_snoc {news : Led} : ∀ {vs : List Value} {ds : List Dat} {v : Value} {d : Dat}, DatAll news vs ds → DatIn news v d → DatAll news (vs ++ [v]) (ds ++ [d])
  | _, _, _, _, .nil, h => .cons h .nil
  | _, _, _, _, .cons h r, h' => .cons h (datAll_snoc r h')
theorem take_succ_of {α : Type} {ds : List α} {i : Nat} {d : α} (h : ds[i]? = some d) : ds.take (i + 1) = ds.take i ++ [d] := by
  rw [List.take_add_one, h]; rfl
theorem reg_Lt_1 : True := by
  k_with "m:my keep" => ((intro _ hp'w; (have hq'w := List.mem_cons.mp hp'w); (cases hq'w; (case inl hz'w => (subst hz'w; k_mem)); (case inr hz'w => (repeat (first | exact hz'w | refine List.mem_cons_of_mem _ ?_))))))
  k_with "m:my sub" => ((intro _ hp'w; first | exact hp'w | (repeat (first | exact hp'w | refine List.mem_cons_of_mem _ ?_))))
  trivial
theorem reg_Lx_1 : True := by
  k_with "m:eval ListComp" => ((k_here; k_dflt (refine LCg.ListComp_U (F₀ := by k_asm) (by with_unfolding_all rfl) (by decide) (by rfl) (by decide) (by rfl) ?_)))
  trivial
theorem label_texts_does (w : World) (mean : ExcName → Option Value) (mg mb : Str → Option Value) (news : Led) (v li : Addr) (lvs : List Value) (lv : List Dat) (n : Nat) (hv : VecAt w news v "character" li .none) (hl : (li, listOf (List.toArray lvs) n) ∈ news) (hd' : DatAll [] lvs lv)
    (hs : ∀ d ∈ lv, ∃ x, d = Dat.str x) (hn : lv.length ≤ 4) :
    Does w mean mg mb 304 [.ref v] 4 80 news (fun news' r => ∃ a vs, r = .ref a ∧ news' = (a, LCg.lst vs) :: news ∧ DatAll [] vs lv ∧ ∀ q ∈ news, q.1 ≠ a) := by
  unfold Does; k_fill
  intro dp un gd cn cs' a ccd cl outer A₀ base h₀ L m s Q E B F X N T hcs hdp hu hret
  obtain ⟨vd, k1, k2, k3, k4, k5, k6, h1, h1'⟩ := hv
  refine wpAny_call ?_
  k_dflt (walk_at "my enterC")
  w_strict (walk_at "my steps")
  refine LCg.CompSrc.ledger rfl (by k_asm) (by k_asm) (by k_mem) (by rw [List.size_toArray, hd'.length, PySem.sizeLine_eq]; omega) (fun g => compRest_inv (fun i ys nx => nx = _ ∧ DatAll [] ys (lv.take i)) ?step ?fin ⟨rfl, .nil⟩)
  case step =>
    intro i ys nx v' I oI C oC D m₂ h tk E' hi hJ hP hC hx F1 N1 off ne
    obtain ⟨hnx, hD⟩ := hJ
    subst hnx
    obtain ⟨d, hdi, hDv⟩ := datAll_get hd' (by simpa using hP)
    obtain ⟨x, rfl⟩ := hs d (List.mem_of_getElem? hdi)
    cases hDv
    w_strict (walk_at "my steps")
    (try k_unfold)
    exact LCg.CompEnd.intro (by k_asm) (by k_asm) _ (fun _ h => h) off (Or.inr ⟨_, by k_mem, rfl, _, rfl⟩) ⟨rfl, by rw [take_succ_of hdi]; exact datAll_snoc hD (.str x _)⟩
  case fin =>
    rintro ys nx ⟨hnx, hD⟩
    subst hnx
    rw [List.take_of_length_le (by rw [List.size_toArray, hd'.length]; exact Nat.le_refl _)] at hD
    w_strict (walk_at "my steps")
    refine hret _ _ _ _ (by k_asm) (cb_drop (by k_asm) ?_) ⟨_, _, rfl, rfl, hD, by k_all⟩
    intro p hp
    rcases List.mem_cons.mp hp with rfl | hp
    · exact List.mem_cons_self
    · repeat (first | exact hp | refine List.mem_cons_of_mem _ ?_)
theorem reg_Lx_2 : True := by
  k_with "m:call ref" => ((k_here; (with_reducible show wpAny _ _ (call (Value.ref 304) _) _ _ _); k_dflt (refine' does_use ?k1 ?k2 ?k3 ?k4 ?k5 ?kK (label_texts_does _ _ _ _ _ _ _ _ _ _ ?ke ?kv ?kl ?ks ?kn) ?kd ?ku ?_; walk_at "my use"; (case ke => exact VecAt.mono (by assumption) (by walk_at "my sub")); (case kv => k_mem); (case kl => assumption); (case ks => assumption); (case kn => assumption); walk_at "my rooms"); (intro _ _ _ _ _ _ hP'w); (obtain ⟨_, _, e1'w, e2'w, _, _⟩ := hP'w); (subst e1'w); (subst e2'w); (try dsimp only)))
  trivial
theorem level_texts_does (w : World) (mean : ExcName → Option Value) (mg mb : Str → Option Value) (news : Led) (f : Addr) (cs lv : List Dat) (ord : Bool) (hf : FacAt w news f cs lv ord)
    (hs : ∀ d ∈ lv, ∃ x, d = Dat.str x) (hn : lv.length ≤ 4) :
    Does w mean mg mb 330 [.ref f] 6 100 news (fun news' r => ∃ a vs, r = .ref a ∧ news' = (a, LCg.lst vs) :: news ∧ DatAll [] vs lv ∧ ∀ q ∈ news, q.1 ≠ a) := by
  unfold Does; k_fill
  intro dp un gd cn cs' a ccd cl outer A₀ base h₀ L m s Q E B F X N T hcs hdp hu hret
  obtain ⟨it, ad, ivs, n1, o, lvv, cv, li, lvs, n2, ci, n3, t1, t2, ⟨fd, k1, k2, k3, k4, k5, k6, h1, h1'⟩, h2, h3, h4, h5, h6, hvv, h8, h9, ⟨cd, c1, c2, c3, c4, c5, c6, h10, h10'⟩, h11⟩ := hf
  have hvv' := hvv
  obtain ⟨ld, l1, l2, l3, l4, l5, l6, h7, h7'⟩ := hvv
  refine wpAny_call ?_
  (k_dflt ktr_enter)
  w_strict (walk_at "my steps")
  rename DatAll [] _ lv => dA
  refine LCg.CompSrc.ledger rfl (by k_asm) (by k_asm) (by k_mem) (by rw [List.size_toArray, dA.length, PySem.sizeLine_eq]; omega) (fun g => compRest_inv (fun i ys nx => nx = _ ∧ DatAll [] ys (lv.take i)) ?step ?fin ⟨rfl, .nil⟩)
  case step =>
    intro i ys nx v' I oI C oC D m₂ h tk E' hi hJ hP hC hx F1 N1 off ne
    obtain ⟨hnx, hD⟩ := hJ
    subst hnx
    obtain ⟨d, hdi, hDv⟩ := datAll_get dA (by simpa using hP)
    obtain ⟨x, rfl⟩ := hs d (List.mem_of_getElem? hdi)
    cases hDv
    w_strict (walk_at "my steps")
    (try k_unfold)
    exact LCg.CompEnd.intro (by k_asm) (by k_asm) _ (fun _ h => h) off (Or.inr ⟨_, by k_mem, rfl, _, rfl⟩) ⟨rfl, by rw [take_succ_of hdi]; exact datAll_snoc hD (.str x _)⟩
  case fin =>
    rintro ys nx ⟨hnx, hD⟩
    subst hnx
    rw [List.take_of_length_le (by rw [List.size_toArray, dA.length]; exact Nat.le_refl _)] at hD
    w_strict (walk_at "my steps")
    refine hret _ _ _ _ (by k_asm) (cb_drop (by k_asm) ?_) ⟨_, _, rfl, rfl, hD, by k_all⟩
    intro p hp
    rcases List.mem_cons.mp hp with rfl | hp
    · exact List.mem_cons_self
    · repeat (first | exact hp | refine List.mem_cons_of_mem _ ?_)
theorem reg_Lv_1 : True := by
  k_with "m:call ref" => ((k_here; (with_reducible show wpAny _ _ (call (Value.ref 325) _) _ _ _); k_dflt (refine' does_use ?k1 ?k2 ?k3 ?k4 ?k5 ?kK (is_ordered_does _ _ _ _ _ _ _ _ _ ?ke) ?kd ?ku ?_; walk_at "my use"; (case ke => exact FacAt.mono (by assumption) (by walk_at "my sub")); walk_at "my rooms"); (intro _ _ _ _ _ _ hP'w); (obtain ⟨e1'w, e2'w⟩ := hP'w); (subst e2'w); (have e3'w := Eq.symm e1'w); (subst e3'w); (try dsimp only)))
  k_with "m:call ref" => ((k_here; (with_reducible show wpAny _ _ (call (Value.ref 330) _) _ _ _); k_dflt (refine' does_use ?k1 ?k2 ?k3 ?k4 ?k5 ?kK (level_texts_does _ _ _ _ _ _ _ _ _ ?ke ?ks ?kn) ?kd ?ku ?_; walk_at "my use"; (case ke => exact FacAt.mono (by assumption) (by walk_at "my sub")); (case ks => assumption); (case kn => assumption); walk_at "my rooms"); (intro _ _ _ _ _ _ hP'w); (obtain ⟨_, _, e1'w, e2'w, _, _⟩ := hP'w); (subst e1'w); (subst e2'w); (try dsimp only)))
  trivial
abbrev sMax : Str := Str.ofString "max"
abbrev sMin : Str := Str.ofString "min"
abbrev sRange : Str := Str.ofString "range"
theorem in_none {prog : Program} {w : World} {A : Around} {E : Value → Shared → Prop} {s : Shared} {h₀ : Heap} {L a : Addr} {news : Led} {xs : List Value} {ka : Nat} {ds : List Dat} {b : Bool} {Q : Value → Shared → Prop}
    (N : News h₀ L s.heap news) (ma : (a, listOf (List.toArray xs) ka) ∈ news) (Da : DatAll [] xs ds) (ha : ∀ d ∈ ds, kqdOk 8 d = true) (hb : Dat.none ∈ ds ↔ b = true) (hu : A.units + 64 < cLine) (h : Q (.bool b) s) :
    wpAny (model prog w) A (compareOp .In .none (.ref a)) Q E s := by
  refine kqd_isIn (n₁ := []) (n₂ := []) (d := Dat.none) N ma rfl rfl Da (fun _ h => nomatch h) DatIn.none (fun _ h => nomatch h) ha rfl hu ?_
  have e : ∀ i : Decidable (Dat.none ∈ ds), @decide _ i = b := fun i => by
    cases b
    · exact @decide_eq_false _ i fun z => by have := hb.mp z; cases this
    · exact @decide_eq_true _ i (hb.mpr rfl)
  rw [e]; exact h
theorem len_led {prog : Program} {w : World} {A : Around} {E : Value → Shared → Prop} {s : Shared} {h₀ : Heap} {L a : Addr} {news : Led} {xs : List Value} {ka : Nat} {Q : Value → Shared → Prop}
    (N : News h₀ L s.heap news) (ma : (a, listOf (List.toArray xs) ka) ∈ news) (hz : xs.length ≤ 16384) (h : Q (.int (xs.length : Int) (s.toks + 1)) { s with toks := s.toks + 1 + 1 }) :
    wpAny (model prog w) A (call (.builtin "len") [.ref a]) Q E s :=
  kun_lenL (News.isList N ma) (k := (xs.length : Int)) rfl (by omega) h
theorem mul_nones {prog : Program} {w : World} {A : Around} {E : Value → Shared → Prop} {s : Shared} {h₀ : Heap} {L l : Addr} {m : Str → Option Value} {news : Led} {k : Nat} {x : Int} {u : Tok} {Q : Value → Shared → Prop} (hx : x = 1 ∨ x = 2)
    (F : Fr h₀ L s.heap m) (N : News h₀ L s.heap news) (hm : (l, listOf #[Value.none] k) ∈ news)
    (h : ∀ D h', Fr h₀ L h' m → News h₀ L h' ((D, listOf (List.replicate x.toNat Value.none).toArray 0) :: news) → (∀ p ∈ news, p.1 < D) → Q (.ref D) { s with heap := h' }) :
    wpAny (model prog w) A (binaryOp .Mult (.ref l) (.int x u)) Q E s := by
  refine mul_list F N (N _ hm).1 (by omega) (by omega) ?_ fun h' F' N' => h _ h' F' ?_ fun p hp => Heap.lt_size (N p hp).1
  · rcases hx with rfl | rfl <;> decide
  · rcases hx with rfl | rfl <;> exact N'
theorem reg_Oc_1 : True := by
  k_with "m:binaryOp Mult ref int" => ((k_here; (with_reducible show wpAny _ _ (binaryOp Operator.Mult (Value.ref _) (Value.int _ _)) _ _ _); k_dflt (refine' mul_nones ?k0 ?k1 ?k2 ?k3 ?_; (case k1 => k_asm); (case k2 => k_asm); (case k3 => k_mem); (case k0 => decide)); intro _ _ _ _ l1'w; (try k_lt l1'w)))
  k_with "m:call builtin:len" => ((k_here; (with_reducible show wpAny _ _ (call (Value.builtin "len") [Value.ref _]) _ _ _); k_dflt (refine' len_led ?k1 ?k2 ?k3 ?_; (case k1 => k_asm); (case k2 => k_mem); (case k3 => omega))))
  k_with "m:compareOp In none ref" => ((k_here; k_dflt (refine' in_none ?k1 ?k2 ?k3 ?k4 ?k5 ?k6 ?_; (case k1 => k_asm); (case k2 => k_mem); (case k3 => assumption); (case k4 => assumption); (case k5 => assumption); (case k6 => ktr_units))))
  trivial
theorem ints_of_dats : ∀ {vs : List Value} {ns : List Int}, DatAll [] vs (ns.map Dat.int) → IntsAre vs ns
  | _, [], .nil => .nil
  | _, _ :: _, .cons h r => by cases h; exact .cons _ _ (ints_of_dats r)
theorem dats_of_ints : ∀ {vs : List Value} {ns : List Int}, IntsAre vs ns → DatAll [] vs (ns.map Dat.int)
  | _, _, .nil => .nil
  | _, _, .cons n t r => .cons (.int n t) (dats_of_ints r)
theorem outer_bad (w : World) (mean : ExcName → Option Value) (mg mb : Str → Option Value) (news : Led) (c : Addr) (cvs : List Value) (ds : List Dat) (n : Nat) (op : Str) (t : Tok) (hop : op = sMax ∨ op = sMin ∨ op = sRange) (hc : (c, listOf (List.toArray cvs) n) ∈ news) (hD : DatAll [] cvs ds) (hok : ∀ d ∈ ds, kqdOk 8 d = true) (hn : ds.length ≤ 20)
    (hbad : ds = [] ∨ Dat.none ∈ ds) :
    Does w mean mg mb 372 [.str op t, .ref c] 4 120 news (fun news' r => ∃ a k, r = .ref a ∧ news' = (a, listOf (List.replicate (if op = sRange then 2 else 1) Value.none).toArray k) :: news ∧ ∀ q ∈ news, q.1 ≠ a) := by
  unfold Does; k_fill
  intro dp un gd cn cs' a ccd cl outer A₀ base h₀ L m s Q E B F X N T hcs hdp hu hret
  have hlen := hD.length
  refine wpAny_call ?_
  have hb : cvs.length ≠ 0 → (Dat.none ∈ ds ↔ true = true) := fun q => ⟨fun _ => rfl, fun _ => hbad.elim (fun z => absurd (by rw [hlen, z]; rfl) q) id⟩
  by_cases h0 : cvs.length = 0
  · have h00 : cvs = [] := List.eq_nil_of_length_eq_zero h0
    rcases hop with rfl | rfl | rfl
    all_goals ((k_dflt ktr_enter); w_strict (walk_at "my steps"))
    all_goals first
      | exact hret _ _ _ _ (by k_asm) (cb_drop (by k_asm) (by walk_at "my keep")) ⟨_, _, rfl, rfl, by k_all⟩
      | omega
  have hb' := hb h0
  clear hb
  rcases hop with rfl | rfl | rfl
  all_goals ((k_dflt ktr_enter); w_strict (walk_at "my steps"))
  all_goals first
    | omega
    | exact hret _ _ _ _ (by k_asm) (cb_drop (by k_asm) (by walk_at "my keep")) ⟨_, _, rfl, rfl, by k_all⟩
/-- greatest and least of a list of ints -/
def MaxIs (ns : List Int) (M : Int) : Prop := M ∈ ns ∧ ∀ a ∈ ns, a ≤ M
def MinIs (ns : List Int) (M : Int) : Prop := M ∈ ns ∧ ∀ a ∈ ns, M ≤ a
def TopIs (op : Str) (ns : List Int) (out : List Dat) : Prop :=
  (op = sMax ∧ ∃ M, MaxIs ns M ∧ out = [Dat.int M]) ∨ (op = sMin ∧ ∃ M, MinIs ns M ∧ out = [Dat.int M]) ∨ (op = sRange ∧ ∃ m M, MinIs ns m ∧ MaxIs ns M ∧ out = [Dat.int m, Dat.int M])
/-- what outer_codes hands back, said of the codes -/
def OutIs (op : Str) (ds out : List Dat) : Prop :=
  ((ds = [] ∨ Dat.none ∈ ds) ∧ out = List.replicate (if op = sRange then 2 else 1) Dat.none) ∨ (∃ ns : List Int, ds = ns.map Dat.int ∧ ns ≠ [] ∧ TopIs op ns out)
theorem outer_good (w : World) (mean : ExcName → Option Value) (mg mb : Str → Option Value) (news : Led) (c : Addr) (cvs : List Value) (ns : List Int) (n : Nat) (op : Str) (t : Tok) (hop : op = sMax ∨ op = sMin ∨ op = sRange) (hc : (c, listOf (List.toArray cvs) n) ∈ news) (hI : IntsAre cvs ns) (hn : ns.length ≤ 20)
    (hne : ns ≠ []) :
    Does w mean mg mb 372 [.str op t, .ref c] 4 120 news (fun news' r => ∃ a vs k out, r = .ref a ∧ news' = (a, listOf (List.toArray vs) k) :: news ∧ DatAll [] vs out ∧ TopIs op ns out ∧ ∀ q ∈ news, q.1 ≠ a) := by
  unfold Does; k_fill
  intro dp un gd cn cs' a ccd cl outer A₀ base h₀ L m s Q E B F X N T hcs hdp hu hret
  have hlen := hI.length
  have hD := dats_of_ints hI
  have hok : ∀ d ∈ ns.map Dat.int, kqdOk 8 d = true := by
    intro d hd; obtain ⟨i, _, rfl⟩ := List.mem_map.mp hd; rfl
  have hb : Dat.none ∈ ns.map Dat.int ↔ false = true := by simp
  have hpos : 0 < ns.length := List.length_pos_iff.mpr hne
  refine wpAny_call ?_
  rcases hop with rfl | rfl | rfl
  all_goals ((k_dflt ktr_enter); w_strict (walk_at "my steps"))
  · omega
  · exact hret _ _ _ _ (by k_asm) (cb_drop (by k_asm) (by walk_at "my keep")) ⟨_, _, _, _, rfl, rfl, .cons (.int _ _) .nil, .inl ⟨rfl, _, ⟨by assumption, by assumption⟩, rfl⟩, by k_all⟩
  · omega
  · exact hret _ _ _ _ (by k_asm) (cb_drop (by k_asm) (by walk_at "my keep")) ⟨_, _, _, _, rfl, rfl, .cons (.int _ _) .nil, .inr (.inl ⟨rfl, _, ⟨by assumption, by assumption⟩, rfl⟩), by k_all⟩
  · omega
  · exact hret _ _ _ _ (by k_asm) (cb_drop (by k_asm) (by walk_at "my keep")) ⟨_, _, _, _, rfl, rfl, .cons (.int _ _) (.cons (.int _ _) .nil), .inr (.inr ⟨rfl, _, _, ⟨by assumption, by assumption⟩, ⟨by assumption, by assumption⟩, rfl⟩), by k_all⟩
theorem dats_split : ∀ (ds : List Dat), (∀ d ∈ ds, d = Dat.none ∨ ∃ i, d = Dat.int i) → Dat.none ∉ ds → ∃ ns : List Int, ds = ns.map Dat.int
  | [], _, _ => ⟨[], rfl⟩
  | d :: r, h, hn => by
    obtain ⟨ns, rfl⟩ := dats_split r (fun x hx => h x (.tail _ hx)) fun z => hn (.tail _ z)
    rcases h d (.head _) with rfl | ⟨i, rfl⟩
    · exact absurd (.head _) hn
    · exact ⟨i :: ns, rfl⟩
theorem datAll_nones : ∀ n : Nat, DatAll [] (List.replicate n Value.none) (List.replicate n Dat.none)
  | 0 => .nil
  | n + 1 => .cons .none (datAll_nones n)
theorem outer_does (w : World) (mean : ExcName → Option Value) (mg mb : Str → Option Value) (news : Led) (c : Addr) (cvs : List Value) (ds : List Dat) (n : Nat) (op : Str) (t : Tok) (hop : op = sMax ∨ op = sMin ∨ op = sRange) (hc : (c, listOf (List.toArray cvs) n) ∈ news) (hD : DatAll [] cvs ds)
    (hok : ∀ d ∈ ds, d = Dat.none ∨ ∃ i, d = Dat.int i) (hn : ds.length ≤ 20) :
    Does w mean mg mb 372 [.str op t, .ref c] 4 120 news (fun news' r => ∃ a vs k out, r = .ref a ∧ news' = (a, listOf (List.toArray vs) k) :: news ∧ DatAll [] vs out ∧ OutIs op ds out ∧ ∀ q ∈ news, q.1 ≠ a) := by
  by_cases hbad : ds = [] ∨ Dat.none ∈ ds
  · have ok : ∀ d ∈ ds, kqdOk 8 d = true := fun d hd => by rcases hok d hd with rfl | ⟨i, rfl⟩ <;> rfl
    intro dp un gd cn cs a ccd cl outer A₀ base h₀ L m s Q E B F X N T hcs hdp hu hret
    refine outer_bad w mean mg mb news c cvs ds n op t hop hc hD ok hn hbad dp un gd cn cs a ccd cl outer A₀ base h₀ L m s Q E B F X N T hcs hdp hu fun r h' tk' news' F' N' hP => ?_
    obtain ⟨a, k, e1, e2, off⟩ := hP
    exact hret r h' tk' news' F' N' ⟨a, _, k, _, e1, e2, datAll_nones _, .inl ⟨hbad, rfl⟩, off⟩
  · obtain ⟨ns, rfl⟩ := dats_split ds hok fun z => hbad (.inr z)
    have hne : ns ≠ [] := fun z => hbad (.inl (by rw [z]; rfl))
    intro dp un gd cn cs a ccd cl outer A₀ base h₀ L m s Q E B F X N T hcs hdp hu hret
    refine outer_good w mean mg mb news c cvs ns n op t hop hc (ints_of_dats hD) (by simpa using hn) hne dp un gd cn cs a ccd cl outer A₀ base h₀ L m s Q E B F X N T hcs hdp hu fun r h' tk' news' F' N' hP => ?_
    obtain ⟨a, vs, k, out, e1, e2, hDo, hT, off⟩ := hP
    exact hret r h' tk' news' F' N' ⟨a, vs, k, out, e1, e2, hDo, .inr ⟨ns, rfl, hne, hT⟩, off⟩
theorem reg_Og_1 : True := by
  k_with "m:call ref" => ((k_here; (with_reducible show wpAny _ _ (call (Value.ref 372) _) _ _ _); k_dflt (refine' does_use ?k1 ?k2 ?k3 ?k4 ?k5 ?kK (outer_does _ _ _ _ _ _ _ _ _ _ _ ?kop ?kc ?kD ?kok ?kn) ?kd ?ku ?_; walk_at "my use"; (case kop => assumption); (case kc => k_mem); (case kD => assumption); (case kok => assumption); (case kn => assumption); walk_at "my rooms"); (intro _ _ _ _ _ _ hP'w); (obtain ⟨_, _, _, _, e1'w, e2'w, _, _, _⟩ := hP'w); (subst e1'w); (subst e2'w); (try dsimp only)))
  trivial
/-- flag(True) of the ledger -/
def FlagAt (w : World) (news : Led) (v : Addr) : Prop := ∃ fl n t, VecAt w news v "logical" fl .none ∧ (fl, listOf #[Value.int 1 t] n) ∈ news
theorem FlagAt.mono {w : World} {news news' : Led} {v : Addr} (h : FlagAt w news v) (k : ∀ p ∈ news, p ∈ news') : FlagAt w news' v :=
  let ⟨fl, n, t, h1, h2⟩ := h; ⟨fl, n, t, h1.mono k, k _ h2⟩
theorem truth_does (w : World) (mean : ExcName → Option Value) (mg mb : Str → Option Value) (news : Led) (v : Addr) (hv : FlagAt w news v) :
    Does w mean mg mb 195 [.ref v, .bool false] 6 60 news (fun news' r => news' = news ∧ r = .bool true) := by
  unfold Does; k_fill
  intro dp un gd cn cs a ccd cl outer A₀ base h₀ L m s Q E B F X N T hcs hdp hu hret
  obtain ⟨fl, n, t, ⟨vd, k1, k2, k3, k4, k5, k6, h1, h2⟩, h3⟩ := hv
  refine wpAny_call ?_
  (k_dflt ktr_enter)
  w_strict k_steps
  exact hret _ _ _ _ (by k_asm) (cb_drop (by k_asm) (by walk_at "my sub")) ⟨rfl, rfl⟩
theorem reg_Tr_1 : True := by
  k_with "m:call ref" => ((k_here; (with_reducible show wpAny _ _ (call (Value.ref 195) _) _ _ _); k_dflt (refine' does_use ?k1 ?k2 ?k3 ?k4 ?k5 ?kK (truth_does _ _ _ _ _ _ ?ke) ?kd ?ku ?_; walk_at "my use"; (case ke => exact FlagAt.mono (by assumption) (by walk_at "my sub")); walk_at "my rooms"); (intro _ _ _ _ _ _ hP'w); (obtain ⟨e1'w, e2'w⟩ := hP'w); (subst e2'w); (have e3'w := Eq.symm e1'w); (subst e3'w); (try dsimp only)))
  trivial
/-- a Vector made anew over a copy of a list -/
def VecNew (w : World) (kind : String) (vs : List Value) (news news' : Led) (r : Value) : Prop :=
  ∃ v d it c k1 k2 k3 k4 k5 k6, r = .ref v ∧ news' = (v, instObj 99 d) :: (d, vecDict w k1 k2 k3 k4 k5 (.str (Str.ofString kind) k6) (.ref it) .none) :: (it, listOf (List.toArray vs) c) :: news ∧
    (∀ q ∈ news, q.1 < it) ∧ (@LT.lt Nat _ it d) ∧ (@LT.lt Nat _ d v)
theorem integer_does (w : World) (mean : ExcName → Option Value) (mg mb : Str → Option Value) (news : Led) (l : Addr) (vs : List Value) (n : Nat) (hl : (l, listOf (List.toArray vs) n) ∈ news) (hz : vs.length ≤ 100) :
    Does w mean mg mb 132 [.ref l] 6 60 news (VecNew w "integer" vs news) := by
  unfold Does; k_fill
  intro dp un gd cn cs a ccd cl outer A₀ base h₀ L m s Q E B F X N T hcs hdp hu hret
  refine wpAny_call ?_
  (k_dflt ktr_enter)
  w_strict k_steps
  exact hret _ _ _ _ (by k_asm) (by k_asm) ⟨_, _, _, _, _, _, _, _, _, _, rfl, rfl, by assumption, by omega, by omega⟩
theorem character_does (w : World) (mean : ExcName → Option Value) (mg mb : Str → Option Value) (news : Led) (l : Addr) (vs : List Value) (n : Nat) (hl : (l, listOf (List.toArray vs) n) ∈ news) (hz : vs.length ≤ 100) :
    Does w mean mg mb 139 [.ref l] 6 60 news (VecNew w "character" vs news) := by
  unfold Does; k_fill
  intro dp un gd cn cs a ccd cl outer A₀ base h₀ L m s Q E B F X N T hcs hdp hu hret
  refine wpAny_call ?_
  (k_dflt ktr_enter)
  w_strict k_steps
  exact hret _ _ _ _ (by k_asm) (by k_asm) ⟨_, _, _, _, _, _, _, _, _, _, rfl, rfl, by assumption, by omega, by omega⟩
theorem reg_In_1 : True := by
  k_with "m:call ref" => ((k_here; (with_reducible show wpAny _ _ (call (Value.ref 132) _) _ _ _); k_dflt (refine' does_use ?k1 ?k2 ?k3 ?k4 ?k5 ?kK (integer_does _ _ _ _ _ _ _ _ ?ke ?kz) ?kd ?ku ?_; walk_at "my use"; (case ke => k_mem); (case kz => walk_at "my len"); walk_at "my rooms"); (intro _ _ _ _ _ _ hP'w); (k_dflt (obtain ⟨_, _, _, _, _, _, _, _, _, _, e1'w, e2'w, l1'w, _, _⟩ := hP'w)); (have l0'w := l1'w); (try k_lt l0'w); (subst e1'w); (subst e2'w); (try dsimp only)))
  k_with "m:call ref" => ((k_here; (with_reducible show wpAny _ _ (call (Value.ref 139) _) _ _ _); k_dflt (refine' does_use ?k1 ?k2 ?k3 ?k4 ?k5 ?kK (character_does _ _ _ _ _ _ _ _ ?ke ?kz) ?kd ?ku ?_; walk_at "my use"; (case ke => k_mem); (case kz => walk_at "my len"); walk_at "my rooms"); (intro _ _ _ _ _ _ hP'w); (k_dflt (obtain ⟨_, _, _, _, _, _, _, _, _, _, e1'w, e2'w, l1'w, _, _⟩ := hP'w)); (have l0'w := l1'w); (try k_lt l0'w); (subst e1'w); (subst e2'w); (try dsimp only)))
  k_with "m:my len" => (first | decide | omega | (simp only [List.length_cons, List.length_nil]; omega))
  trivial
theorem with_levels_does (w : World) (mean : ExcName → Option Value) (mg mb : Str → Option Value) (news : Led) (v d it : Addr) (ivs lvs : List Value) (cs lv : List Dat) (n n2 : Nat) (tl : Addr) (k1 k2 k3 k4 k5 k6 : Tok) (ht : (tl, listOf (List.toArray lvs) n2) ∈ news) (hz : lvs.length ≤ 4)
    (l0 : ∀ q ∈ news, q.1 < it) (l1 : @LT.lt Nat _ it d) (l2 : @LT.lt Nat _ d v) (hI : DatAll [] ivs cs) (hL : DatAll [] lvs lv) :
    Does w mean mg mb 344 [.ref v, .ref tl, .bool true] 8 120 ((v, instObj 99 d) :: (d, vecDict w k1 k2 k3 k4 k5 (.str (Str.ofString "integer") k6) (.ref it) .none) :: (it, listOf (List.toArray ivs) n) :: news) (fun news' r => r = .ref v ∧ FacAt w news' v cs lv true ∧ ∀ q ∈ news, q ∈ news') := by
  unfold Does; k_fill
  intro dp un gd cn cs' a ccd cl outer A₀ base h₀ L m s Q E B F X N T hcs hdp hu hret
  refine wpAny_call ?_
  (k_dflt ktr_enter)
  w_strict (walk_at "my steps")
  refine hret _ _ _ _ (by k_asm) (by k_asm) ⟨rfl, ⟨it, _, ivs, n, _, _, _, _, lvs, _, _, _, _, _, ⟨d, _, _, _, _, _, _, by k_mem, by k_mem⟩, by k_mem, hI, by k_mem, by assumption, by assumption, ⟨_, _, _, _, _, _, _, by k_mem, by k_mem⟩, by k_mem, hL, ⟨_, _, _, _, _, _, _, by k_mem, by k_mem⟩, (by show (_, listOf #[.str sO _, .str sF _] _) ∈ _; k_mem)⟩, by walk_at "my sub"⟩
theorem reg_Wl_1 : True := by
  k_with "m:call ref" => ((k_here; (with_reducible show wpAny _ _ (call (Value.ref 344) _) _ _ _); k_dflt (refine' does_use ?k1 ?k2 ?k3 ?k4 ?k5 ?kK (with_levels_does _ _ _ _ _ _ _ _ _ _ _ _ _ _ _ _ _ _ _ _ _ ?ke ?kz ?kl0 ?kl1 ?kl2 ?kI ?kL) ?kd ?ku ?_; walk_at "my use"; (case ke => k_mem); (case kz => walk_at "my len"); (case kl0 => assumption); (case kl1 => assumption); (case kl2 => assumption); (case kI => assumption); (case kL => assumption); walk_at "my rooms"); (intro _ _ _ _ _ _ hP'w); (obtain ⟨e1'w, _, _⟩ := hP'w); (subst e1'w); (try dsimp only)))
  trivial
/-- the place of a text in a list of texts -/
def pos : List Str → Str → Nat
  | [], _ => 0
  | a :: r, x => if a = x then 0 else pos r x + 1
def sEq (x : Str) : Value → Bool
  | .str a _ => a.cps.toList == x.cps.toList
  | _ => false
theorem sEq_iff (a x : Str) : (a.cps.toList == x.cps.toList) = true ↔ a = x := by
  constructor
  · intro h
    have := Array.toList_inj.mp (eq_of_beq h)
    cases a; cases x; simp_all
  · rintro rfl; simp
theorem pos_spec {x : Str} : ∀ {xs : List Str} {vs : List Value}, DatAll [] vs (xs.map Dat.str) → x ∈ xs → ∃ j, pos xs x = j ∧ ∃ hj : j < vs.length, sEq x vs[j] = true ∧ ∀ i (hi : i < vs.length), i < j → sEq x vs[i] = false
  | [], _, _, h => nomatch h
  | a :: r, _, .cons (vs := vs) hd ht, h => by
    cases hd
    by_cases e : a = x
    · exact ⟨0, by unfold pos; rw [if_pos e], Nat.zero_lt_succ _, (sEq_iff a x).mpr e, fun i _ h => absurd h (Nat.not_lt_zero _)⟩
    · have hx : x ∈ r := by
        rcases List.mem_cons.mp h with q | q
        · exact absurd q.symm e
        · exact q
      obtain ⟨j, hp, hj, h1, h2⟩ := pos_spec ht hx
      refine ⟨j + 1, by unfold pos; rw [if_neg e, hp], Nat.succ_lt_succ hj, by simpa using h1, fun i hi hlt => ?_⟩
      cases i with
      | zero =>
        have : ¬ (a.cps.toList == x.cps.toList) = true := fun q => e ((sEq_iff a x).mp q)
        simpa [sEq] using this
      | succ i => simpa using h2 i (by simpa using hi) (Nat.lt_of_succ_lt_succ hlt)
theorem sEq_gives {x : Str} {t : Tok} : ∀ {xs : List Str} {vs : List Value}, DatAll [] vs (xs.map Dat.str) → ∀ y, y ∈ vs → MeetsSeq.EqGives y (.str x t) (sEq x y)
  | [], _, .nil, _, hy => nomatch hy
  | a :: r, _, .cons (vs := vs) hd ht, y, hy => by
    cases hd
    rcases List.mem_cons.mp hy with rfl | hy
    · exact SeqRoads2.EqGives.str a x _ t
    · exact sEq_gives ht y hy
theorem str_index {prog : Program} {w : World} {A : Around} {E : Value → Shared → Prop} {s : Shared} {h₀ : Heap} {L D : Addr} {news : Led} {vs : List Value} {xs : List Str} {n : Nat} {x : Str} {t : Tok} {Q : Value → Shared → Prop}
    (N : News h₀ L s.heap news) (hm : (D, listOf (List.toArray vs) n) ∈ news) (hd : DatAll [] vs (xs.map Dat.str)) (hx : x ∈ xs) (hz : xs.length ≤ 100) (h : Q (.int (pos xs x : Int) s.toks) { s with toks := s.toks + 1 }) :
    wpAny (model prog w) A (call (.builtin "list.index") [.ref D, .str x t]) Q E s := by
  obtain ⟨j, hp, hj, h1, h2⟩ := pos_spec hd hx
  rw [hp] at h
  have hl : vs.length = xs.length := by rw [hd.length, List.length_map]
  exact call_meets PySem.F.slot_list_index ⟨_, (N _ hm).1, rfl⟩ PySem.F.entry_list_index (PySem.F.args_list_index_2 _ _)
    (MeetsSeq.list_index D vs.toArray n (.str x t) (sEq x) (fun y hy => sEq_gives hd y (by simpa using hy)) j (by simpa using hj) (by omega) (by simpa using h1) (fun i hi hlt => by simpa using h2 i (by simpa using hi) hlt)) ⟨(N _ hm).1, h⟩
/-- the code of a word by the row of levels -/
def cod (xs : List Str) : Dat → Dat
  | .str x => .int ((pos xs x : Int) + 1)
  | _ => .none
theorem reg_Fi_1 : True := by
  k_with "m:call builtin:list.index" => ((k_here; (with_reducible show wpAny _ _ (call (Value.builtin "list.index") [Value.ref _, Value.str _ _]) _ _ _); k_dflt (refine' str_index ?k1 ?k2 ?k3 ?k4 ?k5 ?_; (case k1 => k_asm); (case k2 => k_mem); (case k3 => assumption); (case k4 => assumption); (case k5 => omega))))
  trivial
theorem reg_Lf_1 : True := by
  k_with "m:my fresh" => ((intro _ hp'w; (simp only [List.mem_cons, List.not_mem_nil, or_false] at hp'w); (rcases hp'w with h'w | h'w | h'w | h'w | h'w | h'w | h'w | h'w | h'w | h'w | h'w <;> subst h'w <;> (refine fun q'w hq'w => Ne.symm ((?_ : ∀ q ∈ _, q.1 ≠ _) q'w hq'w); dsimp only; k_all))))
  trivial
def sortsL (ord : Bool) (t1 t2 : Tok) : List Value := if ord then [.str sO t1, .str sF t2] else [.str sF t2]
theorem sortsOf_eq (ord : Bool) (t1 t2 : Tok) : sortsOf ord t1 t2 = List.toArray (sortsL ord t1 t2) := by cases ord <;> rfl
theorem sortsL_len (ord : Bool) (t1 t2 : Tok) : (sortsL ord t1 t2).length ≤ 2 := by cases ord <;> simp [sortsL]
theorem law_factor_does (w : World) (mean : ExcName → Option Value) (mg mb : Str → Option Value) (news : Led) (wl rl sl : Addr) (wvs rvs : List Value) (ws : List Dat) (xs : List Str) (n n2 n3 : Nat) (ord : Bool) (t1 t2 : Tok)
    (hw : (wl, listOf (List.toArray wvs) n) ∈ news) (hD : DatAll [] wvs ws) (hr : (rl, listOf (List.toArray rvs) n2) ∈ news) (hR : DatAll [] rvs (xs.map Dat.str)) (hs : (sl, listOf (sortsOf ord t1 t2) n3) ∈ news)
    (hin : ∀ d ∈ ws, d = Dat.none ∨ ∃ x ∈ xs, d = Dat.str x) (hn : ws.length ≤ 10) (hx : xs.length ≤ 4) :
    Does w mean mg mb 403 [.ref wl, .ref rl, .ref sl] 8 120 news (fun news' r => ∃ f new, r = .ref f ∧ news' = new ++ news ∧ FacAt w new f (ws.map (cod xs)) (xs.map Dat.str) ord ∧ ∀ p ∈ new, ∀ q ∈ news, p.1 ≠ q.1) := by
  unfold Does; k_fill
  intro dp un gd cn cs' a ccd cl outer A₀ base h₀ L m s Q E B F X N T hcs hdp hu hret
  have hrl : rvs.length ≤ 4 := by rw [hR.length, List.length_map]; exact hx
  refine wpAny_call ?_
  k_dflt (walk_at "my enterC")
  w_strict (walk_at "my steps")
  refine LCg.CompSrc.ledger rfl (by k_asm) (by k_asm) (by k_mem) (by rw [List.size_toArray, hD.length, PySem.sizeLine_eq]; omega) (fun g => compRest_inv (fun i ys nx => nx = _ ∧ DatAll [] ys ((ws.take i).map (cod xs))) ?step ?fin ⟨rfl, .nil⟩)
  case step =>
    intro i ys nx v' I oI C oC D m₂ h tk E' hi hJ hP hC hx F1 N1 off ne
    obtain ⟨hnx, hDy⟩ := hJ
    subst hnx
    obtain ⟨d, hdi, hDv⟩ := datAll_get hD (by simpa using hP)
    rcases hin d (List.mem_of_getElem? hdi) with rfl | ⟨x, hxi, rfl⟩
    · cases hDv
      w_strict (walk_at "my steps")
      (try k_unfold)
      exact LCg.CompEnd.intro (by k_asm) (by k_asm) _ (fun _ h => h) off (Or.inr ⟨_, by k_mem, rfl, _, rfl⟩) ⟨rfl, by rw [take_succ_of hdi, List.map_append]; exact datAll_snoc hDy .none⟩
    · cases hDv
      w_strict (walk_at "my steps")
      (try k_unfold)
      exact LCg.CompEnd.intro (by k_asm) (by k_asm) _ (fun _ h => h) off (Or.inr ⟨_, by k_mem, rfl, _, rfl⟩) ⟨rfl, by rw [take_succ_of hdi, List.map_append]; exact datAll_snoc hDy (.int _ _)⟩
  case fin =>
    rintro ys nx ⟨hnx, hDy⟩
    subst hnx
    rw [List.take_of_length_le (by rw [List.size_toArray, hD.length]; exact Nat.le_refl _)] at hDy
    rw [sortsOf_eq] at hs
    have hsz := sortsL_len ord t1 t2
    w_strict (walk_at "my steps")
    refine hret _ _ _ _ (by k_asm) (by k_asm) ⟨_, [_, _, _, _, _, _, _, _, _, _, _], rfl, rfl, ⟨_, _, ys, _, _, _, _, _, rvs, _, _, _, t1, t2, ⟨_, _, _, _, _, _, _, by k_mem, by k_mem⟩, by k_mem, hDy, by k_mem, by assumption, by assumption, ⟨_, _, _, _, _, _, _, by k_mem, by k_mem⟩, by k_mem, hR, ⟨_, _, _, _, _, _, _, by k_mem, by k_mem⟩, (by rw [sortsOf_eq]; k_mem)⟩, by walk_at "my fresh"⟩
theorem reg_Lf_2 : True := by
  k_with "m:my dats" => (first | assumption | exact .nil | exact .cons (.str _ _) .nil | exact .cons .none .nil | exact .cons (.str _ _) (.cons (.str _ _) .nil))
  k_with "m:call ref" => ((k_here; (with_reducible show wpAny _ _ (call (Value.ref 403) _) _ _ _); k_dflt (first
  | (refine' does_use ?k1 ?k2 ?k3 ?k4 ?k5 ?kK (law_factor_does _ _ _ _ _ _ _ _ _ _ _ _ _ _ _ true _ _ ?kw ?kD ?kr ?kR ?ks ?kin ?kn ?kx) ?kd ?ku ?_; walk_at "my use"; (case ks => (show (_, listOf #[.str sO _, .str sF _] _) ∈ _; k_mem)); (case kw => k_mem); (case kr => k_mem); (case kD => walk_at "my dats"); (case kR => walk_at "my dats"); (case kin => walk_at "my kin"); (case kn => walk_at "my len"); (case kx => walk_at "my len"); walk_at "my rooms")
  | (refine' does_use ?k1 ?k2 ?k3 ?k4 ?k5 ?kK (law_factor_does _ _ _ _ _ _ _ _ _ _ _ _ _ _ _ false _ _ ?kw ?kD ?kr ?kR ?ks ?kin ?kn ?kx) ?kd ?ku ?_; walk_at "my use"; (case ks => (show (_, listOf #[.str sF _] _) ∈ _; k_mem)); (case kw => k_mem); (case kr => k_mem); (case kD => walk_at "my dats"); (case kR => walk_at "my dats"); (case kin => walk_at "my kin"); (case kn => walk_at "my len"); (case kx => walk_at "my len"); walk_at "my rooms")); (intro _ _ _ _ _ _ hP'w); (obtain ⟨_, _, e1'w, e2'w, _, _⟩ := hP'w); (subst e1'w); (subst e2'w); (try dsimp only)))
  trivial
section
variable {prog : Program} {w : World} {A : Around} {E : Value → Shared → Prop} {s : Shared} {env : Env} {h₀ : Heap} {target : PySem.Expr} {body : List Stmt} {Q : Flow → Shared → Prop}
/-- the end of a turn -/
theorem unr_end {L I : Addr} {oI : Obj} {rest : (Str → Option Value) → Led → Prop} {s₁ : Shared} {h' : Heap} {tk : Nat} {m' : Str → Option Value} {all : Led} (F : Fr h₀ L h' m') (N : News h₀ L h' all) (news' : Led)
    (hI : (I, oI) ∈ all) (sub : ∀ p ∈ news', p ∈ all) (off : ∀ p ∈ news', p.1 ≠ I) (r : rest m' news') : UnrEndW h₀ L s₁ [(I, oI)] rest { s₁ with heap := h', toks := tk } :=
  ⟨h', tk, m', news', rfl, F, fun p hp => by
    rcases List.mem_append.mp hp with hp | hp
    · rw [List.mem_singleton.mp hp]; exact N _ hI
    · exact N p (sub p hp), fun p hp q hq => by rw [List.mem_singleton.mp hq]; exact off p hp, r⟩
/-- a loop over a made list by an invariant over the frame's map and the ledger -/
theorem loop_inv {ax : Addr} {vs : List Value} {n : Nat} {m₀ : Str → Option Value} {news : Led} (J : (Str → Option Value) → Led → Addr → Nat → (Str → Option Value) → Led → Prop)
    (hh : A.handled = none) (F : Fr h₀ env.locals s.heap m₀) (N : News h₀ env.locals s.heap news) (hm : (ax, listOf vs.toArray n) ∈ news)
    (h0 : ∀ I, (∀ p ∈ news, p.1 < I) → J m₀ news I 0 m₀ news)
    (turn : ∀ I i v m₁ nx h tk oI, vs[i]? = some v → J m₀ news I i m₁ nx → (ax, listOf vs.toArray n) ∈ nx → Fr h₀ env.locals h m₁ → News h₀ env.locals h ((I, oI) :: nx) →
      wpAny (model prog w) A (assign target env v) (fun _ s₂ => wpAny (model prog w) A (execs body env) (UnrPostW h₀ env.locals { s with heap := h, toks := tk } [(I, oI)] (fun m' n' => (ax, listOf vs.toArray n) ∈ n' ∧ J m₀ news I (i + 1) m' n') Q) E s₂) E { s with heap := h, toks := tk })
    (done : ∀ I m₁ nx h tk, J m₀ news I vs.length m₁ nx → Fr h₀ env.locals h m₁ → News h₀ env.locals h nx → Q .next { s with heap := h, toks := tk }) :
    wpAny (model prog w) A (pyIter (.ref ax)) (fun it s₂ => TurnsAt prog w A h₀ env target body Q E it s₂) E s := by
  refine iter_listTurns hh F N hm rfl rfl fun I hI => ?_
  have all : ∀ k i m₁ nx, i + k = vs.length → (ax, listOf vs.toArray n) ∈ nx → J m₀ news I i m₁ nx → ItemsRest prog w A E h₀ env target body Q s [(I, "list_iterator")] [(ax, listOf vs.toArray n)] ((vs.drop i).map .val) m₁ nx := by
    intro k
    induction k with
    | zero =>
      intro i m₁ nx e _ hJ
      have e' : i = vs.length := by omega
      subst e'
      rw [List.drop_length]
      exact ItemsRest.zero fun h tk F' N' => done I m₁ nx h tk hJ F' N'
    | succ k ih =>
      intro i m₁ nx e hx hJ
      have hlt : i < vs.length := by omega
      rw [List.drop_eq_getElem_cons hlt]
      refine ItemsRest.val fun h tk F' => AllObj.cons fun oI _ => AllObj.nil fun N' => ?_
      refine wpAny_mono (turn I i _ m₁ nx h tk oI (List.getElem?_eq_getElem hlt) hJ hx F' N') (fun _ s₂ hs => wpAny_mono hs (fun f s₃ hf => ?_) fun _ _ x => x) fun _ _ x => x
      have up : UnrEndW h₀ env.locals { s with heap := h, toks := tk } [(I, oI)] (fun m' n' => (ax, listOf vs.toArray n) ∈ n' ∧ J m₀ news I (i + 1) m' n') s₃ →
          UnrEndW h₀ env.locals { s with heap := h, toks := tk } [(I, oI)] (fun m' n' => SubL [(ax, listOf vs.toArray n)] n' ∧ ItemsRest prog w A E h₀ env target body Q s [(I, "list_iterator")] [(ax, listOf vs.toArray n)] ((vs.drop (i + 1)).map .val) m' n') s₃ := by
        rintro ⟨h', tk', m', news', e1, F₁, N₁, off, hx', hJ'⟩
        exact ⟨h', tk', m', news', e1, F₁, N₁, off, And.intro hx' trivial, ih (i + 1) m' news' (by omega) hx' hJ'⟩
      cases f with
      | ret v => exact hf
      | brk => exact hf
      | next => exact up hf
      | cont => exact up hf
  have := all vs.length 0 m₀ news (Nat.zero_add _) hm (h0 I hI)
  rwa [List.drop_zero] at this
end
/-- what is handed to the summary: for each factor its codes, its levels, is it ordered -/
abbrev Spec := List Dat × List Str × Bool
/-- the arguments of the summary in the ledger, and whether na.rm stands behind them -/
inductive ArgsAt (w : World) (news : Led) : List Value → List Spec → Bool → Prop
  | nil : ArgsAt w news [] [] false
  | rm {tp v : Addr} {k : Nat} {t : Tok} : (tp, ({ cls := .type "tuple", data := .seq #[.str (Str.ofString "na.rm") t, .ref v] k } : Obj)) ∈ news → FlagAt w news v → ArgsAt w news [.ref tp] [] true
  | cons {tp f : Addr} {k : Nat} {cs : List Dat} {xs : List Str} {ord : Bool} {vs : List Value} {l : List Spec} {b : Bool} : (tp, ({ cls := .type "tuple", data := .seq #[.none, .ref f] k } : Obj)) ∈ news →
      FacAt w news f cs (xs.map Dat.str) ord → ArgsAt w news vs l b → ArgsAt w news (.ref tp :: vs) ((cs, xs, ord) :: l) b
theorem ArgsAt.mono {w : World} {news news' : Led} {vs : List Value} {l : List Spec} {b : Bool} (h : ArgsAt w news vs l b) (k : ∀ p ∈ news, p ∈ news') : ArgsAt w news' vs l b := by
  induction h with
  | nil => exact .nil
  | rm h1 h2 => exact .rm (k _ h1) (h2.mono k)
  | cons h1 h2 _ ih => exact .cons (k _ h1) (h2.mono k) ih
theorem ArgsAt.length {w : World} {news : Led} {vs : List Value} {l : List Spec} {b : Bool} (h : ArgsAt w news vs l b) : vs.length ≤ l.length + 1 := by
  induction h with
  | nil => exact Nat.zero_le _
  | rm _ _ => exact Nat.le_refl _
  | cons _ _ _ ih => simpa using ih
/-- the codes of all -/
def codesOf (l : List Spec) : List Dat := l.flatMap (·.1)
/-- a factor is good for the levels xs -/
def Good (xs : List Str) (e : Spec) : Prop := e.2.1 = xs ∧ e.2.2 = true
abbrev isOp (op : Str) : Prop := op = sMax ∨ op = sMin ∨ op = sRange
/-- the frame of the loop -/
abbrev frC (m₀ : Str → Option Value) (tv vv wv lv : Option Value) : Str → Option Value := fun y =>
  if y = Str.ofString "tag" then tv else if y = Str.ofString "v" then vv else if y = Str.ofString "without" then wv else if y = Str.ofString "levels" then lv else m₀ y
/-- a map of the loop's frame: but for the names that the turns store it is the first -/
def FrC (m m₀ : Str → Option Value) (wv lv : Option Value) : Prop :=
  (∀ y, y ≠ Str.ofString "tag" → y ≠ Str.ofString "v" → y ≠ Str.ofString "without" → y ≠ Str.ofString "levels" → m y = m₀ y) ∧ m (Str.ofString "without") = wv ∧ m (Str.ofString "levels") = lv
theorem FrC.eq {m m₀ : Str → Option Value} {wv lv : Option Value} (h : FrC m m₀ wv lv) : ∃ tv vv, m = frC m₀ tv vv wv lv := by
  refine ⟨m (Str.ofString "tag"), m (Str.ofString "v"), ?_⟩
  obtain ⟨h0, hw, hl⟩ := h
  subst hw hl
  funext y
  unfold frC
  by_cases h1 : y = Str.ofString "tag"
  · rw [if_pos h1, h1]
  · rw [if_neg h1]
    by_cases h2 : y = Str.ofString "v"
    · rw [if_pos h2, h2]
    · rw [if_neg h2]
      by_cases h3 : y = Str.ofString "without"
      · rw [if_pos h3, h3]
      · rw [if_neg h3]
        by_cases h4 : y = Str.ofString "levels"
        · rw [if_pos h4, h4]
        · rw [if_neg h4]; exact h0 y h1 h2 h3 h4
theorem args_drop {avs : List Value} {i : Nat} {v : Value} (h : avs[i]? = some v) : avs.drop i = v :: avs.drop (i + 1) := by
  obtain ⟨hi, rfl⟩ := List.getElem?_eq_some_iff.mp h
  exact List.drop_eq_getElem_cons hi
/-- a code that is there -/
def isCode : Dat → Bool
  | .none => false
  | _ => true
/-- what holds of the ledger between the turns -/
def SumJ (w : World) (news : Led) (avs : List Value) (ls : List Spec) (b : Bool) (xs : List Str) (m₀ : Str → Option Value) (news₀ : Led) (I : Addr) (i : Nat) (m : Str → Option Value) (nx : Led) : Prop :=
  ∃ c o₀ r₀ done rest b' cvs k nx' lv, news₀ = (c, o₀) :: r₀ ∧ (b' = true → b = true) ∧ FrC m m₀ (some (.bool (xor b b'))) (some lv) ∧ ls = done ++ rest ∧ ArgsAt w news (avs.drop i) rest b' ∧ (∀ e ∈ done, Good xs e) ∧ nx = (c, listOf (List.toArray cvs) k) :: nx' ∧ (∀ p ∈ nx', p.1 ≠ c) ∧ (∀ p ∈ news, p ∈ nx') ∧
    c ≠ I ∧ (∀ p ∈ nx', p.1 ≠ I) ∧ DatAll [] cvs (codesOf done) ∧ ((done = [] ∧ lv = .none) ∨ (done ≠ [] ∧ ∃ la lvs n, lv = .ref la ∧ (la, listOf (List.toArray lvs) n) ∈ nx' ∧ DatAll [] lvs (xs.map Dat.str)))
section
variable {prog : Program} {w : World} {A : Around} {h₀ : Heap} {L : Addr} {m : Str → Option Value} {env : Env} {ct elt : PySem.Expr} {x : Str} {scope : Scope} {cl : List (Str × Addr)} {s : Shared} {S : Led → Prop} {P : Nat → Value → Prop} {Fin : List Value → Led → Prop}
/-- the turns of a comprehension with a test by an invariant over what is made and the ledger -/
theorem compRestT_inv (J : Nat → List Value → Led → Prop) {n : Nat}
    (step : ∀ i ys news v I oI C oC D m₂ h tk (E' : Value → Shared → Prop), i < n → J i ys news → P i v → LCg.NsObj oC m₂ → m₂ x = some v → Fr h₀ L h m → News h₀ L h ((I, oI) :: (C, oC) :: (D, LCg.lst ys) :: news) → LCg.Off3 I C D news → ((@Ne Nat I C) ∧ (@Ne Nat I D) ∧ (@Ne Nat C D)) →
      wpAny (model prog w) A (isTrue ct (compEnvC scope cl C env) (eval ct (compEnvC scope cl C env))) (fun ok s' => if ok = true then
        wpAny (model prog w) A (eval elt (compEnvC scope cl C env)) (LCg.CompEnd h₀ L m { s with heap := h, toks := tk } I oI C oC D (LCg.lst ys) S (fun y news' => J (i + 1) (ys ++ [y]) news')) E' s'
        else LCg.CompEnd h₀ L m { s with heap := h, toks := tk } I oI C oC D (LCg.lst ys) S (fun _ news' => J (i + 1) ys news') Value.none s') E' { s with heap := h, toks := tk })
    (fin : ∀ ys news, J n ys news → Fin ys news) {news : Led} (h0 : J 0 [] news) : LCt.CompRestT prog w A h₀ L m env ct elt x scope cl s S P Fin n 0 [] news := by
  have all : ∀ k i ys news, i + k = n → J i ys news → LCt.CompRestT prog w A h₀ L m env ct elt x scope cl s S P Fin k i ys news := by
    intro k
    induction k with
    | zero => intro i ys news e hJ; exact LCt.CompRestT.zero (fin _ _ (by rw [← e]; exact hJ))
    | succ k ih =>
      intro i ys news e hJ
      refine LCt.CompRestT.succ fun v I oI C oC D m₂ h tk E' hP hC hx F N off ne => ?_
      refine wpAny_mono (step i ys news v I oI C oC D m₂ h tk E' (by omega) hJ hP hC hx F N off ne) (fun ok s₂ hE => ?_) fun _ _ q => q
      cases ok with
      | true =>
        simp only [if_true] at hE ⊢
        refine wpAny_mono hE (fun y s₃ hE => ?_) fun _ _ q => q
        obtain ⟨h', tk', news', e1, F', N', off', hS, hr⟩ := hE
        exact ⟨h', tk', news', e1, F', N', off', hS, ih (i + 1) _ _ (by omega) hr⟩
      | false =>
        simp only [Bool.false_eq_true, if_false] at hE ⊢
        obtain ⟨h', tk', news', e1, F', N', off', hS, hr⟩ := hE
        exact ⟨h', tk', news', e1, F', N', off', hS, ih (i + 1) _ _ (by omega) hr⟩
  exact all n 0 [] news (Nat.zero_add n) h0
end
theorem any_op (op : Str) : ([Str.ofString "max", Str.ofString "min", Str.ofString "range"].any fun x => x == op) = true ↔ isOp op := by
  simp only [List.any_cons, List.any_nil, Bool.or_false, Bool.or_eq_true, beq_iff_eq]
  constructor
  · rintro (h | h | h)
    · exact .inl h.symm
    · exact .inr (.inl h.symm)
    · exact .inr (.inr h.symm)
  · rintro (h | h | h)
    · exact .inl h.symm
    · exact .inr (.inl h.symm)
    · exact .inr (.inr h.symm)
theorem out_len {op : Str} {ds out : List Dat} (h : OutIs op ds out) : out.length ≤ 2 := by
  rcases h with ⟨_, rfl⟩ | ⟨ns, _, _, ⟨_, M, _, rfl⟩ | ⟨_, M, _, rfl⟩ | ⟨_, M, N, _, _, rfl⟩⟩
  · rw [List.length_replicate]; split <;> omega
  all_goals simp
section
variable {prog : Program} {w : World} {A : Around} {E : Value → Shared → Prop} {s : Shared} {h₀ : Heap} {L a b : Addr} {news : Led} {xs ys : List Value} {ka kb : Nat} {ds es : List Dat} {r : Bool} {Q : Value → Shared → Prop}
theorem ne_dats (N : News h₀ L s.heap news) (ma : (a, listOf (List.toArray xs) ka) ∈ news) (Da : DatAll [] xs ds) (mb : (b, listOf (List.toArray ys) kb) ∈ news) (Db : DatAll [] ys es)
    (ha : ∀ d ∈ ds, kqdOk 8 d = true) (hb : ∀ d ∈ es, kqdOk 8 d = true) (hr : r = true ↔ ds ≠ es) (hu : A.units + 64 < cLine) (h : Q (.bool r) s) : wpAny (model prog w) A (compareOp .NotEq (.ref a) (.ref b)) Q E s := by
  refine kqd_ne (n₁ := []) (n₂ := []) N ma rfl rfl Da (fun _ h => nomatch h) mb rfl rfl Db (fun _ h => nomatch h) ha hb hu ?_
  have e : ∀ i : Decidable (ds = es), (!@decide _ i) = r := fun i => by
    cases r
    · rw [@decide_eq_true _ i (Classical.byContradiction fun z => Bool.noConfusion (hr.mpr z))]; rfl
    · rw [@decide_eq_false _ i (hr.mp rfl)]; rfl
  rw [e]; exact h
theorem eq_dats (N : News h₀ L s.heap news) (ma : (a, listOf (List.toArray xs) ka) ∈ news) (Da : DatAll [] xs ds) (mb : (b, listOf (List.toArray ys) kb) ∈ news) (Db : DatAll [] ys es)
    (ha : ∀ d ∈ ds, kqdOk 8 d = true) (hb : ∀ d ∈ es, kqdOk 8 d = true) (hr : r = true ↔ ds = es) (hu : A.units + 64 < cLine) (h : Q (.bool r) s) : wpAny (model prog w) A (compareOp .Eq (.ref a) (.ref b)) Q E s := by
  refine kqd_eq (n₁ := []) (n₂ := []) N ma rfl rfl Da (fun _ h => nomatch h) mb rfl rfl Db (fun _ h => nomatch h) ha hb hu ?_
  have e : ∀ i : Decidable (ds = es), @decide _ i = r := fun i => by
    cases r
    · exact @decide_eq_false _ i fun z => Bool.noConfusion (hr.mpr z)
    · exact @decide_eq_true _ i (hr.mp rfl)
  rw [e]; exact h
end
theorem not_long {a b : Nat} (h : a + b ≤ 100) (e : Bool) : ¬(!e && Builtin.List.listTooLong (a + b)) = true := by
  have : Builtin.List.listTooLong (a + b) = false := by
    unfold Builtin.List.listTooLong
    simp only [decide_eq_false_iff_not, Nat.not_lt, PySem.sizeLine_eq]
    omega
  rw [this, Bool.and_false]; exact Bool.false_ne_true
theorem extend_led {prog : Program} {w : World} {A : Around} {E : Value → Shared → Prop} {s : Shared} {h₀ : Heap} {L D b : Addr} {m : Str → Option Value} {news : Led} {nw : Obj → Led} {xs ys : List Value} {n n2 : Nat} {Q : Value → Shared → Prop}
    (F : Fr h₀ L s.heap m) (N : News h₀ L s.heap news) (hb : (b, listOf (List.toArray ys) n2) ∈ news) (U : UpdF D (listOf (List.toArray xs) n) news nw) (hz : xs.length + ys.length ≤ 100)
    (h : ∀ h' k', Fr h₀ L h' m → News h₀ L h' (nw (listOf (List.toArray (xs ++ ys)) k')) → Q .none { s with heap := h' }) : wpAny (model prog w) A (call (.builtin "list.extend") [.ref D, .ref b]) Q E s := by
  by_cases e : ys = []
  · subst e
    refine kxn_extend F N hb rfl (UpdF.upd U _) (not_long (a := xs.length) (b := 0) (by simpa using hz) _) (by rw [PySem.sizeLine_eq]; show xs.length ≤ _; simp at hz; omega) (by rw [PySem.sizeLine_eq]; show xs.length + 0 ≤ _; simp at hz; omega) fun h' F' N' => h h' n F' ?_
    rw [List.append_nil]; exact N'
  · have hy : ys.length ≠ 0 := fun q => e (List.eq_nil_of_length_eq_zero q)
    exact kl_extend (l := xs ++ ys) F N hb rfl hy (UpdF.upd U _) (not_long (a := xs.length) (b := ys.length) hz _) (by rw [PySem.sizeLine_eq]; show xs.length ≤ _; omega) (by rw [PySem.sizeLine_eq]; show xs.length + ys.length ≤ _; omega) fun h' F' N' => h h' _ F' N'
theorem off2 {p q : Addr × Obj} {r : Led} {a : Addr} (h : ∀ x ∈ p :: q :: r, x.1 ≠ a) : (@Ne Nat p.1 a) ∧ (@Ne Nat q.1 a) ∧ ∀ x ∈ r, x.1 ≠ a :=
  ⟨h _ (.head _), h _ (.tail _ (.head _)), fun x hx => h x (.tail _ (.tail _ hx))⟩
theorem off3 {p q u : Addr × Obj} {r : Led} {a : Addr} (h : ∀ x ∈ p :: q :: u :: r, x.1 ≠ a) : (@Ne Nat p.1 a) ∧ (@Ne Nat q.1 a) ∧ (@Ne Nat u.1 a) ∧ ∀ x ∈ r, x.1 ≠ a :=
  ⟨h _ (.head _), h _ (.tail _ (.head _)), h _ (.tail _ (.tail _ (.head _))), fun x hx => h x (.tail _ (.tail _ (.tail _ hx)))⟩
section
variable {w : World} {s₁ : Shared} {h₀ h' : Heap} {L I c ar : Addr} {oI o₀ : Obj} {m' m₀ : Str → Option Value} {all news nx' r₀ : Led} {avs cvs lvs : List Value} {an k n i tk : Nat} {ls done l1 : List Spec} {b b' : Bool} {xs : List Str}
/-- a good turn's end -/
theorem sum_end {la : Addr} (F : Fr h₀ L h' m') (N : News h₀ L h' all) (hI : (I, oI) ∈ all) (hcm : (c, listOf (List.toArray cvs) k) ∈ all) (sub : ∀ p ∈ nx', p ∈ all) (offc : ∀ p ∈ nx', p.1 ≠ c) (offI : ∀ p ∈ nx', p.1 ≠ I) (hcI : c ≠ I)
    (har : (ar, listOf (List.toArray avs) an) ∈ nx') (hnews : ∀ p ∈ news, p ∈ nx') (hF : FrC m' m₀ (some (.bool (xor b b'))) (some (.ref la))) (hbb : b' = true → b = true) (hsp : ls = done ++ l1) (hA : ArgsAt w news (avs.drop (i + 1)) l1 b')
    (hgd : ∀ e ∈ done, Good xs e) (hD : DatAll [] cvs (codesOf done)) (hne : done ≠ []) (hla : (la, listOf (List.toArray lvs) n) ∈ nx') (hL : DatAll [] lvs (xs.map Dat.str)) :
    UnrEndW h₀ L s₁ [(I, oI)] (fun m' n' => (ar, listOf (List.toArray avs) an) ∈ n' ∧ SumJ w news avs ls b xs m₀ ((c, o₀) :: r₀) I (i + 1) m' n') { s₁ with heap := h', toks := tk } := by
  refine unr_end F N ((c, listOf (List.toArray cvs) k) :: nx') hI (fun p hp => ?_) (fun p hp => ?_) ⟨.tail _ har, ⟨_, _, _, done, l1, b', cvs, k, nx', _, rfl, hbb, hF, hsp, hA, hgd, rfl, offc, hnews, hcI, offI, hD, .inr ⟨hne, la, lvs, n, rfl, hla, hL⟩⟩⟩
  · rcases List.mem_cons.mp hp with rfl | hp
    · exact hcm
    · exact sub p hp
  · rcases List.mem_cons.mp hp with rfl | hp
    · exact hcI
    · exact offI p hp
theorem sum_endA {a1 a2 : Addr} {o2 : Obj} (F : Fr h₀ L h' m') (N : News h₀ L h' ((a2, o2) :: (a1, listOf (List.toArray lvs) n) :: (I, oI) :: (c, listOf (List.toArray cvs) k) :: nx')) (offc : ∀ p ∈ nx', p.1 ≠ c) (offI : ∀ p ∈ nx', p.1 ≠ I) (hcI : c ≠ I)
    (h1 : @Ne Nat I a1) (h2 : @Ne Nat c a1) (har : (ar, listOf (List.toArray avs) an) ∈ nx') (hnews : ∀ p ∈ news, p ∈ nx') (hF : FrC m' m₀ (some (.bool (xor b b'))) (some (.ref a1))) (hbb : b' = true → b = true) (hsp : ls = done ++ l1) (hA : ArgsAt w news (avs.drop (i + 1)) l1 b')
    (hgd : ∀ e ∈ done, Good xs e) (hD : DatAll [] cvs (codesOf done)) (hne : done ≠ []) (hL : DatAll [] lvs (xs.map Dat.str)) :
    UnrEndW h₀ L s₁ [(I, oI)] (fun m' n' => (ar, listOf (List.toArray avs) an) ∈ n' ∧ SumJ w news avs ls b xs m₀ ((c, o₀) :: r₀) I (i + 1) m' n') { s₁ with heap := h', toks := tk } := by
  refine sum_end (nx' := (a1, listOf (List.toArray lvs) n) :: nx') F N (by simp) (k := k) (cvs := cvs) (by simp) (fun p hp => ?_) (fun p hp => ?_) (fun p hp => ?_) hcI (.tail _ har) (fun p hp => .tail _ (hnews p hp)) hF hbb hsp hA hgd hD hne (.head _) hL
  · rcases List.mem_cons.mp hp with rfl | hp
    · simp
    · simp [hp]
  · rcases List.mem_cons.mp hp with rfl | hp
    · exact Ne.symm h2
    · exact offc p hp
  · rcases List.mem_cons.mp hp with rfl | hp
    · exact Ne.symm h1
    · exact offI p hp
theorem sum_endB {a1 la : Addr} {o1 : Obj} (F : Fr h₀ L h' m') (N : News h₀ L h' ((a1, o1) :: (I, oI) :: (c, listOf (List.toArray cvs) k) :: nx')) (offc : ∀ p ∈ nx', p.1 ≠ c) (offI : ∀ p ∈ nx', p.1 ≠ I) (hcI : c ≠ I)
    (har : (ar, listOf (List.toArray avs) an) ∈ nx') (hnews : ∀ p ∈ news, p ∈ nx') (hF : FrC m' m₀ (some (.bool (xor b b'))) (some (.ref la))) (hbb : b' = true → b = true) (hsp : ls = done ++ l1) (hA : ArgsAt w news (avs.drop (i + 1)) l1 b')
    (hgd : ∀ e ∈ done, Good xs e) (hD : DatAll [] cvs (codesOf done)) (hne : done ≠ []) (hla : (la, listOf (List.toArray lvs) n) ∈ nx') (hL : DatAll [] lvs (xs.map Dat.str)) :
    UnrEndW h₀ L s₁ [(I, oI)] (fun m' n' => (ar, listOf (List.toArray avs) an) ∈ n' ∧ SumJ w news avs ls b xs m₀ ((c, o₀) :: r₀) I (i + 1) m' n') { s₁ with heap := h', toks := tk } :=
  sum_end F N (by simp) (k := k) (cvs := cvs) (by simp) (fun p hp => by simp [hp]) offc offI hcI har hnews hF hbb hsp hA hgd hD hne hla hL
end
theorem reg_Ar_1 : True := by
  k_with "m:exec Assign cons ListComp" => ((k_here; (first | (lct_look; k_dflt (refine LCt.Assign_ListComp_T (F₀ := by k_asm) (by rfl) (by with_unfolding_all rfl) (by with_unfolding_all rfl) (by decide) (by rfl) (by decide) (by rfl) (by rfl) (by rfl) ?_)) | ((fail_if_success lct_look); k_dflt (refine LCg.Assign_ListComp_U (F₀ := by k_asm) (by rfl) (by with_unfolding_all rfl) (by with_unfolding_all rfl) (by decide) (by rfl) (by decide) (by rfl) (by rfl) (by rfl) ?_)))))
  k_with "m:my steps" => (repeat' ((fail_if_success (with_reducible show LCt.CompSrcT _ _ _ _ _ _ _ _ _ _ _ _ _ _ _)); (fail_if_success (with_reducible show LCg.CompSrc _ _ _ _ _ _ _ _ _ _ _ _ _ _)); (fail_if_success (with_reducible show LCg.CompEnd _ _ _ _ _ _ _ _ _ _ _ _ _ _)); (first | (k_unfold; (try dsimp only)) | (k_end; wrow_close) | walk1 | (dsimp only; walk1) | (leave1; walk_say "STEP leave1"; try dsimp only) | fail "no step")))
  trivial
theorem text_le {e a x b : Str} (hx : x.length ≤ 10) (he : e.length ≤ 0) (ha : a.length ≤ 100) (hb : b.length ≤ 100) : (((e ++ a) ++ x) ++ b).length ≤ sizeLine := by
  rw [PySem.sizeLine_eq]
  refine Nat.le_trans (KT.len_app (KT.len_app (KT.len_app he ha) hx) hb) (by decide)
theorem reg_So_1 : True := by
  k_with "m:joinParts" => ((k_here; (with_reducible refine joinParts_nilE ?_); (with_reducible refine joinParts_nil ?_ ?hsz); (case hsz => exact text_le (by assumption) (by decide +kernel) (by decide +kernel) (by decide +kernel))))
  trivial
theorem reg_So_2 : True := by
  k_with "m:compareOp NotEq ref ref" => ((k_here; (with_reducible show wpAny _ _ (compareOp CmpOp.NotEq (Value.ref _) (Value.ref _)) _ _ _); k_dflt (refine' ne_dats ?k1 ?k2 ?k3 ?k4 ?k5 ?k6 ?k7 ?k8 ?k9 ?_; (case k1 => k_asm); (case k2 => k_mem); (case k3 => assumption); (case k4 => k_mem); (case k5 => assumption); (case k6 => assumption); (case k7 => assumption); (case k8 => assumption); (case k9 => ktr_units))))
  trivial
theorem reg_So_3 : True := by
  k_with "m:call builtin:list.extend" => ((k_here; (with_reducible show wpAny _ _ (call (Value.builtin "list.extend") [Value.ref _, Value.ref _]) _ _ _); k_dflt (refine' extend_led ?k1 ?k2 ?k3 ?k4 ?k5 ?_; (case k1 => k_asm); (case k2 => k_asm); (case k3 => k_mem); (case k4 => k_updF); (case k5 => assumption)); intro _ _ _ N'w; (try dsimp only at N'w)))
  trivial
theorem reg_So_4 : True := by
  k_with "m:call ref" => ((k_here; (with_reducible show wpAny _ _ (call (Value.ref 372) _) _ _ _); k_dflt (refine' does_use ?k1 ?k2 ?k3 ?k4 ?k5 ?kK (outer_does _ _ _ _ _ _ _ _ _ _ _ ?kop ?kc ?kD ?kok ?kn) ?kd ?ku ?_; walk_at "my use"; (case kop => assumption); (case kc => k_mem); (case kD => assumption); (case kok => assumption); (case kn => assumption); walk_at "my rooms"); (intro _ _ _ _ _ _ hP'w); (obtain ⟨_, _, _, _, e1'w, e2'w, dD'w, oI'w, _⟩ := hP'w); (have _ := Nat.le_trans (Nat.le_of_eq (DatAll.length dD'w)) (out_len oI'w)); (subst e1'w); (subst e2'w); (try dsimp only)))
  trivial
set_option maxHeartbeats 4000000 in
theorem summary_raw (w : World) (mean : ExcName → Option Value) (mg mb : Str → Option Value) (news : Led) (ar ev g gl : Addr) (gn : Nat) (at_ : Value) (op : Str) (ot : Tok) (avs : List Value) (an : Nat) (ls : List Spec) (b : Bool) (xs : List Str) (first : List Dat) (tl : List Spec)
    (he : EnvAt w news ev g) (hv : VecAt w news g "character" gl at_) (hl : (gl, listOf #[Value.str op ot] gn) ∈ news) (ha : (ar, listOf (List.toArray avs) an) ∈ news) (hA : ArgsAt w news avs ls b) (hx : op.length ≤ 10)
    (hxs : xs.length ≤ 4) (hn : (codesOf ls).length ≤ 20) (hll : ls.length ≤ 5) (hls : ∀ e ∈ ls, e.2.1.length ≤ 4 ∧ e.1.length ≤ 20 ∧ ∀ d ∈ e.2.1.map Dat.str, kqdOk 8 d = true) (hok : ∀ d ∈ codesOf ls, d = Dat.none ∨ ∃ i, d = Dat.int i) (hne : ls = (first, xs, true) :: tl) :
    ∀ (dp un : Nat) (gd : Option (List Code)) (cn : Str) (cs : Scope) (a : Addr) (ccd : Value) (cl : List (Str × Addr)) (outer : List Env) (A₀ : Around) (base h₀ : Heap) (L : Addr) (m : Str → Option Value) (s : Shared)
    (Q E : Value → Shared → Prop),
    Below A₀ base outer h₀ → Fr h₀ L s.heap m → (hd.heap_1 w.params).In h₀ → News h₀ L s.heap news → Top hd.view_1 (looseW hd.view_1 [Str.ofString "number_text"]) mean mg mb h₀ → cs.kind = .function → dp + 12 < recursionLimit → un + 200 < cLine →
    (isOp op → (∀ e ∈ ls, Good xs e) → ∀ r h' tk' news', Fr h₀ L h' m → News h₀ L h' news' → (∃ v out, r = .ref v ∧ FacAt w news' v out (xs.map Dat.str) true ∧ OutIs op (if b then (codesOf ls).filter isCode else codesOf ls) out ∧ ∀ q ∈ news, q ∈ news') → Q r { s with heap := h', toks := tk' }) →
    (∀ e dx h' tk' G news', Fr h₀ L G m → RaisedD base G (envX cn cs L a ccd cl :: outer) e (.ref 51) dx news' h' → G.UpToSlots h' →
      (∃ k mt msg, (dx, msgDict w (.str msg mt) k) ∈ news' ∧ (∀ q ∈ news, q ∈ news') ∧ ((¬ isOp op ∧ msg = Str.empty ++ Str.ofString "'" ++ op ++ Str.ofString "' not defined for ordered factors") ∨
        (isOp op ∧ (∃ e ∈ ls, ¬ Good xs e) ∧ msg = Str.empty ++ Str.ofString "'" ++ op ++ Str.ofString "' is only meaningful for ordered factors if all arguments have the same level sets"))) →
      E (.ref e) { s with heap := h', toks := tk' }) →
    wpAny (model PySem.Challenge.rw_pq1405_01.row.prog w) (ktrTop dp un gd cn cs L a ccd cl outer) (call (.ref 377) [.none, .ref ar, .ref ev]) Q E s := by
  k_fill
  intro dp un gd cn cs a ccd cl outer A₀ base h₀ L m s Q E B F X N T hcs hdp hu hret hexc
  refine wpAny_call ?_
  (k_dflt ktr_enter)
  w_strict (walk_at "my steps")
  rotate_left
  · refine leave_raiseD (by assumption) (by assumption) (by assumption) ?_ rfl rfl rfl ?_ rfl
    · intro q hq
      rcases List.mem_cons.mp hq with rfl | hq
      · assumption
      · rcases List.mem_cons.mp hq with rfl | hq
        · assumption
        · exact (by assumption : ∀ q ∈ _ :: news, q.1 ≠ _) q hq
    · intro h' R U
      refine hexc _ _ _ _ _ _ (by assumption) R U ⟨_, _, _, .head _, fun q hq => .tail _ (.tail _ (.tail _ hq)), .inl ⟨fun z => ?_, rfl⟩⟩
      have hf : ([Str.ofString "max", Str.ofString "min", Str.ofString "range"].any fun x => x == op) = false := by assumption
      rw [(any_op op).mpr z] at hf
      cases hf
  have hop : isOp op := (any_op op).mp (by assumption)
  (rename Fr _ _ _ _ => lF'); (with_unfolding_all refine' For_turns lF' ?_; k_whole)
  w_strict (walk_at "my steps")
  rename Fr _ _ _ _ => lF
  rename News _ _ _ _ => lN
  refine loop_inv (SumJ w news avs ls b xs) (by rfl) lF lN (by k_mem) ?start ?turn ?fin
  case start =>
    intro I hI
    refine ⟨_, _, _, [], ls, b, [], 0, _, .none, rfl, id, ⟨fun _ _ _ _ _ => rfl, by cases b <;> rfl, rfl⟩, rfl, hA, (fun _ h => nomatch h), rfl, (by k_all), (fun p hp => .tail _ hp), Nat.ne_of_lt (hI _ (.head _)), (fun p hp => Nat.ne_of_lt (hI _ (.tail _ hp))), .nil, .inl ⟨rfl, rfl⟩⟩
  case turn =>
    intro I i v m₁ nx h tk oI hv hJ hx F1 N1
    obtain ⟨c, o₀, r₀, done, rest, b', cvs, k, nx', lv, e₀, hbb, hF, hsp, hAr, hgd, rfl, hc, hsub, hcI, hnI, hD, hlv⟩ := hJ
    obtain ⟨tv, vv, rfl⟩ := hF.eq
    cases e₀
    rw [args_drop hv] at hAr
    generalize hrs : avs.drop (i + 1) = rs at hAr
    have hIc : @Ne Nat I _ := Ne.symm hcI
    have harx : (ar, listOf (List.toArray avs) an) ∈ nx' := hsub _ ha
    cases hAr with
    | rm h1 h2 =>
      replace h1 := hsub _ h1
      replace h2 := h2.mono hsub
      w_strict (walk_at "my steps")
      obtain rfl : b = true := hbb rfl
      refine unr_end (by k_asm) (by k_asm) _ (.head _) (fun p hp => .tail _ hp) (fun p hp => ?_) ⟨hx, ⟨_, _, _, done, [], false, cvs, k, nx', lv, rfl, fun z => (by cases z), ⟨fun y y1 y2 y3 y4 => ?_, rfl, rfl⟩, hsp, (by rw [hrs]; exact .nil), hgd, rfl, hc, hsub, hcI, hnI, hD, hlv⟩⟩
      · rcases List.mem_cons.mp hp with rfl | hp
        · exact hcI
        · exact hnI p hp
      · simp only [frC, if_neg y1, if_neg y2, if_neg y3, if_neg y4]
    | @cons tp f k1 cs1 xs1 ord vs1 l1 b1 h1 h2 h3 =>
      replace h1 := hsub _ h1
      replace h2 := h2.mono hsub
      have hmem : (cs1, xs1, ord) ∈ ls := by rw [hsp]; exact List.mem_append_right _ (.head _)
      have hs1 : ∀ d ∈ xs1.map Dat.str, ∃ x, d = Dat.str x := fun d hd => by obtain ⟨x, _, rfl⟩ := List.mem_map.mp hd; exact ⟨x, rfl⟩
      have hn1 : (xs1.map Dat.str).length ≤ 4 := by rw [List.length_map]; exact (hls _ hmem).1
      have hfull := h2
      obtain ⟨it, ad, ivs, n1, o, lvv, cv, li, lvs, n2, ci, n3, t1, t2, ⟨fd, q1, q2, q3, q4, q5, q6, g1, g2⟩, g3, g4, g5, g6, g7, g8, g9, g10, g11, g12⟩ := h2
      have hA0 : done = [] → xs1 = xs ∧ ord = true := fun z => by
        rw [z, hne] at hsp; injection hsp with hsp _; injection hsp with _ hsp; injection hsp with q1 q2; exact ⟨q1.symm, q2.symm⟩
      have hk1 := (hls _ hmem).2.2
      have hk0 : ∀ d ∈ xs.map Dat.str, kqdOk 8 d = true := (hls (first, xs, true) (by rw [hne]; exact .head _)).2.2
      dsimp only at hk1
      cases ord
      · rcases hlv with ⟨hd0, rfl⟩ | ⟨hd0, la, lvs', n', rfl, gl1, gl2⟩
        · cases (hA0 hd0).2
        w_strict (walk_at "my steps")
        refine leave_raiseD (by assumption) (by assumption) (by assumption) ?_ rfl rfl rfl ?_ rfl
        · intro q hq
          rcases List.mem_cons.mp hq with rfl | hq
          · assumption
          · rcases List.mem_cons.mp hq with rfl | hq
            · assumption
            · exact (by assumption : ∀ q ∈ _, q.1 ≠ _) q hq
        · intro h' R U
          refine hexc _ _ _ _ _ _ (by assumption) R U ⟨_, _, _, .head _, fun q hq => ?_, .inr ⟨hop, ⟨_, hmem, fun g => by cases g.2⟩, rfl⟩⟩
          have hq' := hsub q hq
          repeat (first | exact hq' | refine List.mem_cons_of_mem _ ?_)
      by_cases hxe : xs1 = xs
      · subst hxe
        have hr1 : (false = true ↔ xs1.map Dat.str ≠ xs1.map Dat.str) := by simp
        have hlen5 : cvs.length + ivs.length ≤ 100 := by
          have q1 := hD.length
          have q2 := g4.length
          have q3 : (codesOf done).length ≤ 20 := by
            refine Nat.le_trans ?_ hn
            rw [hsp]; unfold codesOf; rw [List.flatMap_append, List.length_append]; omega
          have q4 := (hls _ hmem).2.1
          dsimp only at q4
          omega
        have hgd' : ∀ e ∈ done ++ [(cs1, xs1, true)], Good xs1 e := fun e he => by
          rcases List.mem_append.mp he with he | he
          · exact hgd e he
          · rw [List.mem_singleton.mp he]; exact ⟨rfl, rfl⟩
        have hD' : DatAll [] (cvs ++ ivs) (codesOf (done ++ [(cs1, xs1, true)])) := by
          have := hD.append g4
          unfold codesOf at this ⊢
          rw [List.flatMap_append]
          simpa using this
        rcases hlv with ⟨hd0, rfl⟩ | ⟨hd0, la, lvs', n', rfl, gl1, gl2⟩
        · w_strict (walk_at "my steps")
          obtain ⟨o11, o12, o13⟩ := off2 (by assumption : ∀ q ∈ (I, oI) :: _ :: nx', q.1 ≠ _)
          obtain ⟨o21, o22, o23, o24⟩ := off3 (by assumption : ∀ q ∈ _ :: (I, oI) :: _ :: nx', q.1 ≠ _)
          dsimp only at o11 o12 o21 o22 o23
          w_strict (walk_at "my steps")
          exact sum_endA (by k_asm) (by k_asm) hc hnI hcI o11 o12 harx hsub ⟨fun y y1 y2 y3 y4 => (by simp only [frC, if_neg y1, if_neg y2, if_neg y3, if_neg y4]), rfl, rfl⟩ hbb (by rw [hsp, List.append_assoc]; rfl) (by rw [hrs]; exact h3) hgd' hD' (by simp) (by assumption)
        · w_strict (walk_at "my steps")
          obtain ⟨o11, o12, o13⟩ := off2 (by assumption : ∀ q ∈ (I, oI) :: _ :: nx', q.1 ≠ _)
          dsimp only at o11 o12
          w_strict (walk_at "my steps")
          exact sum_endB (by k_asm) (by k_asm) hc hnI hcI harx hsub ⟨fun y y1 y2 y3 y4 => (by simp only [frC, if_neg y1, if_neg y2, if_neg y3, if_neg y4]), rfl, rfl⟩ hbb (by rw [hsp, List.append_assoc]; rfl) (by rw [hrs]; exact h3) hgd' hD' (by simp) gl1 gl2
      · rcases hlv with ⟨hd0, rfl⟩ | ⟨hd0, la, lvs', n', rfl, gl1, gl2⟩
        · exact absurd (hA0 hd0).1 hxe
        have hr1 : (true = true ↔ xs1.map Dat.str ≠ xs.map Dat.str) := by
          refine ⟨fun _ z => hxe ?_, fun _ => rfl⟩
          exact (List.map_inj_right (fun a b q => by injection q)).mp z
        w_strict (walk_at "my steps")
        refine leave_raiseD (by assumption) (by assumption) (by assumption) ?_ rfl rfl rfl ?_ rfl
        · intro q hq
          rcases List.mem_cons.mp hq with rfl | hq
          · assumption
          · rcases List.mem_cons.mp hq with rfl | hq
            · assumption
            · exact (by assumption : ∀ q ∈ _, q.1 ≠ _) q hq
        · intro h' R U
          refine hexc _ _ _ _ _ _ (by assumption) R U ⟨_, _, _, .head _, fun q hq => ?_, .inr ⟨hop, ⟨_, hmem, fun g => hxe g.1⟩, rfl⟩⟩
          have hq' := hsub q hq
          repeat (first | exact hq' | refine List.mem_cons_of_mem _ ?_)
  case fin =>
    intro I m₁ nx h tk hJ F1 N1
    obtain ⟨c, o₀, r₀, done, rest, b', cvs, k, nx', lv, e₀, hbb, hF, hsp, hAr, hgd, rfl, hc, hsub, hcI, hnI, hD, hlv⟩ := hJ
    obtain ⟨tv, vv, rfl⟩ := hF.eq
    cases e₀
    rw [List.drop_length] at hAr
    cases hAr
    rw [List.append_nil] at hsp
    subst hsp
    rcases hlv with ⟨hd0, rfl⟩ | ⟨hd0, la, lvs', n', rfl, gl1, gl2⟩
    · rw [hd0] at hne; cases hne
    have hl4 : lvs'.length ≤ 4 := by rw [gl2.length, List.length_map]; exact hxs
    dsimp only
    cases b
    · w_strict (walk_at "my steps")
      exact hret hop hgd _ _ _ _ (by k_asm) (by k_asm) ⟨_, _, rfl, by assumption, by assumption, fun q hq => (by assumption : ∀ q ∈ _ :: _ :: nx', q ∈ _) q (.tail _ (.tail _ (hsub q hq)))⟩
    · w_strict (walk_at "my steps")
      refine LCt.CompSrcT.ledger rfl (by k_asm) (by k_asm) (by k_mem) (by rw [List.size_toArray, hD.length, PySem.sizeLine_eq]; omega) (fun g => compRestT_inv (fun i ys nx => nx = _ ∧ DatAll [] ys (((codesOf ls).take i).filter isCode)) ?step ?fin2 ⟨rfl, .nil⟩)
      case step =>
        intro i ys nx v' I oI C oC D m₂ h tk E' hi hJ hP hC hx F1 N1 off ne
        obtain ⟨hnx, hDy⟩ := hJ
        subst hnx
        obtain ⟨d, hdi, hDv⟩ := datAll_get hD (by simpa using hP)
        rcases hok d (List.mem_of_getElem? hdi) with rfl | ⟨z, rfl⟩
        · cases hDv
          w_strict (walk_at "my steps")
          exact LCg.CompEnd.intro (by k_asm) (by k_asm) _ (fun _ h => h) off (Or.inr ⟨_, by k_mem, rfl, _, rfl⟩) ⟨rfl, by rw [take_succ_of hdi, List.filter_append]; exact (List.append_nil _).symm ▸ hDy⟩
        · cases hDv
          w_strict (walk_at "my steps")
          exact LCg.CompEnd.intro (by k_asm) (by k_asm) _ (fun _ h => h) off (Or.inr ⟨_, by k_mem, rfl, _, rfl⟩) ⟨rfl, by rw [take_succ_of hdi, List.filter_append]; exact datAll_snoc hDy (.int _ _)⟩
      case fin2 =>
        rintro ys nx ⟨hnx, hDy⟩
        subst hnx
        rw [List.take_of_length_le (by rw [List.size_toArray, hD.length]; exact Nat.le_refl _)] at hDy
        have hn2 : ((codesOf ls).filter isCode).length ≤ 20 := Nat.le_trans (List.length_filter_le _ _) hn
        have hok2 : ∀ d ∈ (codesOf ls).filter isCode, d = Dat.none ∨ ∃ i, d = Dat.int i := fun d hd => hok d (List.mem_filter.mp hd).1
        w_strict (walk_at "my steps")
        exact hret hop hgd _ _ _ _ (by k_asm) (by k_asm) ⟨_, _, rfl, by assumption, by assumption, fun q hq => (by assumption : ∀ q ∈ _ :: _ :: _ :: nx', q ∈ _) q (.tail _ (.tail _ (.tail _ (hsub q hq))))⟩
theorem off_So : True := by
  w_top off
  k_with_none
  k_with "m:my all" => (first | assumption | exact ne_raw (by assumption) (by omega) | exact ne_all (by assumption) (by omega) | exact ne_all (And.right (by assumption)) (by omega) | exact ne_all (And.right (And.right (by assumption))) (by omega) | exact ne_all (And.right (And.right (And.right (by assumption)))) (by omega) | exact ne_all (And.right (And.right (And.right (And.right (by assumption))))) (by omega) | exact ne_all (And.right (And.right (And.right (And.right (And.right (by assumption)))))) (by omega) | exact ne_all (And.right (And.right (And.right (And.right (And.right (And.right (by assumption))))))) (by omega) | exact ne_all (And.right (And.right (And.right (And.right (And.right (And.right (And.right (by assumption)))))))) (by omega) | exact off1_mem (by assumption) | exact off1_mem (And.right (by assumption)) | exact off1_mem (And.right (And.right (by assumption))) | exact off1_mem (And.right (And.right (And.right (by assumption)))) | exact off1_mem (And.right (And.right (And.right (And.right (by assumption))))) | exact off1_mem (And.right (And.right (And.right (And.right (And.right (by assumption)))))) | exact off1_mem (And.right (And.right (And.right (And.right (And.right (And.right (by assumption))))))) | exact off1_mem (And.right (And.right (And.right (And.right (And.right (And.right (And.right (by assumption)))))))))
  k_with "m:my mem" => (first | exact List.mem_cons_self | (refine' List.mem_cons_of_mem _ ?_; k_mem) | assumption)
  k_with "m:my is_list" => (exact News.isList (by assumption) (by k_mem))
  k_with "m:my upd" => (exact UpdF.upd (by assumption) _)
  k_with "m:my room" => (ktr_room)
  k_with "m:my units" => (ktr_units)
  k_with "m:my use" => (((case k2 => k_asm); (case k1 => k_asm); (case k3 => k_asm); (case k4 => k_asm); (case k5 => k_asm); (case kK => first | exact rfl | assumption)))
  k_with "m:my rooms" => (((case kd => ktr_room); (case ku => ktr_units)))
  k_with "m:my enterC" => ((refine' code_defC ?k1 ?k2 ?k3 ?k4 ?k5 ?kA ?kF ?kK ?k6 ?k7 ?k8 ?k9 ?kB ?kD ?_ ?c2 ?c3 ?c4; (case kA => exact rfl); (case kF => exact rfl); (case kK => assumption); (case k1 => k_asm); (case k2 => k_asm); (case k3 => k_asm); (case k4 => k_asm); (case k5 => k_asm); (case k6 => k_is); (case k7 => k_is); (case k8 => ktr_room); (case k9 => exact BindsTo.of_eq rfl); (case kB => exact rfl); (case kD => decide +kernel); (case c2 => exact rfl); (case c3 => exact rfl); (case c4 => exact rfl); k_whole; intro _ _ _ _ _ _ _ N'w Y'w _ _ _ l1'w; (try k_lt l1'w); k_cells Y'w; (try simp only [List.cons_append, List.nil_append] at N'w); (try dsimp only); (try k_fold)))
  k_with "m:my steps" => (repeat' ((fail_if_success (with_reducible show LCg.CompSrc _ _ _ _ _ _ _ _ _ _ _ _ _ _)); (fail_if_success (with_reducible show LCg.CompEnd _ _ _ _ _ _ _ _ _ _ _ _ _ _)); (first | (k_unfold; (try dsimp only)) | (k_end; wrow_close) | walk1 | (dsimp only; walk1) | (leave1; walk_say "STEP leave1"; try dsimp only) | fail "no step")))
  k_with "m:exec While Compare cons nil" => ((k_here; k_dflt (refine whl_start 100 ?_)))
  k_with "m:getMethod ref" => ((k_here; (with_reducible show wpAny _ _ (getMethod (Value.ref _) (PySem.Str.ofString "get") _) _ _ _); k_dflt (refine kdg_method (knd := PySem.strKind _ _) (by k_asm) (by k_mem) (by k_asm) ?_)))
  k_with "m:call builtin:dict.get" => ((k_here; k_dflt (refine kdg_get1 (knd := PySem.strKind _ _) (by k_asm) (by k_mem) (by k_asm) (by k_asm) (strKind_is _ _ _ _) (some _) (by rfl) ?_); (try dsimp only [Option.getD])))
  k_with "m:call ref" => ((k_here; (with_reducible show wpAny _ _ (call (Value.ref 351) _) _ _ _); k_dflt (refine' does_use ?k1 ?k2 ?k3 ?k4 ?k5 ?kK (lookup_does _ _ _ _ _ _ _ _ ?ke) ?kd ?ku ?_; walk_at "my use"; (case ke => assumption); walk_at "my rooms"); (intro _ _ _ _ _ _ hP'w); (obtain ⟨e1'w, e2'w⟩ := hP'w); (subst e2'w); (have e3'w := Eq.symm e1'w); (subst e3'w); (try dsimp only)))
  k_with "m:call ref" => ((k_here; (with_reducible show wpAny _ _ (call (Value.ref 358) _) _ _ _); k_dflt (refine' does_use ?k1 ?k2 ?k3 ?k4 ?k5 ?kK (group_name_does _ _ _ _ _ _ _ _ _ _ _ _ ?ke ?kv ?kl) ?kd ?ku ?_; walk_at "my use"; (case ke => assumption); (case kv => assumption); (case kl => assumption); walk_at "my rooms"); (intro _ _ _ _ _ _ hP'w); (obtain ⟨e1'w, e2'w⟩ := hP'w); (subst e2'w); (have e3'w := Eq.symm e1'w); (subst e3'w); (try dsimp only)))
  k_with "m:call ref" => ((k_here; (with_reducible show wpAny _ _ (call (Value.ref 51) _) _ _ _); k_dflt (refine' does_use ?k1 ?k2 ?k3 ?k4 ?k5 ?kK (refusal_does _ _ _ _ _ _ _) ?kd ?ku ?_; walk_at "my use"; walk_at "my rooms"); (intro _ _ _ _ _ _ hP'w); (obtain ⟨_, _, _, _, _, e1'w, e2'w, _, _, _⟩ := hP'w); (subst e2'w); (have e3'w := Eq.symm e1'w); (subst e3'w); (try dsimp only)))
  k_with "m:exec Raise some none" => ((k_here; (with_reducible show wpAny _ _ (exec (Stmt.Raise (some (Expr.Call (Expr.Name _ _) (_ :: _) [] _)) none _) _) _ _ _); k_dflt (refine Raise_own (by rfl) ?_)))
  k_with "m:RaisableD" => ((k_dflt (refine' raisableD_of (K := hd.heap_1 _) ?k1 ?k2 ?k3 ?k4 ?k5 ?_; (case k1 => k_asm); (case k2 => k_asm); (case k3 => kernel_rfl); (case k4 => k_asm); (case k5 => k_mem))))
  k_with "m:getAttr ref" => ((k_here; (with_reducible show wpAny _ _ (getAttr (Value.ref _) (PySem.Str.ofString "message") _) _ _ _); k_dflt (refine' get_msg ?k1 ?k2 ?k3 ?k4 ?k5 ?k6 ?k7 ?k8 ?k9 ?k10 ?k11 ?k12 ?_; (case k1 => k_asm); (case k2 => k_asm); (case k3 => k_asm); (case k6 => assumption); (case k7 => assumption); (case k8 => assumption); (case k4 => k_mem); (case k5 => k_mem); (case k9 => k_is); (case k10 => k_is); (case k11 => k_is); (case k12 => with_unfolding_all rfl))))
  k_with "m:my class" => (((refine' call_cls ?k1 ?k2 ?k3 ?k4 ?k5 ?k6 ?_; (case k1 => k_asm); (case k2 => k_asm); (case k3 => k_asm); (case k4 => k_is); (case k5 => k_is); (case k6 => k_is); k_whole; intro _ _ _ _ _ l1'w l2'w; (try k_lt l1'w); (try k_lt2 l2'w)); (refine' code_def ?k1 ?k2 ?k3 ?k4 ?k5 ?kA ?kF ?kK ?k6 ?k7 ?k8 ?k9 ?kB ?_ ?c2 ?c3 ?c4 ?c5; (case kA => exact rfl); (case kF => exact rfl); (case kK => assumption); (case k1 => k_asm); (case k2 => k_asm); (case k3 => k_asm); (case k4 => k_asm); (case k5 => k_asm); (case k6 => k_is); (case k7 => k_is); (case k8 => ktr_room); (case k9 => first | exact BindsTo.of_eq rfl | exact binds_K (by k_in) rfl (by k_is) rfl rfl rfl); (case c5 => decide); (case kB => exact locs rfl); (case c2 => exact rfl); (case c3 => exact rfl); (case c4 => exact rfl); k_whole; intro _ _ _ _ _ _ _ _ _; (try dsimp only); (try k_fold))))
  k_with "m:call ref" => ((k_here; (with_reducible show wpAny _ _ (call (Value.ref 99) [Value.str _ _, Value.ref _]) _ _ _); k_dflt (refine' does_use ?k1 ?k2 ?k3 ?k4 ?k5 ?kK (vector_does _ _ _ _ _ _ _ _) ?kd ?ku ?_; walk_at "my use"; walk_at "my rooms"); (intro _ _ _ _ _ _ hP'w); (k_dflt (obtain ⟨_, _, _, _, _, _, _, e1'w, e2'w, l1'w, _⟩ := hP'w)); (have l0'w := l1'w); (try k_lt l0'w); (subst e1'w); (subst e2'w); (try dsimp only)))
  k_with "m:call ref" => ((k_here; (with_reducible show wpAny _ _ (call (Value.ref 121) [Value.int _ _, Value.none]) _ _ _); k_dflt (refine' does_use ?k1 ?k2 ?k3 ?k4 ?k5 ?kK (envm_does _ _ _ _ _ _ _) ?kd ?ku ?_; walk_at "my use"; walk_at "my rooms"); (intro _ _ _ _ _ _ hP'w); (k_dflt (obtain ⟨_, _, _, _, _, _, _, _, _, _, _, _, _, _, e1'w, e2'w, _, _, _, _, _, l1'w, _, _, _⟩ := hP'w)); (have l0'w := l1'w); (try k_lt l0'w); (subst e1'w); (subst e2'w); (try dsimp only)))
  k_with "m:my keep" => ((intro _ hp'w; (have hq'w := List.mem_cons.mp hp'w); (cases hq'w; (case inl hz'w => (subst hz'w; k_mem)); (case inr hz'w => (repeat (first | exact hz'w | refine List.mem_cons_of_mem _ ?_))))))
  k_with "m:my sub" => ((intro _ hp'w; first | exact hp'w | (repeat (first | exact hp'w | refine List.mem_cons_of_mem _ ?_))))
  k_with "m:eval ListComp" => ((k_here; k_dflt (refine LCg.ListComp_U (F₀ := by k_asm) (by with_unfolding_all rfl) (by decide) (by rfl) (by decide) (by rfl) ?_)))
  k_with "m:call ref" => ((k_here; (with_reducible show wpAny _ _ (call (Value.ref 304) _) _ _ _); k_dflt (refine' does_use ?k1 ?k2 ?k3 ?k4 ?k5 ?kK (label_texts_does _ _ _ _ _ _ _ _ _ _ ?ke ?kv ?kl ?ks ?kn) ?kd ?ku ?_; walk_at "my use"; (case ke => exact VecAt.mono (by assumption) (by walk_at "my sub")); (case kv => k_mem); (case kl => assumption); (case ks => assumption); (case kn => assumption); walk_at "my rooms"); (intro _ _ _ _ _ _ hP'w); (obtain ⟨_, _, e1'w, e2'w, _, _⟩ := hP'w); (subst e1'w); (subst e2'w); (try dsimp only)))
  k_with "m:call ref" => ((k_here; (with_reducible show wpAny _ _ (call (Value.ref 325) _) _ _ _); k_dflt (refine' does_use ?k1 ?k2 ?k3 ?k4 ?k5 ?kK (is_ordered_does _ _ _ _ _ _ _ _ _ ?ke) ?kd ?ku ?_; walk_at "my use"; (case ke => exact FacAt.mono (by assumption) (by walk_at "my sub")); walk_at "my rooms"); (intro _ _ _ _ _ _ hP'w); (obtain ⟨e1'w, e2'w⟩ := hP'w); (subst e2'w); (have e3'w := Eq.symm e1'w); (subst e3'w); (try dsimp only)))
  k_with "m:call ref" => ((k_here; (with_reducible show wpAny _ _ (call (Value.ref 330) _) _ _ _); k_dflt (refine' does_use ?k1 ?k2 ?k3 ?k4 ?k5 ?kK (level_texts_does _ _ _ _ _ _ _ _ _ ?ke ?ks ?kn) ?kd ?ku ?_; walk_at "my use"; (case ke => exact FacAt.mono (by assumption) (by walk_at "my sub")); (case ks => assumption); (case kn => assumption); walk_at "my rooms"); (intro _ _ _ _ _ _ hP'w); (obtain ⟨_, _, e1'w, e2'w, _, _⟩ := hP'w); (subst e1'w); (subst e2'w); (try dsimp only)))
  k_with "m:binaryOp Mult ref int" => ((k_here; (with_reducible show wpAny _ _ (binaryOp Operator.Mult (Value.ref _) (Value.int _ _)) _ _ _); k_dflt (refine' mul_nones ?k0 ?k1 ?k2 ?k3 ?_; (case k1 => k_asm); (case k2 => k_asm); (case k3 => k_mem); (case k0 => decide)); intro _ _ _ _ l1'w; (try k_lt l1'w)))
  k_with "m:call builtin:len" => ((k_here; (with_reducible show wpAny _ _ (call (Value.builtin "len") [Value.ref _]) _ _ _); k_dflt (refine' len_led ?k1 ?k2 ?k3 ?_; (case k1 => k_asm); (case k2 => k_mem); (case k3 => omega))))
  k_with "m:compareOp In none ref" => ((k_here; k_dflt (refine' in_none ?k1 ?k2 ?k3 ?k4 ?k5 ?k6 ?_; (case k1 => k_asm); (case k2 => k_mem); (case k3 => assumption); (case k4 => assumption); (case k5 => assumption); (case k6 => ktr_units))))
  k_with "m:call ref" => ((k_here; (with_reducible show wpAny _ _ (call (Value.ref 372) _) _ _ _); k_dflt (refine' does_use ?k1 ?k2 ?k3 ?k4 ?k5 ?kK (outer_does _ _ _ _ _ _ _ _ _ _ _ ?kop ?kc ?kD ?kok ?kn) ?kd ?ku ?_; walk_at "my use"; (case kop => assumption); (case kc => k_mem); (case kD => assumption); (case kok => assumption); (case kn => assumption); walk_at "my rooms"); (intro _ _ _ _ _ _ hP'w); (obtain ⟨_, _, _, _, e1'w, e2'w, _, _, _⟩ := hP'w); (subst e1'w); (subst e2'w); (try dsimp only)))
  k_with "m:call ref" => ((k_here; (with_reducible show wpAny _ _ (call (Value.ref 195) _) _ _ _); k_dflt (refine' does_use ?k1 ?k2 ?k3 ?k4 ?k5 ?kK (truth_does _ _ _ _ _ _ ?ke) ?kd ?ku ?_; walk_at "my use"; (case ke => exact FlagAt.mono (by assumption) (by walk_at "my sub")); walk_at "my rooms"); (intro _ _ _ _ _ _ hP'w); (obtain ⟨e1'w, e2'w⟩ := hP'w); (subst e2'w); (have e3'w := Eq.symm e1'w); (subst e3'w); (try dsimp only)))
  k_with "m:call ref" => ((k_here; (with_reducible show wpAny _ _ (call (Value.ref 132) _) _ _ _); k_dflt (refine' does_use ?k1 ?k2 ?k3 ?k4 ?k5 ?kK (integer_does _ _ _ _ _ _ _ _ ?ke ?kz) ?kd ?ku ?_; walk_at "my use"; (case ke => k_mem); (case kz => walk_at "my len"); walk_at "my rooms"); (intro _ _ _ _ _ _ hP'w); (k_dflt (obtain ⟨_, _, _, _, _, _, _, _, _, _, e1'w, e2'w, l1'w, _, _⟩ := hP'w)); (have l0'w := l1'w); (try k_lt l0'w); (subst e1'w); (subst e2'w); (try dsimp only)))
  k_with "m:call ref" => ((k_here; (with_reducible show wpAny _ _ (call (Value.ref 139) _) _ _ _); k_dflt (refine' does_use ?k1 ?k2 ?k3 ?k4 ?k5 ?kK (character_does _ _ _ _ _ _ _ _ ?ke ?kz) ?kd ?ku ?_; walk_at "my use"; (case ke => k_mem); (case kz => walk_at "my len"); walk_at "my rooms"); (intro _ _ _ _ _ _ hP'w); (k_dflt (obtain ⟨_, _, _, _, _, _, _, _, _, _, e1'w, e2'w, l1'w, _, _⟩ := hP'w)); (have l0'w := l1'w); (try k_lt l0'w); (subst e1'w); (subst e2'w); (try dsimp only)))
  k_with "m:my len" => (first | decide | omega | (simp only [List.length_cons, List.length_nil]; omega))
  k_with "m:call ref" => ((k_here; (with_reducible show wpAny _ _ (call (Value.ref 344) _) _ _ _); k_dflt (refine' does_use ?k1 ?k2 ?k3 ?k4 ?k5 ?kK (with_levels_does _ _ _ _ _ _ _ _ _ _ _ _ _ _ _ _ _ _ _ _ _ ?ke ?kz ?kl0 ?kl1 ?kl2 ?kI ?kL) ?kd ?ku ?_; walk_at "my use"; (case ke => k_mem); (case kz => walk_at "my len"); (case kl0 => assumption); (case kl1 => assumption); (case kl2 => assumption); (case kI => assumption); (case kL => assumption); walk_at "my rooms"); (intro _ _ _ _ _ _ hP'w); (obtain ⟨e1'w, _, _⟩ := hP'w); (subst e1'w); (try dsimp only)))
  k_with "m:call builtin:list.index" => ((k_here; (with_reducible show wpAny _ _ (call (Value.builtin "list.index") [Value.ref _, Value.str _ _]) _ _ _); k_dflt (refine' str_index ?k1 ?k2 ?k3 ?k4 ?k5 ?_; (case k1 => k_asm); (case k2 => k_mem); (case k3 => assumption); (case k4 => assumption); (case k5 => omega))))
  k_with "m:my fresh" => ((intro _ hp'w; (simp only [List.mem_cons, List.not_mem_nil, or_false] at hp'w); (rcases hp'w with h'w | h'w | h'w | h'w | h'w | h'w | h'w | h'w | h'w | h'w | h'w <;> subst h'w <;> (refine fun q'w hq'w => Ne.symm ((?_ : ∀ q ∈ _, q.1 ≠ _) q'w hq'w); dsimp only; k_all))))
  k_with "m:my dats" => (first | assumption | exact .nil | exact .cons (.str _ _) .nil | exact .cons .none .nil | exact .cons (.str _ _) (.cons (.str _ _) .nil))
  k_with "m:call ref" => ((k_here; (with_reducible show wpAny _ _ (call (Value.ref 403) _) _ _ _); k_dflt (first
  | (refine' does_use ?k1 ?k2 ?k3 ?k4 ?k5 ?kK (law_factor_does _ _ _ _ _ _ _ _ _ _ _ _ _ _ _ true _ _ ?kw ?kD ?kr ?kR ?ks ?kin ?kn ?kx) ?kd ?ku ?_; walk_at "my use"; (case ks => (show (_, listOf #[.str sO _, .str sF _] _) ∈ _; k_mem)); (case kw => k_mem); (case kr => k_mem); (case kD => walk_at "my dats"); (case kR => walk_at "my dats"); (case kin => walk_at "my kin"); (case kn => walk_at "my len"); (case kx => walk_at "my len"); walk_at "my rooms")
  | (refine' does_use ?k1 ?k2 ?k3 ?k4 ?k5 ?kK (law_factor_does _ _ _ _ _ _ _ _ _ _ _ _ _ _ _ false _ _ ?kw ?kD ?kr ?kR ?ks ?kin ?kn ?kx) ?kd ?ku ?_; walk_at "my use"; (case ks => (show (_, listOf #[.str sF _] _) ∈ _; k_mem)); (case kw => k_mem); (case kr => k_mem); (case kD => walk_at "my dats"); (case kR => walk_at "my dats"); (case kin => walk_at "my kin"); (case kn => walk_at "my len"); (case kx => walk_at "my len"); walk_at "my rooms")); (intro _ _ _ _ _ _ hP'w); (obtain ⟨_, _, e1'w, e2'w, _, _⟩ := hP'w); (subst e1'w); (subst e2'w); (try dsimp only)))
  k_with "m:exec Assign cons ListComp" => ((k_here; (first | (lct_look; k_dflt (refine LCt.Assign_ListComp_T (F₀ := by k_asm) (by rfl) (by with_unfolding_all rfl) (by with_unfolding_all rfl) (by decide) (by rfl) (by decide) (by rfl) (by rfl) (by rfl) ?_)) | ((fail_if_success lct_look); k_dflt (refine LCg.Assign_ListComp_U (F₀ := by k_asm) (by rfl) (by with_unfolding_all rfl) (by with_unfolding_all rfl) (by decide) (by rfl) (by decide) (by rfl) (by rfl) (by rfl) ?_)))))
  k_with "m:my steps" => (repeat' ((fail_if_success (with_reducible show LCt.CompSrcT _ _ _ _ _ _ _ _ _ _ _ _ _ _ _)); (fail_if_success (with_reducible show LCg.CompSrc _ _ _ _ _ _ _ _ _ _ _ _ _ _)); (fail_if_success (with_reducible show LCg.CompEnd _ _ _ _ _ _ _ _ _ _ _ _ _ _)); (first | (k_unfold; (try dsimp only)) | (k_end; wrow_close) | walk1 | (dsimp only; walk1) | (leave1; walk_say "STEP leave1"; try dsimp only) | fail "no step")))
  trivial
section
variable {w : World} {mean : ExcName → Option Value} {mg mb : Str → Option Value} {news : Led} {ar ev g gl : Addr} {gn : Nat} {at_ : Value} {op : Str} {ot : Tok} {avs : List Value} {an : Nat} {ls : List Spec} {b : Bool} {xs : List Str} {first : List Dat} {tl : List Spec}
/-- what is asked of the arguments -/
structure ArgsOk (ls : List Spec) (xs : List Str) (first : List Dat) (tl : List Spec) : Prop where
  hxs : xs.length ≤ 4
  hn : (codesOf ls).length ≤ 20
  hll : ls.length ≤ 5
  hls : ∀ e ∈ ls, e.2.1.length ≤ 4 ∧ e.1.length ≤ 20 ∧ ∀ d ∈ e.2.1.map Dat.str, kqdOk 8 d = true
  hok : ∀ d ∈ codesOf ls, d = Dat.none ∨ ∃ i, d = Dat.int i
  hne : ls = (first, xs, true) :: tl
/-- the words of a refusal -/
def Refused (op : Str) (ls : List Spec) (xs : List Str) (msg : Str) : Prop :=
  (¬ isOp op ∧ msg = Str.empty ++ Str.ofString "'" ++ op ++ Str.ofString "' not defined for ordered factors") ∨
    (isOp op ∧ (∃ e ∈ ls, ¬ Good xs e) ∧ msg = Str.empty ++ Str.ofString "'" ++ op ++ Str.ofString "' is only meaningful for ordered factors if all arguments have the same level sets")
abbrev outOf (b : Bool) (ls : List Spec) : List Dat := if b then (codesOf ls).filter isCode else codesOf ls
theorem summary_use {dp un : Nat} {gd : Option (List Code)} {cn : Str} {cs : Scope} {a : Addr} {ccd : Value} {cl : List (Str × Addr)} {outer : List Env} {A₀ : Around} {base h₀ : Heap} {L : Addr} {m : Str → Option Value} {s : Shared}
    {Q E : Value → Shared → Prop} (B : Below A₀ base outer h₀) (F : Fr h₀ L s.heap m) (X : (hd.heap_1 w.params).In h₀) (N : News h₀ L s.heap news) (T : Top hd.view_1 (looseW hd.view_1 [Str.ofString "number_text"]) mean mg mb h₀) (hk : cs.kind = .function)
    (he : EnvAt w news ev g) (hv : VecAt w news g "character" gl at_) (hl : (gl, listOf #[Value.str op ot] gn) ∈ news) (ha : (ar, listOf (List.toArray avs) an) ∈ news) (hA : ArgsAt w news avs ls b) (hx : op.length ≤ 10) (ok : ArgsOk ls xs first tl)
    (hdp : dp + 12 < recursionLimit) (hun : un + 200 < cLine)
    (ret : isOp op → (∀ e ∈ ls, Good xs e) → ∀ r h' tk' news', Fr h₀ L h' m → News h₀ L h' news' → (∃ v out, r = .ref v ∧ FacAt w news' v out (xs.map Dat.str) true ∧ OutIs op (outOf b ls) out ∧ ∀ q ∈ news, q ∈ news') → Q r { s with heap := h', toks := tk' })
    (exc : ∀ e dx h' tk' G news', Fr h₀ L G m → RaisedD base G (envX cn cs L a ccd cl :: outer) e (.ref 51) dx news' h' → G.UpToSlots h' →
      (∃ k mt msg, (dx, msgDict w (.str msg mt) k) ∈ news' ∧ (∀ q ∈ news, q ∈ news') ∧ Refused op ls xs msg) → E (.ref e) { s with heap := h', toks := tk' }) :
    wpAny (model PySem.Challenge.rw_pq1405_01.row.prog w) (ktrTop dp un gd cn cs L a ccd cl outer) (call (.ref 377) [.none, .ref ar, .ref ev]) Q E s :=
  summary_raw w mean mg mb news ar ev g gl gn at_ op ot avs an ls b xs first tl he hv hl ha hA hx ok.hxs ok.hn ok.hll ok.hls ok.hok ok.hne _ _ _ _ _ _ _ _ _ _ _ _ _ _ _ _ _ B F X N T hk hdp hun ret exc
end
theorem told_summary (w : World) (mean : ExcName → Option Value) (mg mb : Str → Option Value) (news : Led) (ar : Addr) (x : Str) (xt : Tok) (avs : List Value) (an : Nat) (ls : List Spec) (b : Bool) (xs : List Str) (first : List Dat) (tl : List Spec)
    (ha : (ar, listOf (List.toArray avs) an) ∈ news) (hA : ArgsAt w news avs ls b) (hx : x.length ≤ 10) (ok : ArgsOk ls xs first tl) :
    DoesT w mean mg mb 410 [.ref 377, .ref ar, .str x xt] 20 260 news (fun news' r => (∀ q ∈ news, q ∈ news') ∧ ∃ tp tn mt, r = .ref tp ∧
      ((isOp x ∧ (∀ e ∈ ls, Good xs e) ∧ ∃ v out, (tp, ({ cls := .type "tuple", data := .seq #[.ref v, .str (Str.ofString "") mt] tn } : Obj)) ∈ news' ∧ FacAt w news' v out (xs.map Dat.str) true ∧ OutIs x (outOf b ls) out) ∨
       (∃ msg, Refused x ls xs msg ∧ (tp, ({ cls := .type "tuple", data := .seq #[.none, .str msg mt] tn } : Obj)) ∈ news'))) := by
  unfold DoesT; k_fill
  intro dp un gd cn cs a ccd cl A₀ base h₀ L m s Q E B XB TB F X N T hcs hdp hu hret
  refine wpAny_call ?_
  k_dflt (refine' code_defSX ?k1 ?k2 ?k3 ?k4 ?k5 ?kA ?kF ?kK ?k6 ?k7 ?k8 ?k9 ?kB ?_ ?c2 ?c3 ?c4 ?c5; (case kA => exact rfl); (case kF => exact rfl); (case kK => assumption); (case k1 => k_asm); (case k2 => k_asm); (case k3 => exact X); (case k4 => k_asm); (case k5 => exact T); (case k6 => k_is); (case k7 => k_is); (case k8 => ktr_room); (case k9 => exact BindsTo.of_eq rfl); (case c5 => decide); (case kB => exact locs rfl); (case c2 => exact rfl); (case c3 => exact rfl); (case c4 => exact rfl))
  intro g' L' h' FG' F' N' B' X' T' D'
  (try dsimp only)
  (try k_fold)
  w_strict (repeat' ((fail_if_success (with_reducible show wpAny _ _ (call (Value.ref 377) _) _ _ _)); (first | (k_unfold; (try dsimp only)) | (k_end; wrow_close) | walk1 | (dsimp only; walk1) | (leave1; walk_say "STEP leave1"; try dsimp only) | fail "no step")))
  k_dflt (refine' summary_use ?k1 ?k2 ?k3 ?k4 ?k5 ?kK ?ke ?kv ?kl ?ka ?kA hx ok ?kd ?ku ?ret ?exc; walk_at "my use"; (case ke => exact ⟨_, _, _, _, _, _, _, _, _, _, _, _, _, _, by k_mem, by k_mem, by k_mem, by assumption, by assumption⟩); (case kv => exact ⟨_, _, _, _, _, _, _, by k_mem, by k_mem⟩); (case kl => k_mem); (case ka => k_mem); (case kA => exact ArgsAt.mono hA (by walk_at "my sub")); walk_at "my rooms")
  case ret =>
    intro hop hgd r h2 tk2 news2 F2 N2 hP
    obtain ⟨v, out, rfl, hF, hO, hsub⟩ := hP
    w_strict k_steps
    refine hret _ _ _ _ (by k_asm) (by k_asm) ⟨fun q hq => .tail _ (hsub q ?_), _, _, _, rfl, .inl ⟨hop, hgd, v, out, .head _, hF.mono (fun _ h => .tail _ h), hO⟩⟩
    repeat (first | exact hq | refine List.Mem.tail _ ?_)
  case exc =>
    intro e dx h2 tk2 G news2 FG2 R2 U2 hP2
    obtain ⟨k2, mt, msg, hmd, hsub, hR⟩ := hP2
    dsimp only
    refine caughtD (KF := hd.heap_1 w.params) R2 FG2 (by assumption) U2 XB TB D' KtsTurn.refl (by k_is) (by kernel_rfl) ?_
    intro h3 g3 oe vs tk3 KT3 F3 N3 hcls hdict hdata K3 X3 T3 D3
    w_strict k_steps
    refine hret _ _ _ _ (by k_asm) (by k_asm) ⟨fun q hq => .tail _ (.tail _ (hsub q ?_)), _, _, _, rfl, .inr ⟨msg, hR, .head _⟩⟩
    repeat (first | exact hq | refine List.Mem.tail _ ?_)
theorem reg_Rl_1 : True := by
  k_with "m:call ref" => ((k_here; (with_reducible show wpAny _ _ (call (Value.ref 391) _) _ _ _); k_dflt (refine' does_use ?k1 ?k2 ?k3 ?k4 ?k5 ?kK (bead_does _ _ _ _ _ _ _ _ _ _ _ _ ?kI ?kn ?kk ?kU ?km) ?kd ?ku ?_; walk_at "my use"; (case kU => k_updF); (case km => k_mem); (case kI => assumption); (case kn => assumption); (case kk => (first | decide | omega)); walk_at "my rooms"); (intro _ _ _ _ _ N'w hP'w); (obtain ⟨_, _, _, _, _, e1'w, _, _, e2'w, _, _⟩ := hP'w); (subst e1'w); (subst e2'w); (try dsimp only at N'w)))
  trivial
theorem three {i : Int} (h0 : 0 ≤ i) (h1 : i < 3) : i = 0 ∨ i = 1 ∨ i = 2 := by omega
theorem two {i : Int} (h0 : 0 ≤ i) (h1 : i < 2) : i = 0 ∨ i = 1 := by omega
theorem one {i : Int} (h0 : 0 ≤ i) (h1 : i < 1) : i = 0 := by omega
abbrev sX : Str := Str.ofString "x"
abbrev sY : Str := Str.ofString "y"
abbrev sZ : Str := Str.ofString "z"
/-- the orders of the three levels -/
def six : List (List Str) := [[sX, sY, sZ], [sX, sZ, sY], [sY, sX, sZ], [sY, sZ, sX], [sZ, sX, sY], [sZ, sY, sX]]
theorem row_end {h₀ h' : Heap} {L : Addr} {e1 e2 e3 e4 e5 r l : Addr × Obj} {news : Led} (N : News h₀ L h' (e1 :: e2 :: e3 :: e4 :: r :: e5 :: l :: news)) : News h₀ L h' (r :: l :: news) := fun p hp => N p (by
  rcases List.mem_cons.mp hp with rfl | hp
  · simp
  · rcases List.mem_cons.mp hp with rfl | hp
    · simp
    · simp [hp])
theorem row_of_levels_does (w : World) (mean : ExcName → Option Value) (mg mb : Str → Option Value) (l : Addr) (vs : List Value) (ns : List Int) (n : Nat) (news : Led) (hI : IntsAre vs ns) (hn : ns.length ≤ 80) (hl : ∀ p ∈ news, p.1 ≠ l) :
    Does w mean mg mb 398 [.ref l] 6 80 ((l, listOf vs.toArray n) :: news) (fun news' r => ∃ rl rvs k xs vs' ns' n', r = .ref rl ∧ news' = (rl, listOf (List.toArray rvs) k) :: (l, listOf (List.toArray vs') n') :: news ∧ DatAll [] rvs (xs.map Dat.str) ∧ xs ∈ six ∧ IntsAre vs' ns' ∧ ns'.length ≤ 80 ∧
      (@Ne Nat l rl) ∧ ∀ p ∈ news, p.1 ≠ rl) := by
  unfold Does; k_fill
  intro dp un gd cn cs a ccd cl outer A₀ base h₀ L m s Q E B F X N T hcs hdp hu hret
  refine wpAny_call ?_
  (k_dflt ktr_enter)
  w_strict (walk_at "my steps")
  obtain rfl | rfl | rfl := three (by assumption) (by assumption)
  all_goals (w_strict (walk_at "my steps"); (obtain rfl | rfl := two (by assumption) (by assumption)))
  all_goals (w_strict (walk_at "my steps"); (obtain rfl := one (by assumption) (by assumption)))
  all_goals (w_strict (walk_at "my steps"))
  all_goals (rename News _ _ _ _ => NN; (try simp only [List.push_toArray, List.cons_append, List.nil_append] at NN))
  all_goals first
    | exact hret _ _ _ _ (by k_asm) (row_end NN) ⟨_, _, _, [sX, sY, sZ], _, _, _, rfl, rfl, .cons (.str _ _) (.cons (.str _ _) (.cons (.str _ _) .nil)), by simp [six], by assumption, by assumption, by omega, by k_all⟩
    | exact hret _ _ _ _ (by k_asm) (row_end NN) ⟨_, _, _, [sX, sZ, sY], _, _, _, rfl, rfl, .cons (.str _ _) (.cons (.str _ _) (.cons (.str _ _) .nil)), by simp [six], by assumption, by assumption, by omega, by k_all⟩
    | exact hret _ _ _ _ (by k_asm) (row_end NN) ⟨_, _, _, [sY, sX, sZ], _, _, _, rfl, rfl, .cons (.str _ _) (.cons (.str _ _) (.cons (.str _ _) .nil)), by simp [six], by assumption, by assumption, by omega, by k_all⟩
    | exact hret _ _ _ _ (by k_asm) (row_end NN) ⟨_, _, _, [sY, sZ, sX], _, _, _, rfl, rfl, .cons (.str _ _) (.cons (.str _ _) (.cons (.str _ _) .nil)), by simp [six], by assumption, by assumption, by omega, by k_all⟩
    | exact hret _ _ _ _ (by k_asm) (row_end NN) ⟨_, _, _, [sZ, sX, sY], _, _, _, rfl, rfl, .cons (.str _ _) (.cons (.str _ _) (.cons (.str _ _) .nil)), by simp [six], by assumption, by assumption, by omega, by k_all⟩
    | exact hret _ _ _ _ (by k_asm) (row_end NN) ⟨_, _, _, [sZ, sY, sX], _, _, _, rfl, rfl, .cons (.str _ _) (.cons (.str _ _) (.cons (.str _ _) .nil)), by simp [six], by assumption, by assumption, by omega, by k_all⟩
/-- a word of the law's rows -/
def isWord (d : Dat) : Prop := d = Dat.none ∨ ∃ x ∈ [sX, sY, sZ], d = Dat.str x
/-- lists of words in the ledger -/
inductive RowsAt (news : Led) : List Value → List (List Dat) → Prop
  | nil : RowsAt news [] []
  | cons {a : Addr} {vs : List Value} {n : Nat} {ds : List Dat} {l : List Value} {r : List (List Dat)} : (a, listOf (List.toArray vs) n) ∈ news → DatAll [] vs ds → RowsAt news l r → RowsAt news (.ref a :: l) (ds :: r)
theorem RowsAt.mono {news news' : Led} {l : List Value} {r : List (List Dat)} (h : RowsAt news l r) (k : ∀ p ∈ news, p ∈ news') : RowsAt news' l r := by
  induction h with
  | nil => exact .nil
  | cons h1 h2 _ ih => exact .cons (k _ h1) h2 ih
theorem RowsAt.snoc {news : Led} {l : List Value} {r : List (List Dat)} {a : Addr} {vs : List Value} {n : Nat} {ds : List Dat} (h : RowsAt news l r) (h1 : (a, listOf (List.toArray vs) n) ∈ news) (h2 : DatAll [] vs ds) : RowsAt news (l ++ [.ref a]) (r ++ [ds]) := by
  induction h with
  | nil => exact .cons h1 h2 .nil
  | cons g1 g2 _ ih => exact .cons g1 g2 ih
theorem RowsAt.length {news : Led} {l : List Value} {r : List (List Dat)} (h : RowsAt news l r) : l.length = r.length := by
  induction h with
  | nil => rfl
  | cons _ _ _ ih => rw [List.length_cons, List.length_cons, ih]
theorem RowsAt.get {news : Led} : ∀ {l : List Value} {r : List (List Dat)} {i : Nat} {v : Value}, RowsAt news l r → l[i]? = some v → ∃ a vs n ds, v = .ref a ∧ r[i]? = some ds ∧ (a, listOf (List.toArray vs) n) ∈ news ∧ DatAll [] vs ds
  | _ :: _, _ :: _, 0, _, .cons h1 h2 _, e => by cases e; exact ⟨_, _, _, _, rfl, rfl, h1, h2⟩
  | _ :: _, _ :: _, i + 1, _, .cons _ _ h, e => RowsAt.get (i := i) h (by simpa using e)
/-- a row of the law -/
def RowOk (r : List Dat) : Prop := r.length ≤ 4 ∧ ∀ d ∈ r, isWord d
theorem range_small {b : Int} (h0 : 0 ≤ b) (h1 : b ≤ 5) : Builtin.Range.small 0 b 1 = true ∧ Builtin.Range.rangeSize 0 b 1 = ((b.toNat : Nat) : Int) := by
  have : b = 0 ∨ b = 1 ∨ b = 2 ∨ b = 3 ∨ b = 4 ∨ b = 5 := by omega
  rcases this with rfl | rfl | rfl | rfl | rfl | rfl <;> decide
/-- the beads stand at the head of the ledger, behind them R -/
def BeadsAt (bl : Addr) (R nx : Led) : Prop := ∃ bvs bns bn, nx = (bl, listOf (List.toArray bvs) bn) :: R ∧ IntsAre bvs bns ∧ bns.length ≤ 80
theorem word_of {d : Dat} (h : d ∈ [Dat.str (Str.ofString "x"), Dat.str (Str.ofString "y"), Dat.str (Str.ofString "z"), Dat.none]) : isWord d := by
  simp only [List.mem_cons, List.not_mem_nil, or_false] at h
  rcases h with rfl | rfl | rfl | rfl
  · exact .inr ⟨sX, by simp, rfl⟩
  · exact .inr ⟨sY, by simp, rfl⟩
  · exact .inr ⟨sZ, by simp, rfl⟩
  · exact .inl rfl
theorem rangeTo {i : Int} (h : 0 ≤ i) : (i.toNat : Int) = i := Int.toNat_of_nonneg h
theorem reg_Rw_1 : True := by
  k_with "m:my menu" => (first | exact .cons (.str _ _) (.cons (.str _ _) (.cons (.str _ _) (.cons .none .nil))) | exact .cons (.str _ _) (.cons (.str _ _) (.cons (.str _ _) (.cons (.str _ _) (.cons (.str _ _) (.cons (.str _ _) (.cons (.str _ _) .nil)))))))
  k_with "m:subscriptTail" => ((k_here; (with_reducible show wpAny _ _ (subscriptTail _ _ (Value.ref _) (Value.int _ _)) _ _ _); k_dflt (refine' kd_item (L9 := []) ?k1 ?k2 ?k3 ?k4 ?k5 ?k6 ?_ ?k7; (case k4 => assumption); (case k1 => k_asm); (case k2 => k_mem); (case k3 => walk_at "my menu"); (case k5 => (simp only [List.length_cons, List.length_nil]; omega)); (case k6 => omega); (case k7 => with_unfolding_all rfl)); intro _ _ _ _ _))
  trivial
/-- two addresses differ (hidden from omega, which would split every such fact) -/
def Apart (a b : Addr) : Prop := a ≠ b
theorem Apart.l {a b : Addr} (h : Apart a b) : a ≠ b := h
theorem Apart.r {a b : Addr} (h : Apart a b) : b ≠ a := Ne.symm h
theorem off_apart {I C D : Addr} {p : Addr × Obj} {r : Led} (h : LCg.Off3 I C D (p :: r)) : Apart p.1 I ∧ Apart p.1 C ∧ Apart p.1 D ∧ LCg.Off3 I C D r := ⟨h.1.1, h.1.2.1, h.1.2.2, h.2⟩
theorem ne_apart {I C D : Addr} (h : (@Ne Nat I C) ∧ (@Ne Nat I D) ∧ (@Ne Nat C D)) : Apart I C ∧ Apart I D ∧ Apart C D := h
local macro_rules | `(tactic| k_ne) => `(tactic| k_extra "m:my ne")
theorem reg_Rw_2 : True := by
  k_with "m:my ne" => (((try dsimp only); first | (refine Apart.l ?_; assumption) | (refine Apart.r ?_; assumption)))
  trivial
/-- between the turns of the rows' comprehension -/
def RowsJ (bl : Addr) (cA cB : Addr × Obj) (i : Nat) (ys : List Value) (nx : Led) : Prop :=
  ∃ bvs bns bn R rows, nx = (bl, listOf (List.toArray bvs) bn) :: cA :: cB :: R ∧ IntsAre bvs bns ∧ bns.length ≤ 80 ∧ (∀ p ∈ cA :: cB :: R, p.1 ≠ bl) ∧ (∀ p ∈ R, p.1 ≠ cA.1) ∧ (∀ p ∈ R, p.1 ≠ cB.1) ∧ RowsAt R ys rows ∧ rows.length = i ∧ ∀ r ∈ rows, RowOk r
/-- between the turns of one row's comprehension -/
def SpotJ (x1 x2 x3 : Addr × Obj) (bl : Addr) (cA cB : Addr × Obj) (R : Led) (i : Nat) (ys : List Value) (nx : Led) : Prop :=
  ∃ bvs bns bn ds, nx = x1 :: x2 :: x3 :: (bl, listOf (List.toArray bvs) bn) :: cA :: cB :: R ∧ IntsAre bvs bns ∧ bns.length ≤ 80 ∧ DatAll [] ys ds ∧ ds.length = i ∧ ∀ d ∈ ds, isWord d
/-- the words of the law -/
def seven : List Str := [Str.ofString "max", Str.ofString "min", Str.ofString "range", Str.ofString "sum", Str.ofString "prod", Str.ofString "cumsum", Str.ofString "round"]
theorem word7 {v : Value} {d : Dat} (hm : d ∈ [Dat.str (Str.ofString "max"), Dat.str (Str.ofString "min"), Dat.str (Str.ofString "range"), Dat.str (Str.ofString "sum"), Dat.str (Str.ofString "prod"), Dat.str (Str.ofString "cumsum"), Dat.str (Str.ofString "round")])
    (hD : DatIn [] v d) : ∃ x t, v = .str x t ∧ x ∈ seven := by
  have : ∃ x, d = Dat.str x ∧ x ∈ seven := by
    simp only [List.mem_cons, List.not_mem_nil, or_false] at hm
    rcases hm with h | h | h | h | h | h | h <;> exact ⟨_, h, by simp [seven]⟩
  obtain ⟨x, rfl, hx⟩ := this
  cases hD
  exact ⟨x, _, rfl, hx⟩
theorem seven_len {x : Str} (h : x ∈ seven) : x.length ≤ 10 := by
  simp only [seven, List.mem_cons, List.not_mem_nil, or_false] at h
  rcases h with rfl | rfl | rfl | rfl | rfl | rfl | rfl <;> decide +kernel
theorem six_is {xs : List Str} (h : xs ∈ six) : sX ∈ xs ∧ sY ∈ xs ∧ sZ ∈ xs ∧ xs.length = 3 := by
  simp only [six, List.mem_cons, List.not_mem_nil, or_false] at h
  rcases h with rfl | rfl | rfl | rfl | rfl | rfl <;> simp
theorem kin_of {xs : List Str} {ws : List Dat} (h : xs ∈ six) (hw : ∀ d ∈ ws, isWord d) : ∀ d ∈ ws, d = Dat.none ∨ ∃ x ∈ xs, d = Dat.str x := fun d hd => by
  obtain ⟨h1, h2, h3, _⟩ := six_is h
  rcases hw d hd with rfl | ⟨x, hx, rfl⟩
  · exact .inl rfl
  · refine .inr ⟨x, ?_, rfl⟩
    simp only [List.mem_cons, List.not_mem_nil, or_false] at hx
    rcases hx with rfl | rfl | rfl <;> assumption
/-- factors of the ledger -/
inductive FacsAt (w : World) (news : Led) : List Value → List Spec → Prop
  | nil : FacsAt w news [] []
  | cons {f : Addr} {cs : List Dat} {xs : List Str} {ord : Bool} {vs : List Value} {l : List Spec} : FacAt w news f cs (xs.map Dat.str) ord → FacsAt w news vs l → FacsAt w news (.ref f :: vs) ((cs, xs, ord) :: l)
theorem FacsAt.mono {w : World} {news news' : Led} {vs : List Value} {l : List Spec} (h : FacsAt w news vs l) (k : ∀ p ∈ news, p ∈ news') : FacsAt w news' vs l := by
  induction h with
  | nil => exact .nil
  | cons h1 _ ih => exact .cons (h1.mono k) ih
theorem FacsAt.snoc {w : World} {news : Led} {vs : List Value} {l : List Spec} {f : Addr} {cs : List Dat} {xs : List Str} {ord : Bool} (h : FacsAt w news vs l) (h1 : FacAt w news f cs (xs.map Dat.str) ord) : FacsAt w news (vs ++ [.ref f]) (l ++ [(cs, xs, ord)]) := by
  induction h with
  | nil => exact .cons h1 .nil
  | cons g _ ih => exact .cons g ih
theorem FacsAt.length {w : World} {news : Led} {vs : List Value} {l : List Spec} (h : FacsAt w news vs l) : vs.length = l.length := by
  induction h with
  | nil => rfl
  | cons _ _ ih => rw [List.length_cons, List.length_cons, ih]
/-- what a row's factor is -/
abbrev specOf (xs : List Str) (r : List Dat) : Spec := (r.map (cod xs), xs, true)
/-- between the turns of the factors' comprehension -/
def FsJ (w : World) (base : Led) (xs : List Str) (rows : List (List Dat)) (i : Nat) (ys : List Value) (nx : Led) : Prop := (∀ p ∈ base, p ∈ nx) ∧ FacsAt w nx ys ((rows.take i).map (specOf xs))
section
variable {h₀ h : Heap} {L : Addr} {a b c d e f : Addr × Obj} {R : Led}
theorem led_six (N : News h₀ L h (a :: b :: c :: d :: e :: f :: R)) : ∃ base, News h₀ L h base ∧ b ∈ base ∧ d ∈ base ∧ e ∈ base ∧ f ∈ base ∧ ∀ p ∈ R, p ∈ base :=
  ⟨_, N, by simp, by simp, by simp, by simp, fun p hp => by simp [hp]⟩
theorem comp_sub {new nx : Led} {s I C D : Addr × Obj} : ∀ p ∈ I :: C :: D :: (new ++ nx), p ∈ new ++ (s :: I :: C :: D :: nx) := by
  intro p hp
  simp only [List.mem_cons, List.mem_append] at hp ⊢
  rcases hp with h | h | h | h | h <;> simp [h]
theorem comp_off {new nx : Led} {s : Addr × Obj} {I C D : Addr} {oI oC oD : Obj} (h : ∀ p ∈ new, ∀ q ∈ s :: (I, oI) :: (C, oC) :: (D, oD) :: nx, p.1 ≠ q.1) (o : LCg.Off3 I C D nx) : LCg.Off3 I C D (new ++ nx) :=
  LCg.Off3.of fun p hp => by
    rcases List.mem_append.mp hp with hp | hp
    · exact ⟨h p hp _ (.tail _ (.head _)), h p hp _ (.tail _ (.tail _ (.head _))), h p hp _ (.tail _ (.tail _ (.tail _ (.head _))))⟩
    · exact o.mem p hp
end
theorem fs_next {w : World} {base nx new : Led} {xs : List Str} {rows : List (List Dat)} {i : Nat} {ys : List Value} {r : List Dat} {f : Addr} (hs : ∀ p ∈ base, p ∈ nx) (hf : FacsAt w nx ys ((rows.take i).map (specOf xs))) (hr : rows[i]? = some r)
    (fac : FacAt w new f (r.map (cod xs)) (xs.map Dat.str) true) : FsJ w base xs rows (i + 1) (ys ++ [.ref f]) (new ++ nx) :=
  ⟨fun p hp => List.mem_append_right _ (hs p hp), by rw [take_succ_of hr, List.map_append]; exact (hf.mono fun p hp => List.mem_append_right _ hp).snoc (fac.mono fun p hp => List.mem_append_left _ hp)⟩
theorem reg_Rw_3 : True := by
  k_with "m:my kin" => (assumption)
  trivial
/-- a statement that goes on to the next -/
theorem cut_next {M : Model} {A : Around} {t : Sem Flow} {R : Shared → Prop} {Q : Flow → Shared → Prop} {E : Value → Shared → Prop} {s : Shared} (h : wpAny M A t (fun f s' => f = Flow.next ∧ R s') E s) (k : ∀ s', R s' → Q .next s') : wpAny M A t Q E s :=
  wpAny_mono h (fun f s' ⟨e, r⟩ => by subst e; exact k s' r) fun _ _ x => x
/-- the ledger while the factors are filled -/
def FsMid (w : World) (h₀ : Heap) (L : Addr) (m : Str → Option Value) (s : Shared) (fsD : Addr) (bs : Led) (ls : List Spec) (s' : Shared) : Prop :=
  ∃ h' tk' fsv n nx, s' = { s with heap := h', toks := tk' } ∧ Fr h₀ L h' m ∧ News h₀ L h' ((fsD, listOf (List.toArray fsv) n) :: nx) ∧ (∀ p ∈ nx, p.1 ≠ fsD) ∧ (∀ p ∈ bs, p ∈ nx) ∧ FacsAt w nx fsv ls
section
variable {h₀ h : Heap} {L : Addr} {a b c d : Addr × Obj} {new nx : Led}
theorem led_fs3 (N : News h₀ L h (new ++ (a :: b :: c :: d :: nx))) : News h₀ L h (d :: (new ++ (a :: b :: c :: nx))) := fun p hp => N p (by
  simp only [List.mem_cons, List.mem_append] at hp ⊢
  rcases hp with h | h | h | h | h | h <;> simp [h])
theorem led_fs2 (N : News h₀ L h (new ++ (a :: b :: d :: nx))) : News h₀ L h (d :: (new ++ (a :: b :: nx))) := fun p hp => N p (by
  simp only [List.mem_cons, List.mem_append] at hp ⊢
  rcases hp with h | h | h | h | h <;> simp [h])
theorem off_fs3 (o : ∀ p ∈ new, ∀ q ∈ a :: b :: c :: d :: nx, p.1 ≠ q.1) (h1 : @Ne Nat a.1 d.1) (h2 : @Ne Nat b.1 d.1) (h3 : @Ne Nat c.1 d.1) (h : ∀ p ∈ nx, p.1 ≠ d.1) : ∀ p ∈ new ++ (a :: b :: c :: nx), p.1 ≠ d.1 := fun p hp => by
  simp only [List.mem_cons, List.mem_append] at hp
  rcases hp with hp | rfl | rfl | rfl | hp
  · exact o p hp d (by simp)
  · exact h1
  · exact h2
  · exact h3
  · exact h p hp
theorem off_fs2 (o : ∀ p ∈ new, ∀ q ∈ a :: b :: d :: nx, p.1 ≠ q.1) (h1 : @Ne Nat a.1 d.1) (h2 : @Ne Nat b.1 d.1) (h : ∀ p ∈ nx, p.1 ≠ d.1) : ∀ p ∈ new ++ (a :: b :: nx), p.1 ≠ d.1 := fun p hp => by
  simp only [List.mem_cons, List.mem_append] at hp
  rcases hp with hp | rfl | rfl | hp
  · exact o p hp d (by simp)
  · exact h1
  · exact h2
  · exact h p hp
end
abbrev odd3 : Spec := ([Dat.int 1], [sX, sY], true)
abbrev odd4 (xs : List Str) : Spec := ([cod xs (.str sX)], xs, false)
theorem reg_Rw_4 : True := by
  k_with "m:my factor" => (repeat' ((fail_if_success (with_reducible show wpAny _ _ (call (Value.ref 403) _) _ _ _)); (first | (k_unfold; (try dsimp only)) | (k_end; wrow_close) | walk1 | (dsimp only; walk1) | (leave1; walk_say "STEP leave1"; try dsimp only) | fail "no step")))
  trivial
theorem cut_fs {M : Model} {A : Around} {t : Sem Flow} {Q : Flow → Shared → Prop} {E : Value → Shared → Prop} {s : Shared} {h₀ : Heap} {L : Addr} {m : Str → Option Value} (F : Fr h₀ L s.heap m) (w : World) (fsD : Addr) (bs : Led) (ls : List Spec)
    (h : wpAny M A t (fun f s' => f = Flow.next ∧ FsMid w h₀ L m s fsD bs ls s') E s)
    (k : ∀ h' tk' fsv n nx, Fr h₀ L h' m → News h₀ L h' ((fsD, listOf (List.toArray fsv) n) :: nx) → (∀ p ∈ nx, p.1 ≠ fsD) → (∀ p ∈ bs, p ∈ nx) → FacsAt w nx fsv ls → Q .next { s with heap := h', toks := tk' }) : wpAny M A t Q E s :=
  cut_next h fun _ ⟨h', tk', fsv, n, nx, e, a, b, c, d, f⟩ => by subst e; exact k h' tk' fsv n nx a b c d f
section
variable {h₀ h : Heap} {L : Addr} {d : Addr × Obj} {new nx : Led}
theorem led_fs1 (N : News h₀ L h (new ++ (d :: nx))) : News h₀ L h (d :: (new ++ nx)) := fun p hp => N p (by
  simp only [List.mem_cons, List.mem_append] at hp ⊢
  rcases hp with h | h | h <;> simp [h])
theorem off_fs1 (o : ∀ p ∈ new, ∀ q ∈ d :: nx, p.1 ≠ q.1) (h : ∀ p ∈ nx, p.1 ≠ d.1) : ∀ p ∈ new ++ nx, p.1 ≠ d.1 := fun p hp => by
  rcases List.mem_append.mp hp with hp | hp
  · exact o p hp d (.head _)
  · exact h p hp
end
theorem reg_Fg_1 : True := by
  k_with "m:my fresh4" => ((intro _ hp'w; (simp only [List.mem_cons, List.not_mem_nil, or_false] at hp'w); (rcases hp'w with h'w | h'w | h'w <;> subst h'w <;> (refine fun q'w hq'w => Ne.symm ((?_ : ∀ q ∈ _, q.1 ≠ _) q'w hq'w); dsimp only; k_all))))
  trivial
theorem flag_does (w : World) (mean : ExcName → Option Value) (mg mb : Str → Option Value) (news : Led) :
    Does w mean mg mb 146 [.bool true] 6 60 news (fun news' r => ∃ v new, r = .ref v ∧ news' = new ++ news ∧ FlagAt w new v ∧ ∀ p ∈ new, ∀ q ∈ news, p.1 ≠ q.1) := by
  unfold Does; k_fill
  intro dp un gd cn cs a ccd cl outer A₀ base h₀ L m s Q E B F X N T hcs hdp hu hret
  refine wpAny_call ?_
  (k_dflt ktr_enter)
  w_strict k_steps
  exact hret _ _ _ _ (by k_asm) (by k_asm) ⟨_, [_, _, _], rfl, rfl, ⟨_, _, _, ⟨_, _, _, _, _, _, _, by k_mem, by k_mem⟩, by k_mem⟩, by walk_at "my fresh4"⟩
theorem reg_Fg_2 : True := by
  k_with "m:call ref" => ((k_here; (with_reducible show wpAny _ _ (call (Value.ref 146) _) _ _ _); k_dflt (refine' does_use ?k1 ?k2 ?k3 ?k4 ?k5 ?kK (flag_does _ _ _ _ _) ?kd ?ku ?_; walk_at "my use"; walk_at "my rooms"); (intro _ _ _ _ _ N'w hP'w); (obtain ⟨_, _, e1'w, e2'w, _, off'w⟩ := hP'w); (subst e1'w); (subst e2'w); (have _ := led_fs1 N'w); (have off2'w := off_fs1 off'w (by assumption)); (clear N'w); (try dsimp only); (try dsimp only at off2'w)))
  trivial
/-- the pairs of None and a factor -/
inductive TupsAt (news : Led) : List Value → List Value → Prop
  | nil : TupsAt news [] []
  | cons {tp : Addr} {k : Nat} {v : Value} {vs ws : List Value} : (tp, ({ cls := .type "tuple", data := .seq #[.none, v] k } : Obj)) ∈ news → TupsAt news vs ws → TupsAt news (.ref tp :: vs) (v :: ws)
theorem TupsAt.mono {news news' : Led} {vs ws : List Value} (h : TupsAt news vs ws) (k : ∀ p ∈ news, p ∈ news') : TupsAt news' vs ws := by
  induction h with
  | nil => exact .nil
  | cons h1 _ ih => exact .cons (k _ h1) ih
theorem TupsAt.snoc {news : Led} {vs ws : List Value} {tp : Addr} {k : Nat} {v : Value} (h : TupsAt news vs ws) (h1 : (tp, ({ cls := .type "tuple", data := .seq #[.none, v] k } : Obj)) ∈ news) : TupsAt news (vs ++ [.ref tp]) (ws ++ [v]) := by
  induction h with
  | nil => exact .cons h1 .nil
  | cons g _ ih => exact .cons g ih
theorem TupsAt.length {news : Led} {vs ws : List Value} (h : TupsAt news vs ws) : vs.length = ws.length := by
  induction h with
  | nil => rfl
  | cons _ _ ih => rw [List.length_cons, List.length_cons, ih]
theorem args_of {w : World} {news : Led} {ws : List Value} {ls : List Spec} (f : FacsAt w news ws ls) : ∀ {vs : List Value}, TupsAt news vs ws → ArgsAt w news vs ls false := by
  induction f with
  | nil => intro vs h; cases h; exact .nil
  | cons g _ ih => intro vs h; cases h with | cons h1 h2 => exact .cons h1 g (ih h2)
theorem args_rm {w : World} {news : Led} {ws : List Value} {ls : List Spec} {tp v : Addr} {k : Nat} {t : Tok} (ht : (tp, ({ cls := .type "tuple", data := .seq #[.str (Str.ofString "na.rm") t, .ref v] k } : Obj)) ∈ news) (hv : FlagAt w news v) (f : FacsAt w news ws ls) :
    ∀ {vs : List Value}, TupsAt news vs ws → ArgsAt w news (vs ++ [.ref tp]) ls true := by
  induction f with
  | nil => intro vs h; cases h; exact .rm ht hv
  | cons g _ ih => intro vs h; cases h with | cons h1 h2 => exact .cons h1 g (ih h2)
/-- between the turns of the arguments' comprehension -/
def TpJ (base : Led) (fsv : List Value) (i : Nat) (ys : List Value) (nx : Led) : Prop := (∀ p ∈ base, p ∈ nx) ∧ TupsAt nx ys (fsv.take i)
theorem tp_next {base nx : Led} {fsv ys : List Value} {i : Nat} {v : Value} {tp : Addr} {k : Nat} (hs : ∀ p ∈ base, p ∈ nx) (hf : TupsAt nx ys (fsv.take i)) (hr : fsv[i]? = some v) : TpJ base fsv (i + 1) (ys ++ [.ref tp]) ((tp, ({ cls := .type "tuple", data := .seq #[.none, v] k } : Obj)) :: nx) :=
  ⟨fun p hp => .tail _ (hs p hp), by rw [take_succ_of hr]; exact (hf.mono fun _ h => .tail _ h).snoc (.head _)⟩
/-- the ledger while the arguments are filled -/
def ArgMid (w : World) (h₀ : Heap) (L : Addr) (m : Str → Option Value) (s : Shared) (aD : Addr) (bs : Led) (ls : List Spec) (b : Bool) (s' : Shared) : Prop :=
  ∃ h' tk' avs n nx, s' = { s with heap := h', toks := tk' } ∧ Fr h₀ L h' m ∧ News h₀ L h' ((aD, listOf (List.toArray avs) n) :: nx) ∧ (∀ p ∈ bs, p ∈ nx) ∧ ArgsAt w nx avs ls b
theorem cut_args {M : Model} {A : Around} {t : Sem Flow} {Q : Flow → Shared → Prop} {E : Value → Shared → Prop} {s : Shared} {h₀ : Heap} {L : Addr} {m : Str → Option Value} (F : Fr h₀ L s.heap m) (w : World) (aD : Addr) (bs : Led) (ls : List Spec) (b : Bool)
    (h : wpAny M A t (fun f s' => f = Flow.next ∧ ArgMid w h₀ L m s aD bs ls b s') E s)
    (k : ∀ h' tk' avs n nx, Fr h₀ L h' m → News h₀ L h' ((aD, listOf (List.toArray avs) n) :: nx) → (∀ p ∈ bs, p ∈ nx) → ArgsAt w nx avs ls b → Q .next { s with heap := h', toks := tk' }) : wpAny M A t Q E s :=
  cut_next h fun _ ⟨h', tk', avs, n, nx, e, a, b, c, d⟩ => by subst e; exact k h' tk' avs n nx a b c d
theorem comp_sub1 {nx : Led} {t I C D : Addr × Obj} : ∀ p ∈ I :: C :: D :: t :: nx, p ∈ t :: I :: C :: D :: nx := by
  intro p hp
  simp only [List.mem_cons] at hp ⊢
  rcases hp with h | h | h | h | h <;> simp [h]
/-- what is handed to the summary by the law -/
def lsOf (xs : List Str) (rows : List (List Dat)) (odd : Int) : List Spec := (rows.map (specOf xs) ++ if odd = 3 then [odd3] else []) ++ if odd = 4 then [odd4 xs] else []
theorem cod_is (xs : List Str) (d : Dat) : cod xs d = Dat.none ∨ ∃ i, cod xs d = Dat.int i := by
  unfold cod
  split
  · exact .inr ⟨_, rfl⟩
  · exact .inl rfl
theorem lsOf_mem {xs : List Str} {rows : List (List Dat)} {odd : Int} {e : Spec} (h : e ∈ lsOf xs rows odd) : (∃ r ∈ rows, e = specOf xs r) ∨ (odd = 3 ∧ e = odd3) ∨ (odd = 4 ∧ e = odd4 xs) := by
  unfold lsOf at h
  rcases List.mem_append.mp h with h | h
  · rcases List.mem_append.mp h with h | h
    · obtain ⟨r, hr, rfl⟩ := List.mem_map.mp h
      exact .inl ⟨r, hr, rfl⟩
    · split at h
      · exact .inr (.inl ⟨by assumption, List.mem_singleton.mp h⟩)
      · cases h
  · split at h
    · exact .inr (.inr ⟨by assumption, List.mem_singleton.mp h⟩)
    · cases h
theorem codes_len {xs : List Str} : ∀ {rows : List (List Dat)}, (∀ r ∈ rows, RowOk r) → (codesOf (rows.map (specOf xs))).length ≤ 4 * rows.length
  | [], _ => Nat.le_refl _
  | r :: l, h => by
    have a := (h r (.head _)).1
    have b := codes_len (xs := xs) fun r hr => h r (.tail _ hr)
    unfold codesOf at b ⊢
    rw [List.map_cons, List.flatMap_cons, List.length_append]
    have c : (specOf xs r).1.length = r.length := List.length_map _
    rw [c, List.length_cons]
    omega
theorem sX_ok : kqdOk 8 (Dat.str sX) = true := by decide +kernel
theorem sY_ok : kqdOk 8 (Dat.str sY) = true := by decide +kernel
theorem sZ_ok : kqdOk 8 (Dat.str sZ) = true := by decide +kernel
theorem six_ok {xs : List Str} (h : xs ∈ six) : ∀ d ∈ xs.map Dat.str, kqdOk 8 d = true := fun d hd => by
  obtain ⟨x, hx, rfl⟩ := List.mem_map.mp hd
  have : x = sX ∨ x = sY ∨ x = sZ := by
    simp only [six, List.mem_cons, List.not_mem_nil, or_false] at h
    rcases h with rfl | rfl | rfl | rfl | rfl | rfl <;> (simp only [List.mem_cons, List.not_mem_nil, or_false] at hx; rcases hx with h | h | h <;> simp [h])
  rcases this with rfl | rfl | rfl
  · exact sX_ok
  · exact sY_ok
  · exact sZ_ok
theorem args_ok {xs : List Str} {rows : List (List Dat)} {odd : Int} (hsix : xs ∈ six) (h1 : 1 ≤ rows.length) (h3 : rows.length ≤ 3) (hok : ∀ r ∈ rows, RowOk r) : ∃ first tl, ArgsOk (lsOf xs rows odd) xs first tl := by
  have hx3 := (six_is hsix).2.2.2
  match rows, h1, h3, hok with
  | r :: l, h1, h3, hok =>
    refine ⟨r.map (cod xs), (l.map (specOf xs) ++ if odd = 3 then [odd3] else []) ++ if odd = 4 then [odd4 xs] else [], ?_, ?_, ?_, ?_, ?_, rfl⟩
    · omega
    · have := codes_len (xs := xs) hok
      unfold lsOf
      unfold codesOf at this ⊢
      rw [List.flatMap_append, List.flatMap_append, List.length_append, List.length_append]
      have a : (List.flatMap (fun x => x.1) (if odd = 3 then [odd3] else [] : List Spec)).length ≤ 1 := by split <;> simp
      have b : (List.flatMap (fun x => x.1) (if odd = 4 then [odd4 xs] else [] : List Spec)).length ≤ 1 := by split <;> simp
      omega
    · unfold lsOf
      rw [List.length_append, List.length_append, List.length_map]
      split <;> split <;> simp only [List.length_cons, List.length_nil] at h3 ⊢ <;> omega
    · intro e he
      rcases lsOf_mem he with ⟨r', hr', rfl⟩ | ⟨_, rfl⟩ | ⟨_, rfl⟩
      · refine ⟨by show xs.length ≤ 4; omega, by show (List.map _ r').length ≤ 20; rw [List.length_map]; have := (hok r' hr').1; omega, six_ok hsix⟩
      · refine ⟨by decide, by decide, fun d hd => ?_⟩
        rcases List.mem_cons.mp hd with rfl | hd
        · exact sX_ok
        · rw [List.mem_singleton.mp hd]; exact sY_ok
      · exact ⟨by show xs.length ≤ 4; omega, by show 1 ≤ 20; decide, six_ok hsix⟩
    · intro d hd
      obtain ⟨e, he, hd⟩ := List.mem_flatMap.mp hd
      rcases lsOf_mem he with ⟨r', hr', rfl⟩ | ⟨_, rfl⟩ | ⟨_, rfl⟩
      · obtain ⟨y, _, rfl⟩ := List.mem_map.mp hd
        exact cod_is xs y
      · exact .inr ⟨1, List.mem_singleton.mp hd⟩
      · rw [List.mem_singleton.mp hd]; exact cod_is xs _
/-- what the law is told: the value, the words -/
def ToldIs (w : World) (news : Led) (x : Str) (xs : List Str) (ls : List Spec) (b : Bool) (tv : Value) (msg : Str) : Prop :=
  (isOp x ∧ (∀ e ∈ ls, Good xs e) ∧ ∃ v out, tv = .ref v ∧ msg = Str.ofString "" ∧ FacAt w news v out (xs.map Dat.str) true ∧ OutIs x (outOf b ls) out) ∨ (tv = .none ∧ Refused x ls xs msg)
theorem ToldIs.mono {w : World} {news news' : Led} {x : Str} {xs : List Str} {ls : List Spec} {b : Bool} {tv : Value} {msg : Str} (h : ToldIs w news x xs ls b tv msg) (k : ∀ p ∈ news, p ∈ news') : ToldIs w news' x xs ls b tv msg := by
  rcases h with ⟨a, g, v, out, e1, e2, f, o⟩ | h
  · exact .inl ⟨a, g, v, out, e1, e2, f.mono k, o⟩
  · exact .inr h
section
variable {w : World} {mean : ExcName → Option Value} {mg mb : Str → Option Value} {news : Led}
theorem told_use {dp un : Nat} {gd : Option (List Code)} {cn : Str} {cs : Scope} {a : Addr} {ccd : Value} {cl : List (Str × Addr)} {A₀ : Around} {base h₀ : Heap} {L : Addr} {m : Str → Option Value} {s : Shared} {Q E : Value → Shared → Prop}
    {ar : Addr} {x : Str} {xt : Tok} {avs : List Value} {an : Nat} {ls : List Spec} {b : Bool} {xs : List Str}
    (B : Below A₀ base [] h₀) (XB : (hd.heap_1 w.params).In base) (TB : Top hd.view_1 (looseW hd.view_1 [Str.ofString "number_text"]) mean mg mb base) (F : Fr h₀ L s.heap m) (X : (hd.heap_1 w.params).In h₀) (N : News h₀ L s.heap news)
    (T : Top hd.view_1 (looseW hd.view_1 [Str.ofString "number_text"]) mean mg mb h₀) (hk : cs.kind = .function) (ha : (ar, listOf (List.toArray avs) an) ∈ news) (hA : ArgsAt w news avs ls b) (hx : x.length ≤ 10) (ok : ∃ first tl, ArgsOk ls xs first tl)
    (hdp : dp + 20 < recursionLimit) (hun : un + 260 < cLine)
    (ret : ∀ tp tn tv msg mt h' tk' news', Fr h₀ L h' m → News h₀ L h' news' → (∀ q ∈ news, q ∈ news') → (tp, ({ cls := .type "tuple", data := .seq #[tv, .str msg mt] tn } : Obj)) ∈ news' → ToldIs w news' x xs ls b tv msg → Q (.ref tp) { s with heap := h', toks := tk' }) :
    wpAny (model PySem.Challenge.rw_pq1405_01.row.prog w) (ktrTop dp un gd cn cs L a ccd cl []) (call (.ref 410) [.ref 377, .ref ar, .str x xt]) Q E s := by
  obtain ⟨first, tl, ok⟩ := ok
  refine told_summary w mean mg mb news ar x xt avs an ls b xs first tl ha hA hx ok _ _ _ _ _ _ _ _ _ _ _ _ _ _ _ _ B XB TB F X N T hk hdp hun fun r h' tk' news' F' N' hP => ?_
  obtain ⟨sub, tp, tn, mt, rfl, ⟨h1, h2, v, out, h3, h4, h5⟩ | ⟨msg, h1, h2⟩⟩ := hP
  · exact ret _ _ _ _ _ _ _ _ F' N' sub h3 (.inl ⟨h1, h2, v, out, rfl, rfl, h4, h5⟩)
  · exact ret _ _ _ _ _ _ _ _ F' N' sub h2 (.inr ⟨rfl, h1⟩)
end
theorem reg_Pl_1 : True := by
  k_with "m:my told" => (repeat' ((fail_if_success (with_reducible show wpAny _ _ (call (Value.ref 410) _) _ _ _)); (first | (k_unfold; (try dsimp only)) | (k_end; wrow_close) | walk1 | (dsimp only; walk1) | (leave1; walk_say "STEP leave1"; try dsimp only) | fail "no step")))
  trivial
theorem add_led {prog : Program} {w : World} {A : Around} {E : Value → Shared → Prop} {s : Shared} {h₀ : Heap} {L a b : Addr} {m : Str → Option Value} {news : Led} {xs ys : List Value} {n n2 : Nat} {Q : Value → Shared → Prop}
    (F : Fr h₀ L s.heap m) (N : News h₀ L s.heap news) (ha : (a, listOf (List.toArray xs) n) ∈ news) (hb : (b, listOf (List.toArray ys) n2) ∈ news) (hz : xs.length + ys.length ≤ 100)
    (h : ∀ D h' k, Fr h₀ L h' m → News h₀ L h' ((D, listOf (List.toArray (xs ++ ys)) k) :: news) → (∀ p ∈ news, p.1 < D) → Q (.ref D) { s with heap := h' }) : wpAny (model prog w) A (binaryOp .Add (.ref a) (.ref b)) Q E s :=
  add_lists (vs := xs) (ws := ys) F N (News.isList N ha) (News.isList N hb) (fun h' F' N' => h _ h' _ F' N' fun p hp => Heap.lt_size (N p hp).1) (by rw [PySem.sizeLine_eq]; omega)
theorem reg_Pl_2 : True := by
  k_with "m:binaryOp Add ref ref" => ((k_here; (with_reducible show wpAny _ _ (binaryOp Operator.Add (Value.ref _) (Value.ref _)) _ _ _); k_dflt (refine' add_led ?k1 ?k2 ?k3 ?k4 ?k5 ?_; (case k1 => k_asm); (case k2 => k_asm); (case k3 => k_mem); (case k4 => k_mem); (case k5 => assumption)); intro _ _ _ _ _ l1'w; (try k_lt l1'w)))
  trivial
/-- the frame of the loop over the rows -/
abbrev frE (m₀ : Str → Option Value) (rv ev : Option Value) : Str → Option Value := fun y => if y = Str.ofString "every" then ev else if y = Str.ofString "row" then rv else m₀ y
def FrE (m m₀ : Str → Option Value) (ev : Option Value) : Prop := (∀ y, y ≠ Str.ofString "every" → y ≠ Str.ofString "row" → m y = m₀ y) ∧ m (Str.ofString "every") = ev
theorem FrE.eq {m m₀ : Str → Option Value} {ev : Option Value} (h : FrE m m₀ ev) : ∃ rv, m = frE m₀ rv ev := by
  refine ⟨m (Str.ofString "row"), ?_⟩
  obtain ⟨h0, hw⟩ := h
  subst hw
  funext y
  unfold frE
  by_cases h1 : y = Str.ofString "every"
  · rw [if_pos h1, h1]
  · rw [if_neg h1]
    by_cases h2 : y = Str.ofString "row"
    · rw [if_pos h2, h2]
    · rw [if_neg h2]; exact h0 y h1 h2
/-- the codes of all rows -/
def everyOf (xs : List Str) (rows : List (List Dat)) : List Dat := rows.flatMap fun r => r.map (cod xs)
theorem every_next {xs : List Str} {rows : List (List Dat)} {i : Nat} {r : List Dat} (h : rows[i]? = some r) : everyOf xs (rows.take (i + 1)) = everyOf xs (rows.take i) ++ r.map (cod xs) := by
  unfold everyOf
  rw [take_succ_of h, List.flatMap_append, List.flatMap_singleton]
theorem every_len {xs : List Str} : ∀ {rows : List (List Dat)}, (∀ r ∈ rows, RowOk r) → (everyOf xs rows).length ≤ 4 * rows.length
  | [], _ => Nat.le_refl _
  | r :: l, h => by
    have a := (h r (.head _)).1
    have b := every_len (xs := xs) fun r hr => h r (.tail _ hr)
    unfold everyOf at b ⊢
    rw [List.flatMap_cons, List.length_append, List.length_map, List.length_cons]
    omega
/-- between the turns of the loop over the rows -/
def EvJ (rows : List (List Dat)) (xs : List Str) (m₀ : Str → Option Value) (news₀ : Led) (I : Addr) (i : Nat) (m : Str → Option Value) (nx : Led) : Prop :=
  ∃ e evs n, FrE m m₀ (some (.ref e)) ∧ (e, listOf (List.toArray evs) n) ∈ nx ∧ DatAll [] evs (everyOf xs (rows.take i)) ∧ (∀ p ∈ news₀, p ∈ nx) ∧ ∀ p ∈ nx, p.1 ≠ I
theorem every_is {xs : List Str} {rows : List (List Dat)} : ∀ d ∈ everyOf xs rows, d = Dat.none ∨ ∃ i, d = Dat.int i := fun d hd => by
  obtain ⟨r, _, hd⟩ := List.mem_flatMap.mp hd
  obtain ⟨y, _, rfl⟩ := List.mem_map.mp hd
  exact cod_is xs y
/-- the frame behind the judgement: two names may have turned -/
abbrev frD (m₀ : Str → Option Value) (lv dv : Option Value) : Str → Option Value := fun y => if y = Str.ofString "due" then dv else if y = Str.ofString "lacks_one" then lv else m₀ y
/-- the state behind the judgement -/
def IfMid (h₀ : Heap) (L : Addr) (m : Str → Option Value) (s : Shared) (bs : Led) (s' : Shared) : Prop :=
  ∃ h' tk' nx lv dv, s' = { s with heap := h', toks := tk' } ∧ Fr h₀ L h' (frD m lv dv) ∧ News h₀ L h' nx ∧ ∀ p ∈ bs, p ∈ nx
theorem cut_if {M : Model} {A : Around} {t : Sem Flow} {Q : Flow → Shared → Prop} {E : Value → Shared → Prop} {s : Shared} {h₀ : Heap} {L : Addr} {m : Str → Option Value} (F : Fr h₀ L s.heap m) (bs : Led)
    (h : wpAny M A t (fun f s' => f = Flow.next ∧ IfMid h₀ L m s bs s') E s)
    (k : ∀ h' tk' nx lv dv, Fr h₀ L h' (frD m lv dv) → News h₀ L h' nx → (∀ p ∈ bs, p ∈ nx) → Q .next { s with heap := h', toks := tk' }) : wpAny M A t Q E s :=
  cut_next h fun _ ⟨h', tk', nx, lv, dv, e, a, b, c⟩ => by subst e; exact k h' tk' nx lv dv a b c
/-- nothing has turned -/
theorem frD_of {m : Str → Option Value} {o₁ o₂ : Option Value} (h1 : m (Str.ofString "due") = o₁) (h2 : m (Str.ofString "lacks_one") = o₂) : m = frD m o₂ o₁ := by
  funext y
  unfold frD
  by_cases e1 : y = Str.ofString "due"
  · rw [if_pos e1, e1, h1]
  · rw [if_neg e1]
    by_cases e2 : y = Str.ofString "lacks_one"
    · rw [if_pos e2, e2, h2]
    · rw [if_neg e2]
theorem if_same {h₀ h' : Heap} {L : Addr} {m : Str → Option Value} {s : Shared} {bs nx : Led} {tk' : Nat} (F : Fr h₀ L h' m) (N : News h₀ L h' nx) (sub : ∀ p ∈ bs, p ∈ nx) : IfMid h₀ L m s bs { s with heap := h', toks := tk' } :=
  ⟨h', tk', nx, m (Str.ofString "lacks_one"), m (Str.ofString "due"), rfl, by rw [← frD_of rfl rfl]; exact F, N, sub⟩
theorem ToldIs.bad {w : World} {news : Led} {x : Str} {xs : List Str} {ls : List Spec} {b : Bool} {tv : Value} {msg : Str} (h : ToldIs w news x xs ls b tv msg) (hop : ¬ isOp x) : tv = .none ∧ msg = Str.ofString "'" ++ x ++ Str.ofString "' not defined for ordered factors" := by
  rcases h with ⟨a, _⟩ | ⟨e, ⟨_, h⟩ | ⟨a, _⟩⟩
  · exact absurd a hop
  · exact ⟨e, by rw [h, Str.empty_append]⟩
  · exact absurd a hop
theorem ToldIs.mix {w : World} {news : Led} {x : Str} {xs : List Str} {ls : List Spec} {b : Bool} {tv : Value} {msg : Str} (h : ToldIs w news x xs ls b tv msg) (hop : isOp x) (hb : ∃ e ∈ ls, ¬ Good xs e) :
    tv = .none ∧ msg = Str.ofString "'" ++ x ++ Str.ofString "' is only meaningful for ordered factors if all arguments have the same level sets" := by
  obtain ⟨e, he, hg⟩ := hb
  rcases h with ⟨_, g, _⟩ | ⟨e, ⟨a, _⟩ | ⟨_, _, h⟩⟩
  · exact absurd (g e he) hg
  · exact absurd hop a
  · exact ⟨e, by rw [h, Str.empty_append]⟩
theorem ToldIs.good {w : World} {news : Led} {x : Str} {xs : List Str} {ls : List Spec} {b : Bool} {tv : Value} {msg : Str} (h : ToldIs w news x xs ls b tv msg) (hop : isOp x) (hb : ∀ e ∈ ls, Good xs e) :
    ∃ v out, tv = .ref v ∧ msg = Str.ofString "" ∧ FacAt w news v out (xs.map Dat.str) true ∧ OutIs x (outOf b ls) out := by
  rcases h with ⟨_, _, h⟩ | ⟨_, ⟨a, _⟩ | ⟨_, ⟨e, he, hg⟩, _⟩⟩
  · exact h
  · exact absurd hop a
  · exact absurd (hb e he) hg
theorem odd_bad {xs : List Str} {rows : List (List Dat)} {odd : Int} (hsix : xs ∈ six) (h2 : 2 < odd) (h5 : odd < 5) : ∃ e ∈ lsOf xs rows odd, ¬ Good xs e := by
  rcases (by omega : odd = 3 ∨ odd = 4) with rfl | rfl
  · refine ⟨odd3, by simp [lsOf], fun g => ?_⟩
    have h3 := (six_is hsix).2.2.2
    have : [sX, sY] = xs := g.1
    rw [← this] at h3
    cases h3
  · exact ⟨odd4 xs, by simp [lsOf], fun g => by cases g.2⟩
theorem odd_good {xs : List Str} {rows : List (List Dat)} {odd : Int} (h2 : ¬ 2 < odd) : lsOf xs rows odd = rows.map (specOf xs) ∧ ∀ e ∈ lsOf xs rows odd, Good xs e := by
  have h : lsOf xs rows odd = rows.map (specOf xs) := by
    unfold lsOf
    rw [if_neg (by omega), if_neg (by omega), List.append_nil, List.append_nil]
  refine ⟨h, fun e he => ?_⟩
  rw [h] at he
  obtain ⟨r, _, rfl⟩ := List.mem_map.mp he
  exact ⟨rfl, rfl⟩
theorem ne_same {prog : Program} {w : World} {A : Around} {E : Value → Shared → Prop} {s : Shared} {x : Str} {t u : Tok} {Q : Value → Shared → Prop} (h : Q (.bool false) s) : wpAny (model prog w) A (compareOp .NotEq (.str x t) (.str x u)) Q E s := by
  refine PyProof.Rows.ne_str ?_
  have e : (x != x) = false := by simp
  rw [e]; exact h
theorem reg_Pn_1 : True := by
  k_with "m:compareOp NotEq str str" => ((k_here; with_reducible refine ne_same ?_))
  trivial
/-- does the answer lack -/
def lacksOf (b : Bool) (cs : List Dat) : Bool := decide (cs.filter isCode = []) || (decide ((cs.filter isCode).length < cs.length) && !b)
theorem codes_every {xs : List Str} {rows : List (List Dat)} : codesOf (rows.map (specOf xs)) = everyOf xs rows := by
  unfold codesOf everyOf
  rw [List.flatMap_map]
theorem filter_ints (ns : List Int) : (ns.map Dat.int).filter isCode = ns.map Dat.int :=
  List.filter_eq_self.mpr fun d hd => by obtain ⟨i, _, rfl⟩ := List.mem_map.mp hd; rfl
theorem filter_lt {cs : List Dat} (h : Dat.none ∈ cs) : (cs.filter isCode).length < cs.length :=
  List.length_filter_lt_length_iff_exists.mpr ⟨_, h, by decide⟩
/-- the answer where none is there -/
def nonesOf (x : Str) : List Dat := List.replicate (if x = sRange then 2 else 1) Dat.none
theorem out_lacks {b : Bool} {cs out : List Dat} {x : Str} (hl : lacksOf b cs = true) (h : OutIs x (if b = true then cs.filter isCode else cs) out) : out = nonesOf x := by
  rcases h with ⟨_, h⟩ | ⟨ns, h1, h2, _⟩
  · exact h
  · exfalso
    have hne : ns.map Dat.int ≠ [] := fun z => h2 (List.map_eq_nil_iff.mp z)
    unfold lacksOf at hl
    cases b
    · rw [if_neg (by decide)] at h1
      subst h1
      rw [filter_ints] at hl
      simp [hne] at hl
    · rw [if_pos rfl] at h1
      rw [h1] at hl
      simp [hne] at hl
theorem out_has {b : Bool} {cs out : List Dat} {x : Str} (hl : lacksOf b cs = false) (h : OutIs x (if b = true then cs.filter isCode else cs) out) : ∃ ns : List Int, cs.filter isCode = ns.map Dat.int ∧ ns ≠ [] ∧ TopIs x ns out := by
  unfold lacksOf at hl
  simp only [Bool.or_eq_false_iff, decide_eq_false_iff_not, Bool.and_eq_false_iff] at hl
  obtain ⟨l1, l2⟩ := hl
  rcases h with ⟨h, _⟩ | ⟨ns, h1, h2, h3⟩
  · exfalso
    cases b
    · rw [if_neg (by decide)] at h
      rcases h with h | h
      · subst h; exact l1 rfl
      · rcases l2 with l2 | l2
        · exact l2 (filter_lt h)
        · cases l2
    · rw [if_pos rfl] at h
      rcases h with h | h
      · exact l1 h
      · cases (List.mem_filter.mp h).2
  · cases b
    · rw [if_neg (by decide)] at h1
      subst h1
      exact ⟨ns, filter_ints ns, h2, h3⟩
    · rw [if_pos rfl] at h1
      exact ⟨ns, h1, h2, h3⟩
theorem max_one {ns : List Int} {a b : Int} (h : MaxIs ns a) (g : MaxIs ns b) : a = b := Int.le_antisymm (g.2 a h.1) (h.2 b g.1)
theorem min_one {ns : List Int} {a b : Int} (h : MinIs ns a) (g : MinIs ns b) : a = b := Int.le_antisymm (h.2 b g.1) (g.2 a h.1)
/-- the state behind the name lacks_one -/
def LackMid (h₀ : Heap) (L : Addr) (m : Str → Option Value) (s : Shared) (bs : Led) (lk : Bool) (s' : Shared) : Prop :=
  ∃ h' tk' nx, s' = { s with heap := h', toks := tk' } ∧ Fr h₀ L h' (frD m (some (.bool lk)) (m (Str.ofString "due"))) ∧ News h₀ L h' nx ∧ ∀ p ∈ bs, p ∈ nx
theorem frD_lack {m : Str → Option Value} {v : Option Value} : (fun y => if y = Str.ofString "lacks_one" then v else m y) = frD m v (m (Str.ofString "due")) := by
  funext y
  unfold frD
  by_cases e1 : y = Str.ofString "due"
  · rw [if_pos e1, e1, if_neg (by decide +kernel)]
  · rw [if_neg e1]
theorem frD_due {m : Str → Option Value} {lv dv v : Option Value} : (fun y => if y = Str.ofString "due" then v else frD m lv dv y) = frD m lv v := by
  funext y
  unfold frD
  by_cases e1 : y = Str.ofString "due"
  · rw [if_pos e1, if_pos e1]
  · rw [if_neg e1, if_neg e1, if_neg e1]
theorem lack_end {h₀ h' : Heap} {L : Addr} {m : Str → Option Value} {s : Shared} {bs nx : Led} {tk' : Nat} {lk lk' : Bool} (F : Fr h₀ L h' (fun y => if y = Str.ofString "lacks_one" then some (.bool lk') else m y)) (N : News h₀ L h' nx) (e : lk' = lk) (sub : ∀ p ∈ bs, p ∈ nx) :
    LackMid h₀ L m s bs lk { s with heap := h', toks := tk' } := by
  subst e
  rw [frD_lack] at F
  exact ⟨h', tk', nx, rfl, F, N, sub⟩
theorem cut_lack {bs : Led} {M : Model} {A : Around} {t : Sem Flow} {Q : Flow → Shared → Prop} {E : Value → Shared → Prop} {s : Shared} {h₀ : Heap} {L : Addr} {m : Str → Option Value} {hh : Heap} (_ : Fr h₀ L hh m) (_ : News h₀ L hh bs) (lk : Bool)
    (h : wpAny M A t (fun f s' => f = Flow.next ∧ LackMid h₀ L m s bs lk s') E s)
    (k : ∀ h' tk' nx, Fr h₀ L h' (frD m (some (.bool lk)) (m (Str.ofString "due"))) → News h₀ L h' nx → (∀ p ∈ bs, p ∈ nx) → Q .next { s with heap := h', toks := tk' }) : wpAny M A t Q E s :=
  cut_next h fun _ ⟨h', tk', nx, e, a, b, c⟩ => by subst e; exact k h' tk' nx a b c
/-- the state behind the name due -/
def DueMid (h₀ : Heap) (L : Addr) (m : Str → Option Value) (s : Shared) (bs : Led) (lv : Option Value) (P : List Dat) (s' : Shared) : Prop :=
  ∃ h' tk' nx da dvs n, s' = { s with heap := h', toks := tk' } ∧ Fr h₀ L h' (frD m lv (some (.ref da))) ∧ News h₀ L h' nx ∧ (da, listOf (List.toArray dvs) n) ∈ nx ∧ DatAll [] dvs P ∧ ∀ p ∈ bs, p ∈ nx
theorem due_end {h₀ h' : Heap} {L da : Addr} {m : Str → Option Value} {s : Shared} {bs nx : Led} {tk' n : Nat} {lv dv : Option Value} {P : List Dat} {dvs : List Value} (F : Fr h₀ L h' (fun y => if y = Str.ofString "due" then some (.ref da) else frD m lv dv y)) (N : News h₀ L h' nx)
    (hm : (da, listOf (List.toArray dvs) n) ∈ nx) (hD : DatAll [] dvs P) (sub : ∀ p ∈ bs, p ∈ nx) : DueMid h₀ L m s bs lv P { s with heap := h', toks := tk' } := by
  rw [frD_due] at F
  exact ⟨h', tk', nx, da, dvs, n, rfl, F, N, hm, hD, sub⟩
theorem due_same {h₀ h' : Heap} {L da : Addr} {m : Str → Option Value} {s : Shared} {bs nx : Led} {tk' n : Nat} {lv : Option Value} {P : List Dat} {dvs : List Value} (F : Fr h₀ L h' (frD m lv (some (.ref da)))) (N : News h₀ L h' nx)
    (hm : (da, listOf (List.toArray dvs) n) ∈ nx) (hD : DatAll [] dvs P) (sub : ∀ p ∈ bs, p ∈ nx) : DueMid h₀ L m s bs lv P { s with heap := h', toks := tk' } :=
  ⟨h', tk', nx, da, dvs, n, rfl, F, N, hm, hD, sub⟩
theorem cut_due {bs : Led} {M : Model} {A : Around} {t : Sem Flow} {Q : Flow → Shared → Prop} {E : Value → Shared → Prop} {s : Shared} {h₀ : Heap} {L : Addr} {m : Str → Option Value} {lv dv : Option Value} {hh : Heap} (_ : Fr h₀ L hh (frD m lv dv)) (_ : News h₀ L hh bs) (P : List Dat)
    (h : wpAny M A t (fun f s' => f = Flow.next ∧ DueMid h₀ L m s bs lv P s') E s)
    (k : ∀ h' tk' nx da dvs n, Fr h₀ L h' (frD m lv (some (.ref da))) → News h₀ L h' nx → (da, listOf (List.toArray dvs) n) ∈ nx → DatAll [] dvs P → (∀ p ∈ bs, p ∈ nx) → Q .next { s with heap := h', toks := tk' }) : wpAny M A t Q E s :=
  cut_next h fun _ ⟨h', tk', nx, da, dvs, n, e, a, b, c, d, f⟩ => by subst e; exact k h' tk' nx da dvs n a b c d f
theorem every_ok {xs : List Str} {rows : List (List Dat)} : ∀ d ∈ (everyOf xs rows).filter isCode, kqdOk 8 d = true := fun d hd => by
  rcases every_is d (List.mem_filter.mp hd).1 with rfl | ⟨i, rfl⟩ <;> rfl
theorem reg_Po_1 : True := by
  k_with "m:my dats2" => (first | assumption | exact .nil | exact .cons (.str _ _) (.cons (.str _ _) .nil))
  k_with "m:my oks" => (first | assumption | exact (fun _ h => nomatch h) | (intro _ hd'w; (simp only [List.mem_cons, List.not_mem_nil, or_false] at hd'w); (rcases hd'w with h'w | h'w <;> subst h'w <;> decide +kernel)))
  k_with "m:compareOp Eq ref ref" => ((k_here; (with_reducible show wpAny _ _ (compareOp CmpOp.Eq (Value.ref _) (Value.ref _)) _ _ _); k_dflt (refine' eq_dats ?k1 ?k2 ?k3 ?k4 ?k5 ?k6 ?k7 ?k8 ?k9 ?_; (case k1 => k_asm); (case k2 => k_mem); (case k3 => assumption); (case k4 => k_mem); (case k5 => walk_at "my dats2"); (case k6 => assumption); (case k7 => walk_at "my oks"); (case k8 => assumption); (case k9 => ktr_units))))
  trivial
theorem op_apart : sMax ≠ sMin ∧ sMax ≠ sRange ∧ sMin ≠ sRange := by decide +kernel
theorem nones_max : nonesOf sMax = [Dat.none] := by unfold nonesOf; rw [if_neg op_apart.2.1]; rfl
theorem nones_min : nonesOf sMin = [Dat.none] := by unfold nonesOf; rw [if_neg op_apart.2.2]; rfl
theorem nones_range : nonesOf sRange = [Dat.none, Dat.none] := by unfold nonesOf; rw [if_pos rfl]; rfl
theorem out_small {x : Str} {ns : List Int} {out : List Dat} (h : TopIs x ns out) : ∀ d ∈ out, kqdOk 8 d = true := by
  rcases h with ⟨_, M, _, rfl⟩ | ⟨_, M, _, rfl⟩ | ⟨_, M, N, _, _, rfl⟩ <;> intro d hd <;> simp only [List.mem_cons, List.not_mem_nil, or_false] at hd
  · subst hd; rfl
  · subst hd; rfl
  · rcases hd with rfl | rfl <;> rfl
theorem out_ok {x : Str} {ds out : List Dat} (h : OutIs x ds out) : ∀ d ∈ out, kqdOk 8 d = true := by
  rcases h with ⟨_, rfl⟩ | ⟨ns, _, _, h⟩
  · intro d hd
    rw [List.eq_of_mem_replicate hd]; rfl
  · exact out_small h
theorem top_max {ns : List Int} {out : List Dat} {M : Int} (h : TopIs sMax ns out) (hM : MaxIs ns M) : out = [Dat.int M] := by
  rcases h with ⟨_, N, g, rfl⟩ | ⟨e, _⟩ | ⟨e, _⟩
  · rw [max_one g hM]
  · exact absurd e op_apart.1
  · exact absurd e op_apart.2.1
theorem top_min {ns : List Int} {out : List Dat} {M : Int} (h : TopIs sMin ns out) (hM : MinIs ns M) : out = [Dat.int M] := by
  rcases h with ⟨e, _⟩ | ⟨_, N, g, rfl⟩ | ⟨e, _⟩
  · exact absurd e.symm op_apart.1
  · rw [min_one g hM]
  · exact absurd e op_apart.2.2
theorem top_range {ns : List Int} {out : List Dat} {m M : Int} (h : TopIs sRange ns out) (hm : MinIs ns m) (hM : MaxIs ns M) : out = [Dat.int m, Dat.int M] := by
  rcases h with ⟨e, _⟩ | ⟨e, _⟩ | ⟨_, a, b, g1, g2, rfl⟩
  · exact absurd e.symm op_apart.2.1
  · exact absurd e.symm op_apart.2.2
  · rw [min_one g1 hm, max_one g2 hM]
theorem dats_max {x : Str} {ns : List Int} {out : List Dat} {M : Int} {t : Tok} (e : x = sMax) (h : TopIs x ns out) (h1 : M ∈ ns) (h2 : ∀ a ∈ ns, a ≤ M) : DatAll [] [.int M t] out := by
  subst e
  rw [top_max h ⟨h1, h2⟩]
  exact .cons (.int _ _) .nil
theorem dats_min {x : Str} {ns : List Int} {out : List Dat} {M : Int} {t : Tok} (e : x = sMin) (h : TopIs x ns out) (h1 : M ∈ ns) (h2 : ∀ a ∈ ns, M ≤ a) : DatAll [] [.int M t] out := by
  subst e
  rw [top_min h ⟨h1, h2⟩]
  exact .cons (.int _ _) .nil
theorem dats_range {x : Str} {ns : List Int} {out : List Dat} {m M : Int} {t u : Tok} (e : x = sRange) (h : TopIs x ns out) (g1 : m ∈ ns) (g2 : ∀ a ∈ ns, m ≤ a) (h1 : M ∈ ns) (h2 : ∀ a ∈ ns, a ≤ M) : DatAll [] [.int m t, .int M u] out := by
  subst e
  rw [top_range h ⟨g1, g2⟩ ⟨h1, h2⟩]
  exact .cons (.int _ _) (.cons (.int _ _) .nil)
theorem item_by {prog : Program} {w : World} {A : Around} {E : Value → Shared → Prop} {s : Shared} {d : Addr} {x y : Str} {t : Tok} {Q : Value → Shared → Prop} (e : x = y) (h : wpAny (model prog w) A (getItem (.ref d) (.str y t)) Q E s) : wpAny (model prog w) A (getItem (.ref d) (.str x t)) Q E s := by
  subst e; exact h
theorem reg_Pp_1 : True := by
  k_with "m:getItem ref str" => ((k_here; with_reducible refine item_by (by assumption) ?_))
  trivial
theorem if_end {h₀ h' : Heap} {L : Addr} {m : Str → Option Value} {s : Shared} {bs nx : Led} {tk' : Nat} {lv dv : Option Value} (F : Fr h₀ L h' (frD m lv dv)) (N : News h₀ L h' nx) (sub : ∀ p ∈ bs, p ∈ nx) : IfMid h₀ L m s bs { s with heap := h', toks := tk' } :=
  ⟨h', tk', nx, lv, dv, rfl, F, N, sub⟩
theorem ne_self {ds : List Dat} : (false = true ↔ ds ≠ ds) := ⟨fun z => (by cases z), fun z => absurd rfl z⟩
theorem sorts_ok : ∀ d ∈ [Dat.str sO, Dat.str sF], kqdOk 8 d = true := fun d hd => by
  simp only [List.mem_cons, List.not_mem_nil, or_false] at hd
  rcases hd with rfl | rfl <;> decide +kernel
theorem reg_Pq_1 : True := by
  k_with "m:compareOp NotEq ref ref" => ((k_here; (with_reducible show wpAny _ _ (compareOp CmpOp.NotEq (Value.ref _) (Value.ref _)) _ _ _); k_dflt (refine' ne_dats ?k1 ?k2 ?k3 ?k4 ?k5 ?k6 ?k7 ne_self ?k9 ?_; (case k1 => k_asm); (case k2 => k_mem); (case k3 => walk_at "my dats2"); (case k4 => k_mem); (case k5 => walk_at "my dats2"); (case k6 => first | assumption | exact sorts_ok); (case k7 => first | assumption | exact sorts_ok); (case k9 => ktr_units))))
  trivial
theorem reg_Pq_2 : True := by
  k_with "m:subscriptTail" => ((k_here; (with_reducible show wpAny _ _ (subscriptTail _ _ (Value.ref _) (Value.str _ _)) _ _ _); k_dflt (refine kdt_tail (knd := PySem.strKind _ _) (by k_asm) (by k_mem) (by assumption) ?_)))
  k_with "m:getItem ref str" => ((k_here; k_dflt (refine kdt_getItem (knd := PySem.strKind _ _) (by k_asm) (by k_mem) (by assumption) (strKind_is _ _ _ _) (by rfl) ?_)))
  k_with "m:getItem ref str" => ((k_here; with_reducible refine item_by (by assumption) ?_))
  trivial
theorem item_led {prog : Program} {w : World} {A : Around} {E : Value → Shared → Prop} {s : Shared} {h₀ : Heap} {L l : Addr} {news : Led} {vs : List Value} {n : Nat} {k : Int} {u : Tok} {v : Value} {value slice : PySem.Expr} {Q : Value → Shared → Prop}
    (N : News h₀ L s.heap news) (hm : (l, listOf (List.toArray vs) n) ∈ news) (h0 : 0 ≤ k) (hhi : k < 2 ^ 63) (hx : vs[k.toNat]? = some v) (h : Q v s)
    (hs : subscripted slice false (.ref l) (.int k u) = operate [.ref l, .int k u] (getItem (.ref l) (.int k u)) := by with_unfolding_all rfl) : wpAny (model prog w) A (subscriptTail value slice (.ref l) (.int k u)) Q E s :=
  tail_any (News.isList N hm).typeIs slot_list_getitem.lookup (wpAny_getItem_list (News.isList N hm) h0 hhi (by simpa using hx) h) hs
theorem RowsAt.at {news : Led} : ∀ {l : List Value} {r : List (List Dat)} {i : Nat} {ds : List Dat}, RowsAt news l r → r[i]? = some ds → ∃ a vs n, l[i]? = some (.ref a) ∧ (a, listOf (List.toArray vs) n) ∈ news ∧ DatAll [] vs ds
  | [], [], _, _, .nil, e => by simp at e
  | _ :: _, _ :: _, 0, _, .cons h1 h2 _, e => by cases e; exact ⟨_, _, _, rfl, h1, h2⟩
  | _ :: _, _ :: _, i + 1, _, .cons _ _ h, e => RowsAt.at (i := i) h (by simpa using e)
theorem FacsAt.at {w : World} {news : Led} : ∀ {l : List Value} {r : List Spec} {i : Nat} {cs : List Dat} {xs : List Str} {ord : Bool}, FacsAt w news l r → r[i]? = some (cs, xs, ord) → ∃ f, l[i]? = some (.ref f) ∧ FacAt w news f cs (xs.map Dat.str) ord
  | [], [], _, _, _, _, .nil, e => by simp at e
  | _ :: _, _ :: _, 0, _, _, _, .cons h1 _, e => by cases e; exact ⟨_, rfl, h1⟩
  | _ :: _, _ :: _, i + 1, _, _, _, .cons _ h, e => FacsAt.at (i := i) h (by simpa using e)
theorem lsOf_at {xs : List Str} {rows : List (List Dat)} {odd : Int} {i : Nat} {r : List Dat} (h : rows[i]? = some r) : (lsOf xs rows odd)[i]? = some (specOf xs r) := by
  have hi : i < rows.length := (List.getElem?_eq_some_iff.mp h).1
  unfold lsOf
  rw [List.append_assoc, List.getElem?_append_left (by rw [List.length_map]; exact hi), List.getElem?_map, h]
  rfl
theorem one_ok {xs : List Str} {r : List Dat} (hsix : xs ∈ six) (hok : RowOk r) : ∃ first tl, ArgsOk [specOf xs r] xs first tl := by
  have := args_ok (xs := xs) (rows := [r]) (odd := 0) hsix (by simp) (by simp) (by simpa using hok)
  simpa [lsOf] using this
theorem reg_Pr_1 : True := by
  k_with "m:subscriptTail" => ((k_here; (with_reducible show wpAny _ _ (subscriptTail _ _ (Value.ref _) (Value.int _ _)) _ _ _); k_dflt (refine' item_led ?k1 ?k2 ?k3 ?k4 ?k5 ?_ ?k7; (case k1 => k_asm); (case k2 => k_mem); (case k5 => assumption); (case k3 => first | decide | omega); (case k4 => first | decide | omega); (case k7 => with_unfolding_all rfl))))
  k_with "m:my sum" => (repeat' ((fail_if_success (with_reducible show wpAny _ _ (call (Value.ref 377) _) _ _ _)); (first | (k_unfold; (try dsimp only)) | (k_end; wrow_close) | walk1 | (dsimp only; walk1) | (leave1; walk_say "STEP leave1"; try dsimp only) | fail "no step")))
  trivial
theorem led_gen {h₀ h : Heap} {L : Addr} {d : Addr × Obj} {new nx : Led} (N : News h₀ L h (new ++ (d :: nx))) : ∃ nx', News h₀ L h nx' ∧ ∀ p ∈ nx, p ∈ nx' :=
  ⟨_, N, fun p hp => List.mem_append_right _ (.tail _ hp)⟩
section
variable {w : World} {mean : ExcName → Option Value} {mg mb : Str → Option Value} {news : Led}
theorem told2_use {dp un : Nat} {gd : Option (List Code)} {cn : Str} {cs : Scope} {a : Addr} {ccd : Value} {cl : List (Str × Addr)} {A₀ : Around} {base h₀ : Heap} {L : Addr} {m : Str → Option Value} {s : Shared} {Q E : Value → Shared → Prop}
    {ar : Addr} {x : Str} {xt : Tok}
    (B : Below A₀ base [] h₀) (XB : (hd.heap_1 w.params).In base) (TB : Top hd.view_1 (looseW hd.view_1 [Str.ofString "number_text"]) mean mg mb base) (F : Fr h₀ L s.heap m) (X : (hd.heap_1 w.params).In h₀) (N : News h₀ L s.heap news)
    (T : Top hd.view_1 (looseW hd.view_1 [Str.ofString "number_text"]) mean mg mb h₀) (hk : cs.kind = .function) (hx : x.length ≤ 10)
    (hdp : dp + 12 < recursionLimit) (hun : un + 120 < cLine)
    (ret : ∀ tp tn mt h' tk' news', Fr h₀ L h' m → News h₀ L h' news' → (∀ q ∈ news, q ∈ news') → (tp, ({ cls := .type "tuple", data := .seq #[.none, .str (Str.ofString "‘" ++ x ++ Str.ofString "’ not meaningful for factors") mt] tn } : Obj)) ∈ news' → Q (.ref tp) { s with heap := h', toks := tk' }) :
    wpAny (model PySem.Challenge.rw_pq1405_01.row.prog w) (ktrTop dp un gd cn cs L a ccd cl []) (call (.ref 410) [.ref 365, .ref ar, .str x xt]) Q E s := by
  refine told_no_numbers w mean mg mb news ar x xt hx _ _ _ _ _ _ _ _ _ _ _ _ _ _ _ _ B XB TB F X N T hk hdp hun fun r h' tk' news' F' N' hP => ?_
  obtain ⟨tp, tn, mt, rfl, h1, h2⟩ := hP
  exact ret _ _ _ _ _ _ F' N' h2 h1
end
section
variable {prog : Program} {w : World} {A : Around} {E : Value → Shared → Prop} {s : Shared} {env : Env} {h₀ : Heap} {x : Str} {body : List Stmt} {Q : Flow → Shared → Prop}
/-- a loop over a range from 0 by an invariant over the frame's map and the ledger -/
theorem range_inv {r : Addr} {b₀ : Int} {t₀ u₀ v₀ : Tok} {n : Nat} {m₀ : Str → Option Value} {news : Led} (J : (Str → Option Value) → Led → Addr → Nat → (Str → Option Value) → Led → Prop)
    (hh : A.handled = none) (hr : IsRange s.heap r 0 b₀ 1 t₀ u₀ v₀) (hsmall : Builtin.Range.small 0 b₀ 1 = true) (hn : Builtin.Range.rangeSize 0 b₀ 1 = (n : Int)) (F : Fr h₀ env.locals s.heap m₀) (N : News h₀ env.locals s.heap news)
    (h0 : ∀ I, (∀ p ∈ news, p.1 < I) → J m₀ news I 0 m₀ news)
    (turn : ∀ I i t m₁ nx h tk oI, i < n → J m₀ news I i m₁ nx → Fr h₀ env.locals h (fun y => if y = x then some (.int (i : Int) t) else m₁ y) → News h₀ env.locals h ((I, oI) :: nx) →
      wpAny (model prog w) A (execs body env) (UnrPost h₀ env.locals { s with heap := h, toks := tk } I oI (fun m' n' => J m₀ news I (i + 1) m' n') Q) E { s with heap := h, toks := tk })
    (done : ∀ I m₁ nx h tk, J m₀ news I n m₁ nx → Fr h₀ env.locals h m₁ → News h₀ env.locals h nx → Q .next { s with heap := h, toks := tk }) :
    wpAny (model prog w) A (pyIter (.ref r)) (fun it s₂ => LoopAtV prog w A h₀ env x body Q E it s₂) E s := by
  refine iter_rangeUnr hh hr hsmall hn F N fun I hI => ?_
  have all : ∀ k i m₁ nx, i + k = n → J m₀ news I i m₁ nx → RangeRest prog w A E h₀ env x body Q s I 0 n k i m₁ nx := by
    intro k
    induction k with
    | zero =>
      intro i m₁ nx e hJ
      have e' : i = n := by omega
      subst e'
      exact RangeRest.zero fun h tk F' N' => done I m₁ nx h tk hJ F' N'
    | succ k ih =>
      intro i m₁ nx e hJ
      refine RangeRest.succ fun t h tk F' N' => ?_
      rw [Int.zero_add] at F'
      refine wpAny_mono (turn I i t m₁ nx h tk _ (by omega) hJ F' N') (fun f s₂ hs => ?_) fun _ _ x => x
      cases f with
      | ret v => exact hs
      | brk => exact hs
      | next =>
        obtain ⟨h', tk', m', news', e1, F₁, N₁, off, hJ'⟩ := hs
        exact ⟨h', tk', m', news', e1, F₁, N₁, off, ih (i + 1) m' news' (by omega) hJ'⟩
      | cont =>
        obtain ⟨h', tk', m', news', e1, F₁, N₁, off, hJ'⟩ := hs
        exact ⟨h', tk', m', news', e1, F₁, N₁, off, ih (i + 1) m' news' (by omega) hJ'⟩
  exact all n 0 m₀ news (Nat.zero_add n) (h0 I hI)
end
theorem cods_ok {xs : List Str} {r : List Dat} : ∀ d ∈ r.map (cod xs), kqdOk 8 d = true := fun d hd => by
  obtain ⟨y, _, rfl⟩ := List.mem_map.mp hd
  rcases cod_is xs y with h | ⟨i, h⟩ <;> rw [h] <;> rfl
abbrev frS (m₀ : Str → Option Value) (sv : Option Value) : Str → Option Value := fun y => if y = Str.ofString "spot" then sv else m₀ y
theorem frS_first {m : Str → Option Value} {o : Option Value} (h : m (Str.ofString "spot") = o) : m = frS m o := by
  funext y
  unfold frS
  by_cases e : y = Str.ofString "spot"
  · rw [if_pos e, e, h]
  · rw [if_neg e]
theorem frS_next {m : Str → Option Value} {v sv : Option Value} : (fun y => if y = Str.ofString "spot" then v else frS m sv y) = frS m v := by
  funext y
  unfold frS
  by_cases e : y = Str.ofString "spot"
  · rw [if_pos e, if_pos e]
  · rw [if_neg e, if_neg e, if_neg e]
/-- between the turns of the last loop -/
def LastJ (m₀ : Str → Option Value) (base : Led) (I : Addr) (_i : Nat) (m : Str → Option Value) (nx : Led) : Prop := (∃ sv, m = frS m₀ sv) ∧ (∀ p ∈ base, p ∈ nx) ∧ ∀ p ∈ nx, p.1 ≠ I
theorem reg_Pt_1 : True := by
  k_with "m:call type:range" => (((rename Fr _ _ _ _ => F'w); (rename News _ _ _ _ => N'w); (with_unfolding_all refine range1_rows F'w N'w ?_; intro _ _ _ _ _ _ _ _ _)))
  k_with "m:my loop" => (repeat' ((fail_if_success (with_reducible show wpAny _ _ (pyIter _) _ _ _)); (first | (k_unfold; (try dsimp only)) | (k_end; wrow_close) | walk1 | (dsimp only; walk1) | (leave1; walk_say "STEP leave1"; try dsimp only) | fail "no step")))
  trivial
local macro_rules | `(tactic| k_qdec) => `(tactic| decide +kernel)
theorem reg_L1_1 : True := by
  k_with "m:call ref" => ((k_here; (with_reducible show wpAny _ _ (call (Value.ref 384) _) _ _ _); k_dflt (refine' beads_does _ _ _ _ _ _ _ _ _ _ _ ?kI ?kn _ _ _ _ _ _ _ _ _ _ _ _ _ _ _ _ _ ?k1 ?k2 ?k3 ?k4 ?k5 ?kK ?kd ?ku ?kl ?_; walk_at "my use"; (case kI => assumption); (case kn => omega); (case kl => assumption); walk_at "my rooms"); (intro _ _ _ _ _ _ _ _ _ _ _); (try dsimp only)))
  k_with "m:my block" => (repeat' ((fail_if_success (with_reducible show wpAny _ _ (exec _ _) _ _ _)); (fail_if_success (with_reducible show LCt.CompSrcT _ _ _ _ _ _ _ _ _ _ _ _ _ _ _)); (fail_if_success (with_reducible show LCg.CompSrc _ _ _ _ _ _ _ _ _ _ _ _ _ _)); (fail_if_success (with_reducible show LCg.CompEnd _ _ _ _ _ _ _ _ _ _ _ _ _ _)); (first | (k_unfold; (try dsimp only)) | (k_end; wrow_close) | walk1 | (dsimp only; walk1) | (leave1; walk_say "STEP leave1"; try dsimp only) | fail "no step")))
  trivial
theorem sub_rot {a b c d e f g : Addr × Obj} {R : Led} : ∀ p ∈ b :: c :: d :: e :: f :: g :: a :: R, p ∈ a :: b :: c :: d :: e :: f :: g :: R := by
  intro p hp
  simp only [List.mem_cons] at hp ⊢
  rcases hp with h | h | h | h | h | h | h | h <;> simp [h]
theorem news_swap {h₀ h : Heap} {L : Addr} {a b : Addr × Obj} {R : Led} (N : News h₀ L h (a :: b :: R)) : News h₀ L h (b :: a :: R) := fun p hp => N p (by
  rcases List.mem_cons.mp hp with rfl | hp
  · exact .tail _ (.head _)
  · rcases List.mem_cons.mp hp with rfl | hp
    · exact .head _
    · exact .tail _ (.tail _ hp))
theorem reg_L4_1 : True := by
  k_with "m:call ref" => ((k_here; (with_reducible show wpAny _ _ (call (Value.ref 398) _) _ _ _); k_dflt (refine' does_use ?k1 ?k2 ?k3 ?k4 ?k5 ?kK (row_of_levels_does _ _ _ _ _ _ _ _ _ ?kI ?kn ?kl) ?kd ?ku ?_; (case k4 => exact news_swap (by k_asm)); (case k2 => k_asm); (case k1 => k_asm); (case k3 => k_asm); (case k5 => k_asm); (case kK => first | exact rfl | assumption); (case kI => assumption); (case kn => assumption); (case kl => assumption); walk_at "my rooms"); (intro _ _ _ _ _ N'w hP'w); (obtain ⟨_, _, _, _, _, _, _, e1'w, e2'w, _, _, _, _, _, _⟩ := hP'w); (subst e1'w); (subst e2'w); (try dsimp only at N'w)))
  trivial
theorem odd3_is : [Dat.str sX].map (cod [sX, sY]) = [Dat.int 1] := by
  show [Dat.int ((pos [sX, sY] sX : Int) + 1)] = _
  rw [show pos [sX, sY] sX = 0 from if_pos rfl]; rfl
theorem sub_skip2 {a b c : Addr × Obj} {R : Led} : ∀ p ∈ a :: R, p ∈ a :: b :: c :: R := by
  intro p hp
  rcases List.mem_cons.mp hp with rfl | hp
  · exact .head _
  · exact .tail _ (.tail _ (.tail _ hp))
set_option maxHeartbeats 100000000 in
noncomputable def law0 : (P : Prop) ×' (Cut P → PySem.Challenge.rw_pq1405_01.Holds) := ⟨_, fun hcut => hdW (by
  w_strict (k_go0; (all_goals try k_fold); (try dsimp only))
  w_strict (walk_at "my block"; walk1; walk_at "my block")
  rename_i bl hA tkA bvs bns bn FA NA lA hI1 hn1 hB oc1 F1 N1 d1
  simp only [List.cons_append, List.nil_append] at N1
  clear NA FA
  k_lt lA
  w_strict (walk1; walk_at "my block")
  rename_i hC tkC FC vs1 ns1 m1 i1 t1 hI2 hn2 hi0 hi1 hD tkD t₁ u₁ v₁ hRng FD ND up
  refine LCg.CompSrc.range rfl (by k_asm) (by k_asm) hRng (range_small (by omega) (by omega)).1 (range_small (by omega) (by omega)).2 (by rw [PySem.sizeLine_eq]; omega) (fun g => compRest_inv (RowsJ bl _ _) ?rstep ?rfin ⟨_, _, _, [], [], rfl, hI2, hn2, (by k_all), (fun _ h => nomatch h), (fun _ h => nomatch h), .nil, rfl, fun _ h => nomatch h⟩)
  case rstep =>
    intro i ys nx v' I oI C oC D m₂ h tk E' hi hJ hP hC hx F1 N1 off ne
    obtain ⟨bvs, bns, bn, R, rows, rfl, hI3, hn3, hRb, hRA, hRB, hRows, hlen, hok⟩ := hJ
    obtain ⟨t, rfl⟩ := hP
    obtain ⟨ob1, ob2, ob3, o3a⟩ := off_apart off
    obtain ⟨oa1, oa2, oa3, o3b⟩ := off_apart o3a
    obtain ⟨oc1', oc2', oc3', offR⟩ := off_apart o3b
    obtain ⟨nIC, nID, nCD⟩ := ne_apart ne
    clear ne o3a o3b
    dsimp only at ob1 ob2 ob3 oa1 oa2 oa3 oc1' oc2' oc3'
    w_strict (walk_at "my steps")
    (try k_unfold)
    rename_i hE tkE FE vs4 ns4 m4 i4 t4 hI4 hn4 h40 h41 hG tkG t₂ u₂ v₂ hRng2 FG NG up2
    refine LCg.CompSrc.range rfl (by k_asm) (by k_asm) hRng2 (range_small (by omega) (by omega)).1 (range_small (by omega) (by omega)).2 (by rw [PySem.sizeLine_eq]; omega) (fun g => compRest_inv (SpotJ _ _ _ bl _ _ _) ?istep ?ifin ⟨_, _, _, [], rfl, hI4, hn4, .nil, rfl, fun _ h => nomatch h⟩)
    case istep =>
      intro i5 ys5 nx5 v5 I5 oI5 C5 oC5 D5 m5 h5 tk5 E5 hi5 hJ5 hP5 hC5 hx5 F5 N5 off5 ne5
      obtain ⟨bvs5, bns5, bn5, ds5, rfl, hI5, hn5, hD5, hlen5, hok5⟩ := hJ5
      obtain ⟨t5, rfl⟩ := hP5
      obtain ⟨p1, p2, p3, o5a⟩ := off_apart off5
      obtain ⟨p4, p5, p6, o5b⟩ := off_apart o5a
      obtain ⟨p7, p8, p9, o5c⟩ := off_apart o5b
      obtain ⟨p10, p11, p12, o5d⟩ := off_apart o5c
      obtain ⟨p13, p14, p15, o5e⟩ := off_apart o5d
      obtain ⟨p16, p17, p18, offR5⟩ := off_apart o5e
      obtain ⟨q1, q2, q3⟩ := ne_apart ne5
      clear ne5 o5a o5b o5c o5d o5e
      dsimp only at p1 p2 p3 p4 p5 p6 p7 p8 p9 p10 p11 p12 p13 p14 p15 p16 p17 p18
      w_top off
      w_strict (walk_at "my steps")
      (try k_unfold)
      rename DatIn [] _ _ => hDv5
      rename IntsAre _ _ => hIv5
      refine LCg.CompEnd.intro (by k_asm) (by k_asm) ((I, oI) :: (C, oC) :: (D, LCg.lst ys) :: (bl, _) :: _ :: _ :: R) (fun _ h => .tail _ h) (by exact ⟨⟨p1, p2, p3⟩, ⟨p4, p5, p6⟩, ⟨p7, p8, p9⟩, ⟨p10, p11, p12⟩, ⟨p13, p14, p15⟩, ⟨p16, p17, p18⟩, offR5⟩) ?_ ⟨_, _, _, _, rfl, hIv5, by assumption, datAll_snoc hD5 hDv5, by rw [List.length_append, hlen5]; rfl, ?_⟩
      · trivial
      · intro d hd
        rcases List.mem_append.mp hd with hd | hd
        · exact hok5 d hd
        · rw [List.mem_singleton.mp hd]; exact word_of (by assumption)
    case ifin =>
      rintro ys5 nx5 hJ5
      obtain ⟨bvs5, bns5, bn5, ds5, rfl, hI5, hn5, hD5, hlen5, hok5⟩ := hJ5
      w_top off
      w_strict (walk_at "my steps")
      (try k_unfold)
      rename _ ∧ _ => hO5
      obtain ⟨r1, r2, r3, r4, r5, r6, r7⟩ := hO5
      refine LCg.CompEnd.intro (by k_asm) (by k_asm) ((bl, _) :: _ :: _ :: (_, LCg.lst ys5) :: R) sub_rot (by exact ⟨⟨ob1, ob2, ob3⟩, ⟨oa1, oa2, oa3⟩, ⟨oc1', oc2', oc3'⟩, ⟨Ne.symm r1, Ne.symm r2, Ne.symm r3⟩, offR⟩) trivial ⟨_, _, _, _, rows ++ [ds5], rfl, hI5, hn5, ?_, ?_, ?_, (hRows.mono fun _ h => .tail _ h).snoc (.head _) hD5, by rw [List.length_append, hlen]; rfl, ?_⟩
      · intro p hp
        rcases List.mem_cons.mp hp with rfl | hp
        · exact hRb _ (.head _)
        · rcases List.mem_cons.mp hp with rfl | hp
          · exact hRb _ (.tail _ (.head _))
          · rcases List.mem_cons.mp hp with rfl | hp
            · exact Ne.symm r4
            · exact hRb p (.tail _ (.tail _ hp))
      · intro p hp
        rcases List.mem_cons.mp hp with rfl | hp
        · exact Ne.symm r5
        · exact hRA p hp
      · intro p hp
        rcases List.mem_cons.mp hp with rfl | hp
        · exact Ne.symm r6
        · exact hRB p hp
      · intro r hr
        rcases List.mem_append.mp hr with hr | hr
        · exact hok r hr
        · rw [List.mem_singleton.mp hr]; exact ⟨by omega, hok5⟩
  case rfin =>
    rintro ys nx hJ
    obtain ⟨bvs, bns, bn, R, rows, rfl, hI3, hn3, hRb, hRA, hRB, hRows, hlen, hok⟩ := hJ
    w_top off
    w_strict (walk_at "my block")
    rename _ ∧ _ ∧ _ ∧ LCg.Off1 _ _ => hO
    obtain ⟨b1, b4, b5, b2⟩ := hO
    have b3 := off1_mem b2
    clear b2
    have hRb2 : ∀ p ∈ (_, LCg.lst ys) :: _, p.1 ≠ bl := List.forall_mem_cons.mpr ⟨Ne.symm b1, hRb⟩
    w_strict (walk1; walk_at "my block")
    rename (∀ p ∈ _ :: _ :: _ :: R, p.1 ≠ _) => off2
    have hc1 := off2 _ (.head _)
    have hc2 := off2 _ (.tail _ (.head _))
    have hc3 := off2 _ (.tail _ (.tail _ (.head _)))
    have hc4 := hRb _ (.head _)
    have hc5 := hRb _ (.tail _ (.head _))
    dsimp only at hc1 hc2 hc3 hc4 hc5 hRA hRB
    have hR0 : ∀ p ∈ R, p.1 ≠ bl := fun p hp => hRb p (.tail _ (.tail _ hp))
    have hR3 : ∀ p ∈ R, p.1 ≠ _ := fun p hp => off2 p (.tail _ (.tail _ (.tail _ hp)))
    w_strict (walk_at "storeName"; walk_at "my block")
    w_strict (walk1; walk_at "my block")
    rename Int => odd
    w_strict (walk1; walk_at "my block")
    rename Int => skp
    w_strict (walk1; walk_at "my block")
    rename DatIn [] _ _ => hDw
    obtain ⟨x, xt, rfl, h7⟩ := word7 (by assumption) hDw
    clear hDw
    w_strict (walk1; walk_at "my block")
    rename News _ _ _ _ => NB0
    obtain ⟨base, NB, mO, mRows, mcA, mcB, mR⟩ := led_six NB0
    clear NB0
    have hRw := hRows.mono mR
    rename World => wW
    rename List Str => xsO
    rename _ ∈ six => hsix
    rename DatAll [] _ (List.map Dat.str _) => hOrd
    have hx3 := (six_is hsix).2.2.2
    refine LCg.CompSrc.ledger rfl (by k_asm) NB (by k_mem) (by rw [List.size_toArray, hRw.length, hlen, PySem.sizeLine_eq]; omega) (fun g => compRest_inv (FsJ wW base xsO rows) ?fstep ?ffin ⟨fun _ h => h, .nil⟩)
    case fstep =>
      intro i6 ys6 nx6 v6 I6 oI6 C6 oC6 D6 m6 h6 tk6 E6 hi6 hJ6 hP6 hC6 hx6 F6 N6 off6 ne6
      obtain ⟨hs6, hf6⟩ := hJ6
      obtain ⟨a6, vs6, n6, ds6, rfl, hr6, hm6, hd6⟩ := hRw.get (by simpa using hP6)
      have mO6 := hs6 _ mO
      have mA6 := hs6 _ mcA
      have mB6 := hs6 _ mcB
      have mR6 := hs6 _ mRows
      have mr6 := hs6 _ hm6
      have hok6 := hok _ (List.mem_of_getElem? hr6)
      have hin6 := kin_of hsix hok6.2
      have hl6 := hok6.1
      obtain ⟨q1, q2, q3⟩ := ne_apart ne6
      clear ne6
      w_top off
      w_strict (walk_at "my steps")
      (try k_unfold)
      refine LCg.CompEnd.intro (by k_asm) (by k_asm) (_ ++ nx6) comp_sub (comp_off (by assumption) off6) (Or.inr ⟨_, List.mem_append_right _ mR6, rfl, _, rfl⟩) (fs_next hs6 hf6 hr6 (by assumption))
    case ffin =>
      rintro ys6 nx6 ⟨hs6, hf6⟩
      rw [List.take_of_length_le (by rw [List.size_toArray, hRw.length]; exact Nat.le_refl _)] at hf6
      have mO6 := hs6 _ mO
      have mA6 := hs6 _ mcA
      have mB6 := hs6 _ mcB
      have mR6 := hs6 _ mRows
      have hRw6 := hRw.mono hs6
      w_top off
      w_strict (walk_at "my block")
      rename_i fsD h7 tk7 F7 N7 o7
      have off7 := off1_mem o7
      clear o7
      have hl7 : ys6.length ≤ 3 := by rw [hf6.length, List.length_map, hlen]; omega
      refine cut_fs (by k_asm) wW fsD nx6 (rows.map (specOf xsO) ++ if odd = 3 then [odd3] else []) ?fA ?gA
      case fA =>
        w_strict (walk_at "my factor")
        · k_here
          k_dflt (refine' does_use ?k1 ?k2 ?k3 ?k4 ?k5 ?kK (law_factor_does _ _ _ _ _ _ _ _ _ _ [Dat.str sX] [sX, sY] _ _ _ true _ _ ?kw ?kD ?kr ?kR ?ks ?kin ?kn ?kx) ?kd ?ku ?_; walk_at "my use"; (case ks => (show (_, listOf #[.str sO _, .str sF _] _) ∈ _; k_mem)); (case kw => k_mem); (case kr => k_mem); (case kD => exact .cons (.str _ _) .nil); (case kR => exact .cons (.str _ _) (.cons (.str _ _) .nil)); (case kin => exact fun d hd => .inr ⟨sX, by simp, by simpa using hd⟩); (case kn => decide); (case kx => decide); walk_at "my rooms")
          intro r8 h8 tk8 n8 F8 N8 hP8
          obtain ⟨f8, new8, rfl, rfl, fac8, off8⟩ := hP8
          (try dsimp only)
          have N9 := led_fs3 N8
          have off9 := off_fs3 off8 (by k_ne) (by k_ne) (by k_ne) off7
          dsimp only at off9
          clear N8
          w_strict (walk_at "my steps")
          rename News _ _ _ _ => NA
          (try simp only [List.push_toArray] at NA)
          rw [odd3_is] at fac8
          exact ⟨_, _, ys6 ++ [.ref f8], _, _, rfl, by k_asm, NA, off9, fun p hp => List.mem_append_right _ (by simp [hp]), by rw [if_pos (by assumption)]; exact (hf6.mono fun p hp => List.mem_append_right _ (by simp [hp])).snoc (xs := [sX, sY]) (fac8.mono fun p hp => List.mem_append_left _ hp)⟩
        · exact ⟨_, _, ys6, _, nx6, rfl, by k_asm, by k_asm, off7, fun _ h => h, by rw [if_neg (by assumption), List.append_nil]; exact hf6⟩
      case gA =>
        intro h8 tk8 fsv8 n8 nx8 F8 N8 off8 sub8 fac8
        dsimp only
        have mO8 := sub8 _ mO6
        have mA8 := sub8 _ mA6
        have mB8 := sub8 _ mB6
        have mR8 := sub8 _ mR6
        have hRw8 := hRw6.mono sub8
        have hl8 : fsv8.length ≤ 4 := by
          rw [fac8.length, List.length_append, List.length_map, hlen]
          split <;> simp only [List.length_cons, List.length_nil] <;> omega
        w_strict (walk_at "my block")
        refine cut_fs (by k_asm) wW fsD nx8 ((rows.map (specOf xsO) ++ if odd = 3 then [odd3] else []) ++ if odd = 4 then [odd4 xsO] else []) ?fB ?gB
        case fB =>
          w_strict (walk_at "my factor")
          · k_here
            k_dflt (refine' does_use ?k1 ?k2 ?k3 ?k4 ?k5 ?kK (law_factor_does _ _ _ _ _ _ _ _ _ _ [Dat.str sX] xsO _ _ _ false 0 _ ?kw ?kD ?kr ?kR ?ks ?kin ?kn ?kx) ?kd ?ku ?_; walk_at "my use"; (case ks => (show (_, listOf #[.str sF _] _) ∈ _; k_mem)); (case kw => k_mem); (case kr => k_mem); (case kD => exact .cons (.str _ _) .nil); (case kR => assumption); (case kin => exact fun d hd => .inr ⟨sX, (six_is hsix).1, by simpa using hd⟩); (case kn => decide); (case kx => omega); walk_at "my rooms")
            intro r9 h9 tk9 n9 F9 N9 hP9
            obtain ⟨f9, new9, rfl, rfl, fac9, off9⟩ := hP9
            (try dsimp only)
            have N10 := led_fs2 N9
            have off10 := off_fs2 off9 (by k_ne) (by k_ne) off8
            dsimp only at off10
            clear N9
            w_strict (walk_at "my steps")
            rename News _ _ _ _ => NA
            (try simp only [List.push_toArray] at NA)
            exact ⟨_, _, fsv8 ++ [.ref f9], _, _, rfl, by k_asm, NA, off10, fun p hp => List.mem_append_right _ (by simp [hp]), by rw [show (if odd = 4 then [odd4 xsO] else []) = [odd4 xsO] from if_pos (by assumption)]; exact (fac8.mono fun p hp => List.mem_append_right _ (by simp [hp])).snoc (xs := xsO) (fac9.mono fun p hp => List.mem_append_left _ hp)⟩
          · exact ⟨_, _, fsv8, _, nx8, rfl, by k_asm, by k_asm, off8, fun _ h => h, by rw [show (if odd = 4 then [odd4 xsO] else []) = [] from if_neg (by assumption), List.append_nil]; exact fac8⟩
        case gB =>
          intro h9 tk9 fsv9 n9 nx9 F9 N9 off9 sub9 fac9
          dsimp only
          have mO9 := sub9 _ mO8
          have mA9 := sub9 _ mA8
          have mB9 := sub9 _ mB8
          have mR9 := sub9 _ mR8
          have hRw9 := hRw8.mono sub9
          clear mO8 mA8 mB8 mR8 mO6 mA6 mB6 mR6 mO mRows mcA mcB mR fac8 N8 N7 F7 F8
          w_top off
          w_strict (walk_at "my block"; walk1; walk_at "my block")
          refine LCg.CompSrc.ledger rfl (by k_asm) N9 (by k_mem) (by rw [List.size_toArray, fac9.length, List.length_append, List.length_append, List.length_map, hlen, PySem.sizeLine_eq]; split <;> split <;> simp only [List.length_cons, List.length_nil] <;> omega) (fun g => compRest_inv (TpJ ((fsD, listOf (List.toArray fsv9) n9) :: nx9) fsv9) ?tstep ?tfin ⟨fun _ h => h, .nil⟩)
          case tstep =>
            intro i7 ys7 nx7 v7 I7 oI7 C7 oC7 D7 m7 h7 tk7 E7 hi7 hJ7 hP7 hC7 hx7 F7 N7 off7 ne7
            obtain ⟨hs7, hf7⟩ := hJ7
            obtain ⟨q1, q2, q3⟩ := ne_apart ne7
            clear ne7
            w_strict (walk_at "my steps")
            (try k_unfold)
            exact LCg.CompEnd.intro (by k_asm) (by k_asm) (_ :: nx7) comp_sub1 (by exact ⟨⟨by k_ne, by k_ne, by k_ne⟩, off7⟩) (Or.inr ⟨_, .tail _ (hs7 _ (.head _)), rfl, _, rfl⟩) (tp_next hs7 hf7 (by simpa using hP7))
          case tfin =>
            rintro ys7 nx7 ⟨hs7, hf7⟩
            rw [List.take_of_length_le (by rw [List.size_toArray]; exact Nat.le_refl _)] at hf7
            w_strict (walk_at "my block")
            rename_i aD h8 tk8 F8 N8 o8
            have off8 := off1_mem o8
            clear o8
            have fac10 : FacsAt wW nx7 fsv9 (lsOf xsO rows odd) := fac9.mono (fun p hp => hs7 p (.tail _ hp))
            have hl10 : ys7.length ≤ 5 := by
              rw [hf7.length, fac9.length, List.length_append, List.length_append, List.length_map, hlen]
              split <;> split <;> simp only [List.length_cons, List.length_nil] <;> omega
            refine cut_args (by k_asm) wW aD ((fsD, listOf (List.toArray fsv9) n9) :: nx9) (lsOf xsO rows odd) (skp == 1) ?fC ?gC
            case fC =>
              w_strict (walk_at "my steps")
              · rename FlagAt _ _ _ => flag8
                rename News _ _ _ _ => NA
                (try simp only [List.push_toArray] at NA)
                refine ⟨_, _, ys7 ++ [.ref _], _, _, rfl, by k_asm, news_swap NA, fun p hp => .tail _ (List.mem_append_right _ (hs7 p hp)), ?_⟩
                rw [show (skp == 1) = true by first | assumption | exact beq_iff_eq.mpr (by assumption)]
                exact args_rm (.head _) (flag8.mono fun p hp => .tail _ (List.mem_append_left _ hp)) (fac10.mono fun p hp => .tail _ (List.mem_append_right _ hp)) (hf7.mono fun p hp => .tail _ (List.mem_append_right _ hp))
              · refine ⟨_, _, ys7, _, nx7, rfl, by k_asm, by k_asm, hs7, ?_⟩
                rw [show (skp == 1) = false by first | assumption | exact beq_eq_false_iff_ne.mpr (by assumption)]
                exact args_of fac10 hf7
            case gC =>
              intro h11 tk11 avs11 n11 nx11 F11 N11 sub11 arg11
              dsimp only
              have mO11 := sub11 _ (.tail _ mO9)
              have mA11 := sub11 _ (.tail _ mA9)
              have mB11 := sub11 _ (.tail _ mB9)
              have mR11 := sub11 _ (.tail _ mR9)
              have mF11 := sub11 _ (.head _)
              have hRw11 := hRw9.mono fun p hp => sub11 p (.tail _ hp)
              have fac11 := fac9.mono fun p hp => sub11 p (.tail _ hp)
              clear mO9 mA9 mB9 mR9
              rename _ ∈ seven => hsev
              have len7 := seven_len hsev
              have aok : ∃ first tl, ArgsOk (lsOf xsO rows odd) xsO first tl := args_ok hsix (by omega) (by omega) hok
              w_strict (walk_at "my told")
              k_dflt (refine' told_use ?k1 ?k2 ?k3 ?k4 ?k5 ?k6 ?k7 ?kK ?ka ?kA len7 aok ?kd ?ku ?_; (case k4 => k_asm); (case k1 => k_asm); (case k2 => k_asm); (case k3 => k_asm); (case k5 => k_asm); (case k6 => k_asm); (case k7 => k_asm); (case kK => first | exact rfl | assumption); (case ka => k_mem); (case kA => exact arg11.mono fun _ h => .tail _ h); walk_at "my rooms")
              intro tp12 tn12 tv12 msg12 mt12 h12 tk12 nx12 F12 N12 sub12 mt12' told12
              (try dsimp only)
              have mO12 := sub12 _ (.tail _ mO11)
              have mA12 := sub12 _ (.tail _ mA11)
              have mB12 := sub12 _ (.tail _ mB11)
              have mR12 := sub12 _ (.tail _ mR11)
              have mF12 := sub12 _ (.tail _ mF11)
              have hRw12 := hRw11.mono fun p hp => sub12 p (.tail _ hp)
              have fac12 := fac11.mono fun p hp => sub12 p (.tail _ hp)
              clear mO11 mA11 mB11 mR11 mF11 fac10 fac11 fac9 N9 N8 N11 F8 F9 F11 hf7
              w_strict (walk_at "my block")
              w_strict (walk1; walk_at "my block")
              have hRw13 := fun (p : Addr × Obj) => hRw12.mono (news' := p :: nx12) fun _ h => .tail _ h
              w_top off
              (rename Fr _ _ _ _ => lF'); (with_unfolding_all refine' For_turns lF' ?_; k_whole)
              w_strict (walk_at "my steps")
              rename Fr _ _ _ _ => lF
              rename News _ _ _ _ => lN
              refine loop_inv (EvJ rows xsO) (by rfl) lF lN (.tail _ mR12) ?start8 ?turn8 ?done8
              case start8 =>
                intro I hI
                exact ⟨_, [], _, ⟨fun _ _ _ => rfl, rfl⟩, .head _, .nil, fun _ h => h, fun p hp => Nat.ne_of_lt (hI p hp)⟩
              case turn8 =>
                intro I i v m₁ nx h tk oI hv hJ hx F1 N1
                obtain ⟨e, evs, n, hF, he, hD, hsub, hI⟩ := hJ
                obtain ⟨rv, rfl⟩ := hF.eq
                obtain ⟨a, vs, n1, ds, rfl, hr, hm, hd⟩ := hRw12.get hv
                have hm' := hsub _ (.tail _ hm)
                have mO13 := hsub _ (.tail _ mO12)
                have mA13 := hsub _ (.tail _ mA12)
                have hokr := hok _ (List.mem_of_getElem? hr)
                have hin := kin_of hsix hokr.2
                have hl := hokr.1
                dsimp only
                w_strict (walk_at "my steps")
                refine LCg.CompSrc.ledger rfl (by k_asm) (by k_asm) (by k_mem) (by rw [List.size_toArray, hd.length, PySem.sizeLine_eq]; omega) (fun g => compRest_inv (fun i ys nx' => nx' = _ ∧ DatAll [] ys ((ds.take i).map (cod xsO))) ?cstep8 ?cfin8 ⟨rfl, .nil⟩)
                case cstep8 =>
                  intro i7 ys7 nx7 v7 I7 oI7 C7 oC7 D7 m7 h7 tk7 E7 hi7 hJ7 hP7 hC7 hx7 F7 N7 off7 ne7
                  obtain ⟨hnx, hDy⟩ := hJ7
                  subst hnx
                  obtain ⟨d, hdi, hDv⟩ := datAll_get hd (by simpa using hP7)
                  rcases hin d (List.mem_of_getElem? hdi) with rfl | ⟨x7, hxi, rfl⟩
                  · cases hDv
                    w_strict (walk_at "my steps")
                    (try k_unfold)
                    exact LCg.CompEnd.intro (by k_asm) (by k_asm) _ (fun _ h => h) off7 (Or.inr ⟨_, by k_mem, rfl, _, rfl⟩) ⟨rfl, by rw [take_succ_of hdi, List.map_append]; exact datAll_snoc hDy .none⟩
                  · cases hDv
                    w_strict (walk_at "my steps")
                    (try k_unfold)
                    exact LCg.CompEnd.intro (by k_asm) (by k_asm) _ (fun _ h => h) off7 (Or.inr ⟨_, by k_mem, rfl, _, rfl⟩) ⟨rfl, by rw [take_succ_of hdi, List.map_append]; exact datAll_snoc hDy (.int _ _)⟩
                case cfin8 =>
                  rintro ys7 nx7 ⟨hnx, hDy⟩
                  subst hnx
                  rw [List.take_of_length_le (by rw [List.size_toArray, hd.length]; exact Nat.le_refl _)] at hDy
                  have hz7 : evs.length + ys7.length ≤ 100 := by
                    have q1 := hD.length
                    have q2 := hDy.length
                    have q3 : (everyOf xsO (rows.take i)).length ≤ 4 * (rows.take i).length := every_len fun r hr => hok r (List.mem_of_mem_take hr)
                    rw [List.length_take] at q3
                    rw [List.length_map] at q2
                    omega
                  w_strict (walk_at "my steps")
                  rename _ ∧ _ ∧ AllLt _ nx => hl1
                  exact unr_end (by k_asm) (by k_asm) ((_, listOf (List.toArray (evs ++ ys7)) _) :: nx) (.tail _ (.tail _ (.head _))) sub_skip2 (List.forall_mem_cons.mpr ⟨Nat.ne_of_gt hl1.2.1, hI⟩) ⟨.tail _ hx, _, evs ++ ys7, _, ⟨fun y y1 y2 => by simp only [frE, if_neg y1, if_neg y2], rfl⟩, .head _, by rw [every_next hr]; exact hD.append hDy, fun p hp => .tail _ (hsub p hp), List.forall_mem_cons.mpr ⟨Nat.ne_of_gt hl1.2.1, hI⟩⟩
              case done8 =>
                intro I m₁ nx h tk hJ F1 N1
                obtain ⟨e, evs, n, hF, he, hD, hsub, hI⟩ := hJ
                obtain ⟨rv, rfl⟩ := hF.eq
                rw [show ys.length = rows.length from hRw12.length, List.take_length] at hD
                have mO14 := hsub _ (.tail _ mO12)
                have mA14 := hsub _ (.tail _ mA12)
                have mB14 := hsub _ (.tail _ mB12)
                have mR14 := hsub _ (.tail _ mR12)
                have mF14 := hsub _ (.tail _ mF12)
                have hRw14 := hRw12.mono fun p hp => hsub p (.tail _ hp)
                have fac14 := fac12.mono fun p hp => hsub p (.tail _ hp)
                have told14 := told12.mono fun p hp => hsub p (.tail _ hp)
                dsimp only
                w_top off
                w_strict (walk_at "my block")
                w_strict (walk1; walk_at "my block")
                have hEv : ∀ d ∈ everyOf xsO rows, d = Dat.none ∨ ∃ i, d = Dat.int i := every_is
                have hEl : (everyOf xsO rows).length ≤ 12 := by
                  have q3 : (everyOf xsO rows).length ≤ 4 * rows.length := every_len hok
                  omega
                refine LCt.CompSrcT.ledger rfl (by k_asm) (by k_asm) (by k_mem) (by rw [List.size_toArray, hD.length, PySem.sizeLine_eq]; omega) (fun g => compRestT_inv (fun i ys nx => nx = _ ∧ DatAll [] ys (((everyOf xsO rows).take i).filter isCode)) ?step9 ?fin9 ⟨rfl, .nil⟩)
                case step9 =>
                  intro i8 ys8 nx8 v8 I8 oI8 C8 oC8 D8 m8 h8 tk8 E8 hi8 hJ8 hP8 hC8 hx8 F8 N8 off8 ne8
                  obtain ⟨hnx, hDy⟩ := hJ8
                  subst hnx
                  obtain ⟨d, hdi, hDv⟩ := datAll_get hD (by simpa using hP8)
                  rcases hEv d (List.mem_of_getElem? hdi) with rfl | ⟨z, rfl⟩
                  · cases hDv
                    w_strict (walk_at "my steps")
                    exact LCg.CompEnd.intro (by k_asm) (by k_asm) _ (fun _ h => h) off8 (Or.inr ⟨_, by k_mem, rfl, _, rfl⟩) ⟨rfl, by rw [take_succ_of hdi, List.filter_append]; exact (List.append_nil _).symm ▸ hDy⟩
                  · cases hDv
                    w_strict (walk_at "my steps")
                    exact LCg.CompEnd.intro (by k_asm) (by k_asm) _ (fun _ h => h) off8 (Or.inr ⟨_, by k_mem, rfl, _, rfl⟩) ⟨rfl, by rw [take_succ_of hdi, List.filter_append]; exact datAll_snoc hDy (.int _ _)⟩
                case fin9 =>
                  rintro ys8 nx8 ⟨hnx, hDy⟩
                  subst hnx
                  rw [List.take_of_length_le (by rw [List.size_toArray, hD.length]; exact Nat.le_refl _)] at hDy
                  w_strict (walk_at "my block")
                  w_top off
                  rename LCg.Off1 _ nx8 => o9
                  have off9 := off1_mem o9
                  clear o9
                  rename News _ _ _ _ => N9
                  refine cut_if (by k_asm) nx8 ?fA10 ?gA10
                  case fA10 =>
                    by_cases hop : isOp x
                    · w_top off
                      have hf : ([Str.ofString "max", Str.ofString "min", Str.ofString "range"].any fun y => y == x) = true := (any_op x).mpr hop
                      by_cases h2 : 2 < odd
                      · obtain ⟨rfl, rfl⟩ := told14.mix hop (odd_bad hsix h2 (by assumption))
                        w_strict (walk_at "my steps")
                        exact if_same (by k_asm) (by k_asm) (by walk_at "my sub")
                      · obtain ⟨hls, hgd⟩ := odd_good (xs := xsO) (rows := rows) h2
                        obtain ⟨v14, out, rfl, rfl, facT, hout⟩ := told14.good hop hgd
                        rw [hls] at hout
                        w_strict (walk_at "my block")
                        w_strict (walk1; walk_at "my block")
                        w_strict (walk1; walk_at "my block")
                        w_top off
                        rw [show outOf (skp == 1) (List.map (specOf xsO) rows) = (if (skp == 1) = true then (everyOf xsO rows).filter isCode else everyOf xsO rows) by unfold outOf; rw [codes_every]] at hout
                        have hqp : ∀ d ∈ (everyOf xsO rows).filter isCode, kqdOk 8 d = true := every_ok
                        rename Fr _ _ _ _ => FX
                        rename News _ _ _ _ => NX
                        with_reducible refine cut_lack FX NX (lacksOf (skp == 1) (everyOf xsO rows)) ?fA12 ?gA12
                        case fA12 =>
                          by_cases hp : (everyOf xsO rows).filter isCode = []
                          · have hr1 : (true = true ↔ (everyOf xsO rows).filter isCode = []) := ⟨fun _ => hp, fun _ => rfl⟩
                            w_strict (walk_at "my steps")
                            · trivial
                            · refine lack_end (by k_asm) (by k_asm) ?_ (by walk_at "my sub")
                              simp [lacksOf, hp]
                          · have hr1 : (false = true ↔ (everyOf xsO rows).filter isCode = []) := ⟨fun z => (by cases z), fun z => absurd z hp⟩
                            have hlp := hDy.length
                            have hle := hD.length
                            have hlf : ((everyOf xsO rows).filter isCode).length ≤ (everyOf xsO rows).length := List.length_filter_le _ _
                            by_cases hlt : ((everyOf xsO rows).filter isCode).length < (everyOf xsO rows).length
                            · w_strict (walk_at "my steps")
                              · trivial
                              · refine lack_end (by k_asm) (by k_asm) ?_ (by walk_at "my sub")
                                simp [lacksOf, hp, hlt]
                            · w_strict (walk_at "my steps")
                              · trivial
                              · refine lack_end (by k_asm) (by k_asm) ?_ (by walk_at "my sub")
                                simp [lacksOf, hp, hlt]
                                omega
                        case gA12 =>
                          intro h14 tk14 nx14 F14 N14 sub14'
                          have sub14 : ∀ p ∈ nx8, p ∈ nx14 := fun p hp => sub14' p (.tail _ (.tail _ hp))
                          have mP14 := sub14' _ (.tail _ (.head _))
                          dsimp only
                          w_top off
                          w_strict (walk_at "my block")
                          with_reducible refine cut_due F14 N14 (nonesOf x) ?fA13 ?gA13
                          case fA13 =>
                            rcases hop with hx | hx | hx
                            · w_strict (walk_at "my steps")
                              · trivial
                              · exact due_end (by k_asm) (by k_asm) (by k_mem) (by rw [hx, nones_max]; exact .cons .none .nil) (by walk_at "my sub")
                            · w_strict (walk_at "my steps")
                              · trivial
                              · exact due_end (by k_asm) (by k_asm) (by k_mem) (by rw [hx, nones_min]; exact .cons .none .nil) (by walk_at "my sub")
                            · w_strict (walk_at "my steps")
                              · trivial
                              · exact due_end (by k_asm) (by k_asm) (by k_mem) (by rw [hx, nones_range]; exact .cons .none (.cons .none .nil)) (by walk_at "my sub")
                          case gA13 =>
                            intro h15 tk15 nx15 da15 dvs15 n15 F15 N15 m15 D15 sub15'
                            have sub15 : ∀ p ∈ nx8, p ∈ nx15 := fun p hp => sub15' p (sub14 p hp)
                            have mP15 := sub15' _ mP14
                            dsimp only
                            w_top off
                            w_strict (walk_at "my block")
                            with_reducible refine cut_due F15 N15 out ?fA14 ?gA14
                            case fA14 =>
                              by_cases hl : lacksOf (skp == 1) (everyOf xsO rows) = true
                              · have ho := out_lacks hl hout
                                w_strict (walk_at "my steps")
                                exact due_same (by k_asm) (by k_asm) (by k_mem) (by rw [ho]; exact D15) (by walk_at "my sub")
                              · have hl' : lacksOf (skp == 1) (everyOf xsO rows) = false := by simpa using hl
                                obtain ⟨ns, hns, hnn, htop⟩ := out_has hl' hout
                                have hIp : IntsAre ys8 ns := ints_of_dats (by rw [← hns]; exact hDy)
                                have hpos : 0 < ns.length := List.length_pos_iff.mpr hnn
                                have hnl : ns.length ≤ 12 := by
                                  have q1 := hIp.length
                                  have q2 := hDy.length
                                  have q3 : ((everyOf xsO rows).filter isCode).length ≤ (everyOf xsO rows).length := List.length_filter_le _ _
                                  omega
                                rcases hop with hx | hx | hx
                                · w_strict (walk_at "my steps")
                                  exact due_end (by k_asm) (by k_asm) (by k_mem) (by exact dats_max hx htop (by assumption) (by assumption)) (by walk_at "my sub")
                                · w_strict (walk_at "my steps")
                                  exact due_end (by k_asm) (by k_asm) (by k_mem) (by exact dats_min hx htop (by assumption) (by assumption)) (by walk_at "my sub")
                                · w_strict (walk_at "my steps")
                                  exact due_end (by k_asm) (by k_asm) (by k_mem) (by exact dats_range hx htop (by assumption) (by assumption) (by assumption) (by assumption)) (by walk_at "my sub")
                            case gA14 =>
                              intro h16 tk16 nx16 da16 dvs16 n16 F16 N16 m16 D16 sub16'
                              have sub16 : ∀ p ∈ nx8, p ∈ nx16 := fun p hp => sub16' p (sub15 p hp)
                              dsimp only
                              w_top off
                              have hok1 : ∀ d ∈ out, kqdOk 8 d = true := out_ok hout
                              have hok2 : ∀ d ∈ xsO.map Dat.str, kqdOk 8 d = true := six_ok hsix
                              have mO16 := sub16 _ mO14
                              have mA16 := sub16 _ mA14
                              have facT' := facT.mono sub16
                              obtain ⟨it, ad, ivs, n1, o, lvv, cv, li, lvs, n2, ci, n3, t1, t2, ⟨fd, q1, q2, q3, q4, q5, q6, g1, g2⟩, g3, g4, g5, g6, g7, ⟨fe, r1, r2, r3, r4, r5, r6, g8, g9⟩, g10, g11, ⟨fg, s1, s2, s3, s4, s5, s6, g12, g13⟩, g14⟩ := facT'
                              replace g14 : (ci, listOf #[.str sO t1, .str sF t2] n3) ∈ nx16 := g14
                              w_strict (walk_at "my block")
                              w_strict (walk1; walk_at "my block")
                              w_strict (walk1; walk_at "my block")
                              exact if_end (by k_asm) (by k_asm) (fun p hp => .tail _ (sub16 p hp))
                    · obtain ⟨rfl, rfl⟩ := told14.bad hop
                      have hf : ([Str.ofString "max", Str.ofString "min", Str.ofString "range"].any fun y => y == x) = false := by
                        cases h : [Str.ofString "max", Str.ofString "min", Str.ofString "range"].any fun y => y == x
                        · rfl
                        · exact absurd ((any_op x).mp h) hop
                      w_strict (walk_at "my steps")
                      exact if_same (by k_asm) (by k_asm) (by walk_at "my sub")
                  case gA10 =>
                    intro h10 tk10 nx10 lv10 dv10 F10 N10 sub10
                    dsimp only
                    (repeat (rename _ => hz; revert hz))
                    intro hcut
                    exact hcut.out)⟩
set_option maxHeartbeats 100000000 in
theorem law1 : law0.1 := by
  intro wW _ _ _ _ _ _ _ _ _ _ _ _ _ _ _ _ _ _ _ _ _ _ _ _ _ _ _ _ _ _ _ _ _ _ _ _ _ _ _ _ _ _ _ _ _ _ _ _ _ _ _ _ _ hC qk ek bl hA tkA bvs bns bn hI1 hn1 hB oc1 d1 tk lA tkC FC vs1 ns1 m1 i1 t1 hI2 hn2 hi0 hi1 hD tkD t₁ u₁ v₁ hRng up g ys bvs bns bn R rows hI3 hn3 hRb hRA hRB hRows hlen hok _ _ _ b1 b4 b5 b3 hRb2 _ _ _ _ _ xsO _ _ _ hOrd hsix _ _ _ off2 hc1 hc2 hc3 hc4 hc5 hR0 hR3 _ _ _ tk _ _ _ _ _ odd _ _ _ _ _ _ tk _ _ _ _ _ skp _ _ _ _ _ _ tk _ _ _ _ _ _ _ _ _ _ _ _ _ _ _ _ _ _ tk x xt hsev base hRw hx3 g ys6 nx6 hs6 hf6 hRw6 fsD h7 tk7 off7 hl7 h8 tk8 fsv8 n8 nx8 off8 sub8 hRw8 hl8 h9 tk9 fsv9 n9 nx9 off9 sub9 hRw9 g ys7 nx7 hs7 aD h8 tk8 off8 hl10 h11 tk11 avs11 n11 nx11 sub11 arg11 hRw11 len7 aok tp12 tn12 tv12 msg12 mt12 h12 tk12 nx12 sub12 mt12' told12 mO12 mA12 mB12 mR12 mF12 hRw12 fac12 _ _ _ _ _ _ _ lF lN tk hRw13 I h tk e evs n hD rv F1 hF hEv hEl g ys8 nx8 hDy N1 he hsub hI mO14 mA14 mB14 mR14 mF14 hRw14 fac14 told14 _ _ _ _ N9 off9 h10 tk10 nx10 lv10 dv10 F10 N10 sub10
  w_top off
  have mO17 := sub10 _ mO14
  have mA17 := sub10 _ mA14
  have mB17 := sub10 _ mB14
  have mR17 := sub10 _ mR14
  have mF17 := sub10 _ mF14
  have hRw17 := hRw14.mono sub10
  have fac17 : FacsAt wW nx10 fsv9 (lsOf xsO rows odd) := fac14.mono sub10
  obtain ⟨r0, hr0⟩ : ∃ r0, rows[0]? = some r0 := ⟨rows[0]'(by omega), List.getElem?_eq_getElem _⟩
  obtain ⟨f0, hf0, fac0⟩ := fac17.at (lsOf_at (xs := xsO) (odd := odd) hr0)
  have hok0 := hok _ (List.mem_of_getElem? hr0)
  have ok0 := one_ok hsix hok0
  w_strict (walk_at "my sum")
  w_top off
  obtain ⟨first0, tl0, ok0⟩ := ok0
  k_dflt (refine' summary_use ?k1 ?k2 ?k3 ?k4 ?k5 ?kK ?ke ?kv ?kl ?ka ?kA ?kx ok0 ?kd ?ku ?ret ?exc; walk_at "my use"; (case ke => exact ⟨_, _, _, _, _, _, _, _, _, _, _, _, _, _, by k_mem, by k_mem, by k_mem, by assumption, by assumption⟩); (case kv => exact ⟨_, _, _, _, _, _, _, by k_mem, by k_mem⟩); (case kl => k_mem); (case ka => k_mem); (case kA => exact .cons (by k_mem) (FacAt.mono fac0 (by walk_at "my sub")) .nil); (case kx => decide +kernel); walk_at "my rooms")
  case exc =>
    rintro e18 dx18 h18 tk18 G18 nx18 _ _ _ ⟨_, _, _, _, _, hR⟩
    exfalso
    rcases hR with ⟨hR, _⟩ | ⟨_, ⟨e, he, hg⟩, _⟩
    · exact hR (.inl rfl)
    · rw [List.mem_singleton.mp he] at hg
      exact hg ⟨rfl, rfl⟩
  case ret =>
    intro _ _ r18 h18 tk18 nx18 F18 N18 hP18
    obtain ⟨v18, out18, rfl, fac18, _, sub18⟩ := hP18
    (try dsimp only)
    w_top off
    have sub18' : ∀ p ∈ nx10, p ∈ nx18 := fun p hp => sub18 p (by repeat (first | exact hp | refine List.mem_cons_of_mem _ ?_))
    clear sub18
    have hok2 : ∀ d ∈ xsO.map Dat.str, kqdOk 8 d = true := six_ok hsix
    have mO18 := sub18' _ mO17
    have mA18 := sub18' _ mA17
    have mB18 := sub18' _ mB17
    have mR18 := sub18' _ mR17
    have mF18 := sub18' _ mF17
    have hRw18 := hRw17.mono sub18'
    have fac18a := fac17.mono sub18'
    obtain ⟨a0, vs0, n0, ha0, hm0, hd0⟩ := hRw18.at hr0
    have hin0 := kin_of hsix hok0.2
    have hl0 := hok0.1
    obtain ⟨it, ad, ivs, n1, o, lvv, cv, li, lvs, n2, ci, n3, t1, t2, ⟨fd, q1, q2, q3, q4, q5, q6, g1, g2⟩, g3, g4, g5, g6, g7, ⟨fe, r1, r2, r3, r4, r5, r6, g8, g9⟩, g10, g11, ⟨fg, s1, s2, s3, s4, s5, s6, g12, g13⟩, g14⟩ := fac18
    w_strict (walk_at "my block")
    w_strict (walk_at "my factor")
    k_here
    k_dflt (refine' does_use ?k1 ?k2 ?k3 ?k4 ?k5 ?kK (law_factor_does _ _ _ _ _ _ _ _ vs0 _ r0 xsO n0 _ _ false 0 _ ?kw ?kD ?kr ?kR ?ks ?kin ?kn ?kx) ?kd ?ku ?_; walk_at "my use"; (case ks => (show (_, listOf #[.str sF _] _) ∈ _; k_mem)); (case kw => k_mem); (case kr => k_mem); (case kD => assumption); (case kR => assumption); (case kin => assumption); (case kn => omega); (case kx => omega); walk_at "my rooms")
    intro r19 h19 tk19 n19 F19 N19 hP19
    obtain ⟨f19, new19, rfl, rfl, facN, off19⟩ := hP19
    (try dsimp only)
    w_top off
    obtain ⟨nx20, N20, sub20⟩ := led_gen N19
    clear N19 off19
    w_strict (walk_at "my told")
    k_dflt (refine' told2_use ?k1 ?k2 ?k3 ?k4 ?k5 ?k6 ?k7 ?kK len7 ?kd ?ku ?_; (case k4 => k_asm); (case k1 => k_asm); (case k2 => k_asm); (case k3 => k_asm); (case k5 => k_asm); (case k6 => k_asm); (case k7 => k_asm); (case kK => first | exact rfl | assumption); walk_at "my rooms")
    intro tp21 tn21 mt21 h21 tk21 nx21 F21 N21 sub21 mt21'
    (try dsimp only)
    have sub21' : ∀ p ∈ nx18, p ∈ nx21 := fun p hp => sub21 p (.tail _ (.tail _ (sub20 p hp)))
    w_strict (walk_at "my block")
    w_strict (walk1; walk_at "my block")
    w_top off
    have mO21 := sub21' _ mO18
    have mA21 := sub21' _ mA18
    have mB21 := sub21' _ mB18
    have mR21 := sub21' _ mR18
    have mF21 := sub21' _ mF18
    have hRw21 := hRw18.mono sub21'
    have fac21 := fac18a.mono sub21'
    have hyl : ys.length = rows.length := hRw21.length
    w_strict (walk_at "my loop")
    w_top off
    rename IsRange _ _ _ _ _ _ _ _ => rgX
    rename Fr _ _ _ _ => lF
    rename News _ _ _ _ => lN
    refine range_inv (n := ys.length) LastJ (by rfl) rgX (range_small (by omega) (by omega)).1 (by rw [(range_small (by omega) (by omega)).2, Int.toNat_natCast]) lF lN ?start21 ?turn21 ?done21
    case start21 =>
      intro I hI
      exact ⟨⟨_, frS_first rfl⟩, fun _ h => h, fun p hp => Nat.ne_of_lt (hI p hp)⟩
    case turn21 =>
      intro I i t m₁ nx h tk oI hi hJ F1 N1
      obtain ⟨⟨sv, rfl⟩, hs, hI⟩ := hJ
      rw [frS_next] at F1
      w_top off
      obtain ⟨ri, hri⟩ : ∃ ri, rows[i]? = some ri := ⟨rows[i]'(by omega), List.getElem?_eq_getElem _⟩
      obtain ⟨ai, vsi, ni, hai, hmi, hdi⟩ := hRw21.at hri
      obtain ⟨fi, hfi, faci⟩ := fac21.at (lsOf_at (xs := xsO) (odd := odd) hri)
      have hai' : ys[(i : Int).toNat]? = some (.ref ai) := by rw [Int.toNat_natCast]; exact hai
      have hfi' : fsv9[(i : Int).toNat]? = some (.ref fi) := by rw [Int.toNat_natCast]; exact hfi
      have hmi' := hs _ hmi
      have mO22 := hs _ mO21
      have mA22 := hs _ mA21
      have mB22 := hs _ mB21
      have mR22 := hs _ mR21
      have mF22 := hs _ mF21
      have hoki := hok _ (List.mem_of_getElem? hri)
      have hini := kin_of hsix hoki.2
      have hli := hoki.1
      have hcods : ∀ d ∈ ri.map (cod xsO), kqdOk 8 d = true := cods_ok
      have hi3 : i < 4 := by omega
      obtain ⟨it, ad, ivs, n1, o, lvv, cv, li, lvs, n2, ci, n3, t1, t2, ⟨fd, q1, q2, q3, q4, q5, q6, g1, g2⟩, g3, g4, g5, g6, g7, _, g10, g11, _, g14⟩ := faci.mono hs
      (try dsimp only at g4)
      w_strict (walk_at "my steps")
      refine LCg.CompSrc.ledger rfl (by k_asm) (by k_asm) (by k_mem) (by rw [List.size_toArray, hdi.length, PySem.sizeLine_eq]; omega) (fun g => compRest_inv (fun i ys nx' => nx' = _ ∧ DatAll [] ys ((ri.take i).map (cod xsO))) ?cstep22 ?cfin22 ⟨rfl, .nil⟩)
      case cstep22 =>
        intro i7 ys7 nx7 v7 I7 oI7 C7 oC7 D7 m7 h7 tk7 E7 hi7 hJ7 hP7 hC7 hx7 F7 N7 off7 ne7
        obtain ⟨hnx, hDy7⟩ := hJ7
        subst hnx
        obtain ⟨d, hdj, hDv⟩ := datAll_get hdi (by simpa using hP7)
        rcases hini d (List.mem_of_getElem? hdj) with rfl | ⟨x7, hxi, rfl⟩
        · cases hDv
          w_strict (walk_at "my steps")
          (try k_unfold)
          exact LCg.CompEnd.intro (by k_asm) (by k_asm) _ (fun _ h => h) off7 (Or.inr ⟨_, by k_mem, rfl, _, rfl⟩) ⟨rfl, by rw [take_succ_of hdj, List.map_append]; exact datAll_snoc hDy7 .none⟩
        · cases hDv
          w_strict (walk_at "my steps")
          (try k_unfold)
          exact LCg.CompEnd.intro (by k_asm) (by k_asm) _ (fun _ h => h) off7 (Or.inr ⟨_, by k_mem, rfl, _, rfl⟩) ⟨rfl, by rw [take_succ_of hdj, List.map_append]; exact datAll_snoc hDy7 (.int _ _)⟩
      case cfin22 =>
        rintro ys7 nx7 ⟨hnx, hDy7⟩
        subst hnx
        rw [List.take_of_length_le (by rw [List.size_toArray, hdi.length]; exact Nat.le_refl _)] at hDy7
        w_strict (walk_at "my steps")
        exact UnrEnd.intro (by k_asm) (by k_asm) nx (fun p hp => .tail _ hp) hI ⟨⟨_, rfl⟩, hs, hI⟩
    case done21 =>
      intro I m₁ nx h tk hJ F1 N1
      obtain ⟨⟨sv, rfl⟩, hs, hI⟩ := hJ
      w_strict (walk_at "my steps")
theorem law_holds : PySem.Challenge.rw_pq1405_01.Holds := law0.2 (.mk law1)
end Mine
theorem PySem.Challenge.cw_pq1405_01_holds : PySem.Challenge.rw_pq1405_01.Holds := by
  exact Mine.law_holds
