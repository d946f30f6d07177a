import PyProof.Rows.All
import Wide.All
import OpenK.AllK
import Wide.FinOn
import PySem.Challenge.RW_qd0125_01
open PySem PySem.W PySem.Calls PyProof.Rows
set_option Elab.async false
set_option maxRecDepth 100000
namespace Mine
noncomputable def topT (tb : String → Option Builtin) (p : Program) (w : World) (n₀ : Nat) (ann : Option Value) : Nat → SharedT → Thread → Option SharedT
  | 0, _, _ => none
  | n + 1, s, t => match through t with
    | true => some s
    | false => match stepOk n₀ ann t with
      | false => none
      | true => match stepT (denote tb) p w s t with
        | some (s', t') => topT tb p w n₀ ann n s' t'
        | none => none
noncomputable def topQ (tb : String → Option Builtin) (p : Program) (w : World) (n₀ : Nat) (ann : Option Value) : Nat → SharedT → Thread → Option SharedT
  | 0, _, _ => none
  | n + 1, s, t => match through t with
    | true => some s
    | false => match PySem.W.Fast.tw6613529449190102663 n₀ ann t with
      | false => none
      | true => match PySem.W.Fast.tw10156331382660048174 (PySem.W.Fast.tw11892475500146522536 tb) p w s t with
        | some (s', t') => topQ tb p w n₀ ann n s' t'
        | none => none
theorem topQ_eq {tb : String → Option Builtin} {p : Program} {w : World} {n₀ : Nat} {ann : Option Value} : ∀ (n : Nat) (s : SharedT) (t : Thread), topQ tb p w n₀ ann n s t = topT tb p w n₀ ann n s t
  | 0, _, _ => rfl
  | n + 1, s, t => by
    unfold topQ topT
    rw [← PySem.W.Fast.te6613529449190102663, ← PySem.W.Fast.te10156331382660048174, ← PySem.W.Fast.te11892475500146522536]
    cases through t with
    | true => rfl
    | false =>
      cases stepOk n₀ ann t with
      | false => rfl
      | true =>
        cases stepT (denote tb) p w s t with
        | none => rfl
        | some r => exact topQ_eq n r.1 r.2
theorem topT_of {tb : String → Option Builtin} {p : Program} {w : World} {n₀ : Nat} {ann : Option Value} : ∀ (n : Nat) (s s' : SharedT) (t : Thread), topT tb p w n₀ ann n s t = some s' → topRun tb p w n₀ ann n s.abs t = some s'.abs
  | 0, _, _, _, h => by cases h
  | n + 1, s, s', t, h => by
    unfold topT at h
    unfold topRun
    cases he : through t with
    | true => rw [he] at h; cases h; rfl
    | false =>
      rw [he] at h
      cases hk : stepOk n₀ ann t with
      | false => rw [hk] at h; cases h
      | true =>
        rw [hk] at h
        cases hs : stepT (denote tb) p w s t with
        | none => rw [hs] at h; cases h
        | some r => obtain ⟨s₂, t₂⟩ := r; rw [hs] at h; rw [stepT_spec hs]; exact topT_of n _ _ _ h
noncomputable def ofL : List Obj → Nat → BT → BT
  | [], _, t => t
  | o :: r, n, t => ofL r (n + 1) (t.ins n o)
noncomputable def bootT (P : Params) : BT := ofL (boot_heap P).objs.toList 0 .nil
noncomputable def boot0 (w : World) (os : OsState) : SharedT := ⟨bootT w.params, 11, {}, Array.mk [], boot_drawn, boot_toks, os⟩
theorem boot_abs (w : World) (os : OsState) : (boot0 w os).abs = ⟨boot_heap w.params, Array.mk [], boot_drawn, boot_toks, os⟩ := by kernel_rfl
noncomputable def lk {α : Type} (p q : Program) (loose : List Str) (Xt : Shared → Bool) (Yf : Shared → α) (H : Heap) (s : Shared) :=
  ((staticsOk (importedModules p.main.body) H s.heap && namesBound p s.heap && gensDone s && laidKept H s.heap), openSeen q loose (importedModules p.main.body) Xt true s, Yf s)
noncomputable def force {β : Type} : List Obj → (List Obj → β) → β
  | [], k => k []
  | o :: l, k => force l fun l' => match o with
    | ⟨c, d, t, s⟩ => k (⟨c, d, t, s⟩ :: l')
theorem force_eq {β : Type} : ∀ (l : List Obj) (k : List Obj → β), force l k = k l
  | [], _ => rfl
  | ⟨_, _, _, _⟩ :: l, k => by unfold force; rw [force_eq l]
noncomputable def lkF {α : Type} (p q : Program) (loose : List Str) (Xt : Shared → Bool) (Yt : SharedT → α) (H : Heap) (s : SharedT) :=
  force (s.tree.list s.n) fun l => ((staticsOk (importedModules p.main.body) H ⟨⟨l⟩, s.life⟩ && namesBound p ⟨⟨l⟩, s.life⟩ && gensDone ⟨⟨⟨l⟩, s.life⟩, s.gens, s.drawn, s.toks, s.os⟩ && laidKept H ⟨⟨l⟩, s.life⟩), PySem.W.Fast.tw4187177175401517315 q loose (importedModules p.main.body) Xt true ⟨⟨⟨l⟩, s.life⟩, s.gens, s.drawn, s.toks, s.os⟩, Yt s)
theorem lkF_eq {α : Type} {p q : Program} {loose : List Str} {Xt : Shared → Bool} {Yf : Shared → α} {Yt : SharedT → α} (hY : ∀ s, Yt s = Yf s.abs) {H : Heap} (s : SharedT) : lkF p q loose Xt Yt H s = lk p q loose Xt Yf H s.abs := by
  unfold lkF
  rw [force_eq, hY, ← PySem.W.Fast.te4187177175401517315]
  rfl
noncomputable def getT (t : BT) (n : Nat) (a : Addr) : Option Obj := match Nat.blt a n with
  | true => match t.get a with
    | some o => alive o
    | none => alive default
  | false => none
theorem getT_eq (t : BT) (n : Nat) (life : Life) (a : Addr) : getT t n a = (absHeap t n life).get? a := by
  unfold getT
  cases e : Nat.blt a n with
  | false => exact (abs_get_none fun q => by rw [show Nat.blt a n = true from Nat.ble_eq_true_of_le q] at e; cases e).symm
  | true =>
    have lt : a < n := Nat.le_of_ble_eq_true e
    cases g : t.get a with
    | some o => exact (abs_get lt g).symm
    | none =>
      unfold Heap.get?
      rw [absHeap_at, if_pos lt, g]
      rfl
theorem obs_eq (as : List Addr) (s : SharedT) : as.map (getT s.tree s.n) = as.map s.abs.heap.get? := congrArg (as.map ·) (funext fun a => getT_eq s.tree s.n s.life a)
theorem left_of {p q : Program} {loose : List Str} {Xt : Shared → Bool} {α : Type} {Yf : Shared → α} {Ya : World → α} {N : Nat} {ann : Option Value} {Yt : SharedT → α} (hY : ∀ s, Yt s = Yf s.abs)
    (open_ : ∀ w : World, (fencedOpening treeTable p w N).map (fun s => (s.heap, s.gens, s.drawn, s.toks)) = some (boot_heap w.params, Array.mk [], boot_drawn, boot_toks))
    (size : ∀ w : World, ((boot_heap w.params).isNs mainGlobals, (boot_heap w.params).objs.size, (boot_heap w.params).nsMap mainGlobals (Str.ofString "__annotations__")) = (true, 11, ann))
    (run : ∀ (w : World) (os : OsState), (topQ treeTable p w 11 ann N (boot0 w os) (topStub p)).map (fun s => lkF p q loose Xt Yt (boot_heap w.params) s) = some (true, openGood q loose, Ya w)) : LeftO p q loose Xt Yf Ya N := fun w => by
  obtain ⟨⟨h, gs, d, k, os⟩, e, e'⟩ := Option.map_eq_some_iff.mp (open_ w)
  obtain ⟨rfl, rfl, rfl, rfl⟩ : h = boot_heap w.params ∧ gs = Array.mk [] ∧ d = boot_drawn ∧ k = boot_toks := by simpa using e'
  obtain ⟨z1, z2, z3⟩ : _ ∧ _ ∧ _ := by simpa only [Prod.mk.injEq] using size w
  have r := run w os
  rw [topQ_eq] at r
  rw [show (fun s : SharedT => lkF p q loose Xt Yt (boot_heap w.params) s) = fun s => lk p q loose Xt Yf (boot_heap w.params) s.abs from funext fun s => lkF_eq hY s] at r
  obtain ⟨s', hr, hl⟩ := Option.map_eq_some_iff.mp r
  have hr := topT_of _ _ _ _ hr
  rw [boot_abs] at hr
  obtain ⟨l1, l2⟩ := Prod.mk.inj hl
  obtain ⟨l2, l3⟩ := Prod.mk.inj l2
  have t : topFrom treeTable p w N ⟨boot_heap w.params, Array.mk [], boot_drawn, boot_toks, os⟩ = some s'.abs := by
    unfold topFrom
    dsimp only
    rw [z1, z2, z3, hr]
    show (match staticsOk (importedModules p.main.body) (boot_heap w.params) s'.abs.heap && namesBound p s'.abs.heap && gensDone s'.abs && laidKept (boot_heap w.params) s'.abs.heap with | true => _ | false => _) = _
    rw [l1]
  unfold openEnds
  rw [e]
  show (topFrom treeTable p w N _).map _ = _
  rw [t]
  exact congrArg some (Prod.ext l2 l3)
noncomputable def view : Program :=
  { PySem.Challenge.pw_qd0125_01 with main := { PySem.Challenge.pw_qd0125_01.main with body :=
    match PySem.Challenge.pw_qd0125_01.main.body with
    | [a0, _, a2, a3, a4, a5, a6, a7, a8, _, a10, a11, a12, _, a14, a15, a16, a17, a18, a19, a20, a21] => [a0, a2, a3, a4, a5, a6, a7, a8, a10, a11, a12, a14, a15, a16, a17, a18, a19, a20, a21]
    | l => l } }
theorem open_w : ∀ w : World, (fencedOpening treeTable PySem.Challenge.pw_qd0125_01 w 3260).map (fun s => (s.heap, s.gens, s.drawn, s.toks)) = some (boot_heap w.params, Array.mk [], boot_drawn, boot_toks) :=
  boot_open (by rfl) (by decide) (fun s => by rfl)
theorem size_w (w : World) : ((boot_heap w.params).isNs mainGlobals, (boot_heap w.params).objs.size, (boot_heap w.params).nsMap mainGlobals (Str.ofString "__annotations__")) = (true, 11, some (.ref 6)) := by kernel_rfl
local macro_rules | `(tactic| o_head $H) => `(tactic| (
  refine holds_open (q := Mine.view) (loose := []) (Xt := fun s => xlAt Mine.view [] s && recOk (RowW.records (OpenRow.toRowW PySem.Challenge.rw_qd0125_01.row)) s) (XP := XL Mine.view []) (Yf := Hook.obs $H) (Ya := Hook.val $H) (YP := Hook.says $H) (N := 3260) ?hl (Hook.of $H) (Hook.keeps $H) (fun s e => xl_of s (Bool.and_eq_true_iff.mp e).1) XL.keeps (by rfl) (by rfl) (by rfl) (fun s e => recFacts_of (Bool.and_eq_true_iff.mp e).2) (by rfl) (by first | assumption | decide +kernel) (by decide +kernel) ⟨rfl, rfl, rfl, rfl, rfl, by decide +kernel⟩ ?hw ?hc
  (case hl => exact left_of (obs_eq _) open_w size_w (fun w os => by kernel_rfl))))
set_option maxHeartbeats 8000000 in
open_top hd for PySem.Challenge.rw_qd0125_01
end Mine
namespace Mine
set_option maxHeartbeats 8000000 in
theorem fill : (PySem.Challenge.rw_qd0125_01 = PySem.Challenge.rw_qd0125_01) ∧ (Mine.hd.heap_39 = Mine.hd.heap_39) := by
  k_fill
  exact ⟨rfl, rfl⟩

def Ctc (w : World) (f : Addr) (vs : List Value) (news : List (Addr × Obj)) (R : List (Addr × Obj) → Value → Prop) : Prop :=
  ∀ (mean : ExcName → Option Value) (mg mb : Str → Option Value) (dp un : Nat) (gd : Option (List Code)) (cn : Str) (cs : Scope) (a : Addr) (ccd : Value) (cl : List (Str × Addr)) (outer : List Env) (A₀ : Around) (base h₀ : Heap) (L : Addr) (m : Str → Option Value) (s : Shared) (Q E : Value → Shared → Prop),
    Below A₀ base outer h₀ → Fr h₀ L s.heap m → (Mine.hd.heap_39 w.params).In h₀ → News h₀ L s.heap news → Top Mine.view (looseW Mine.view []) mean mg mb h₀ → cs.kind = .function → dp + 8 < recursionLimit → un + 400 < cLine →
    (∀ r news' h' tk', Fr h₀ L h' m → News h₀ L h' news' → (∀ b o, s.heap.get? b = some o → b ∉ news.map (·.1) → h'.get? b = some o) → R news' r → Q r { s with heap := h', toks := tk' }) →
    wpAny (model PySem.Challenge.rw_qd0125_01.row.prog w) (ktrTop dp un gd cn cs L a ccd cl outer) (call (.ref f) vs) Q E s

structure Tub (w : World) (T D : Addr) (oT oD : Obj) : Prop where
  lo : (T == sysModules) = false
  ne : T ≠ D
  tab : ∃ (h l : Int) (th tl : Tok), oT.IsDictOf (strKind PySem.Challenge.rw_qd0125_01.row.prog w) [(Str.ofString "cells", .ref D), (Str.ofString "held", .int h th), (Str.ofString "later", .int l tl)] ∧ -1 ≤ h ∧ h < 10 ^ 60 ∧ 0 ≤ l ∧ l < 2147483600
  cells : ∃ (us : List Value) (ns : List Int) (n : Nat), oD = listOf us.toArray n ∧ IntsAre us ns ∧ ns.length ≤ 40 ∧ ∀ k ∈ ns, 0 ≤ k ∧ k < 10 ^ 60
theorem news_glue {h₀ H h' : Heap} {L : Addr} {all news' : List (Addr × Obj)} {adr : List Addr} (N : News h₀ L H all) (N' : News h₀ L h' news') (fr : ∀ b o, H.get? b = some o → b ∉ adr → h'.get? b = some o) (keep : List (Addr × Obj)) (hk : ∀ p ∈ keep, p ∈ all) (hn : ∀ p ∈ keep, p.1 ∉ adr) : News h₀ L h' (news' ++ keep) := fun p hp => by
  rcases List.mem_append.mp hp with hp | hp
  · exact N' p hp
  · exact ⟨fr _ _ (N p (hk p hp)).1 (hn p hp), (N p (hk p hp)).2⟩
theorem frame_of {H g h' : Heap} {L' : Addr} {m' : Str → Option Value} {adr : List Addr} (G : GSub H g adr) (F : Fr g L' h' m') : ∀ b o, H.get? b = some o → b ∉ adr → h'.get? b = some o := fun b o e n => F.keep b o (G b o e n)
end Mine
namespace Mine
theorem fm_lo {a b : Int} (h : 0 < b) : 0 ≤ a.fmod b := Int.fmod_nonneg_of_pos a h
theorem fm_hi {a b : Int} (h : 0 < b) : a.fmod b < b := Int.fmod_lt_of_pos a h
theorem fd_lo {a b : Int} (ha : 0 ≤ a) (h : 0 < b) : -1 ≤ a.fdiv b := by
  rw [Int.fdiv_eq_ediv_of_nonneg a (Int.le_of_lt h)]
  have := Int.ediv_nonneg ha (Int.le_of_lt h)
  omega
theorem fd_hi {a b c : Int} (ha : 0 ≤ a) (h : 0 < b) (hc : a < c) : a.fdiv b < c := by
  rw [Int.fdiv_eq_ediv_of_nonneg a (Int.le_of_lt h)]
  exact Int.lt_of_le_of_lt (Int.ediv_le_self _ ha) hc
theorem ints_len : ∀ {vs : List Value} {ns : List Int}, IntsAre vs ns → vs.length = ns.length
  | _, _, .nil => rfl
  | _, _, .cons _ _ r => congrArg (· + 1) (ints_len r)
def Stop0 (P : Prop) : Prop := P
def Mark0 : Prop := True
theorem Stop0.go {P : Prop} (h : Stop0 P) : P := h
def TubPost (w : World) (h₀ : Heap) (L : Addr) (m : Str → Option Value) (T D : Addr) (s : Shared) (fl : Flow) (s' : Shared) : Prop :=
  fl = .next ∧ ∃ oT oD h' tk, s' = { s with heap := h', toks := tk } ∧ Fr h₀ L h' m ∧ News h₀ L h' [(T, oT), (D, oD)] ∧ Tub w T D oT oD
theorem join_tub {prog : Program} {w : World} {A : Around} {E : Value → Shared → Prop} {s : Shared} {env : Env} {h₀ : Heap} {L : Addr} {m : Str → Option Value} {st : Stmt} {Q : Flow → Shared → Prop} (T D : Addr) (_F : Fr h₀ L s.heap m)
    (h1 : wpAny (model prog w) A (exec st env) (TubPost w h₀ L m T D s) E s)
    (h2 : ∀ oT oD h' tk, Fr h₀ L h' m → News h₀ L h' [(T, oT), (D, oD)] → Tub w T D oT oD → Q .next { s with heap := h', toks := tk }) : wpAny (model prog w) A (exec st env) Q E s :=
  wpAny_mono h1 (fun fl s' hq => by
    obtain ⟨rfl, oT, oD, h', tk, rfl, F', N', H'⟩ := hq
    exact h2 oT oD h' tk F' N' H') fun _ _ e => e
local macro_rules | `(tactic| ktr_enter) => `(tactic| (refine' code_defG ?k1 ?k2 ?k3 ?k4 ?k5 ?kA ?kF ?kK ?k6 ?k7 ?k8 ?k9 ?kB ?_ ?c2 ?c3 ?c4 ?c5; (case kA => exact rfl); (case kF => exact rfl); (case kK => assumption); (case k1 => k_asm); (case k2 => k_asm); (case k3 => k_asm); (case k4 => k_asm); (case k5 => k_asm); (case k6 => k_is); (case k7 => k_is); (case k8 => ktr_room); (case k9 => exact BindsTo.of_eq rfl); (case c5 => decide); (case kB => exact locs rfl); (case c2 => exact rfl); (case c3 => exact rfl); (case c4 => exact rfl); k_whole; intro g' L' h' FG' F' N' B' X' T' kG'; (try dsimp only); (try k_fold)))
local macro_rules | `(tactic| units_room) => `(tactic| ktr_units)
local macro_rules | `(tactic| walk_at "binaryOp FloorDiv int int") => `(tactic| (with_reducible refine floordiv_int ?ka ?_ (Or.inl (‹∀ a : Int, Builtin.divisionGoesByPylong a _ = false› _)); (case ka => omega)))
local macro_rules | `(tactic| walk_at "compareOp NotEq ref ref") => `(tactic| (k_dflt (refine' ne_intsK (us := []) (ms := []) ?k1 ?k2 ?k3 IntsAre.nil ?k5 ?_; (case k1 => is_list); (case k2 => first | exact IntsAre.nil | exact IntsAre.cons _ _ (by assumption)); (case k3 => is_list); (case k5 => ktr_units))))
local macro_rules | `(tactic| walk_at "call builtin:list.pop") => `(tactic| (k_dflt (refine' kl_popAt (k := 0) ?F ?N ?f ?k ?e ?U ?z ?_; (case F => k_asm); (case N => k_asm); (case U => k_upd); (case f => rfl); (case k => simp [seqIndex?]); (case e => rfl); (case z => (rw [sizeLine_eq]; (rename List.length _ ≤ 40 => hle4); simp at hle4 ⊢; omega)); kl_rest)))
local macro_rules | `(tactic| walk_at "exec If") => `(tactic| (k_here; (fail_if_success (with_reducible rename Mark0 => mk9)); refine Stop0.go ?_))
set_option maxHeartbeats 8000000 in
theorem dip_c (w : World) (T D : Addr) (oT oD : Obj) (H : Tub w T D oT oD) (most : Int) (tm : Tok) (h0 : 0 < most) (h1 : most ≤ 10 ^ 20) :
    Ctc w 252 [.ref T, .int most tm] [(T, oT), (D, oD)] (fun news' r => ∃ oT' oD' k t, r = .int k t ∧ 0 ≤ k ∧ k < most ∧ Tub w T D oT' oD' ∧ news' = [(T, oT'), (D, oD')]) := by
  unfold Ctc
  intro mean mg mb dp un gd cn cs a ccd cl outer A₀ base h₀ L m s Q E B F X N T' hk hd hu hret
  have ne' : @Ne Nat T D := H.ne
  have lo := H.lo
  have ne := H.ne
  refine wpAny_call ?_
  k_dflt ktr_enter
  have hpm : ∀ a : Int, Builtin.divisionGoesByPylong a most = false := fun a => PyProof.noPylong_of_log2 (by
    refine Nat.lt_of_le_of_lt (m := 67) ?_ (by decide)
    refine Nat.le_of_lt_succ ((Nat.log2_lt (by omega)).mpr ?_)
    omega)
  k_steps
  unfold Stop0
  (with_reducible rename Fr _ _ _ _ => F1)
  refine join_tub T D F1 ?_ ?_
  · have mk8 : Mark0 := trivial
    obtain ⟨_, _, ⟨h, l, th, tl, tab, hlo, hhi, llo, lhi⟩, us, ns, n, rfl, hi, hlen, hin⟩ := H
    cases hi with
    | nil =>
      k_steps
      all_goals (
        unfold TubPost
        (with_reducible rename Fr _ _ _ _ => kF9)
        first
          | (refine ⟨rfl, _, _, _, _, rfl, kF9, ‹_›, ⟨lo, ne, ⟨_, _, _, _, ‹_›, ?_, ?_, ?_, ?_⟩, _, _, _, rfl, IntsAre.nil, hlen, hin⟩⟩ <;> omega)
          | (refine ⟨rfl, _, _, _, _, rfl, kF9, cb_drop ‹News _ _ _ ((_, _) :: (T, _) :: _)› (fun p hp => List.mem_cons_of_mem _ hp), ⟨lo, ne, ⟨_, _, _, _, ‹_›, ?_, ?_, ?_, ?_⟩, _, _, _, rfl, IntsAre.nil, hlen, hin⟩⟩ <;> omega))
    | cons k t hr =>
      have hul := ints_len hr
      have hk0 := hin k (.head _)
      k_steps
      all_goals (
        unfold TubPost
        (with_reducible rename Fr _ _ _ _ => kF9)
        first
          | (refine ⟨rfl, _, _, _, _, rfl, kF9, ‹_›, ⟨lo, ne, ⟨_, _, _, _, ‹_›, ?_, ?_, ?_, ?_⟩, _, _, _, rfl, IntsAre.cons _ _ hr, hlen, hin⟩⟩ <;> omega)
          | (refine ⟨rfl, _, _, _, _, rfl, kF9, cb_drop ‹News _ _ _ ((_, _) :: (T, _) :: _)› (fun p hp => List.mem_cons_of_mem _ hp), ⟨lo, ne, ⟨_, _, _, _, ‹_›, ?_, ?_, ?_, ?_⟩, _, _, _, rfl, IntsAre.cons _ _ hr, hlen, hin⟩⟩ <;> omega)
          | (refine ⟨rfl, _, _, _, _, rfl, kF9, ‹_›, ⟨lo, ne, ⟨_, _, _, _, ‹_›, ?_, ?_, ?_, ?_⟩, _, _, _, rfl, hr, (by simp at hlen ⊢; omega), (fun k hk => hin k (.tail _ hk))⟩⟩ <;> omega)
          | (refine ⟨rfl, _, _, _, _, rfl, kF9, cb_drop ‹News _ _ _ ((_, _) :: (T, _) :: _)› (fun p hp => List.mem_cons_of_mem _ hp), ⟨lo, ne, ⟨_, _, _, _, ‹_›, ?_, ?_, ?_, ?_⟩, _, _, _, rfl, hr, (by simp at hlen ⊢; omega), (fun k hk => hin k (.tail _ hk))⟩⟩ <;> omega))
  intro oT2 oD2 h2 tk2 F2 N2 H2
  clear H
  have mk8 : Mark0 := trivial
  obtain ⟨_, _, ⟨h, l, th, tl, tab, hlo, hhi, llo, lhi⟩, us, ns, n, rfl, hi, hlen, hin⟩ := H2
  (try dsimp only)
  (try k_sweep)
  (try k_fold)
  k_steps
  all_goals (
    (with_reducible rename Fr h₀ L _ _ => kF9)
    (with_reducible rename GSub _ _ _ => kG9)
    refine hret _ [(T, _), (D, _)] _ _ kF9 ‹_› (frame_of kG9 ‹_›) ⟨_, _, _, _, rfl, fm_lo h0, fm_hi h0, ⟨lo, ne, ⟨_, _, _, _, ‹_›, ?_, ?_, ?_, ?_⟩, _, _, _, rfl, hi, hlen, hin⟩, rfl⟩ <;> (first | exact fd_lo (by omega) h0 | exact fd_hi (by omega) h0 (by omega) | exact fm_lo (by omega) | exact Int.lt_trans (fm_hi (by omega)) (by omega) | omega))
end Mine
namespace Mine
def TubC (w : World) (f : Addr) (vs : List Value) (T D : Addr) (P : Value → Prop) : Prop :=
  ∀ oT oD, Tub w T D oT oD → Ctc w f vs [(T, oT), (D, oD)] (fun news' r => ∃ oT' oD', P r ∧ Tub w T D oT' oD' ∧ news' = [(T, oT'), (D, oD')])
theorem dip_t (w : World) (T D : Addr) (most : Int) (tm : Tok) (h0 : 0 < most) (h1 : most ≤ 10 ^ 20) : TubC w 252 [.ref T, .int most tm] T D (fun r => ∃ k t, r = .int k t ∧ 0 ≤ k ∧ k < most) := by
  intro oT oD H
  have C := dip_c w T D oT oD H most tm h0 h1
  unfold Ctc at C ⊢
  intro mean mg mb dp un gd cn cs a ccd cl outer A₀ base h₀ L m s Q E B F X N T' hk hd hu hret
  refine C mean mg mb dp un gd cn cs a ccd cl outer A₀ base h₀ L m s Q E B F X N T' hk hd hu fun r news' h' tk' F' N' fr hR => ?_
  obtain ⟨oT', oD', k, t, e, lo, hi, H', en⟩ := hR
  exact hret r news' h' tk' F' N' fr ⟨oT', oD', ⟨k, t, e, lo, hi⟩, H', en⟩
theorem tub_use {w : World} {f : Addr} {vs : List Value} {T D : Addr} {P : Value → Prop} {oT oD : Obj} {mean : ExcName → Option Value} {mg mb : Str → Option Value} {dp un : Nat} {gd : Option (List Code)} {cn : Str} {cs : Scope} {a : Addr} {ccd : Value} {cl : List (Str × Addr)} {outer : List Env} {A₀ : Around} {base h₀ : Heap} {L : Addr} {m : Str → Option Value} {s : Shared} {Q E : Value → Shared → Prop}
    {all : List (Addr × Obj)} {g : Obj → List (Addr × Obj)} {g2 : Obj → Obj → List (Addr × Obj)}
    (B : Below A₀ base outer h₀) (F : Fr h₀ L s.heap m) (X : (Mine.hd.heap_39 w.params).In h₀) (N : News h₀ L s.heap all) (T' : Top Mine.view (looseW Mine.view []) mean mg mb h₀) (hk : cs.kind = .function)
    (U : UpdF T oT all g) (H : Tub w T D oT oD) (V : ∀ o, UpdF D oD (g o) (g2 o)) (C : TubC w f vs T D P) (hd : dp + 8 < recursionLimit) (hu : un + 400 < cLine)
    (ret : ∀ r oT' oD' h' tk', Fr h₀ L h' m → News h₀ L h' (g2 oT' oD') → P r → Tub w T D oT' oD' → Q r { s with heap := h', toks := tk' }) :
    wpAny (model PySem.Challenge.rw_qd0125_01.row.prog w) (ktrTop dp un gd cn cs L a ccd cl outer) (call (.ref f) vs) Q E s := by
  obtain ⟨pre, post, rfl, hg, a1, b1⟩ := U.split
  have hDm : (D, oD) ∈ pre ++ (T, oT) :: post := by
    obtain ⟨pre', post', e, _, _, _⟩ := (V oT).split
    have : (D, oD) ∈ g oT := by rw [e]; exact List.mem_append_right _ (.head _)
    rwa [hg oT] at this
  refine C oT oD H mean mg mb dp un gd cn cs a ccd cl outer A₀ base h₀ L m s Q E B F X (cb_drop N fun p hp => ?_) T' hk hd hu fun r news' h' tk' F' N' fr hR => ?_
  · rcases List.mem_cons.mp hp with rfl | hp
    · exact List.mem_append_right _ (.head _)
    · rcases List.mem_cons.mp hp with rfl | hp
      · exact hDm
      · nomatch hp
  · obtain ⟨oT', oD', hP, H', rfl⟩ := hR
    refine ret r oT' oD' h' tk' F' (fun p hp => ?_) hP H'
    obtain ⟨pre', post', e, hg', a2, b2⟩ := (V oT').split
    rw [hg' oD'] at hp
    have hgT := hg oT'
    rw [e] at hgT
    have key : ∀ q, q ∈ pre' ∨ q ∈ post' → q.1 ≠ D → q = (T, oT') ∨ (q ∈ pre ++ (T, oT) :: post ∧ q.1 ≠ T) := fun q hq _ => by
      have : q ∈ pre' ++ (D, oD) :: post' := by
        rcases hq with hq | hq
        · exact List.mem_append_left _ hq
        · exact List.mem_append_right _ (.tail _ hq)
      rw [hgT] at this
      rcases List.mem_append.mp this with h | h
      · exact .inr ⟨List.mem_append_left _ h, a1 q h⟩
      · rcases List.mem_cons.mp h with rfl | h
        · exact .inl rfl
        · exact .inr ⟨List.mem_append_right _ (.tail _ h), b1 q h⟩
    have fin : ∀ q, q ∈ pre' ∨ q ∈ post' → q.1 ≠ D → h'.get? q.1 = some q.2 ∧ q.1 ≠ L ∧ h₀.get? q.1 = none := fun q hq hn => by
      rcases key q hq hn with rfl | ⟨hq, hT⟩
      · exact N' _ (.head _)
      · refine ⟨fr _ _ (N q hq).1 ?_, (N q hq).2⟩
        simp only [List.map_cons, List.map_nil, List.mem_cons, List.not_mem_nil, or_false, not_or]
        exact ⟨hT, hn⟩
    rcases List.mem_append.mp hp with h | h
    · exact fin p (.inl h) (a2 p h)
    · rcases List.mem_cons.mp h with rfl | h
      · exact N' _ (.tail _ (.head _))
      · exact fin p (.inr h) (b2 p h)
end Mine
namespace Mine
theorem rev_sliced (b : Array UInt8) : Builtin.Bytes.sliced b ((b.size : Int) - 1) (-1) (-1) = b.toList.reverse.toArray := by
  unfold Builtin.Bytes.sliced
  rw [krv_sliceRange, krv_range, List.filterMap_reverse, krv_all]
theorem rev_ints (b : Array UInt8) : KBw.bInts b.toList.reverse.toArray = (KBw.bInts b).reverse := by
  simp [KBw.bInts, List.map_reverse]
theorem meets_rev (b : Array UInt8) (t : Tok) (a : Addr) (ti : Tok) :
    Meets (Builtin.«bytes.__getitem__» ⟨[.bytes b t, .ref a], []⟩) (fun _ R s => s.heap.IsSliceOf a .none .none (.int (-1) ti) ∧ b.size ≤ sizeLine ∧ ∀ t' k, R (.ok (.ret (.bytes b.toList.reverse.toArray t'))) { s with toks := k }) := by
  refine .of_wp fun prog w A R s hS => ?_
  obtain ⟨⟨o, ho, hc, hd⟩, hsz, h⟩ := hS
  have hT : s.TypeIs (.ref a) "slice" := ⟨o, ho, hc⟩
  show wpAny _ _ (Builtin.Bytes.payload (.bytes b t) >>= fun r => _) _ _ s
  refine wpAny_bind (wpAny_of_eq (a := b) rfl ?_)
  show wpAny _ _ (Builtin.Bytes.subscript? (.ref a) >>= fun r => _) _ _ s
  refine wpAny_bind ?_
  unfold Builtin.Bytes.subscript?
  refine wpAny_bind (wpAny_specialOf hT slice_no_index (wpAny_pure ?_))
  refine wpAny_bind (wpAny_typeOf hT ?_)
  show wpAny _ _ (Builtin.Bytes.sliceParts (.ref a) >>= fun r => _) _ _ s
  refine wpAny_bind ?_
  unfold Builtin.Bytes.sliceParts
  refine wpAny_bind (wpAny_field (x := .int (-1) ti) ho hd rfl ?_)
  refine wpAny_bind (wpAny_ite (KBy.ite_no (show ¬ ((Value.int _ _ == Value.none) = true) from Bool.false_ne_true) ?_))
  refine wpAny_bind (wpAny_specialOf (T := "int") (typeIs_int _ _ _) F.slot_int_index.lookup ?_)
  refine wpAny_ite (KBy.ite_no (show ¬ (Option.isNone (some _) = true) from Bool.false_ne_true) ?_)
  refine wpAny_bind (wpAny_of_eq rfl (wpAny_pure ?_))
  refine wpAny_ite (KBy.ite_no (show ¬ ((rawInt (-1) == rawInt 0) = true) from by decide) ?_)
  refine wpAny_bind (wpAny_field (x := .none) ho hd rfl ?_)
  kby_none
  refine wpAny_bind (wpAny_field (x := .none) ho hd rfl ?_)
  kby_none
  refine wpAny_pure ?_
  have go : wpAny (model prog w) A.in1 (sliceIndices (rawPart none) (rawPart none) (rawPart (some (-1))) b.size) (fun r s' => r = sliceBounds none none (some (-1)) b.size ∧ s' = s) (fun _ _ => False) s :=
    wpAny_of_eq (sliceIndices_raw none none (some (-1)) b.size (by decide)) ⟨rfl, rfl⟩
  refine wpAny_bind (wpAny_mono go (fun r s' hr => ?_) fun _ _ e => e.elim)
  obtain ⟨hr1, hr2⟩ := hr
  subst hr1 hr2
  rw [krv_bounds]
  refine wpAny_ite (KBy.ite_no ?_ ?_)
  · simp
  · dsimp only
    rw [rev_sliced]
    exact wpAny_bind (wpAny_mkBytes (wpAny_pure ⟨_, rfl, h _ _⟩) (by simpa using hsz))
section
variable {prog : Program} {w : World} {A : Around} {E : Value → Shared → Prop} {s : Shared} {value slice : PySem.Expr} {b : Array UInt8} {t ti : Tok} {h₀ : Heap} {L : Addr} {m : PySem.Str → Option Value} {news : List (Addr × Obj)} {Q : Value → Shared → Prop}
theorem slice_rev (hF : Fr h₀ L s.heap m) (hN : News h₀ L s.heap news) (hz : b.size ≤ 16777216)
    (h : ∀ h' t' k, Fr h₀ L h' m → News h₀ L h' news → Q (.bytes b.toList.reverse.toArray t') { s with heap := h', toks := k })
    (hs : subscripted slice false (.bytes b t) (.ref s.heap.objs.size) = operate [.ref s.heap.objs.size, .bytes b t] (getItem (.bytes b t) (.ref s.heap.objs.size)) := by with_unfolding_all rfl)
    (ht : ∀ r, letTemporaryGo value (.bytes b t) r = pure () := by intro _; with_unfolding_all rfl) :
    wpAny (model prog w) A (subscriptTail value slice (.bytes b t) (.ref s.heap.objs.size)) Q E { s with heap := s.heap.push { cls := .type "slice", data := .fields #[.none, .none, .int (-1) ti] } } :=
  tail_of_ItemOn ⟨"bytes", _, FB.slot_bytes_getitem.lookup, typeIs_bytes _ _ _, getItem_meets (typeIs_bytes _ _ _) (by decide) FB.slot_bytes_getitem FB.entry_bytes_getitem (FB.args_bytes_getitem_2 _ _) (meets_rev b t _ ti)
    ⟨Heap.IsSliceOf.new _ _ _ _, by rw [sizeLine_eq]; exact hz, fun t' k => h _ _ _ (hF.push _) (News.pushKeep hN _)⟩⟩ hs ht
end
end Mine
namespace Mine
def BytC (w : World) (f : Addr) (vs : List Value) (P : Value → Prop) : Prop := Ctc w f vs [] (fun _ r => P r)
noncomputable def val : List Int → Int
  | [] => 0
  | c :: r => (c - 48) * 10 ^ r.length + val r
theorem sum_step {t w n : Int} {pre : List Int} (h : t = val pre.reverse ∧ w = 10 ^ pre.length) : t + w * (n - 48) = val (pre ++ [n]).reverse ∧ 10 * w = 10 ^ (pre ++ [n]).length := by
  obtain ⟨h1, h2⟩ := h
  subst h1 h2
  constructor
  · rw [List.reverse_append]
    show _ = (n - 48) * 10 ^ pre.reverse.length + val pre.reverse
    rw [List.length_reverse, Int.mul_comm (10 ^ pre.length), Int.add_comm]
  · rw [List.length_append, List.length_singleton, Int.pow_succ, Int.mul_comm]
local macro_rules | `(tactic| ktr_enter) => `(tactic| (refine' code_defG ?k1 ?k2 ?k3 ?k4 ?k5 ?kA ?kF ?kK ?k6 ?k7 ?k8 ?k9 ?kB ?_ ?c2 ?c3 ?c4 ?c5; (case kA => exact rfl); (case kF => exact rfl); (case kK => assumption); (case k1 => k_asm); (case k2 => k_asm); (case k3 => k_asm); (case k4 => k_asm); (case k5 => k_asm); (case k6 => k_is); (case k7 => k_is); (case k8 => ktr_room); (case k9 => exact BindsTo.of_eq rfl); (case c5 => decide); (case kB => exact locs rfl); (case c2 => exact rfl); (case c3 => exact rfl); (case c4 => exact rfl); k_whole; intro g' L' h' FG' F' N' B' X' T' kG'; (try dsimp only); (try k_fold)))
local macro_rules | `(tactic| units_room) => `(tactic| ktr_units)
local macro_rules | `(tactic| k_room) => `(tactic| ktr_room)
local macro_rules | `(tactic| walk_at "subscriptTail") => `(tactic| (k_here; (with_reducible show wpAny _ _ (subscriptTail _ (Expr.Slice none none (some _) _) (Value.bytes _ _) (Value.ref _)) _ _ _); (with_reducible rename Fr _ _ _ _ => F'); (with_reducible rename News _ _ _ _ => N'); (refine slice_rev (s := ⟨_, _, _, _, _⟩) F' N' (by omega) ?_); intro _ _ _ _ _))
local macro_rules | `(tactic| walk_at "exec For Name Subscript cons nil") => `(tactic| (k_here; (rename Fr _ _ _ _ => lF'); (with_unfolding_all refine' For_invVF lF' ?k1 ?k2 ?_; (case k1 => exact rfl); (case k2 => exact rfl); k_whole)))
set_option maxHeartbeats 8000000 in
theorem sum_c (w : World) (b : Array UInt8) (t : Tok) (hb : b.size ≤ 4000) : BytC w 264 [.bytes b t] (fun r => ∃ t', r = .int (val (KBw.bInts b)) t') := by
  unfold BytC Ctc
  intro mean mg mb dp un gd cn cs a ccd cl outer A₀ base h₀ L m s Q E B F X N T' hk hd hu hret
  refine wpAny_call ?_
  k_dflt ktr_enter
  k_with "pyIter bytes" => (k_state (fun pre total worth => total = val pre.reverse ∧ worth = 10 ^ pre.length) "total" "worth")
  k_with "state" => (first | exact sum_step ⟨‹_›, ‹_›⟩ | kst_p1)
  k_steps
  (with_reducible rename Fr h₀ L _ _ => kF9)
  (with_reducible rename GSub _ _ _ => kG9)
  refine hret _ [] _ _ kF9 (fun _ h => nomatch h) (frame_of kG9 ‹_›) ⟨_, congrArg (Value.int · _) ?_⟩
  (with_reducible rename (_ : Int) = val _ => hv9)
  refine hv9.trans (congrArg val ?_)
  rw [List.map_reverse, List.reverse_reverse]
  rfl
end Mine
namespace Mine
theorem byt_use {w : World} {f : Addr} {vs : List Value} {R : List (Addr × Obj) → Value → Prop} {mean : ExcName → Option Value} {mg mb : Str → Option Value} {dp un : Nat} {gd : Option (List Code)} {cn : Str} {cs : Scope} {a : Addr} {ccd : Value} {cl : List (Str × Addr)} {outer : List Env} {A₀ : Around} {base h₀ : Heap} {L : Addr} {m : Str → Option Value} {s : Shared} {Q E : Value → Shared → Prop}
    {all : List (Addr × Obj)}
    (B : Below A₀ base outer h₀) (F : Fr h₀ L s.heap m) (X : (Mine.hd.heap_39 w.params).In h₀) (N : News h₀ L s.heap all) (T' : Top Mine.view (looseW Mine.view []) mean mg mb h₀) (hk : cs.kind = .function)
    (C : Ctc w f vs [] R) (hd : dp + 8 < recursionLimit) (hu : un + 400 < cLine)
    (ret : ∀ r news' h' tk', Fr h₀ L h' m → News h₀ L h' (news' ++ all) → R news' r → Q r { s with heap := h', toks := tk' }) :
    wpAny (model PySem.Challenge.rw_qd0125_01.row.prog w) (ktrTop dp un gd cn cs L a ccd cl outer) (call (.ref f) vs) Q E s := by
  refine C mean mg mb dp un gd cn cs a ccd cl outer A₀ base h₀ L m s Q E B F X (fun _ h => nomatch h) T' hk hd hu fun r news' h' tk' F' N' fr hR => ?_
  exact ret r news' h' tk' F' (fun p hp => (List.mem_append.mp hp).elim (N' p) fun hp => ⟨fr _ _ (N p hp).1 (fun h => nomatch h), (N p hp).2⟩) hR
theorem byt_use0 {w : World} {f : Addr} {vs : List Value} {P : Value → Prop} {mean : ExcName → Option Value} {mg mb : Str → Option Value} {dp un : Nat} {gd : Option (List Code)} {cn : Str} {cs : Scope} {a : Addr} {ccd : Value} {cl : List (Str × Addr)} {outer : List Env} {A₀ : Around} {base h₀ : Heap} {L : Addr} {m : Str → Option Value} {s : Shared} {Q E : Value → Shared → Prop}
    {all : List (Addr × Obj)}
    (B : Below A₀ base outer h₀) (F : Fr h₀ L s.heap m) (X : (Mine.hd.heap_39 w.params).In h₀) (N : News h₀ L s.heap all) (T' : Top Mine.view (looseW Mine.view []) mean mg mb h₀) (hk : cs.kind = .function)
    (C : BytC w f vs P) (hd : dp + 8 < recursionLimit) (hu : un + 400 < cLine)
    (ret : ∀ r h' tk', Fr h₀ L h' m → News h₀ L h' all → P r → Q r { s with heap := h', toks := tk' }) :
    wpAny (model PySem.Challenge.rw_qd0125_01.row.prog w) (ktrTop dp un gd cn cs L a ccd cl outer) (call (.ref f) vs) Q E s :=
  byt_use B F X N T' hk C hd hu fun r _ h' tk' F' N' hP => ret r h' tk' F' (cb_drop N' fun _ hp => List.mem_append_right _ hp) hP
theorem sum_k (w : World) (b : Array UInt8) (t : Tok) {ks : List Int} (hB : KBw.bInts b = ks) (hz : ks.length ≤ 4000) : BytC w 264 [.bytes b t] (fun r => ∃ t', r = .int (val ks) t') := by
  subst hB
  exact sum_c w b t (by rwa [KBw.ints_length] at hz)
end Mine
namespace Mine
noncomputable def rst (n t p c : Int) : Option (Int × Int × Int) :=
  if c = 46 ∧ p < 0 then some (n, t, 0)
  else if 48 ≤ c ∧ c ≤ 57 then (if n + 1 > 40 then none else some (n + 1, 10 * t + c - 48, if p < 0 then p else p + 1))
  else none
noncomputable def rrun : List Int → Int → Int → Int → Option (Int × Int × Int)
  | [], n, t, p => some (n, t, p)
  | c :: r, n, t, p => match rst n t p c with
    | none => none
    | some (n', t', p') => rrun r n' t' p'
theorem rrun_app (c : Int) (post : List Int) : ∀ (pre : List Int) (n t p n' t' p' : Int), rrun pre n t p = some (n', t', p') → rrun (pre ++ c :: post) n t p = rrun (c :: post) n' t' p'
  | [], n, t, p, n', t', p', h => by
    simp only [rrun, Option.some.injEq, Prod.mk.injEq] at h
    obtain ⟨rfl, rfl, rfl⟩ := h
    rfl
  | d :: pre, n, t, p, n', t', p', h => by
    rw [List.cons_append]
    unfold rrun at h ⊢
    cases e : rst n t p d with
    | none => rw [e] at h; cases h
    | some z =>
      rw [e] at h
      obtain ⟨a, b, q⟩ := z
      exact rrun_app c post pre a b q n' t' p' h
def RInv (pre : List Int) (n t p : Int) : Prop := rrun pre 0 0 (-1) = some (n, t, p) ∧ 0 ≤ n ∧ n ≤ (pre.length : Int) ∧ -1 ≤ p
theorem rinv_step {pre : List Int} {n t p c n' t' p' : Int} (h : RInv pre n t p) (e : rst n t p c = some (n', t', p')) (hn : 0 ≤ n') (hn' : n' ≤ n + 1) (hp : -1 ≤ p') : RInv (pre ++ [c]) n' t' p' := by
  obtain ⟨h1, h2, h3, h4⟩ := h
  refine ⟨?_, hn, ?_, hp⟩
  · rw [rrun_app c [] pre _ _ _ _ _ _ h1]
    unfold rrun
    rw [e]
    rfl
  · rw [List.length_append, List.length_singleton]
    omega
theorem rinv_0 : RInv [] 0 0 (-1) := ⟨rfl, by decide, by decide, by decide⟩
theorem rinv_pt {pre : List Int} {n t p c : Int} (h : RInv pre n t p) (hc : c = 46) (hp : p < 0) : RInv (pre ++ [c]) n t 0 :=
  rinv_step h (by unfold rst; rw [if_pos ⟨hc, hp⟩]) h.2.1 (by omega) (by omega)
theorem rinv_f1 {pre : List Int} {n t p c : Int} (h : RInv pre n t p) (hc : c = 46 → ¬ p < 0) (h1 : 48 ≤ c) (h2 : c ≤ 57) (hn : ¬ n + 1 > 40) (hp : ¬ p < 0) : RInv (pre ++ [c]) (n + 1) (10 * t + c - 48) (p + 1) :=
  rinv_step h (by unfold rst; rw [if_neg (fun q => hc q.1 q.2), if_pos ⟨h1, h2⟩, if_neg hn, if_neg hp]) (by have := h.2.1; omega) (by omega) (by have := h.2.2.2; omega)
theorem rinv_f2 {pre : List Int} {n t p c : Int} (h : RInv pre n t p) (hc : c = 46 → ¬ p < 0) (h1 : 48 ≤ c) (h2 : c ≤ 57) (hn : ¬ n + 1 > 40) (hp : p < 0) : RInv (pre ++ [c]) (n + 1) (10 * t + c - 48) p :=
  rinv_step h (by unfold rst; rw [if_neg (fun q => hc q.1 q.2), if_pos ⟨h1, h2⟩, if_neg hn, if_pos hp]) (by have := h.2.1; omega) (by omega) (by have := h.2.2.2; omega)
theorem rrun_none {pre post ks : List Int} {n t p c : Int} (h : RInv pre n t p) (e : ks = pre ++ c :: post) (hr : rst n t p c = none) : rrun ks 0 0 (-1) = none := by
  subst e
  rw [rrun_app c post pre _ _ _ _ _ _ h.1]
  unfold rrun
  rw [hr]
theorem rst_none1 {n t p c : Int} (hc : c = 46 → ¬ p < 0) (h : ¬ (48 ≤ c ∧ c ≤ 57)) : rst n t p c = none := by
  unfold rst
  rw [if_neg (fun q => hc q.1 q.2), if_neg h]
theorem rst_none2 {n t p c : Int} (hc : c = 46 → ¬ p < 0) (h1 : 48 ≤ c) (h2 : c ≤ 57) (hn : n + 1 > 40) : rst n t p c = none := by
  unfold rst
  rw [if_neg (fun q => hc q.1 q.2), if_pos ⟨h1, h2⟩, if_pos hn]
noncomputable def begunOf (ks : List Int) : Nat := if ks.getD 0 0 = 43 ∨ ks.getD 0 0 = 45 then 1 else 0
noncomputable def readF (ks : List Int) : Option (Int × Int) :=
  match rrun (ks.drop (begunOf ks)) 0 0 (-1) with
  | none => none
  | some (n, t, p) => if n = 0 then none else some (if ks.getD 0 0 = 45 then -t else t, p)
noncomputable def norm : Int → Nat → Int × Int
  | t, 0 => (t, 0)
  | t, n + 1 => if t.fmod 10 = 0 then norm (t.fdiv 10) n else (t, n + 1)
theorem norm_step {t p : Int} {N : Int × Int} (h : norm t p.toNat = N) (hp : 0 ≤ p) (h1 : 0 < p) (h2 : t.fmod 10 = 0) : norm (t.fdiv 10) (p - 1).toNat = N ∧ 0 ≤ p - 1 := by
  refine ⟨?_, by omega⟩
  have e : p.toNat = (p - 1).toNat + 1 := by omega
  rw [e] at h
  unfold norm at h
  rwa [if_pos h2] at h
theorem norm_end1 {t p : Int} {N : Int × Int} (h : norm t p.toNat = N) (hp : 0 ≤ p) (h1 : ¬ 0 < p) : N = (t, p) := by
  have e : p = 0 := by omega
  subst e
  rw [← h]
  rfl
theorem norm_end2 {t p : Int} {N : Int × Int} (h : norm t p.toNat = N) (hp : 0 ≤ p) (h2 : ¬ t.fmod 10 = 0) : N = (t, p) := by
  by_cases h1 : 0 < p
  · have e : p.toNat = (p - 1).toNat + 1 := by omega
    rw [e] at h
    unfold norm at h
    rw [if_neg h2] at h
    rw [← h]
    congr 1
    omega
  · exact norm_end1 h hp h1
theorem cut_take (k : Int) (ks : List Int) : List.take (ks.length - clipAt ks.length k) (List.drop (clipAt ks.length k) ks) = List.drop (clipAt ks.length k) ks := by
  apply List.take_of_length_le
  rw [List.length_drop]
  exact Nat.le_refl _
theorem clip1 (ks : List Int) : List.drop (clipAt ks.length 1) ks = ks.drop 1 := by
  have e : clipAt ks.length 1 = min 1 ks.length := clipAt_nat _ 1
  rw [e]
  cases ks with
  | nil => rfl
  | cons c r => rw [List.length_cons, Nat.min_eq_left (by omega)]
theorem clip0 (ks : List Int) : List.drop (clipAt ks.length 0) ks = ks.drop 0 := by
  have e : clipAt ks.length 0 = min 0 ks.length := clipAt_nat _ 0
  rw [e, Nat.zero_min]
def Cut (ks ks' : List Int) : Prop := ks.drop (begunOf ks) = ks'
theorem dr43 {ks : List Int} (h : ks.getD 0 0 = 43) : Cut ks (List.take (ks.length - clipAt ks.length 1) (List.drop (clipAt ks.length 1) ks)) := by
  unfold Cut begunOf
  rw [if_pos (.inl h), cut_take, clip1]
theorem dr45 {ks : List Int} (h : ks.getD 0 0 = 45) : Cut ks (List.take (ks.length - clipAt ks.length 1) (List.drop (clipAt ks.length 1) ks)) := by
  unfold Cut begunOf
  rw [if_pos (.inr h), cut_take, clip1]
theorem dr0 {ks : List Int} (h : ks.getD 0 0 ≠ 43) (h' : ks.getD 0 0 ≠ 45) : Cut ks (List.take (ks.length - clipAt ks.length 0) (List.drop (clipAt ks.length 0) ks)) := by
  unfold Cut begunOf
  rw [if_neg (fun q => q.elim h h'), cut_take, clip0]
theorem drE {ks : List Int} (h : ¬ 0 < (ks.length : Int)) : Cut ks (List.take (ks.length - clipAt ks.length 0) (List.drop (clipAt ks.length 0) ks)) := by
  have e : ks = [] := List.eq_nil_of_length_eq_zero (by omega)
  subst e
  rfl
theorem read_none1 {ks ks' pre post : List Int} {n t p c : Int} (e : ks' = pre ++ c :: post) (h : RInv pre n t p) (hr : rst n t p c = none) (hk : Cut ks ks') : readF ks = none := by
  unfold readF
  rw [hk, rrun_none h e hr]
theorem read_none2 {ks ks' : List Int} {n t p : Int} (h : RInv ks' n t p) (hn : n = 0) (hk : Cut ks ks') : readF ks = none := by
  unfold readF
  rw [hk, h.1]
  show (if n = 0 then none else _) = none
  rw [if_pos hn]
theorem read_m {ks ks' : List Int} {n t p : Int} (h : RInv ks' n t p) (hn : n ≠ 0) (h45 : ks.getD 0 0 = 45) (hk : Cut ks ks') : readF ks = some (-t, p) := by
  unfold readF
  rw [hk, h.1]
  show (if n = 0 then none else some (if ks.getD 0 0 = 45 then -t else t, p)) = _
  rw [if_neg hn, if_pos h45]
theorem read_p {ks ks' : List Int} {n t p : Int} (h : RInv ks' n t p) (hn : n ≠ 0) (h45 : ks.getD 0 0 ≠ 45) (hk : Cut ks ks') : readF ks = some (t, p) := by
  unfold readF
  rw [hk, h.1]
  show (if n = 0 then none else some (if ks.getD 0 0 = 45 then -t else t, p)) = _
  rw [if_neg hn, if_neg h45]
theorem read_empty {ks : List Int} {n t p : Int} (hE : ¬ 0 < (ks.length : Int)) (h : RInv (List.take (ks.length - clipAt ks.length 0) (List.drop (clipAt ks.length 0) ks)) n t p) (hn : n ≠ 0) : False := by
  have h2 := h.2.1
  have h3 := h.2.2.1
  rw [List.length_take, List.length_drop] at h3
  omega
abbrev decObj (w : World) (a q : Int) (u1 u2 u3 u4 : Tok) : Obj := dictOf [{ hash := PyData.keyHash w.params (Str.ofString "top"), key := .str (Str.ofString "top") u1, val := .int a u2 }, { hash := PyData.keyHash w.params (Str.ofString "places"), key := .str (Str.ofString "places") u3, val := .int q u4 }] 2
inductive RdR (w : World) (ks : List Int) : List (Addr × Obj) → Value → Prop
  | no (n : List (Addr × Obj)) : readF ks = none → RdR w ks n .none
  | int (n : List (Addr × Obj)) (t p : Int) (u : Tok) : readF ks = some (t, p) → p < 0 → RdR w ks n (.int t u)
  | dec (t p a q : Int) (x dx : Addr) (u1 u2 u3 u4 : Tok) : readF ks = some (t, p) → ¬ p < 0 → norm t p.toNat = (a, q) → @LT.lt Nat _ dx x → RdR w ks [(x, instObj 115 dx), (dx, decObj w a q u1 u2 u3 u4)] (.ref x)
end Mine
namespace Mine
def Stop (P : Prop) : Prop := P
def Mark : Prop := True
theorem Stop.go {P : Prop} (h : Stop P) : P := h
theorem fr_eq {h₀ h : Heap} {L : Addr} {m m' : Str → Option Value} (F : Fr h₀ L h m) (e : ∀ y, m y = m' y) : Fr h₀ L h m' := by
  have : m = m' := funext e
  subst this
  exact F
theorem fr_same {h₀ h : Heap} {L : Addr} {m : Str → Option Value} {x : Str} {v : Value} (F : Fr h₀ L h m) (hx : m x = some v) : Fr h₀ L h (fun y => if y = x then some v else m y) :=
  fr_eq F fun y => by
    by_cases e : y = x
    · rw [if_pos e, e, hx]
    · rw [if_neg e]
theorem fr_any {h₀ h : Heap} {L : Addr} {m : Str → Option Value} (F : Fr h₀ L h m) : ∃ m', Fr h₀ L h m' := ⟨m, F⟩
theorem fr_gen1 {h₀ h : Heap} {L : Addr} {m : Str → Option Value} {x : Str} {v : Value} (F : Fr h₀ L h m) (hx : m x = some v) : ∃ m' : Str → Option Value, Fr h₀ L h (fun y => if y = x then some v else m' y) := ⟨m, fr_same F hx⟩
theorem fr_gen2 {h₀ h : Heap} {L : Addr} {m : Str → Option Value} {x1 x2 : Str} {v1 v2 : Value} (F : Fr h₀ L h m) (h1 : m x1 = some v1) (h2 : m x2 = some v2) :
    ∃ m' : Str → Option Value, Fr h₀ L h (fun y => if y = x1 then some v1 else if y = x2 then some v2 else m' y) :=
  ⟨m, fr_eq F fun y => by
    by_cases e1 : y = x1
    · rw [if_pos e1, e1, h1]
    · rw [if_neg e1]
      by_cases e2 : y = x2
      · rw [if_pos e2, e2, h2]
      · rw [if_neg e2]⟩
theorem fr_gen3 {h₀ h : Heap} {L : Addr} {m : Str → Option Value} {x1 x2 x3 : Str} {v1 v2 v3 : Value} (F : Fr h₀ L h m) (h1 : m x1 = some v1) (h2 : m x2 = some v2) (h3 : m x3 = some v3) :
    ∃ m' : Str → Option Value, Fr h₀ L h (fun y => if y = x1 then some v1 else if y = x2 then some v2 else if y = x3 then some v3 else m' y) :=
  ⟨m, fr_eq F fun y => by
    by_cases e1 : y = x1
    · rw [if_pos e1, e1, h1]
    · rw [if_neg e1]
      by_cases e2 : y = x2
      · rw [if_pos e2, e2, h2]
      · rw [if_neg e2]
        by_cases e3 : y = x3
        · rw [if_pos e3, e3, h3]
        · rw [if_neg e3]⟩
noncomputable def upd (m : Str → Option Value) (x : Str) (v : Value) : Str → Option Value := fun y => if y = x then some v else m y
section
variable {M : Model} {A : Around} {E : Value → Shared → Prop} {s : Shared} {h₀ : Heap} {L a : Addr} {m : Str → Option Value} {cn x : Str} {cs : Scope} {ccd v : Value} {cl : List (Str × Addr)} {news : List (Addr × Obj)} {Q : Unit → Shared → Prop}
theorem storeU (F : Fr h₀ L s.heap m) (N : News h₀ L s.heap news) (h : ∀ h' tk', Fr h₀ L h' (upd m x v) → News h₀ L h' news → Q () { s with heap := h', toks := tk' })
    (hk : cs.kind = .function := by rfl) (hx : (envX cn cs L a ccd cl).kindOf x = some .local := by rfl) : wpAny M A (storeName (envX cn cs L a ccd cl) x v) Q E s :=
  storeX_L F N (fun h' F' N' => h h' _ F' N') hk hx
theorem storeUi {k : Int} {t : Tok} (F : Fr h₀ L s.heap m) (N : News h₀ L s.heap news) (h : ∀ h' t' tk', Fr h₀ L h' (upd m x (.int k t')) → News h₀ L h' news → Q () { s with heap := h', toks := tk' })
    (hk : cs.kind = .function := by rfl) (hx : (envX cn cs L a ccd cl).kindOf x = some .local := by rfl) : wpAny M A (storeName (envX cn cs L a ccd cl) x (.int k t)) Q E s :=
  storeX_L F N (fun h' F' N' => h h' t _ F' N') hk hx
end
def VarPost (h₀ : Heap) (L : Addr) (m : Str → Option Value) (x : Str) (all : List (Addr × Obj)) (s : Shared) (R : Int → Prop) (fl : Flow) (s' : Shared) : Prop :=
  fl = .next ∧ ∃ i t h' tk, s' = { s with heap := h', toks := tk } ∧ Fr h₀ L h' (fun y => if y = x then some (.int i t) else m y) ∧ News h₀ L h' all ∧ R i
def EvalPost (h₀ : Heap) (L : Addr) (m : Str → Option Value) (all : List (Addr × Obj)) (s : Shared) (R : Value → Prop) (v : Value) (s' : Shared) : Prop :=
  ∃ h' tk, s' = { s with heap := h', toks := tk } ∧ Fr h₀ L h' m ∧ News h₀ L h' all ∧ R v
section
variable {M : Model} {A : Around} {E : Value → Shared → Prop} {s : Shared} {env : Env} {h₀ : Heap} {L : Addr} {m : Str → Option Value} {all : List (Addr × Obj)}
theorem join_var {st : Stmt} {Q : Flow → Shared → Prop} (x : Str) (R : Int → Prop) (F : Fr h₀ L s.heap m) (N : News h₀ L s.heap all)
    (h1 : wpAny M A (exec st env) (VarPost h₀ L m x all s R) E s)
    (h2 : ∀ i t h' tk, Fr h₀ L h' (fun y => if y = x then some (.int i t) else m y) → News h₀ L h' all → R i → Q .next { s with heap := h', toks := tk }) :
    wpAny M A (exec st env) Q E s :=
  wpAny_mono h1 (fun fl s' hq => by
    obtain ⟨rfl, i, t, h', tk, rfl, F', N', r⟩ := hq
    exact h2 i t h' tk F' N' r) fun _ _ e => e
theorem join_top {st : Stmt} {Q : Flow → Shared → Prop} (ks : List Int) {ks' : List Int} {n t p : Int} (_hR : RInv ks' n t p) (F : Fr h₀ L s.heap m) (N : News h₀ L s.heap all)
    (h1 : wpAny M A (exec st env) (VarPost h₀ L m (Str.ofString "top") all s (fun u => readF ks = some (u, p))) E s)
    (h2 : ∀ i t h' tk, Fr h₀ L h' (fun y => if y = Str.ofString "top" then some (.int i t) else m y) → News h₀ L h' all → readF ks = some (i, p) → Q .next { s with heap := h', toks := tk }) :
    wpAny M A (exec st env) Q E s := join_var _ _ F N h1 h2
theorem join_eval {e : Expr} {Q : Value → Shared → Prop} (R : Value → Prop) (F : Fr h₀ L s.heap m) (N : News h₀ L s.heap all)
    (h1 : wpAny M A (eval e env) (EvalPost h₀ L m all s R) E s)
    (h2 : ∀ v h' tk, Fr h₀ L h' m → News h₀ L h' all → R v → Q v { s with heap := h', toks := tk }) :
    wpAny M A (eval e env) Q E s :=
  wpAny_mono h1 (fun v s' hq => by
    obtain ⟨h', tk, rfl, F', N', r⟩ := hq
    exact h2 v h' tk F' N' r) fun _ _ e => e
end
theorem bg43 {ks : List Int} (h : ks.getD 0 0 = 43) : (1 : Int) = ((begunOf ks : Nat) : Int) := by unfold begunOf; rw [if_pos (.inl h)]; rfl
theorem bg45 {ks : List Int} (h : ks.getD 0 0 = 45) : (1 : Int) = ((begunOf ks : Nat) : Int) := by unfold begunOf; rw [if_pos (.inr h)]; rfl
theorem bg0 {ks : List Int} (h : ks.getD 0 0 ≠ 43) (h' : ks.getD 0 0 ≠ 45) : (0 : Int) = ((begunOf ks : Nat) : Int) := by unfold begunOf; rw [if_neg (fun q => q.elim h h')]; rfl
theorem bgE {ks : List Int} (h : ¬ 0 < (ks.length : Int)) : (0 : Int) = ((begunOf ks : Nat) : Int) := by
  have e : ks = [] := List.eq_nil_of_length_eq_zero (by omega)
  subst e
  rfl
theorem drN {ks : List Int} {i : Int} (h : i = ((begunOf ks : Nat) : Int)) : Cut ks (List.take (ks.length - clipAt ks.length i) (List.drop (clipAt ks.length i) ks)) := by
  unfold Cut
  rw [h, cut_take]
  have e : clipAt ks.length ((begunOf ks : Nat) : Int) = min (begunOf ks) ks.length := clipAt_nat _ _
  rw [e]
  by_cases hl : begunOf ks ≤ ks.length
  · rw [Nat.min_eq_left hl]
  · rw [Nat.min_eq_right (by omega), List.drop_length, List.drop_eq_nil_of_le (by omega)]
theorem rd_pos {ks : List Int} {i n t p : Int} (h : RInv (List.take (ks.length - clipAt ks.length i) (List.drop (clipAt ks.length i) ks)) n t p) (hn : n ≠ 0) : 0 < (ks.length : Int) := by
  have h2 := h.2.1
  have h3 := h.2.2.1
  rw [List.length_take, List.length_drop] at h3
  omega
theorem read_s {ks ks' : List Int} {n t p u : Int} (h : RInv ks' n t p) (hn : n ≠ 0) (hu : u = if ks.getD 0 0 = 45 then -t else t) (hk : Cut ks ks') : readF ks = some (u, p) := by
  unfold readF
  rw [hk, h.1]
  show (if n = 0 then none else some (if ks.getD 0 0 = 45 then -t else t, p)) = _
  rw [if_neg hn, hu]
end Mine
namespace Mine
def CtcS (w : World) (f sa C : Addr) (oC : Obj) (vs : List Value) (ns : List Int) : Prop :=
  ∀ (mean : ExcName → Option Value) (mg mb : Str → Option Value) (dp un : Nat) (gd : Option (List Code)) (cn : Str) (cs : Scope) (a : Addr) (ccd : Value) (cl : List (Str × Addr)) (outer : List Env) (A₀ : Around) (base h₀ : Heap) (L : Addr) (m : Str → Option Value) (s : Shared) (Q E : Value → Shared → Prop),
    Below A₀ base outer h₀ → Fr h₀ L s.heap m → (Mine.hd.heap_39 w.params).In h₀ → News h₀ L s.heap [(C, oC)] → Top Mine.view (looseW Mine.view []) mean mg mb h₀ → cs.kind = .function → dp + 8 < recursionLimit → un + 400 < cLine →
    h₀.IsList sa vs.toArray → IntsAre vs ns → ns.length ≤ 63 →
    (∀ T D oT oD h' tk', Fr h₀ L h' m → News h₀ L h' [(T, oT), (D, oD), (C, oC)] → @Ne Nat C D ∧ @LT.lt Nat _ C T ∧ @LT.lt Nat _ D T → Tub w T D oT oD → Q (.ref T) { s with heap := h', toks := tk' }) →
    wpAny (model PySem.Challenge.rw_qd0125_01.row.prog w) (ktrTop dp un gd cn cs L a ccd cl outer) (call (.ref f) [.ref sa]) Q E s
theorem isList_keep {h g : Heap} {L a : Addr} {m : Str → Option Value} {xs : Array Value} (hl : h.IsList a xs) (F : Fr h L g m) : g.IsList a xs := by
  obtain ⟨o, e, r⟩ := hl
  exact ⟨o, F.keep _ _ e, r⟩
theorem later_lo (x : Int) : 0 ≤ 13 + x.fmod 2147483497 := by
  have := fm_lo (a := x) (b := 2147483497) (by decide)
  omega
theorem later_hi (x : Int) : 13 + x.fmod 2147483497 < 2147483600 := by
  have := fm_hi (a := x) (b := 2147483497) (by decide)
  omega
theorem cell_in {ns : List Int} {k : Int} (hk : k ∈ List.map (fun k' => Int.fmod (if k' < 0 then -k' else k') (10 ^ Int.toNat 60)) ns) : 0 ≤ k ∧ k < 10 ^ 60 := by
  obtain ⟨j, _, rfl⟩ := List.mem_map.mp hk
  have h : (0 : Int) < 10 ^ Int.toNat 60 := Int.pow_pos (by decide)
  exact ⟨fm_lo h, fm_hi h⟩
theorem tub_mk {w : World} {T D : Addr} {oT : Obj} {h l : Int} {th tl : Tok} {ys : List Value} {ks : List Int} (lo : (T == sysModules) = false) (ne : @LT.lt Nat _ D T)
    (tab : oT.IsDictOf (strKind PySem.Challenge.rw_qd0125_01.row.prog w) [(Str.ofString "cells", .ref D), (Str.ofString "held", .int h th), (Str.ofString "later", .int l tl)]) (h1 : -1 ≤ h) (h2 : h < 10 ^ 60) (h3 : 0 ≤ l) (h4 : l < 2147483600)
    (hi : IntsAre ys ks) (hl : ks.length ≤ 40) (hk : ∀ k ∈ ks, 0 ≤ k ∧ k < 10 ^ 60) : Tub w T D oT (listOf ys.toArray ys.length) :=
  ⟨lo, fun e => Nat.lt_irrefl _ (e ▸ ne), ⟨_, _, _, _, tab, h1, h2, h3, h4⟩, ys, ks, ys.length, rfl, hi, hl, hk⟩
local macro_rules | `(tactic| ktr_enter) => `(tactic| (refine' code_defG ?k1 ?k2 ?k3 ?k4 ?k5 ?kA ?kF ?kK ?k6 ?k7 ?k8 ?k9 ?kB ?_ ?c2 ?c3 ?c4 ?c5; (case kA => exact rfl); (case kF => exact rfl); (case kK => assumption); (case k1 => k_asm); (case k2 => k_asm); (case k3 => k_asm); (case k4 => k_asm); (case k5 => k_asm); (case k6 => k_is); (case k7 => k_is); (case k8 => ktr_room); (case k9 => exact BindsTo.of_eq rfl); (case c5 => decide); (case kB => exact locs rfl); (case c2 => exact rfl); (case c3 => exact rfl); (case c4 => exact rfl); k_whole; intro g' L' h' FG' F' N' B' X' T' kG'; (try dsimp only); (try k_fold)))
local macro_rules | `(tactic| units_room) => `(tactic| ktr_units)
local macro_rules | `(tactic| k_room) => `(tactic| ktr_room)
set_option maxHeartbeats 8000000 in
theorem tub_c (w : World) (sa C : Addr) (oC : Obj) (vs : List Value) (ns : List Int) : CtcS w 245 sa C oC vs ns := by
  unfold CtcS
  intro mean mg mb dp un gd cn cs a ccd cl outer A₀ base h₀ L m s Q E B F X N T' hk hd hu hl hi hn hret
  refine wpAny_call ?_
  k_dflt ktr_enter
  (with_reducible rename Fr h₀ L _ m => FG9)
  have hl9 := isList_keep hl FG9
  k_steps
  (with_reducible rename Fr h₀ L _ _ => kF9)
  (with_reducible rename News h₀ L _ _ => kN9)
  (with_reducible rename Obj.IsDictOf _ _ (strPairs _) => hd9)
  (with_reducible rename (_ == sysModules) = false => lo9)
  (with_reducible rename IntsAre _ (List.map _ _) => hI9)
  (with_reducible rename _ < _ ∧ _ < _ ∧ _ < _ => hl9)
  (with_reducible rename _ ≠ _ ∧ _ ≠ _ => hn9)
  refine hret _ _ _ _ _ _ kF9 (cb_drop kN9 ?_) ⟨hn9.2, hl9.2.2, hl9.1⟩ (tub_mk lo9 hl9.1 hd9 ?_ ?_ ?_ ?_ hI9 ?_ ?_)
  · intro p hp
    rcases List.mem_cons.mp hp with rfl | hp
    · k_mem
    rcases List.mem_cons.mp hp with rfl | hp
    · k_mem
    rcases List.mem_cons.mp hp with rfl | hp
    · k_mem
    nomatch hp
  · decide
  · decide
  · exact later_lo _
  · exact later_hi _
  · rw [List.length_map, List.length_take]; exact Nat.min_le_left _ _
  · exact fun k hk => cell_in hk
end Mine
namespace Mine
def Ctc0 (w : World) (f : Addr) (vs : List Value) (news : List (Addr × Obj)) (R : List (Addr × Obj) → Value → Prop) : Prop :=
  ∀ (mean : ExcName → Option Value) (mg mb : Str → Option Value) (dp un : Nat) (gd : Option (List Code)) (cn : Str) (cs : Scope) (a : Addr) (ccd : Value) (cl : List (Str × Addr)) (outer : List Env) (A₀ : Around) (base h₀ : Heap) (L : Addr) (m : Str → Option Value) (s : Shared) (Q E : Value → Shared → Prop),
    Below A₀ base outer h₀ → Fr h₀ L s.heap m → (Mine.hd.heap_39 w.params).In h₀ → News h₀ L s.heap news → Top Mine.view (looseW Mine.view []) mean mg mb h₀ → cs.kind = .function → dp + 16 < recursionLimit → un + 800 < cLine →
    (∀ r news' h' tk', Fr h₀ L h' m → News h₀ L h' news' → R news' r → Q r { s with heap := h', toks := tk' }) →
    wpAny (model PySem.Challenge.rw_qd0125_01.row.prog w) (ktrTop dp un gd cn cs L a ccd cl outer) (call (.ref f) vs) Q E s
local macro_rules | `(tactic| ktr_enter) => `(tactic| (refine' code_defC ?k1 ?k2 ?k3 ?k4 ?k5 ?kA ?kF ?kK ?k6 ?k7 ?k8 ?k9 ?kB ?kD ?_ ?c2 ?c3 ?c4; (case kA => exact rfl); (case kF => exact rfl); (case kK => assumption); (case k1 => k_asm); (case k2 => k_asm); (case k3 => k_asm); (case k4 => k_asm); (case k5 => k_asm); (case k6 => k_is); (case k7 => k_is); (case k8 => ktr_room); (case k9 => exact BindsTo.of_eq rfl); (case kB => exact rfl); (case kD => decide +kernel); (case c2 => exact rfl); (case c3 => exact rfl); (case c4 => exact rfl); k_whole; intro g' L' h' tk' cells' FG' F' N' Y' B' X' T' l1; (try k_lt l1); k_cells Y'; (try simp only [List.cons_append, List.nil_append] at N'); (try dsimp only); (try k_fold)))
local macro_rules | `(tactic| units_room) => `(tactic| ktr_units)
local macro_rules | `(tactic| k_room) => `(tactic| ktr_room)
theorem mul_lo {a b : Int} (ha : 0 ≤ a) (hb : 0 ≤ b) : -1048576 ≤ a * b := Int.le_trans (by decide) (Int.mul_nonneg ha hb)
theorem mul_hi {a b : Int} (ha : 0 ≤ a) (hb : 0 ≤ b) (ha' : a < 3) (hb' : b < 22) : a * b ≤ 1048576 := Int.le_trans (Int.mul_le_mul (b := b) (c := 3) (d := 22) (by omega) (by omega) hb (by decide)) (by decide)
theorem z50 {k x : Int} (h : k < 52) : 300 * (k - 48) + x.fmod 50 ≤ 1000 := by
  have : x.fmod 50 < 50 := fm_hi (by decide)
  omega
theorem rep_size : ∀ n : Nat, ((List.replicate n [(48 : UInt8)]).flatten.toArray).size = n
  | 0 => rfl
  | n + 1 => by
    have := rep_size n
    simp only [List.replicate_succ, List.flatten_cons, List.size_toArray, List.length_append, List.length_cons, List.length_nil] at this ⊢
    omega
theorem run_fin {a b z : Int} {f : Int → Int} (ha : 0 ≤ a) (hb : 0 ≤ b) (ha' : a < 3) (hb' : b < 22) (hz : z ≤ 1000) :
    ((List.replicate (a * b).toNat [(48 : UInt8)]).flatten.toArray).size + (byteArr (List.map f (rangeKs 0 (z - 0).toNat))).size ≤ 1100 := by
  have h : a * b ≤ 2 * 21 := Int.mul_le_mul (by omega) (by omega) hb (by decide)
  rw [rep_size, byteArr_size, List.length_map, rangeKs_length]
  omega
theorem p10_ne (k : Int) : (10 : Int) ^ (k.fmod 20).toNat ≠ 0 := Int.ne_of_gt (Int.pow_pos (by decide))
theorem p10_log (k : Int) : ((10 : Int) ^ (k.fmod 20).toNat).natAbs.log2 < 9000 := by
  have h2 : k.fmod 20 < 20 := fm_hi (by decide)
  have h3 : (k.fmod 20).toNat ≤ 19 := by omega
  have e : ((10 : Int) ^ (k.fmod 20).toNat).natAbs = 10 ^ (k.fmod 20).toNat := by rw [Int.natAbs_pow]; rfl
  rw [e]
  refine (Nat.log2_lt (Nat.ne_of_gt (Nat.pow_pos (by decide)))).mpr ?_
  refine Nat.lt_of_le_of_lt (Nat.pow_le_pow_right (by decide) h3) ?_
  refine Nat.lt_of_lt_of_le (m := 2 ^ 64) (by decide) (Nat.pow_le_pow_right (by decide) (by decide))
theorem z50lo {k x : Int} (h : 49 < k) : 0 ≤ 300 * (k - 48) + x.fmod 50 := by
  have : 0 ≤ x.fmod 50 := fm_lo (by decide)
  omega
section
variable {prog : Program} {w : World} {A : Around} {E : Value → Shared → Prop} {s : Shared} {env : Env} {h₀ : Heap} {L : Addr} {m : Str → Option Value} {all : List (Addr × Obj)}
def DipPost (w : World) (h₀ : Heap) (L : Addr) (m : Str → Option Value) (g2 : Obj → Obj → List (Addr × Obj)) (T D : Addr) (s : Shared) (R : Int → Prop) (v : Value) (s' : Shared) : Prop :=
  ∃ k t h' tk oT oD, v = .int k t ∧ s' = { s with heap := h', toks := tk } ∧ Fr h₀ L h' m ∧ News h₀ L h' (g2 oT oD) ∧ Tub w T D oT oD ∧ R k
theorem join_dip {e : Expr} {Q : Value → Shared → Prop} {T D : Addr} {oT oD : Obj} {g : Obj → List (Addr × Obj)} {g2 : Obj → Obj → List (Addr × Obj)} (R : Int → Prop) (_H : Tub w T D oT oD) (_N : News h₀ L s.heap all) (_U : UpdF T oT all g) (_V : ∀ o, UpdF D oD (g o) (g2 o)) (_F : Fr h₀ L s.heap m)
    (h1 : wpAny (model prog w) A (eval e env) (DipPost w h₀ L m g2 T D s R) E s)
    (h2 : ∀ k t h' tk oT oD, R k → Fr h₀ L h' m → News h₀ L h' (g2 oT oD) → Tub w T D oT oD → Q (.int k t) { s with heap := h', toks := tk }) :
    wpAny (model prog w) A (eval e env) Q E s :=
  wpAny_mono h1 (fun v s' hq => by
    obtain ⟨k, t, h', tk, oT, oD, rfl, rfl, F', N', H', r⟩ := hq
    exact h2 k t h' tk oT oD r F' N' H') fun _ _ e => e
end
local macro_rules | `(tactic| walk_at "binaryOp Add bytes bytes") => `(tactic| (k_dflt (refine' KBy.add_bytes ?rz ?_); (case rz => refine Nat.le_trans (run_fin ?_ ?_ ?_ ?_ ?_) (by decide) <;> first | assumption | omega | exact z50 (by assumption)); intro _ _))
local macro_rules | `(tactic| walk_at "binaryOp FloorDiv int int") => `(tactic| (with_reducible refine floordiv_int (p10_ne _) ?_ (Or.inl (PyProof.noPylong_of_log2 (p10_log _)))))
local macro_rules | `(tactic| walk_at "binaryOp Mult bytes int") => `(tactic| (k_dflt (refine' bytes_mul_any (b := [48]) (List.cons_ne_nil _ _) ?h2 ?hn (by decide) ?_; (case h2 => (first | exact mul_lo (by assumption) (by assumption) | skip)); (case hn => first | exact mul_hi (by assumption) (by assumption) (by assumption) (by assumption) | skip); intro _ _)))
local macro_rules | `(tactic| kaf_suf) => `(tactic| first | assumption | exact Ne.symm (by assumption) | exact Nat.ne_of_lt (by assumption) | exact Nat.ne_of_gt (by assumption) | ((with_reducible rename _ ∧ _ => c9); cases c9; kaf_suf))
local macro_rules | `(tactic| k_ne) => `(tactic| (refine neN ?_; (try dsimp only); kaf_suf))
local macro_rules | `(tactic| walk_at "call ref") => `(tactic| (k_here; (with_reducible show wpAny _ _ (call (Value.ref 252) _) _ _ _); refine Stop.go ?_))
local macro_rules | `(tactic| walk_at "eval IfExp") => `(tactic| (k_here; (fail_if_success (with_reducible rename Mark => mk9)); refine Stop.go ?_))
local macro_rules | `(tactic| walk_at "exec If") => `(tactic| (k_here; (fail_if_success (with_reducible rename Mark => mk9)); refine Stop.go ?_))
set_option maxHeartbeats 4000000 in
theorem run_c (w : World) (C T D : Addr) (oC oT oD : Obj) (hC : C ≠ T) (hC' : C ≠ D) (H : Tub w T D oT oD) : Ctc0 w 257 [.ref T] [(C, oC), (T, oT), (D, oD)] (fun news' r => ∃ b t oT' oD', r = .bytes b t ∧ b.size ≤ 1100 ∧ Tub w T D oT' oD' ∧ news' = [(C, oC), (T, oT'), (D, oD')]) := by
  unfold Ctc0
  intro mean mg mb dp un gd cn cs a ccd cl outer A₀ base h₀ L m s Q E B F X N T' hk hd hu hret
  have ne' : @Ne Nat T D := H.ne
  have nC1 : @Ne Nat C T := hC
  have nC2 : @Ne Nat C D := hC'
  refine wpAny_call ?_
  k_dflt ktr_enter
  k_steps
  unfold Stop
  k_dflt (refine' tub_use ?k1 ?k2 ?k3 ?k4 ?k5 ?k6 ?kU ?kH ?kV (dip_t _ _ _ _ _ ?ka ?kb) ?kd ?ku ?_; (case k6 => first | exact rfl | assumption); (case k1 => k_asm); (case k2 => k_asm); (case k3 => k_asm); (case k4 => k_asm); (case k5 => k_asm); (case kU => k_updF); (case kH => assumption); (case kV => (intro _; k_updF)); (case ka => first | omega | decide); (case kb => first | omega | decide); (case kd => ktr_room); (case ku => ktr_units); k_whole)
  intro r1 oT1 oD1 h1 tk1 F1 N1 hP1 H1
  obtain ⟨k1, t1, e1, lo1, hi1⟩ := hP1
  subst e1
  (try dsimp only at N1)
  (try dsimp only)
  (try k_sweep)
  (try k_fold)
  k_steps
  unfold Stop
  k_dflt (refine' tub_use ?k1 ?k2 ?k3 ?k4 ?k5 ?k6 ?kU ?kH ?kV (dip_t _ _ _ _ _ ?ka ?kb) ?kd ?ku ?_; (case k6 => first | exact rfl | assumption); (case k1 => k_asm); (case k2 => k_asm); (case k3 => k_asm); (case k4 => k_asm); (case k5 => k_asm); (case kU => k_updF); (case kH => assumption); (case kV => (intro _; k_updF)); (case ka => first | omega | decide); (case kb => first | omega | decide); (case kd => ktr_room); (case ku => ktr_units); k_whole)
  intro r2 oT2 oD2 h2 tk2 F2 N2 hP2 H2
  obtain ⟨k2, t2, e2, lo2, hi2⟩ := hP2
  subst e2
  (try dsimp only at N2)
  (try dsimp only)
  (try k_sweep)
  (try k_fold)
  k_steps
  unfold Stop
  (with_reducible rename Fr _ _ _ _ => F3)
  (with_reducible rename News _ _ _ _ => N3)
  refine' join_dip (fun k => 0 ≤ k) H2 N3 ?U ?V F3 ?_ ?_
  (case U => k_updF)
  (case V => (intro _; k_updF))
  · have mk8 : Mark := trivial
    k_steps
    · unfold Stop
      k_dflt (refine' tub_use ?k1 ?k2 ?k3 ?k4 ?k5 ?k6 ?kU ?kH ?kV (dip_t _ _ _ _ _ ?ka ?kb) ?kd ?ku ?_; (case k6 => first | exact rfl | assumption); (case k1 => k_asm); (case k2 => k_asm); (case k3 => k_asm); (case k4 => k_asm); (case k5 => k_asm); (case kU => k_updF); (case kH => assumption); (case kV => (intro _; k_updF)); (case ka => first | omega | decide); (case kb => first | omega | decide); (case kd => ktr_room); (case ku => ktr_units); k_whole)
      intro r4 oT4 oD4 h4 tk4 F4 N4 hP4 H4
      obtain ⟨k4, t4, e4, lo4, hi4⟩ := hP4
      subst e4
      (try dsimp only at N4)
      (try dsimp only)
      (try k_sweep)
      (try k_fold)
      k_steps
      all_goals (unfold DipPost; exact ⟨_, _, _, _, _, _, rfl, rfl, by k_asm, by k_asm, by assumption, by assumption⟩)
    · unfold DipPost
      exact ⟨_, _, _, _, _, _, rfl, rfl, by k_asm, by k_asm, by assumption, by decide⟩
  intro k3 t3 h3 tk3 oT3 oD3 lo3 F4 N4 H4
  (try dsimp only at N4)
  (try dsimp only)
  (try k_sweep)
  (try k_fold)
  k_steps
  unfold Stop
  (with_reducible rename Fr _ _ _ _ => F5)
  (with_reducible rename News _ _ _ _ => N5)
  obtain ⟨m5, F6⟩ := fr_gen3 (x1 := Str.ofString "size") (x2 := Str.ofString "noughts") (x3 := Str.ofString "tub") F5 (by with_unfolding_all rfl) (by with_unfolding_all rfl) (by with_unfolding_all rfl)
  clear F5
  refine join_var (Str.ofString "size") (fun z => 0 ≤ z ∧ z ≤ 1000) F6 N5 ?_ ?_
  · have mk8 : Mark := trivial
    k_steps
    all_goals (
      unfold VarPost
      first
        | refine ⟨rfl, _, _, _, _, rfl, fr_eq (by k_asm) (fun y => rfl), by k_asm, ?_⟩
        | refine ⟨rfl, _, _, _, _, rfl, fr_same (by k_asm) (by with_unfolding_all rfl), by k_asm, ?_⟩
      first | exact ⟨z50lo (by omega), z50 (by omega)⟩ | exact ⟨by omega, by omega⟩)
  intro z6 t6 h6 tk6 F7 N7 hz6
  obtain ⟨hz7, hz8⟩ := hz6
  (try dsimp only)
  (try k_sweep)
  (try k_fold)
  k_steps
  unfold Stop
  k_dflt (refine' tub_use ?k1 ?k2 ?k3 ?k4 ?k5 ?k6 ?kU ?kH ?kV (dip_t _ _ _ _ _ ?ka ?kb) ?kd ?ku ?_; (case k6 => first | exact rfl | assumption); (case k1 => k_asm); (case k2 => k_asm); (case k3 => k_asm); (case k4 => k_asm); (case k5 => k_asm); (case kU => k_updF); (case kH => assumption); (case kV => (intro _; k_updF)); (case ka => first | omega | decide); (case kb => first | omega | decide); (case kd => ktr_room); (case ku => ktr_units); k_whole)
  intro r8 oT8 oD8 h8 tk8 F8 N8 hP8 H8
  obtain ⟨k8, t8, e8, lo8, hi8⟩ := hP8
  subst e8
  (try dsimp only at N8)
  (try dsimp only)
  (try k_sweep)
  (try k_fold)
  k_steps
  all_goals (
    (with_reducible rename Fr h₀ L _ _ => kF9)
    (with_reducible rename News h₀ L _ _ => kN9)
    refine hret _ [(C, oC), (T, _), (D, _)] _ _ kF9 (cb_drop kN9 ?_) ⟨_, _, _, _, rfl, ?_, ‹_›, rfl⟩
    · intro p hp
      rcases List.mem_cons.mp hp with rfl | hp
      · k_mem
      rcases List.mem_cons.mp hp with rfl | hp
      · k_mem
      rcases List.mem_cons.mp hp with rfl | hp
      · k_mem
      nomatch hp
    · rw [Array.size_append]
      refine run_fin ?_ ?_ ?_ ?_ ?_ <;> first | assumption | omega | exact z50 (by assumption))
end Mine
namespace Mine
local macro_rules | `(tactic| ktr_enter) => `(tactic| (refine' code_defG ?k1 ?k2 ?k3 ?k4 ?k5 ?kA ?kF ?kK ?k6 ?k7 ?k8 ?k9 ?kB ?_ ?c2 ?c3 ?c4 ?c5; (case kA => exact rfl); (case kF => exact rfl); (case kK => assumption); (case k1 => k_asm); (case k2 => k_asm); (case k3 => k_asm); (case k4 => k_asm); (case k5 => k_asm); (case k6 => k_is); (case k7 => k_is); (case k8 => ktr_room); (case k9 => exact BindsTo.of_eq rfl); (case c5 => decide); (case kB => exact locs rfl); (case c2 => exact rfl); (case c3 => exact rfl); (case c4 => exact rfl); k_whole; intro g' L' h' FG' F' N' B' X' T' kG'; (try dsimp only); (try k_fold)))
local macro_rules | `(tactic| units_room) => `(tactic| ktr_units)
local macro_rules | `(tactic| k_room) => `(tactic| ktr_room)
local macro_rules | `(tactic| walk_at "exec If") => `(tactic| (k_here; (fail_if_success (with_reducible rename Mark => mk9)); (first | (with_reducible show wpAny _ _ (exec (Stmt.If (Expr.BoolOp _ _ _) _ [] _) _) _ _ _) | (with_reducible show wpAny _ _ (exec (Stmt.If (Expr.Compare (Expr.Subscript _ _ _) _ _ _) _ [] _) _) _ _ _)); refine Stop.go ?_))
local macro_rules | `(tactic| walk_at "exec For Name Subscript cons nil") => `(tactic| (k_here; (rename Fr _ _ _ _ => lF'); (with_unfolding_all refine' For_invVF lF' ?k1 ?k2 ?_; (case k1 => exact rfl); (case k2 => exact rfl); k_whole)))
set_option maxHeartbeats 4000000 in
theorem read_c (w : World) (b : Array UInt8) (t : Tok) (ks : List Int) (hB : KBw.bInts b = ks) (hz : ks.length ≤ 4000) : Ctc w 126 [.bytes b t] [] (RdR w ks) := by
  unfold Ctc
  intro mean mg mb dp un gd cn cs a ccd cl outer A₀ base h₀ L m s Q E B F X N T' hk hd hu hret
  refine wpAny_call ?_
  k_dflt ktr_enter
  (with_reducible rename Fr _ _ _ _ => F1)
  obtain ⟨m1, F2⟩ := fr_gen1 (x := Str.ofString "octets") F1 (by with_unfolding_all rfl)
  clear F1
  k_with "pyIter bytes" => (k_state (fun pre n t p => RInv pre n t p) "numerals" "top" "places")
  k_with "state" => (first | exact norm_step ‹_› ‹_› (by omega) (by omega) | exact rinv_0 | exact rinv_pt ‹_› (by omega) (by omega) | exact rinv_f1 ‹_› (by omega) (by omega) (by omega) (by omega) (by omega) | exact rinv_f2 ‹_› (by omega) (by omega) (by omega) (by omega) (by omega))
  k_with "exec While BoolOp cons nil" => k_while_given ["top!", "places!"] (fun t₀ p₀ script t p => norm t p.toNat = norm t₀ p₀.toNat ∧ 0 ≤ p) (fun t₀ p₀ script t p => p.toNat) "top" "places"
  k_steps
  unfold Stop
  (with_reducible rename Fr _ _ _ _ => F1)
  (with_reducible rename News _ _ _ _ => N1)
  refine join_var (Str.ofString "begun") (fun i => i = ((begunOf ks : Nat) : Int)) F1 N1 ?_ ?_
  · have mk8 : Mark := trivial
    k_steps
    all_goals (
      unfold VarPost
      first
        | refine ⟨rfl, _, _, _, _, rfl, fr_eq (by k_asm) (fun y => rfl), by k_asm, ?_⟩
        | refine ⟨rfl, _, _, _, _, rfl, fr_same (by k_asm) (by with_unfolding_all rfl), by k_asm, ?_⟩
      first | exact bg43 (by assumption) | exact bg45 (by assumption) | exact bg0 (by assumption) (by assumption) | exact bgE (by assumption))
  intro i1 t1 h1 tk1 F3 N3 hi1
  (try dsimp only)
  (try k_sweep)
  (try k_fold)
  have hcut := drN hi1
  k_steps
  any_goals (
      (with_reducible rename Fr h₀ L _ _ => kF9)
      (with_reducible rename GSub _ _ _ => kG9)
      refine hret _ [] _ _ kF9 (fun _ h => nomatch h) (frame_of kG9 ‹_›) (.no _ ?_)
      first
        | exact read_none2 ‹_› ‹_› hcut
        | exact read_none1 ‹_› ‹_› (by first | exact rst_none1 (by omega) (by omega) | exact rst_none2 (by omega) (by omega) (by omega) (by omega)) hcut)
  unfold Stop
  (with_reducible rename RInv _ _ _ _ => hR9)
  (with_reducible rename (_ : Int) ≠ 0 => hn9)
  have hpos := rd_pos hR9 hn9
  (with_reducible rename Fr _ _ _ _ => F4)
  (with_reducible rename News _ _ _ _ => N4)
  obtain ⟨m4, F5⟩ := fr_gen3 (x1 := Str.ofString "top") (x2 := Str.ofString "places") (x3 := Str.ofString "octets") F4 (by with_unfolding_all rfl) (by with_unfolding_all rfl) (by with_unfolding_all rfl)
  clear F4
  refine join_top ks hR9 F5 N4 ?_ ?_
  · have mk8 : Mark := trivial
    k_steps
    all_goals (
      unfold VarPost
      first
        | refine ⟨rfl, _, _, _, _, rfl, fr_eq (by k_asm) (fun y => rfl), by k_asm, ?_⟩
        | refine ⟨rfl, _, _, _, _, rfl, fr_same (by k_asm) (by with_unfolding_all rfl), by k_asm, ?_⟩
      first | exact read_m hR9 hn9 (by assumption) hcut | exact read_p hR9 hn9 (by assumption) hcut)
  intro i5 t5 h5 tk5 F6 N6 hi5
  (try dsimp only)
  (try k_sweep)
  (try k_fold)
  k_steps
  all_goals (
    (with_reducible rename Fr h₀ L _ _ => kF9)
    (with_reducible rename GSub _ _ _ => kG9)
    first
      | exact hret _ [] _ _ kF9 (fun _ h => nomatch h) (frame_of kG9 ‹_›) (.int _ _ _ _ hi5 ‹_›)
      | (refine' hret _ [(_, instObj 115 _), (_, _)] _ _ kF9 ‹_› (frame_of kG9 ‹_›) (.dec _ _ _ _ _ _ _ _ _ _ hi5 ?qp ?qn ?ql)
         (case qp => assumption)
         (case qn => first | exact (norm_end1 (by assumption) (by assumption) (by assumption)) | exact (norm_end2 (by assumption) (by assumption) (by assumption)))
         (case ql => assumption)))
end Mine
namespace Mine
open PySem.Builtin in
theorem find_args (b c : Array UInt8) (t u : Tok) : Bytes.searchArgs .bytes "find" ⟨[.bytes b t, .bytes c u], []⟩ = pure (b, c, if (Bytes.window b.size none none).2 - (Bytes.window b.size none none).1 < (c.size : Int) then none else some ((Bytes.window b.size none none).1.toNat, (Bytes.window b.size none none).2.toNat)) := by kernel_rfl
theorem slot_find : Slot "bytes" "find" "bytes.find" :=
  .of (owner := "bytes") (n := "find") (by rw [typeLookup_type, builtinLookup_eq_fast]; kernel_rfl) (by decide +kernel) (by decide +kernel) (by decide +kernel)
    (by first | exact .inl (by decide +kernel) | exact .inr (by decide +kernel)) (by rw [isSubtype_type]; kernel_rfl)
theorem type_find : typeOf (.builtin "bytes.find") = pure (.type "method_descriptor") := by show builtinType _ = _; rw [builtinType_eq_fast]; kernel_rfl
theorem entry_find : entryFor table "bytes.find" = some Builtin.«bytes.find» := entryFor_of_tree (by kernel_rfl)
theorem args_find (a b : Value) : argsOk "bytes.find" ⟨[a, b], []⟩ := by
  unfold argsOk; rw [signature?_of (id := "bytes.find") (n := ['d', 'n', 'i', 'f']) (o := ['s', 'e', 't', 'y', 'b']) (by kernel_rfl) FB.owner_bytes]; kernel_rfl
def FindR (ks : List Int) (i : Int) : Prop := (i = -1 ∧ (46 : Int) ∉ ks) ∨ ∃ pre post, ks = pre ++ 46 :: post ∧ (46 : Int) ∉ pre ∧ i = pre.length
theorem pt_iff (b : Array UInt8) (i : Nat) (h : i < b.size) : (b.extract i (i + 1) == #[46]) = decide ((KBw.bInts b)[i]? = some 46) := by
  have e : b.extract i (i + 1) = #[b[i]] := by
    apply Array.ext
    · simp; omega
    · intro j h1 h2
      simp at h1 h2 ⊢
      congr 1
      omega
  rw [e]
  have e2 : (KBw.bInts b)[i]? = some ((b[i].toNat : Nat) : Int) := by
    simp [KBw.bInts, h]
  rw [e2]
  rw [Bool.eq_iff_iff]
  simp only [beq_iff_eq, decide_eq_true_eq, Option.some.injEq]
  constructor
  · intro q
    have : b[i] = 46 := by simpa using q
    rw [this]; rfl
  · intro q
    have : b[i] = 46 := by
      apply UInt8.toNat_inj.mp
      show b[i].toNat = 46
      omega
    rw [this]
theorem find_some (b : Array UInt8) {i : Nat} (h : (List.range b.size).find? (fun i => b.extract i (i + 1) == #[46]) = some i) : FindR (KBw.bInts b) i := by
  have hp : (b.extract i (i + 1) == #[46]) = true := List.find?_some (p := fun i => b.extract i (i + 1) == #[46]) h
  have hi : i < b.size := List.mem_range.mp (List.mem_of_find?_eq_some h)
  rw [pt_iff b i hi] at hp
  have hk : (KBw.bInts b)[i]? = some 46 := by simpa using hp
  have hlt : i < (KBw.bInts b).length := by rw [KBw.ints_length]; exact hi
  refine .inr ⟨(KBw.bInts b).take i, (KBw.bInts b).drop (i + 1), ?_, ?_, ?_⟩
  · have e : (KBw.bInts b)[i] = 46 := by
      rw [List.getElem?_eq_getElem hlt] at hk
      exact Option.some.inj hk
    rw [← e, List.getElem_cons_drop, List.take_append_drop]
  · intro hm
    obtain ⟨j, hj, e⟩ := List.getElem_of_mem hm
    rw [List.length_take] at hj
    have hji : j < i := by omega
    have := List.find?_eq_some_iff_getElem.mp h
    obtain ⟨_, k, hk', e1, e2⟩ := this
    rw [List.getElem_range] at e1
    subst e1
    have := e2 j hji
    rw [List.getElem_range, pt_iff b j (by omega)] at this
    have e3 : (KBw.bInts b)[j]? = some 46 := by
      rw [List.getElem?_eq_getElem (by rw [KBw.ints_length]; omega)]
      rw [List.getElem_take] at e
      rw [e]
    rw [e3] at this
    simp at this
  · rw [List.length_take]
    omega
theorem find_no (b : Array UInt8) (h : (List.range b.size).find? (fun i => b.extract i (i + 1) == #[46]) = none) : FindR (KBw.bInts b) (-1) := by
  refine .inl ⟨rfl, fun hm => ?_⟩
  obtain ⟨j, hj, e⟩ := List.getElem_of_mem hm
  rw [KBw.ints_length] at hj
  have := List.find?_eq_none.mp h j (List.mem_range.mpr hj)
  rw [pt_iff b j hj] at this
  rw [List.getElem?_eq_getElem (by rw [KBw.ints_length]; exact hj), e] at this
  simp at this
theorem meets_find (b : Array UInt8) (t u : Tok) :
    Meets (Builtin.«bytes.find» ⟨[.bytes b t, .bytes #[46] u], []⟩) (fun _ R s => ∀ i : Int, FindR (KBw.bInts b) i → ∀ t' k, R (.ok (.ret (.int i t'))) { s with toks := k }) := by
  refine .of_wp fun prog w A R s hS => ?_
  show wpAny _ _ (Builtin.Bytes.searchArgs .bytes "find" _ >>= fun r => _) _ _ s
  rw [find_args]
  refine wpAny_bind (wpAny_pure ?_)
  dsimp only
  have e1 : (Builtin.Bytes.window b.size none none).1 = 0 := rfl
  have e2 : (Builtin.Bytes.window b.size none none).2 = (b.size : Int) := by
    simp [Builtin.Bytes.window]
    omega
  rw [e1, e2]
  have key : ((if (b.size : Int) - 0 < ((#[46] : Array UInt8).size : Int) then none else some (Int.toNat 0, (b.size : Int).toNat) : Option (Nat × Nat)).bind fun x =>
      if false = true then Builtin.Bytes.rfind? b #[46] x.fst x.snd else Builtin.Bytes.find? b #[46] x.fst x.snd) = (List.range b.size).find? (fun i => b.extract i (i + 1) == #[46]) := by
    by_cases hz : b.size = 0
    · rw [hz]
      rfl
    · rw [if_neg (by simp only [List.size_toArray, List.length_cons, List.length_nil]; omega)]
      show Builtin.Bytes.find? b #[46] 0 (b.size : Int).toNat = _
      unfold Builtin.Bytes.find?
      have q1 : (b.size : Int).toNat + 1 - (0 + (#[46] : Array UInt8).size) = b.size := by simp only [List.size_toArray, List.length_cons, List.length_nil]; omega
      rw [q1]
      have q2 : (List.range b.size).map (· + 0) = List.range b.size := List.map_id _
      rw [q2]
      rfl
  rw [key]
  cases h : (List.range b.size).find? (fun i => b.extract i (i + 1) == #[46]) with
  | some i => exact wpAny_bind (wpAny_mkInt (wpAny_pure ⟨_, rfl, hS _ (find_some b h) _ _⟩))
  | none => exact wpAny_bind (wpAny_rule (wpAny_bind (wpAny_mkInt (wpAny_pure ⟨_, rfl, hS _ (find_no b h) _ _⟩))))
section
variable {prog : Program} {w : World} {A : Around} {E : Value → Shared → Prop} {s : Shared} {b : Array UInt8} {t u : Tok}
theorem find_K {Q : Value → Shared → Prop} (h : ∀ i : Int, FindR (KBw.bInts b) i → ∀ t' k, Q (.int i t') { s with toks := k }) :
    wpAny (model prog w) A (call (.builtin "bytes.find") [.bytes b t, .bytes #[46] u]) Q E s :=
  call_meets slot_find (typeIs_bytes _ _ _) entry_find (args_find _ _) (meets_find b t u) h
theorem find_method {M : Model} {pl : Sem Bool} {Q : Value × List Value → Shared → Prop} (h : Q (.builtin "bytes.find", [.bytes b t]) s) : wpAny M A (getMethod (.bytes b t) (Str.ofString "find") pl) Q E s :=
  getMethod_builtin (typeIs_bytes _ _ _) FB.plainAttrs_bytes slot_find type_find (fun a e => nomatch e) h
noncomputable def isB (x : Array UInt8) : Value → Bool
  | .bytes b _ => decide (b.toList = x.toList)
  | _ => false
theorem in_pm {l : Addr} {x : Array UInt8} {t t1 t2 : Tok} {Q : Value → Shared → Prop} {ks : List Int} (hx : KBw.bInts x = ks)
    (hl : s.heap.get? l = some { cls := .type "tuple", dict := none, data := .seq #[.bytes #[43] t1, .bytes #[45] t2] 0, slots := #[] }) (h : Q (.bool (decide (ks = [43] ∨ ks = [45]))) s) : wpAny (model prog w) A (compareOp .In (.bytes x t) (.ref l)) Q E s := by
  refine SeqRoads2.in_tuple (isB x) (fun y hy => ?_) hl ?_
  · have : y = .bytes #[43] t1 ∨ y = .bytes #[45] t2 := by simpa using hy
    rcases this with rfl | rfl
    · exact fun _ _ _ _ _ _ h => eqBool_bytes h
    · exact fun _ _ _ _ _ _ h => eqBool_bytes h
  · have e : (#[Value.bytes #[43] t1, Value.bytes #[45] t2] : Array Value).any (isB x) = decide (ks = [43] ∨ ks = [45]) := by
      have key : ∀ c : UInt8, ([c] = x.toList) ↔ (ks = [(c.toNat : Int)]) := by
        intro c
        subst hx
        unfold KBw.bInts
        constructor
        · intro q; rw [← q]; rfl
        · intro q
          cases hx : x.toList with
          | nil => rw [hx] at q; cases q
          | cons d r =>
            rw [hx] at q
            simp only [List.map_cons, List.cons.injEq, List.map_eq_nil_iff] at q
            rw [q.2, UInt8.toNat_inj.mp (by omega : c.toNat = d.toNat)]
      have k1 := key 43
      have k2 := key 45
      have k1' : (43 : UInt8).toNat = 43 := rfl
      have k2' : (45 : UInt8).toNat = 45 := rfl
      rw [k1'] at k1
      rw [k2'] at k2
      have ha : ∀ (p : Value → Bool) (a c : Value), (#[a, c] : Array Value).any p = (p a || p c) := fun p a c => by simp
      rw [ha]
      show (decide ([(43 : UInt8)] = x.toList) || decide ([(45 : UInt8)] = x.toList)) = _
      rw [← Bool.decide_or]
      exact decide_eq_decide.mpr (or_congr k1 k2)
    rw [e]
    exact h
end
end Mine
namespace Mine
noncomputable def bad (k : Int) : Bool := !(decide (48 ≤ k) && decide (k ≤ 57))
noncomputable def badV : Value → Bool
  | .int k _ => bad k
  | _ => true
theorem paired_ints : ∀ {vs ys : List Value} {ns : List Int}, IntsAre vs ns → Paired (fun v y => ∀ k u, v = Value.int k u → ∃ u', y = Value.int k u') (vs.filter badV) ys → IntsAre ys (ns.filter bad)
  | _, ys, _, .nil, h => by cases h; exact .nil
  | _, ys, _, .cons k u r, h => by
    cases hb : bad k with
    | true =>
      have e : badV (.int k u) = true := hb
      rw [List.filter_cons_of_pos e] at h
      rw [List.filter_cons_of_pos hb]
      cases h with
      | cons h1 h2 =>
        obtain ⟨u', rfl⟩ := h1 k u rfl
        exact .cons k u' (paired_ints r h2)
    | false =>
      have e : ¬ badV (.int k u) = true := by show ¬ bad k = true; rw [hb]; exact Bool.false_ne_true
      rw [List.filter_cons_of_neg e] at h
      rw [List.filter_cons_of_neg (by rw [hb]; exact Bool.false_ne_true)]
      exact paired_ints r h
theorem ints_of_places : ∀ {vs : List Value} {ns : List Int}, vs.length = ns.length → (∀ (j : Nat) (v : Value), vs[j]? = some v → ∃ k u, v = Value.int k u ∧ ns[j]? = some k) → IntsAre vs ns
  | [], [], _, _ => .nil
  | [], _ :: _, h, _ => by cases h
  | _ :: _, [], h, _ => by cases h
  | v :: vs, n :: ns, h, hp => by
    obtain ⟨k, u, e, hk⟩ := hp 0 v rfl
    have : n = k := by simpa using hk
    subst this e
    exact .cons n u (ints_of_places (by simpa using h) fun j v hv => by simpa using hp (j + 1) v (by simpa using hv))
section
variable {prog : Program} {w : World} {A : Around} {E : Value → Shared → Prop} {s : Shared} {env : Env} {h₀ : Heap} {L : Addr} {m : Str → Option Value} {news : List (Addr × Obj)} {b : Array UInt8} {t : Tok} {ks : List Int}
theorem comp_bad {scope : Scope} {x : Str} {ifs : List Expr} {elt : Expr} {Q : Value → Shared → Prop} (hk : KBw.bInts b = ks) (hh : A.handled = none) (F : Fr h₀ L s.heap m) (N : News h₀ L s.heap news) (hz : ks.length ≤ 16777216)
    (hT : ∀ (C : Addr) (k : Int) (u : Tok) (s₃ : Shared) (m₃ : Str → Option Value) (E' : Value → Shared → Prop), s₃.heap.Ns C m₃ → m₃ x = some (.int k u) →
      wpAny (model prog w) A (forIn ifs true fun c r => if r = true then do let ok ← isTrue c (compEnv scope C env) (eval c (compEnv scope C env)); pure (ForInStep.yield ok) else pure (ForInStep.yield r)) (fun ok s₄ => ok = bad k ∧ Keeps s₃ s₄) E' s₃)
    (hE : ∀ (C : Addr) (k : Int) (u : Tok) (s₃ : Shared) (m₃ : Str → Option Value) (E' : Value → Shared → Prop), s₃.heap.Ns C m₃ → m₃ x = some (.int k u) →
      wpAny (model prog w) A (eval elt (compEnv scope C env)) (fun y s₄ => (∃ u', y = Value.int k u') ∧ Keeps s₃ s₄) E' s₃)
    (h : ∀ D h' tk vs n, Fr h₀ L h' m → News h₀ L h' ((D, listOf (List.toArray vs) n) :: news) → IntsAre vs (ks.filter bad) → Q (.ref D) { s with heap := h', toks := tk }) :
    wpAny (model prog w) A (pyIter (.bytes b t)) (CompPost prog w A env scope x ifs elt Q) E s := by
  subst hk
  refine KBw.pyIter_bytes ?_
  have W := KBw.walks (prog := prog) (w := w) hh s.heap.objs.size b t
  have up : ∀ b' o, s.heap.get? b' = some o → (s.heap.push { cls := .type "bytes_iterator", data := .fields #[.bytes b t, .int 0 0] }).get? b' = some o := fun b' o e => Heap.get?_push_of_some _ e
  refine ⟨badV, fun v y => ∀ k u, v = Value.int k u → ∃ u', y = Value.int k u', _, _, _, _, _, _, rfl, W, ?_, ⟨_, Heap.get?_push_size _ rfl, rfl, rfl⟩, ?_, ⟨?_, ?_⟩, ?_⟩
  · rw [sizeLine_eq, ← KBw.ints_length b]; exact hz
  · intro b' hb'
    rw [List.mem_singleton.mp hb']
    show s.heap.objs.size < (s.heap.push _).objs.size
    rw [Heap.size_push]; exact Nat.lt_succ_self _
  · rintro C i v s₃ m₃ E' ⟨c, u, hc, rfl⟩ hn hx _ _
    exact hT C _ u s₃ m₃ E' hn hx
  · rintro C i v s₃ m₃ E' ⟨c, u, hc, rfl⟩ _ hn hx _ _
    refine wpAny_mono (hE C _ u s₃ m₃ E' hn hx) (fun y s₄ hy => ⟨fun k u' e => ?_, hy.2⟩) fun _ _ e => e
    cases e
    exact hy.1
  · intro D h' tk ys vs hD hl hp hlen hP hPair hkeep
    have up' : ∀ b' o, s.heap.get? b' = some o → h'.get? b' = some o := fun b' o e => hkeep b' o (fun hm => by
      have := Heap.lt_size e
      rw [List.mem_singleton.mp hm] at this
      exact Nat.lt_irrefl _ this) (up b' o e)
    have hDs : s.heap.get? D = none := by
      cases e : s.heap.get? D with
      | none => rfl
      | some o => have := up D o e; rw [hD] at this; cases this
    have hI : IntsAre vs (KBw.bInts b) := ints_of_places (by rw [hlen, KBw.ints_length]) fun j v hv => by
      obtain ⟨c, u, hc, rfl⟩ := hP j v hv
      exact ⟨_, u, rfl, by simp [KBw.bInts, hc]⟩
    obtain ⟨n, hn⟩ := hp
    have hIy := paired_ints hI hPair
    refine h D h' tk ys.toList n (F.keeps up') (fun p hp' => ?_) hIy
    rcases List.mem_cons.mp hp' with rfl | hp'
    · refine ⟨by simpa using hn, fun e => ?_, ?_⟩
      · have e' : D = L := e
        obtain ⟨o, _, _, ho, _⟩ := F.ns
        rw [e'] at hDs
        rw [hDs] at ho
        cases ho
      · cases e : h₀.get? D with
        | none => rfl
        | some o => have := F.keep D o e; rw [hDs] at this; cases this
    · exact (N.grown up') p hp'
end
end Mine
namespace Mine
section
variable {prog : Program} {w : World} {A : Around} {E : Value → Shared → Prop} {s : Shared} {b : Array UInt8} {t u : Tok}
theorem findR_lo {ks : List Int} {i : Int} (h : FindR ks i) : -1 ≤ i := by
  rcases h with ⟨rfl, _⟩ | ⟨pre, post, _, _, rfl⟩ <;> omega
theorem findR_hi {ks : List Int} {i : Int} (h : FindR ks i) : i < (ks.length : Int) := by
  rcases h with ⟨rfl, _⟩ | ⟨pre, post, rfl, _, rfl⟩
  · omega
  · rw [List.length_append, List.length_cons]; omega
theorem find_k {ks : List Int} {Q : Value → Shared → Prop} (hB : KBw.bInts b = ks) (h : ∀ i : Int, FindR ks i → -1 ≤ i → i < (ks.length : Int) → ∀ t' k, Q (.int i t') { s with toks := k }) :
    wpAny (model prog w) A (call (.builtin "bytes.find") [.bytes b t, .bytes #[46] u]) Q E s := by
  subst hB
  exact find_K fun i hF => h i hF (findR_lo hF) (findR_hi hF)
end
def CtcN (d u : Nat) (w : World) (f : Addr) (vs : List Value) (news : List (Addr × Obj)) (R : List (Addr × Obj) → Value → Prop) : Prop :=
  ∀ (mean : ExcName → Option Value) (mg mb : Str → Option Value) (dp un : Nat) (gd : Option (List Code)) (cn : Str) (cs : Scope) (a : Addr) (ccd : Value) (cl : List (Str × Addr)) (outer : List Env) (A₀ : Around) (base h₀ : Heap) (L : Addr) (m : Str → Option Value) (s : Shared) (Q E : Value → Shared → Prop),
    Below A₀ base outer h₀ → Fr h₀ L s.heap m → (Mine.hd.heap_39 w.params).In h₀ → News h₀ L s.heap news → Top Mine.view (looseW Mine.view []) mean mg mb h₀ → cs.kind = .function → dp + d < recursionLimit → un + u < cLine →
    (∀ r news' h' tk', Fr h₀ L h' m → News h₀ L h' news' → (∀ b o, s.heap.get? b = some o → b ∉ news.map (·.1) → h'.get? b = some o) → R news' r → Q r { s with heap := h', toks := tk' }) →
    wpAny (model PySem.Challenge.rw_qd0125_01.row.prog w) (ktrTop dp un gd cn cs L a ccd cl outer) (call (.ref f) vs) Q E s

theorem bad_a {k : Int} (h : 48 ≤ k) : (!decide (k ≤ 57)) = bad k := by
  unfold bad
  rw [decide_eq_true h]
  rfl
theorem bad_b {k : Int} (h : ¬ 48 ≤ k) : (!false) = bad k := by
  unfold bad
  rw [decide_eq_false h]
  rfl
noncomputable def bodyL (ks : List Int) : List Int := if ks.take 1 = [43] ∨ ks.take 1 = [45] then ks.drop 1 else ks
noncomputable def codesL (l : List Int) (i : Int) : List Int := if i < 0 then l else l.take i.toNat ++ l.drop (i.toNat + 1)
inductive DuR (w : World) (ks : List Int) : List (Addr × Obj) → Value → Prop
  | no (n : List (Addr × Obj)) (i : Int) : FindR (bodyL ks) i → (¬ (1 ≤ (codesL (bodyL ks) i).length ∧ (codesL (bodyL ks) i).length ≤ 40) ∨ (codesL (bodyL ks) i).filter bad ≠ []) → DuR w ks n .none
  | tup (i t p : Int) (D : Addr) (u1 u2 : Tok) : FindR (bodyL ks) i → (codesL (bodyL ks) i).length ≤ 40 → 1 ≤ (codesL (bodyL ks) i).length → (codesL (bodyL ks) i).filter bad = [] → t = val (codesL (bodyL ks) i) * (if ks.take 1 = [45] then -1 else 1) → p = (if i < 0 then -1 else (bodyL ks).length - i - 1) → DuR w ks [(D, { cls := .type "tuple", data := .seq #[.int t u1, .int p u2] })] (.ref D)
theorem clipT (ks : List Int) : List.take (clipAt ks.length 1) ks = ks.take 1 := by
  have e : clipAt ks.length 1 = min 1 ks.length := clipAt_nat _ 1
  rw [e]
  cases ks with
  | nil => rfl
  | cons c r => rw [List.length_cons, Nat.min_eq_left (by omega)]
def Bd (ks l : List Int) : Prop := bodyL ks = l
theorem bd1 {ks : List Int} (h : List.take (clipAt ks.length 1) ks = [43] ∨ List.take (clipAt ks.length 1) ks = [45]) : Bd ks (List.take (ks.length - clipAt ks.length 1) (List.drop (clipAt ks.length 1) ks)) := by
  rw [clipT] at h
  unfold Bd bodyL
  rw [if_pos h, cut_take, clip1]
theorem bd2 {ks : List Int} (h : ¬ (List.take (clipAt ks.length 1) ks = [43] ∨ List.take (clipAt ks.length 1) ks = [45])) : Bd ks ks := by
  rw [clipT] at h
  unfold Bd bodyL
  rw [if_neg h]
def Cd (l : List Int) (i : Int) (C : List Int) : Prop := codesL l i = C
theorem cdN {l : List Int} {i : Int} (h : i < 0) : Cd l i l := if_pos h
theorem clipI {n : Nat} {i : Int} (h : 0 ≤ i) (h' : i ≤ n) : clipAt n i = i.toNat := by
  obtain ⟨k, rfl⟩ := Int.eq_ofNat_of_zero_le h
  have e : clipAt n (k : Int) = min k n := clipAt_nat _ k
  rw [e]
  omega
theorem cdP {l : List Int} {i : Int} (h : ¬ i < 0) (hi : i < (l.length : Int)) : Cd l i (List.take (clipAt l.length i) l ++ List.take (l.length - clipAt l.length (i + 1)) (List.drop (clipAt l.length (i + 1)) l)) := by
  unfold Cd codesL
  rw [if_neg h, clipI (by omega) (by omega), clipI (n := l.length) (i := i + 1) (by omega) (by omega)]
  have e : (i + 1).toNat = i.toNat + 1 := by omega
  rw [e]
  congr 1
  symm
  apply List.take_of_length_le
  rw [List.length_drop]
  exact Nat.le_refl _
theorem sgE {x : Array UInt8} {l : List Int} (hK : KBw.bInts x = l) : (x.toList == #[(45 : UInt8)].toList) = decide (l = [45]) := by
  subst hK
  unfold KBw.bInts
  rw [Bool.eq_iff_iff]
  simp only [beq_iff_eq, decide_eq_true_eq]
  constructor
  · intro q; rw [q]; rfl
  · intro q
    cases hx : x.toList with
    | nil => rw [hx] at q; cases q
    | cons d r =>
      rw [hx] at q
      simp only [List.map_cons, List.cons.injEq, List.map_eq_nil_iff] at q
      have : d = 45 := UInt8.toNat_inj.mp (by have := q.1; show d.toNat = 45; omega)
      rw [q.2, this]
theorem sgm {x : Array UInt8} {ks : List Int} (hK : KBw.bInts x = List.take (clipAt ks.length 1) ks) (h : (x.toList == #[(45 : UInt8)].toList) = true) : ks.take 1 = [45] := by
  rw [sgE hK, clipT] at h
  exact of_decide_eq_true h
theorem sgp {x : Array UInt8} {ks : List Int} (hK : KBw.bInts x = List.take (clipAt ks.length 1) ks) (h : (x.toList == #[(45 : UInt8)].toList) = false) : ¬ ks.take 1 = [45] := by
  rw [sgE hK, clipT] at h
  exact of_decide_eq_false h
theorem bodyL_len (ks : List Int) : (bodyL ks).length ≤ ks.length := by
  unfold bodyL
  split
  · rw [List.length_drop]; omega
  · exact Nat.le_refl _
def BytV (ls : List Int) (v : Value) : Prop := ∃ d t, v = .bytes d t ∧ KBw.bInts d = ls
theorem body_1 {ks : List Int} {d : Array UInt8} {t : Tok} (h : List.take (clipAt ks.length 1) ks = [43] ∨ List.take (clipAt ks.length 1) ks = [45]) (hd : KBw.bInts d = List.take (ks.length - clipAt ks.length 1) (List.drop (clipAt ks.length 1) ks)) : BytV (bodyL ks) (.bytes d t) := ⟨d, t, rfl, hd.trans (bd1 h).symm⟩
theorem body_2 {ks : List Int} {d : Array UInt8} {t : Tok} (h : ¬ (List.take (clipAt ks.length 1) ks = [43] ∨ List.take (clipAt ks.length 1) ks = [45])) (hd : KBw.bInts d = ks) : BytV (bodyL ks) (.bytes d t) := ⟨d, t, rfl, hd.trans (bd2 h).symm⟩
theorem code_1 {l : List Int} {i : Int} {d : Array UInt8} {t : Tok} (h : i < 0) (hd : KBw.bInts d = l) : BytV (codesL l i) (.bytes d t) := ⟨d, t, rfl, hd.trans (cdN h).symm⟩
theorem code_2 {l : List Int} {i : Int} {d : Array UInt8} {t : Tok} (h : ¬ i < 0) (hi : i < (l.length : Int)) (hd : KBw.bInts d = List.take (clipAt l.length i) l ++ List.take (l.length - clipAt l.length (i + 1)) (List.drop (clipAt l.length (i + 1)) l)) : BytV (codesL l i) (.bytes d t) := ⟨d, t, rfl, hd.trans (cdP h hi).symm⟩
theorem codes_len {l : List Int} (i : Int) : (codesL l i).length ≤ l.length := by
  unfold codesL
  split
  · exact Nat.le_refl _
  · rw [List.length_append, List.length_take, List.length_drop]; omega
def IntV (n : Int) (v : Value) : Prop := ∃ t, v = .int n t
theorem sgn_1 {x : Array UInt8} {ks : List Int} {t : Tok} (hK : KBw.bInts x = List.take (clipAt ks.length 1) ks) (h : (x.toList == #[(45 : UInt8)].toList) = true) : IntV (if ks.take 1 = [45] then -1 else 1) (.int (-1) t) := ⟨t, by rw [if_pos (sgm hK h)]⟩
theorem sgn_2 {x : Array UInt8} {ks : List Int} {t : Tok} (hK : KBw.bInts x = List.take (clipAt ks.length 1) ks) (h : (x.toList == #[(45 : UInt8)].toList) = false) : IntV (if ks.take 1 = [45] then -1 else 1) (.int 1 t) := ⟨t, by rw [if_neg (sgp hK h)]⟩
theorem plc_1 {l : List Int} {i : Int} {t : Tok} (h : i < 0) : IntV (if i < 0 then -1 else (l.length : Int) - i - 1) (.int (-1) t) := ⟨t, by rw [if_pos h]⟩
theorem plc_2 {l : List Int} {i : Int} {t : Tok} (h : ¬ i < 0) : IntV (if i < 0 then -1 else (l.length : Int) - i - 1) (.int ((l.length : Int) - i - 1) t) := ⟨t, by rw [if_neg h]⟩
theorem join_codes {M : Model} {A : Around} {E : Value → Shared → Prop} {s : Shared} {env : Env} {h₀ : Heap} {L : Addr} {m : Str → Option Value} {all : List (Addr × Obj)} {e : Expr} {Q : Value → Shared → Prop} (l : List Int) {i : Int} (_hF : FindR l i) (F : Fr h₀ L s.heap m) (N : News h₀ L s.heap all)
    (h1 : wpAny M A (eval e env) (EvalPost h₀ L m all s (BytV (codesL l i))) E s)
    (h2 : ∀ v h' tk, Fr h₀ L h' m → News h₀ L h' all → BytV (codesL l i) v → Q v { s with heap := h', toks := tk }) :
    wpAny M A (eval e env) Q E s := join_eval _ F N h1 h2
theorem join_plc {M : Model} {A : Around} {E : Value → Shared → Prop} {s : Shared} {env : Env} {h₀ : Heap} {L : Addr} {m : Str → Option Value} {all : List (Addr × Obj)} {e : Expr} {Q : Value → Shared → Prop} (l : List Int) {i : Int} (_hF : FindR l i) (F : Fr h₀ L s.heap m) (N : News h₀ L s.heap all)
    (h1 : wpAny M A (eval e env) (EvalPost h₀ L m all s (IntV (if i < 0 then -1 else (l.length : Int) - i - 1))) E s)
    (h2 : ∀ v h' tk, Fr h₀ L h' m → News h₀ L h' all → IntV (if i < 0 then -1 else (l.length : Int) - i - 1) v → Q v { s with heap := h', toks := tk }) :
    wpAny M A (eval e env) Q E s := join_eval _ F N h1 h2
theorem codes_ex {l : List Int} {i : Int} (_h : FindR l i) : ∃ cs, codesL l i = cs ∧ cs.length ≤ l.length := ⟨_, rfl, codes_len i⟩
section
variable {w : World} {ks l cs : List Int} {i : Int} (hb : bodyL ks = l) (hF : FindR l i) (hc : codesL l i = cs)
include hb hF hc
theorem end_n1 {n : List (Addr × Obj)} (h : ¬ (1 ≤ (cs.length : Int))) : DuR w ks n .none := by
  subst hb hc
  exact .no n i hF (.inl (by omega))
theorem end_n2 {n : List (Addr × Obj)} (h : ¬ ((cs.length : Int) ≤ 40)) : DuR w ks n .none := by
  subst hb hc
  exact .no n i hF (.inl (by omega))
theorem end_n3 {n : List (Addr × Obj)} (h : decide (cs.filter bad = []) = false) : DuR w ks n .none := by
  subst hb hc
  exact .no n i hF (.inr (of_decide_eq_false h))
theorem end_t {D : Addr} {u1 u2 : Tok} (h1 : 1 ≤ (cs.length : Int)) (h2 : (cs.length : Int) ≤ 40) (hf : decide (cs.filter bad = []) = true) :
    DuR w ks [(D, { cls := .type "tuple", data := .seq #[.int (val cs * (if ks.take 1 = [45] then -1 else 1)) u1, .int (if i < 0 then -1 else (l.length : Int) - i - 1) u2] })] (.ref D) := by
  subst hb hc
  exact .tup i _ _ D u1 u2 hF (by omega) (by omega) (of_decide_eq_true hf) rfl rfl
end
local macro_rules | `(tactic| ktr_enter) => `(tactic| (refine' code_defG ?k1 ?k2 ?k3 ?k4 ?k5 ?kA ?kF ?kK ?k6 ?k7 ?k8 ?k9 ?kB ?_ ?c2 ?c3 ?c4 ?c5; (case kA => exact rfl); (case kF => exact rfl); (case kK => assumption); (case k1 => k_asm); (case k2 => k_asm); (case k3 => k_asm); (case k4 => k_asm); (case k5 => k_asm); (case k6 => k_is); (case k7 => k_is); (case k8 => ktr_room); (case k9 => exact BindsTo.of_eq rfl); (case c5 => decide); (case kB => exact locs rfl); (case c2 => exact rfl); (case c3 => exact rfl); (case c4 => exact rfl); k_whole; intro g' L' h' FG' F' N' B' X' T' kG'; (try dsimp only); (try k_fold)))
local macro_rules | `(tactic| units_room) => `(tactic| ktr_units)
local macro_rules | `(tactic| k_room) => `(tactic| ktr_room)
local macro_rules | `(tactic| walk_at "compareOp In bytes ref") => `(tactic| (k_here; k_dflt (refine' in_pm ?hx ?hl ?_; (case hx => kba_ints2); (case hl => exact News.get (by k_asm) (by k_mem)))))
local macro_rules | `(tactic| walk_at "getMethod bytes") => `(tactic| (k_here; (with_reducible show wpAny _ _ (getMethod (Value.bytes _ _) (Str.ofString "find") _) _ _ _); refine find_method ?_))
local macro_rules | `(tactic| walk_at "call builtin:bytes.find") => `(tactic| (k_here; refine find_k (by kba_ints2) ?_; intro i9 hF9 lo9 hi9 _ _))
local macro_rules | `(tactic| walk_at "eval IfExp") => `(tactic| (k_here; (fail_if_success (with_reducible rename Mark => mk9)); refine Stop.go ?_))
local macro_rules | `(tactic| walk_at "pyIter bytes") => `(tactic| (k_here; refine Stop.go ?_))
local macro_rules | `(tactic| walk_at "call ref") => `(tactic| (k_here; (with_reducible show wpAny _ _ (call (Value.ref 264) _) _ _ _); refine Stop.go ?_))
set_option maxHeartbeats 4000000 in
theorem due_c (w : World) (b : Array UInt8) (t : Tok) (ks : List Int) (hB : KBw.bInts b = ks) (hz : ks.length ≤ 4000) : CtcN 20 900 w 269 [.bytes b t] [] (DuR w ks) := by
  unfold CtcN
  intro mean mg mb dp un gd cn cs a ccd cl outer A₀ base h₀ L m s Q E B F X N T' hk hd hu hret
  refine wpAny_call ?_
  k_dflt ktr_enter
  (with_reducible rename Fr _ _ _ _ => F1)
  obtain ⟨m1, F2⟩ := fr_gen1 (x := Str.ofString "octets") F1 (by with_unfolding_all rfl)
  clear F1
  k_steps
  unfold Stop
  (with_reducible rename News _ _ _ _ => N1)
  refine join_eval (BytV (bodyL ks)) F2 N1 ?_ ?_
  · have mk8 : Mark := trivial
    k_steps
    all_goals (
      unfold EvalPost
      refine ⟨_, _, rfl, by k_asm, cb_drop (by k_asm) (fun _ h => nomatch h), ?_⟩
      first | exact body_1 (by assumption) (by assumption) | exact body_2 (by assumption) (by assumption))
  intro v2 h2 tk2 F3 N2 hv2
  obtain ⟨d2, t2, hv, hd2⟩ := hv2
  subst hv
  have hl := bodyL_len ks
  generalize hbl : bodyL ks = l at hd2 hl
  (try dsimp only)
  (try k_sweep)
  (try k_fold)
  k_steps
  unfold Stop
  (with_reducible rename FindR _ _ => hF)
  (with_reducible rename Fr _ _ _ _ => F4)
  (with_reducible rename News _ _ _ _ => N4)
  obtain ⟨m4, F5⟩ := fr_gen3 (x1 := Str.ofString "octets") (x2 := Str.ofString "body") (x3 := Str.ofString "cut") F4 (by with_unfolding_all rfl) (by with_unfolding_all rfl) (by with_unfolding_all rfl)
  clear F4
  refine join_codes l hF F5 N4 ?_ ?_
  · have mk8 : Mark := trivial
    k_steps
    all_goals (
      unfold EvalPost
      refine ⟨_, _, rfl, by k_asm, by k_asm, ?_⟩
      first | exact code_1 (by assumption) (by assumption) | exact code_2 (by assumption) (by assumption) (by assumption))
  intro v3 h3 tk3 F6 N6 hv3
  obtain ⟨d3, t3, hv, hd3⟩ := hv3
  subst hv
  obtain ⟨cs, hcl, hl3⟩ := codes_ex hF
  rw [hcl] at hd3
  (try dsimp only)
  (try k_sweep)
  (try k_fold)
  k_steps
  any_goals (
    (with_reducible rename Fr h₀ L _ _ => kF9)
    (with_reducible rename GSub _ _ _ => kG9)
    refine hret _ [] _ _ kF9 (fun _ h => nomatch h) (frame_of kG9 ‹_›) ?_
    first | exact end_n1 hbl hF hcl (by assumption) | exact end_n2 hbl hF hcl (by assumption))
  unfold Stop
  (with_reducible rename Fr _ _ _ _ => F7)
  (with_reducible rename News _ _ _ _ => N7)
  refine comp_bad hd3 rfl F7 N7 (by omega) ?_ ?_ ?_
  · intro C9 k9 u9 s9 m9 E9 hn9 hx9
    k_steps
    all_goals (first | exact ⟨_, _, rfl, fun _ _ e => e⟩ | exact bad_a (by assumption) | exact bad_b (by assumption))
  · intro C9 k9 u9 s9 m9 E9 hn9 hx9
    k_steps
    all_goals exact ⟨_, _, rfl, fun _ _ e => e⟩
  intro D9 h9 tk9 vs9 n9 F9 N9 I9
  (try dsimp only)
  (try k_sweep)
  (try k_fold)
  k_steps
  any_goals (
    (with_reducible rename Fr h₀ L _ _ => kF9)
    (with_reducible rename GSub _ _ _ => kG9)
    refine hret _ [] _ _ kF9 (fun _ h => nomatch h) (frame_of kG9 ‹_›) ?_
    exact end_n3 hbl hF hcl (by assumption))
  unfold Stop
  refine' byt_use0 (all := []) ?k1 ?k2 ?k3 (cb_drop ?k4 (fun _ h => nomatch h)) ?k5 ?k6 (sum_k _ _ _ hd3 ?kb) ?kd ?ku ?_
  (case k6 => first | exact rfl | assumption)
  (case k1 => k_asm)
  (case k2 => k_asm)
  (case k3 => k_asm)
  (case k4 => k_asm)
  (case k5 => k_asm)
  (case kb => omega)
  (case kd => ktr_room)
  (case ku => ktr_units)
  intro r5 h5 tk5 F10 N10 hP5
  obtain ⟨t5, e5⟩ := hP5
  subst e5
  (try dsimp only)
  (try k_sweep)
  (try k_fold)
  k_steps
  unfold Stop
  (with_reducible rename Fr _ _ _ _ => F11)
  (with_reducible rename News _ _ _ _ => N11)
  refine join_eval (IntV (if ks.take 1 = [45] then -1 else 1)) F11 N11 ?_ ?_
  · have mk8 : Mark := trivial
    k_steps
    all_goals (
      unfold EvalPost
      refine ⟨_, _, rfl, by k_asm, by k_asm, ?_⟩
      first | exact sgn_1 (by assumption) (by assumption) | exact sgn_2 (by assumption) (by assumption))
  intro v6 h6 tk6 F12 N12 hv6
  obtain ⟨t6, hv⟩ := hv6
  subst hv
  (try dsimp only)
  (try k_sweep)
  (try k_fold)
  k_steps
  unfold Stop
  (with_reducible rename Fr _ _ _ _ => F13)
  (with_reducible rename News _ _ _ _ => N13)
  refine join_plc l hF F13 N13 ?_ ?_
  · have mk8 : Mark := trivial
    k_steps
    all_goals (
      unfold EvalPost
      refine ⟨_, _, rfl, by k_asm, by k_asm, ?_⟩
      first | exact plc_1 (by assumption) | exact plc_2 (by assumption))
  intro v7 h7 tk7 F14 N14 hv7
  obtain ⟨t7, hv⟩ := hv7
  subst hv
  (try dsimp only)
  (try k_sweep)
  (try k_fold)
  k_steps
  (with_reducible rename Fr h₀ L _ _ => kF9)
  (with_reducible rename GSub _ _ _ => kG9)
  exact hret _ [(_, _)] _ _ kF9 ‹_› (frame_of kG9 ‹_›) (end_t hbl hF hcl (by assumption) (by assumption) (by assumption))
end Mine
namespace Mine
theorem bad_t {c : Int} (h : bad c = true) : ¬ (48 ≤ c ∧ c ≤ 57) := by
  unfold bad at h
  intro q
  rw [decide_eq_true q.1, decide_eq_true q.2] at h
  cases h
theorem bad_f {c : Int} (h : bad c = false) : 48 ≤ c ∧ c ≤ 57 := by
  unfold bad at h
  refine ⟨?_, ?_⟩ <;> (apply Decidable.byContradiction; intro q; rw [decide_eq_false q] at h; simp at h)
theorem filt_cons {c : Int} {l : List Int} (h : (c :: l).filter bad = []) : (48 ≤ c ∧ c ≤ 57) ∧ l.filter bad = [] := by
  cases hb : bad c with
  | true => rw [List.filter_cons_of_pos hb] at h; cases h
  | false =>
    rw [List.filter_cons_of_neg (by rw [hb]; exact Bool.false_ne_true)] at h
    exact ⟨bad_f hb, h⟩
theorem rst_fig {n t p c : Int} (h : 48 ≤ c ∧ c ≤ 57) (hn : n + 1 ≤ 40) : rst n t p c = some (n + 1, 10 * t + c - 48, if p < 0 then p else p + 1) := by
  unfold rst
  rw [if_neg (by omega), if_pos h, if_neg (by omega)]
theorem rst_many {n t p c : Int} (h : 48 ≤ c ∧ c ≤ 57) (hn : 40 < n + 1) : rst n t p c = none := by
  unfold rst
  rw [if_neg (by omega), if_pos h, if_pos (by omega)]
theorem rst_bad {n t p c : Int} (h : ¬ (48 ≤ c ∧ c ≤ 57)) (hp : c ≠ 46 ∨ 0 ≤ p) : rst n t p c = none := by
  unfold rst
  rw [if_neg (by omega), if_neg h]
theorem val_step (c t : Int) (r : List Int) : (10 * t + c - 48) * 10 ^ r.length + val r = t * 10 ^ (c :: r).length + val (c :: r) := by
  show _ = t * 10 ^ (r.length + 1) + ((c - 48) * 10 ^ r.length + val r)
  rw [Int.pow_succ]
  generalize (10 : Int) ^ r.length = x
  generalize val r = y
  have e : 10 * t + c - 48 = 10 * t + (c - 48) := by omega
  have e2 : t * (x * 10) = 10 * t * x := by rw [Int.mul_comm x, ← Int.mul_assoc, Int.mul_comm t]
  rw [e, Int.add_mul, e2]
  omega
theorem rrun_fig : ∀ (l : List Int) (n t p : Int), l.filter bad = [] → n + l.length ≤ 40 → rrun l n t p = some (n + l.length, t * 10 ^ l.length + val l, if p < 0 then p else p + l.length)
  | [], n, t, p, _, _ => by
    simp only [rrun, List.length_nil, val]
    simp
  | c :: r, n, t, p, h, hn => by
    obtain ⟨hc, hr⟩ := filt_cons h
    rw [List.length_cons] at hn
    unfold rrun
    rw [rst_fig hc (by omega)]
    dsimp only
    rw [rrun_fig r _ _ _ hr (by omega), val_step]
    simp only [Option.some.injEq, Prod.mk.injEq, true_and, List.length_cons]
    refine ⟨by omega, ?_⟩
    by_cases hp : p < 0
    · rw [if_pos hp, if_pos hp, if_pos hp]
    · rw [if_neg hp, if_neg hp, if_neg (by omega)]; omega
theorem rrun_many : ∀ (l : List Int) (n t p : Int), l.filter bad = [] → 40 < n + l.length → n ≤ 40 → rrun l n t p = none
  | [], n, t, p, _, h, h' => by rw [List.length_nil] at h; omega
  | c :: r, n, t, p, h, hn, h' => by
    obtain ⟨hc, hr⟩ := filt_cons h
    rw [List.length_cons] at hn
    unfold rrun
    by_cases h1 : n + 1 ≤ 40
    · rw [rst_fig hc h1]
      exact rrun_many r _ _ _ hr (by omega) h1
    · rw [rst_many hc (by omega)]
theorem rrun_bad : ∀ (l : List Int) (n t p : Int), ((46 : Int) ∉ l ∨ 0 ≤ p) → l.filter bad ≠ [] → rrun l n t p = none
  | [], n, t, p, _, h => absurd rfl h
  | c :: r, n, t, p, hp, h => by
    have hp' : c ≠ 46 ∨ 0 ≤ p := hp.imp (fun q e => q (e ▸ List.mem_cons_self ..)) id
    unfold rrun
    cases hb : bad c with
    | true => rw [rst_bad (bad_t hb) hp']
    | false =>
      rw [List.filter_cons_of_neg (by rw [hb]; exact Bool.false_ne_true)] at h
      by_cases h1 : n + 1 ≤ 40
      · rw [rst_fig (bad_f hb) h1]
        refine rrun_bad r _ _ _ (hp.imp (fun q e => q (List.mem_cons_of_mem _ e)) fun q => ?_) h
        rw [if_neg (by omega)]
        omega
      · rw [rst_many (bad_f hb) (by omega)]
theorem rrun_app_none (post : List Int) : ∀ (pre : List Int) (n t p : Int), rrun pre n t p = none → rrun (pre ++ post) n t p = none
  | [], n, t, p, h => by cases h
  | d :: pre, n, t, p, h => by
    rw [List.cons_append]
    unfold rrun at h ⊢
    cases e : rst n t p d with
    | none => rfl
    | some z =>
      rw [e] at h
      obtain ⟨a, b, q⟩ := z
      exact rrun_app_none post pre a b q h
theorem val_app : ∀ (a b : List Int), val (a ++ b) = val a * 10 ^ b.length + val b
  | [], b => by rw [List.nil_append]; show _ = 0 * _ + _; rw [Int.zero_mul, Int.zero_add]
  | c :: a, b => by
    rw [List.cons_append]
    show (c - 48) * 10 ^ (a ++ b).length + val (a ++ b) = ((c - 48) * 10 ^ a.length + val a) * 10 ^ b.length + val b
    rw [val_app a b, List.length_append, Int.pow_add, Int.add_mul, ← Int.mul_assoc]
    omega
theorem body_eq (ks : List Int) : ks.drop (begunOf ks) = bodyL ks := by
  unfold bodyL begunOf
  cases ks with
  | nil => rfl
  | cons c r =>
    have e1 : (c :: r).getD 0 0 = c := rfl
    have e2 : (c :: r).take 1 = [c] := rfl
    rw [e1, e2]
    by_cases h : c = 43 ∨ c = 45
    · rw [if_pos h, if_pos (h.imp (fun e => by rw [e]) (fun e => by rw [e]))]
    · rw [if_neg h, if_neg (fun q => h (q.imp (fun e => by simpa using e) (fun e => by simpa using e)))]
      rfl
theorem m45 (ks : List Int) : (ks.getD 0 0 = 45) ↔ ks.take 1 = [45] := by
  cases ks with
  | nil => simp
  | cons c r =>
    have e1 : (c :: r).getD 0 0 = c := rfl
    have e2 : (c :: r).take 1 = [c] := rfl
    rw [e1, e2]
    simp
theorem codes_at {l pre post : List Int} {i : Int} (e : l = pre ++ 46 :: post) (hi : i = pre.length) : codesL l i = pre ++ post := by
  subst e hi
  unfold codesL
  rw [if_neg (by omega), Int.toNat_natCast, List.take_left]
  congr 1
  have : pre ++ 46 :: post = (pre ++ [46]) ++ post := by simp
  rw [this]
  exact List.drop_left' (by simp)
theorem due_no {ks : List Int} {i : Int} (hF : FindR (bodyL ks) i) (h : ¬ (1 ≤ (codesL (bodyL ks) i).length ∧ (codesL (bodyL ks) i).length ≤ 40) ∨ (codesL (bodyL ks) i).filter bad ≠ []) : readF ks = none := by
  unfold readF
  rw [body_eq]
  generalize bodyL ks = l at hF h ⊢
  suffices H : rrun l 0 0 (-1) = none ∨ ∃ t p, rrun l 0 0 (-1) = some (0, t, p) by
    rcases H with H | ⟨t, p, H⟩
    · rw [H]
    · rw [H]
      show (if (0 : Int) = 0 then none else _) = none
      rw [if_pos rfl]
  rcases hF with ⟨rfl, hn⟩ | ⟨pre, post, e, hn, hi⟩
  · have ec : codesL l (-1) = l := if_pos (by decide)
    rw [ec] at h
    by_cases hb : l.filter bad = []
    · rcases h with h | h
      · by_cases h0 : l.length = 0
        · have : l = [] := List.eq_nil_of_length_eq_zero h0
          subst this
          exact .inr ⟨_, _, rfl⟩
        · exact .inl (rrun_many l 0 0 (-1) hb (by omega) (by decide))
      · exact absurd hb h
    · exact .inl (rrun_bad l 0 0 (-1) (.inl hn) hb)
  · rw [codes_at e hi] at h
    subst e
    rw [List.length_append, List.filter_append] at h
    by_cases hb : pre.filter bad = []
    · by_cases h1 : pre.length ≤ 40
      · have e1 := rrun_fig pre 0 0 (-1) hb (by omega)
        rw [rrun_app 46 post pre _ _ _ _ _ _ e1]
        have e2 : rst (0 + (pre.length : Int)) (0 * 10 ^ pre.length + val pre) (if (-1 : Int) < 0 then -1 else -1 + (pre.length : Int)) 46 = some (0 + (pre.length : Int), 0 * 10 ^ pre.length + val pre, 0) := by
          unfold rst
          rw [if_pos ⟨rfl, by rw [if_pos (by decide)]; decide⟩]
        unfold rrun
        rw [e2]
        show rrun post _ _ 0 = none ∨ ∃ t p, rrun post _ _ 0 = some (0, t, p)
        by_cases hb2 : post.filter bad = []
        · rcases h with h | h
          · by_cases h0 : pre.length + post.length = 0
            · have : post = [] := List.eq_nil_of_length_eq_zero (by omega)
              subst this
              have : pre = [] := List.eq_nil_of_length_eq_zero (by omega)
              subst this
              exact .inr ⟨_, _, rfl⟩
            · exact .inl (rrun_many post _ _ _ hb2 (by omega) (by omega))
          · rw [hb, hb2] at h
            exact absurd rfl h
        · exact .inl (rrun_bad post _ _ _ (.inr (by decide)) hb2)
      · exact .inl (rrun_app_none _ pre _ _ _ (rrun_many pre _ _ _ hb (by omega) (by decide)))
    · exact .inl (rrun_app_none _ pre _ _ _ (rrun_bad pre _ _ _ (.inl hn) hb))
theorem due_tup {ks : List Int} {i t p : Int} (hF : FindR (bodyL ks) i) (h1 : 1 ≤ (codesL (bodyL ks) i).length) (h2 : (codesL (bodyL ks) i).length ≤ 40) (hb : (codesL (bodyL ks) i).filter bad = [])
    (ht : t = val (codesL (bodyL ks) i) * (if ks.take 1 = [45] then -1 else 1)) (hp : p = (if i < 0 then -1 else (bodyL ks).length - i - 1)) : readF ks = some (t, p) := by
  unfold readF
  rw [body_eq]
  have es : ∀ x : Int, x * (if ks.take 1 = [45] then -1 else 1) = if ks.getD 0 0 = 45 then -x else x := by
    intro x
    by_cases h : ks.take 1 = [45]
    · rw [if_pos h, if_pos ((m45 ks).mpr h)]; omega
    · rw [if_neg h, if_neg (fun q => h ((m45 ks).mp q))]; omega
  rw [es] at ht
  clear es
  generalize bodyL ks = l at hF h1 h2 hb ht hp ⊢
  suffices H : ∃ n, n ≠ 0 ∧ rrun l 0 0 (-1) = some (n, val (codesL l i), p) by
    obtain ⟨n, hn, H⟩ := H
    rw [H]
    show (if n = 0 then none else some ((if ks.getD 0 0 = 45 then -val (codesL l i) else val (codesL l i)), p)) = _
    rw [if_neg hn, ht]
  rcases hF with ⟨rfl, hn⟩ | ⟨pre, post, e, hn, hi⟩
  · have ec : codesL l (-1) = l := if_pos (by decide)
    rw [ec] at h1 h2 hb ⊢
    refine ⟨0 + (l.length : Int), by omega, ?_⟩
    rw [rrun_fig l 0 0 (-1) hb (by omega), hp, Int.zero_mul, Int.zero_add (val l)]
    rfl
  · rw [codes_at e hi] at h1 h2 hb ⊢
    subst e
    rw [List.filter_append, List.append_eq_nil_iff] at hb
    rw [List.length_append] at h1 h2
    have e1 := rrun_fig pre 0 0 (-1) hb.1 (by omega)
    refine ⟨0 + (pre.length : Int) + post.length, by omega, ?_⟩
    rw [rrun_app 46 post pre _ _ _ _ _ _ e1]
    have e2 : rst (0 + (pre.length : Int)) (0 * 10 ^ pre.length + val pre) (if (-1 : Int) < 0 then -1 else -1 + (pre.length : Int)) 46 = some (0 + (pre.length : Int), 0 * 10 ^ pre.length + val pre, 0) := by
      unfold rst
      rw [if_pos ⟨rfl, by rw [if_pos (by decide)]; decide⟩]
    unfold rrun
    rw [e2]
    show rrun post _ _ 0 = _
    rw [rrun_fig post _ _ _ hb.2 (by omega), val_app, Int.zero_mul, Int.zero_add (val pre), hp, hi, if_neg (show ¬ ((pre.length : Int) < 0) by omega), if_neg (show ¬ ((0 : Int) < 0) by decide), List.length_append, List.length_cons]
    simp only [Option.some.injEq, Prod.mk.injEq, true_and]
    omega
end Mine
namespace Mine
def figAt (ks : List Int) (j : Nat) : Prop := 48 ≤ ks.getD j 0 ∧ ks.getD j 0 ≤ 57
def ScanI (ks : List Int) (bg en g : Int) : Prop := bg ≤ g ∧ g ≤ en ∧ ∀ j : Nat, bg ≤ (j : Int) → (j : Int) < g → figAt ks j
def Scan (ks : List Int) (bg en g : Int) : Prop := ScanI ks bg en g ∧ (g < en → ¬ figAt ks g.toNat)
theorem scan_0 {ks : List Int} {bg en : Int} (h : bg ≤ en) : ScanI ks bg en bg := ⟨Int.le_refl _, h, fun j h1 h2 => by omega⟩
theorem scan_step {ks : List Int} {bg en g : Int} (h : ScanI ks bg en g) (h0 : 0 ≤ bg) (hg : g < en) (h1 : 48 ≤ ks.getD g.toNat 0) (h2 : ks.getD g.toNat 0 ≤ 57) : ScanI ks bg en (g + 1) := by
  obtain ⟨a, b, c⟩ := h
  refine ⟨by omega, by omega, fun j hj hj' => ?_⟩
  by_cases e : (j : Int) = g
  · have : j = g.toNat := by omega
    rw [this]; exact ⟨h1, h2⟩
  · exact c j hj (by omega)
theorem scan_e1 {ks : List Int} {bg en g : Int} (h : ScanI ks bg en g) (hg : ¬ g < en) : Scan ks bg en g := ⟨h, fun q => absurd q hg⟩
theorem scan_e2 {ks : List Int} {bg en g : Int} (h : ScanI ks bg en g) (h1 : ¬ 48 ≤ ks.getD g.toNat 0) : Scan ks bg en g := ⟨h, fun _ q => h1 q.1⟩
theorem scan_e3 {ks : List Int} {bg en g : Int} (h : ScanI ks bg en g) (h1 : ¬ ks.getD g.toNat 0 ≤ 57) : Scan ks bg en g := ⟨h, fun _ q => h1 q.2⟩
theorem scan_lt {ks : List Int} {bg en g g' : Int} (h0 : 0 ≤ bg) (h : Scan ks bg en g) (h' : Scan ks bg en g') (hl : g < g') : False := by
  obtain ⟨⟨a, b, c⟩, d⟩ := h
  obtain ⟨⟨a', b', c'⟩, _⟩ := h'
  refine d (by omega) (c' g.toNat (by omega) (by omega))
theorem scan_one {ks : List Int} {bg en g g' : Int} (h0 : 0 ≤ bg) (h : Scan ks bg en g) (h' : Scan ks bg en g') : g = g' := by
  by_cases e : g < g'
  · exact (scan_lt h0 h h' e).elim
  · by_cases e' : g' < g
    · exact (scan_lt h0 h' h e').elim
    · omega
noncomputable def sl (ks : List Int) (bg g : Int) : List Int := (ks.drop (clipAt ks.length bg)).take (clipAt ks.length g - clipAt ks.length bg)
theorem val_snoc (pre : List Int) (c : Int) : val (pre ++ [c]) = val pre * 10 + c - 48 := by
  rw [val_app]
  show val pre * 10 ^ 1 + ((c - 48) * 10 ^ 0 + 0) = _
  omega
section
variable {M : Model} {A : Around} {E : Value → Shared → Prop} {s : Shared} {env : Env} {h₀ : Heap} {L : Addr} {m : Str → Option Value} {all : List (Addr × Obj)}
def WhilePost (h₀ : Heap) (L : Addr) (m : Str → Option Value) (all : List (Addr × Obj)) (s : Shared) (ks : List Int) (bg en : Int) (fl : Flow) (s' : Shared) : Prop :=
  fl = .next ∧ ∃ g t h' tk, s' = { s with heap := h', toks := tk } ∧ Fr h₀ L h' (fun y => if y = Str.ofString "goal" then some (.int g t) else m y) ∧ News h₀ L h' all ∧ Scan ks bg en g
theorem join_while {test : Expr} {body : List Stmt} {pos : Pos} {Q : Flow → Shared → Prop} {bg en : Int} {tb te : Tok} (ks : List Int) (_ : Fr h₀ L s.heap m) (_ : News h₀ L s.heap all) (_ : m (Str.ofString "begin") = some (.int bg tb)) (_ : m (Str.ofString "end") = some (.int en te))
    (h1 : wpAny M A (exec (.While test body [] pos) env) (WhilePost h₀ L m all s ks bg en) E s)
    (h2 : ∀ g t h' tk, Fr h₀ L h' (fun y => if y = Str.ofString "goal" then some (.int g t) else m y) → News h₀ L h' all → Scan ks bg en g → Q .next { s with heap := h', toks := tk }) :
    wpAny M A (exec (.While test body [] pos) env) Q E s :=
  wpAny_mono h1 (fun fl s' hq => by
    obtain ⟨rfl, g, t, h', tk, rfl, F', N', sc⟩ := hq
    exact h2 g t h' tk F' N' sc) fun _ _ e => e
def DueV (ks : List Int) (bg g : Int) (v : Value) : Prop := (v = .none ∧ ¬ (1 ≤ g - bg ∧ g - bg ≤ 20)) ∨ ∃ t, v = .int (val (sl ks bg g)) t ∧ 1 ≤ g - bg ∧ g - bg ≤ 20
theorem join_due {e : Expr} {Q : Value → Shared → Prop} {ks : List Int} {bg en g : Int} (_ : Scan ks bg en g) (F : Fr h₀ L s.heap m) (N : News h₀ L s.heap all)
    (h1 : wpAny M A (eval e env) (EvalPost h₀ L m all s (DueV ks bg g)) E s)
    (h2 : ∀ v h' tk, Fr h₀ L h' m → News h₀ L h' all → DueV ks bg g v → Q v { s with heap := h', toks := tk }) :
    wpAny M A (eval e env) Q E s := join_eval (DueV ks bg g) F N h1 h2
theorem due_v1 {ks : List Int} {bg g : Int} (h : ¬ 1 ≤ g - bg) : DueV ks bg g .none := .inl ⟨rfl, fun q => h q.1⟩
theorem due_v2 {ks : List Int} {bg g : Int} (h : ¬ g - bg ≤ 20) : DueV ks bg g .none := .inl ⟨rfl, fun q => h q.2⟩
theorem due_v3 {ks : List Int} {bg g : Int} {t : Tok} (h : 1 ≤ g - bg) (h' : g - bg ≤ 20) : DueV ks bg g (.int (val (sl ks bg g)) t) := .inr ⟨t, rfl, h, h'⟩
end
end Mine
namespace Mine
section
variable {w : World} {f : Addr} {vs : List Value} {mean : ExcName → Option Value} {mg mb : Str → Option Value} {d u dp un : Nat} {gd : Option (List Code)} {cn : Str} {cs : Scope} {a : Addr} {ccd : Value} {cl : List (Str × Addr)} {outer : List Env} {A₀ : Around} {base h₀ : Heap} {L : Addr} {m : Str → Option Value} {s : Shared} {Q E : Value → Shared → Prop} {all : List (Addr × Obj)} {ks : List Int}
theorem ctcN_use {R : List (Addr × Obj) → Value → Prop} (B : Below A₀ base outer h₀) (F : Fr h₀ L s.heap m) (X : (Mine.hd.heap_39 w.params).In h₀) (N : News h₀ L s.heap all) (T' : Top Mine.view (looseW Mine.view []) mean mg mb h₀) (hk : cs.kind = .function)
    (C : CtcN d u w f vs [] R) (hd : dp + d < recursionLimit) (hu : un + u < cLine)
    (ret : ∀ r news' h' tk', Fr h₀ L h' m → News h₀ L h' (news' ++ all) → R news' r → Q r { s with heap := h', toks := tk' }) :
    wpAny (model PySem.Challenge.rw_qd0125_01.row.prog w) (ktrTop dp un gd cn cs L a ccd cl outer) (call (.ref f) vs) Q E s := by
  refine C mean mg mb dp un gd cn cs a ccd cl outer A₀ base h₀ L m s Q E B F X (fun _ h => nomatch h) T' hk hd hu fun r news' h' tk' F' N' fr hR => ?_
  exact ret r news' h' tk' F' (fun p hp => (List.mem_append.mp hp).elim (N' p) fun hp => ⟨fr _ _ (N p hp).1 (fun h => nomatch h), (N p hp).2⟩) hR
theorem due_use (B : Below A₀ base outer h₀) (F : Fr h₀ L s.heap m) (X : (Mine.hd.heap_39 w.params).In h₀) (N : News h₀ L s.heap all) (T' : Top Mine.view (looseW Mine.view []) mean mg mb h₀) (hk : cs.kind = .function)
    (C : CtcN d u w f vs [] (DuR w ks)) (hd : dp + d < recursionLimit) (hu : un + u < cLine)
    (no : ∀ h' tk', Fr h₀ L h' m → News h₀ L h' all → readF ks = none → Q .none { s with heap := h', toks := tk' })
    (tup : ∀ t p D u1 u2 h' tk', Fr h₀ L h' m → News h₀ L h' ((D, { cls := .type "tuple", data := .seq #[.int t u1, .int p u2] }) :: all) → readF ks = some (t, p) → Q (.ref D) { s with heap := h', toks := tk' }) :
    wpAny (model PySem.Challenge.rw_qd0125_01.row.prog w) (ktrTop dp un gd cn cs L a ccd cl outer) (call (.ref f) vs) Q E s :=
  ctcN_use B F X N T' hk C hd hu fun r news' h' tk' F' N' hR => by
    cases hR with
    | no n i hF h => exact no h' tk' F' (cb_drop N' fun _ hp => List.mem_append_right _ hp) (due_no hF h)
    | tup i t p D u1 u2 hF h2 h1 hb ht hp => exact tup t p D u1 u2 h' tk' F' N' (due_tup hF h1 h2 hb ht hp)
theorem rd_use (B : Below A₀ base outer h₀) (F : Fr h₀ L s.heap m) (X : (Mine.hd.heap_39 w.params).In h₀) (N : News h₀ L s.heap all) (T' : Top Mine.view (looseW Mine.view []) mean mg mb h₀) (hk : cs.kind = .function)
    (C : CtcN d u w f vs [] (RdR w ks)) (hd : dp + d < recursionLimit) (hu : un + u < cLine)
    (no : ∀ h' tk', readF ks = none → Fr h₀ L h' m → News h₀ L h' all → Q .none { s with heap := h', toks := tk' })
    (int : ∀ t p u h' tk', readF ks = some (t, p) → Fr h₀ L h' m → News h₀ L h' all → p < 0 → Q (.int t u) { s with heap := h', toks := tk' })
    (dec : ∀ t p b q x dx u1 u2 u3 u4 h' tk', readF ks = some (t, p) → Fr h₀ L h' m → News h₀ L h' ((x, instObj 115 dx) :: (dx, decObj w b q u1 u2 u3 u4) :: all) → ¬ p < 0 → norm t p.toNat = (b, q) → @LT.lt Nat _ dx x → Q (.ref x) { s with heap := h', toks := tk' }) :
    wpAny (model PySem.Challenge.rw_qd0125_01.row.prog w) (ktrTop dp un gd cn cs L a ccd cl outer) (call (.ref f) vs) Q E s :=
  ctcN_use B F X N T' hk C hd hu fun r news' h' tk' F' N' hR => by
    cases hR with
    | no n h => exact no h' tk' h F' (cb_drop N' fun _ hp => List.mem_append_right _ hp)
    | int n t p u h hp => exact int t p u h' tk' h F' (cb_drop N' fun _ hp => List.mem_append_right _ hp) hp
    | dec t p b q x dx u1 u2 u3 u4 h hp hn hl => exact dec t p b q x dx u1 u2 u3 u4 h' tk' h F' N' hp hn hl
end
theorem read_n (w : World) (b : Array UInt8) (t : Tok) (ks : List Int) (hB : KBw.bInts b = ks) (hz : ks.length ≤ 4000) : CtcN 8 400 w 126 [.bytes b t] [] (RdR w ks) := read_c w b t ks hB hz
theorem rd_abs1 {ks : List Int} {x : Int × Int} {P : Prop} (h : readF ks = none) (h' : readF ks = some x) : P := by rw [h] at h'; cases h'
theorem rd_same {ks : List Int} {t p t' p' : Int} (h : readF ks = some (t, p)) (h' : readF ks = some (t', p')) : t' = t ∧ p' = p := by
  rw [h] at h'
  simp only [Option.some.injEq, Prod.mk.injEq] at h'
  exact ⟨h'.1.symm, h'.2.symm⟩
theorem isrd_end {b q t p x y : Int} (h1 : norm t p.toNat = (b, q)) (h2 : norm t p.toNat = (x, y)) : (b == x && q == y) = true := by
  rw [h1] at h2
  simp only [Prod.mk.injEq] at h2
  rw [h2.1, h2.2]
  simp
local macro_rules | `(tactic| ktr_enter) => `(tactic| (refine' code_defG ?k1 ?k2 ?k3 ?k4 ?k5 ?kA ?kF ?kK ?k6 ?k7 ?k8 ?k9 ?kB ?_ ?c2 ?c3 ?c4 ?c5; (case kA => exact rfl); (case kF => exact rfl); (case kK => assumption); (case k1 => k_asm); (case k2 => k_asm); (case k3 => k_asm); (case k4 => k_asm); (case k5 => k_asm); (case k6 => k_is); (case k7 => k_is); (case k8 => ktr_room); (case k9 => exact BindsTo.of_eq rfl); (case c5 => decide); (case kB => exact locs rfl); (case c2 => exact rfl); (case c3 => exact rfl); (case c4 => exact rfl); k_whole; intro g' L' h' FG' F' N' B' X' T' kG'; (try dsimp only); (try k_fold)))
local macro_rules | `(tactic| units_room) => `(tactic| ktr_units)
local macro_rules | `(tactic| k_room) => `(tactic| ktr_room)
local macro_rules | `(tactic| walk_at "call ref") => `(tactic| (k_here; (with_reducible show wpAny _ _ (call (Value.ref 269) _) _ _ _); k_dflt (refine' due_use ?k1 ?k2 ?k3 ?k4 ?k5 ?k6 (due_c _ _ _ _ ?ka ?kb) ?kd ?ku ?_ ?_; (case k6 => first | exact rfl | assumption); (case k1 => k_asm); (case k2 => k_asm); (case k3 => k_asm); (case k4 => k_asm); (case k5 => k_asm); (case ka => kba_ints2); (case kb => kba_size); (case kd => ktr_room); (case ku => ktr_units); all_goals (k_whole; first | (intro t9 p9 D9 u19 u29 h9 tk9 F9 N9 e9) | (intro h9 tk9 F9 N9 e9))); all_goals ((try dsimp only); (try k_sweep); (try k_fold))))
local macro_rules | `(tactic| walk_at "call ref") => `(tactic| (k_here; (with_reducible show wpAny _ _ (call (Value.ref 126) _) _ _ _); k_dflt (refine' rd_use ?k1 ?k2 ?k3 ?k4 ?k5 ?k6 (read_n _ _ _ _ ?ka ?kb) ?kd ?ku ?_ ?_ ?_; (case k6 => first | exact rfl | assumption); (case k1 => k_asm); (case k2 => k_asm); (case k3 => k_asm); (case k4 => k_asm); (case k5 => k_asm); (case ka => kba_ints2); (case kb => kba_size); (case kd => ktr_room); (case ku => ktr_units); all_goals (first | ((rename readF _ = none => e0); intro t9 p9 b9 q9 x9 dx9 u19 u29 u39 u49 h9 tk9 e9; exact rd_abs1 e0 e9) | ((rename readF _ = none => e0); intro t9 p9 u9 h9 tk9 e9; exact rd_abs1 e0 e9) | ((rename readF _ = some _ => e0); intro h9 tk9 e9; exact rd_abs1 e9 e0) | (k_whole; (rename readF _ = some _ => e0); intro t9 p9 b9 q9 x9 dx9 u19 u29 u39 u49 h9 tk9 e9; obtain ⟨et9, ep9⟩ := rd_same e0 e9; subst et9 ep9; intro F9 N9 hp9 hn9 hl9) | (k_whole; (rename readF _ = some _ => e0); intro t9 p9 u9 h9 tk9 e9; obtain ⟨et9, ep9⟩ := rd_same e0 e9; subst et9 ep9; intro F9 N9 hp9) | (k_whole; intro h9 tk9 e9 F9 N9))); all_goals ((try dsimp only); (try k_sweep); (try k_fold))))
set_option maxHeartbeats 8000000 in
theorem isrd_c (w : World) (b : Array UInt8) (t : Tok) (ks : List Int) (hB : KBw.bInts b = ks) (hz : ks.length ≤ 4000) : CtcN 30 1400 w 276 [.bytes b t] [] (fun _ r => r = .bool true) := by
  unfold CtcN
  intro mean mg mb dp un gd cn cs a ccd cl outer A₀ base h₀ L m s Q E B F X N T' hk hd hu hret
  refine wpAny_call ?_
  k_dflt ktr_enter
  k_with "state" => (first | exact norm_step ‹_› ‹_› (by omega) (by omega))
  k_with "exec While BoolOp cons nil" => k_while_given ["top!", "places!"] (fun t₀ p₀ script t p => norm t p.toNat = norm t₀ p₀.toNat ∧ 0 ≤ p) (fun t₀ p₀ script t p => p.toNat) "top" "places"
  k_steps
  all_goals (
    (with_reducible rename Fr h₀ L _ _ => kF9)
    (with_reducible rename GSub _ _ _ => kG9)
    refine hret _ [] _ _ kF9 (fun _ h => nomatch h) (frame_of kG9 ‹_›) ?_
    first
      | rfl
      | exact congrArg Value.bool (beq_self_eq_true _)
      | exact congrArg Value.bool (isrd_end (by assumption) (norm_end1 (by assumption) (by assumption) (by assumption)))
      | exact congrArg Value.bool (isrd_end (by assumption) (norm_end2 (by assumption) (by assumption) (by assumption))))
end Mine
namespace Mine
abbrev curObj (w : World) (d : Array UInt8) (t : Tok) (bg : Int) (tb : Tok) (en : Int) (te u1 u2 u3 : Tok) : Obj :=
  dictOf [{ hash := PyData.keyHash w.params (Str.ofString "data"), key := .str (Str.ofString "data") u1, val := .bytes d t }, { hash := PyData.keyHash w.params (Str.ofString "at"), key := .str (Str.ofString "at") u2, val := .int bg tb }, { hash := PyData.keyHash w.params (Str.ofString "end"), key := .str (Str.ofString "end") u3, val := .int en te }] 3
inductive NumR (w : World) (ks : List Int) (x dx : Addr) (d : Array UInt8) (t : Tok) (bg : Int) (tb : Tok) (en : Int) (te u1 u2 u3 : Tok) : List (Addr × Obj) → Value → Prop
  | no (g : Int) : Scan ks bg en g → ¬ (1 ≤ g - bg ∧ g - bg ≤ 20) → NumR w ks x dx d t bg tb en te u1 u2 u3 [(x, instObj 236 dx), (dx, curObj w d t bg tb en te u1 u2 u3)] .none
  | yes (g : Int) (tg t' : Tok) : Scan ks bg en g → 1 ≤ g - bg → g - bg ≤ 20 → NumR w ks x dx d t bg tb en te u1 u2 u3 [(x, instObj 236 dx), (dx, curObj w d t g tg en te u1 u2 u3)] (.int (val (sl ks bg g)) t')
theorem num_step {n c : Int} {pre : List Int} (h : n = val pre) : n * 10 + c - 48 = val (pre ++ [c]) := by rw [val_snoc, h]
theorem num_0 : (0 : Int) = val [] := rfl
section
variable {w : World} {ks : List Int} {x dx : Addr} {d : Array UInt8} {t : Tok} {bg : Int} {tb : Tok} {en : Int} {te u1 u2 u3 : Tok} {g : Int}
theorem num_no1 (S : Scan ks bg en g) (h : ¬ 0 < g - bg) : NumR w ks x dx d t bg tb en te u1 u2 u3 [(x, instObj 236 dx), (dx, curObj w d t bg tb en te u1 u2 u3)] .none := .no g S (by omega)
theorem num_no2 (S : Scan ks bg en g) (h : ¬ g - bg ≤ 20) : NumR w ks x dx d t bg tb en te u1 u2 u3 [(x, instObj 236 dx), (dx, curObj w d t bg tb en te u1 u2 u3)] .none := .no g S (by omega)
theorem num_yes {tg t' : Tok} {n : Int} (S : Scan ks bg en g) (h : 0 < g - bg) (h' : g - bg ≤ 20) (hv : n = val (List.take (clipAt ks.length g - clipAt ks.length bg) (List.drop (clipAt ks.length bg) ks))) : NumR w ks x dx d t bg tb en te u1 u2 u3 [(x, instObj 236 dx), (dx, curObj w d t g tg en te u1 u2 u3)] (.int n t') := by
  subst hv
  exact .yes g tg t' S (by omega) h'
end
local macro_rules | `(tactic| ktr_enter) => `(tactic| (refine' code_defG ?k1 ?k2 ?k3 ?k4 ?k5 ?kA ?kF ?kK ?k6 ?k7 ?k8 ?k9 ?kB ?_ ?c2 ?c3 ?c4 ?c5; (case kA => exact rfl); (case kF => exact rfl); (case kK => assumption); (case k1 => k_asm); (case k2 => k_asm); (case k3 => k_asm); (case k4 => k_asm); (case k5 => k_asm); (case k6 => k_is); (case k7 => k_is); (case k8 => ktr_room); (case k9 => exact BindsTo.of_eq rfl); (case c5 => decide); (case kB => exact locs rfl); (case c2 => exact rfl); (case c3 => exact rfl); (case c4 => exact rfl); k_whole; intro g' L' h' FG' F' N' B' X' T' kG'; (try dsimp only); (try k_fold)))
local macro_rules | `(tactic| units_room) => `(tactic| ktr_units)
local macro_rules | `(tactic| k_room) => `(tactic| ktr_room)
local macro_rules | `(tactic| ktr_rel) => `(tactic| first | exact scan_e1 ‹_› (by assumption) | exact scan_e2 ‹_› (by assumption) | exact scan_e3 ‹_› (by assumption))
local macro_rules | `(tactic| walk_at "exec For Name Subscript cons nil") => `(tactic| (k_here; (rename Fr _ _ _ _ => lF'); (with_unfolding_all refine' For_invVF lF' ?k1 ?k2 ?_; (case k1 => exact rfl); (case k2 => exact rfl); k_whole)))
local macro_rules | `(tactic| walk_at "exec While") => `(tactic| (k_here; refine Stop.go ?_))
set_option maxHeartbeats 4000000 in
theorem numb_c (w : World) (x dx : Addr) (d : Array UInt8) (t : Tok) (ks : List Int) (bg : Int) (tb : Tok) (en : Int) (te u1 u2 u3 : Tok) (hB : KBw.bInts d = ks) (hz : ks.length ≤ 4000) (h0 : 0 ≤ bg) (h1 : bg ≤ en) (h2 : en ≤ (ks.length : Int)) (hl : @LT.lt Nat _ dx x) :
    CtcN 10 500 w 219 [.ref x] [(x, instObj 236 dx), (dx, curObj w d t bg tb en te u1 u2 u3)] (NumR w ks x dx d t bg tb en te u1 u2 u3) := by
  unfold CtcN
  intro mean mg mb dp un gd cn cs a ccd cl outer A₀ base h₀ L m s Q E B F X N T' hk hd hu hret
  refine wpAny_call ?_
  k_dflt ktr_enter
  (with_reducible rename Fr _ _ _ _ => F1)
  obtain ⟨m1, F2⟩ := fr_gen1 (x := Str.ofString "self") F1 (by with_unfolding_all rfl)
  clear F1
  k_steps
  unfold Stop
  (with_reducible rename Fr _ _ _ _ => F3)
  (with_reducible rename News _ _ _ _ => N3)
  refine join_var (Str.ofString "end") (fun g => Scan ks bg en g) F3 N3 ?_ ?_
  · k_with "state" => (first | exact ⟨by omega, by omega, scan_0 (by omega)⟩ | exact ⟨by omega, by omega, scan_step ‹_› (by omega) (by omega) (by assumption) (by assumption)⟩)
    k_while (fun script g => bg ≤ g ∧ g ≤ en ∧ ScanI ks bg en g) (fun script g => (en - g).toNat) "end"
    k_steps
    all_goals (
      unfold VarPost
      refine ⟨rfl, _, _, _, _, rfl, fr_eq (by k_asm) (fun y => rfl), by k_asm, ?_⟩
      ktr_rel)
  intro g4 t4 h4 tk4 F4 N4 hS
  have hg1 := hS.1.1
  have hg2 := hS.1.2.1
  (try dsimp only)
  (try k_sweep)
  (try k_fold)
  k_with "state" => (first | exact num_step ‹_› | exact num_0)
  k_with "pyIter bytes" => (k_state (fun pre n => n = val pre) "number")
  k_steps
  all_goals (
    (with_reducible rename Fr h₀ L _ _ => kF9)
    (with_reducible rename News h₀ L _ _ => kN9)
    (with_reducible rename GSub _ _ _ => kG9)
    refine hret _ _ _ _ kF9 kN9 (frame_of kG9 ‹_›) ?_
    first
      | exact num_no1 hS (by assumption)
      | exact num_no2 hS (by assumption)
      | exact num_yes hS (by assumption) (by assumption) (by assumption))
end Mine
namespace Mine
theorem tubS_use {w : World} {sa C : Addr} {oC : Obj} {vs : List Value} {ns : List Int} {mean : ExcName → Option Value} {mg mb : Str → Option Value} {dp un : Nat} {gd : Option (List Code)} {cn : Str} {cs : Scope} {a : Addr} {ccd : Value} {cl : List (Str × Addr)} {outer : List Env} {A₀ : Around} {base h₀ : Heap} {L : Addr} {m : Str → Option Value} {s : Shared} {Q E : Value → Shared → Prop}
    (B : Below A₀ base outer h₀) (F : Fr h₀ L s.heap m) (X : (Mine.hd.heap_39 w.params).In h₀) (N : News h₀ L s.heap [(C, oC)]) (T' : Top Mine.view (looseW Mine.view []) mean mg mb h₀) (hk : cs.kind = .function)
    (hl : h₀.IsList sa vs.toArray) (hi : IntsAre vs ns) (hn : ns.length ≤ 63) (hd : dp + 8 < recursionLimit) (hu : un + 400 < cLine)
    (ret : ∀ T D oT oD h' tk', Fr h₀ L h' m → News h₀ L h' [(T, oT), (D, oD), (C, oC)] → @Ne Nat C D ∧ @LT.lt Nat _ C T ∧ @LT.lt Nat _ D T → Tub w T D oT oD → Q (.ref T) { s with heap := h', toks := tk' }) :
    wpAny (model PySem.Challenge.rw_qd0125_01.row.prog w) (ktrTop dp un gd cn cs L a ccd cl outer) (call (.ref 245) [.ref sa]) Q E s :=
  tub_c w sa C oC vs ns mean mg mb dp un gd cn cs a ccd cl outer A₀ base h₀ L m s Q E B F X N T' hk hd hu hl hi hn ret
theorem mul_b {prog : Program} {w : World} {A : Around} {E : Value → Shared → Prop} {s : Shared} {a b : Int} {t u : Tok} {Q : Value → Shared → Prop} (h0 : 0 ≤ a) (hb : 0 ≤ b) (hb' : b < 2) (h : ∀ c, 0 ≤ c → c ≤ a → Q (.int c s.toks) { s with toks := s.toks + 1 }) : wpAny (model prog w) A (binaryOp .Mult (.int a t) (.int b u)) Q E s := by
  refine mul_int (h _ (Int.mul_nonneg h0 hb) ?_) (PySem.IntMulOk.of_right (PySem.intBits_le_64 (by omega) (by omega)))
  have e : b = 0 ∨ b = 1 := by omega
  rcases e with rfl | rfl <;> omega
theorem add_gen {prog : Program} {w : World} {A : Around} {E : Value → Shared → Prop} {s : Shared} {b c : Array UInt8} {t u : Tok} {ks ls : List Int} {Q : Value → Shared → Prop} (hb : KBw.bInts b = ks) (hc : KBw.bInts c = ls) (hsz : ks.length + ls.length ≤ 16777216) (h : ∀ d t' k es, KBw.bInts d = es → es.length = ks.length + ls.length → Q (.bytes d t') { s with toks := k }) : wpAny (model prog w) A (binaryOp .Add (.bytes b t) (.bytes c u)) Q E s :=
  KBa.add_K hb hc hsz fun t' k e => h _ t' k _ e (by rw [List.length_append])
theorem slice_gen {prog : Program} {w : World} {A : Around} {E : Value → Shared → Prop} {s : Shared} {value slice : PySem.Expr} {b : Array UInt8} {t : Tok} {h₀ : Heap} {L : Addr} {m : PySem.Str → Option Value} {news : List (Addr × Obj)} {l u : Value} {lo hi : Option Int} {Q : Value → Shared → Prop} {ks : List Int}
    (hF : Fr h₀ L s.heap m) (hN : News h₀ L s.heap news) (hk : KBw.bInts b = ks) (hl : IsPart l lo) (hu : IsPart u hi) (hz : ks.length ≤ 16777216)
    (h : ∀ d h' t' k es, Fr h₀ L h' m → News h₀ L h' news → KBw.bInts d = es → es.length ≤ ks.length → Q (.bytes d t') { s with heap := h', toks := k })
    (hs : subscripted slice false (.bytes b t) (.ref s.heap.objs.size) = operate [.ref s.heap.objs.size, .bytes b t] (getItem (.bytes b t) (.ref s.heap.objs.size)) := by with_unfolding_all rfl)
    (ht : ∀ r, letTemporaryGo value (.bytes b t) r = pure () := by intro _; with_unfolding_all rfl) :
    wpAny (model prog w) A (subscriptTail value slice (.bytes b t) (.ref s.heap.objs.size)) Q E { s with heap := s.heap.push { cls := .type "slice", data := .fields #[l, u, .none] } } :=
  KBc.slice_K hF hN hk hl hu hz (fun h' t' k F N e => h _ h' t' k _ F N rfl (by rw [KBw.ints_length, ← hk, KBw.ints_length]; exact KBc.size_picked_le b lo hi)) hs ht
theorem len12 {n : Nat} (h : n ≤ ([49, 50] : List Int).length) : n ≤ 2 := h
theorem lit12 : KBw.bInts #[49, 50] = [49, 50] := rfl
theorem lit0 : KBw.bInts #[] = [] := rfl
theorem lit43 : KBw.bInts #[43] = [43] := rfl
theorem lit45 : KBw.bInts #[45] = [45] := rfl
theorem lit46 : KBw.bInts #[46] = [46] := rfl
section
variable {prog : Program} {w : World} {A : Around} {E : Value → Shared → Prop} {s : Shared} {env : Env} {h₀ : Heap} {L : Addr} {m : Str → Option Value} {all : List (Addr × Obj)}
def EndPost (w : World) (h₀ : Heap) (L : Addr) (m : Str → Option Value) (g2 : Obj → Obj → List (Addr × Obj)) (T D : Addr) (s : Shared) (bg hi : Int) (v : Value) (s' : Shared) : Prop :=
  ∃ k t h' tk oT oD, v = .int k t ∧ s' = { s with heap := h', toks := tk } ∧ Fr h₀ L h' m ∧ News h₀ L h' (g2 oT oD) ∧ Tub w T D oT oD ∧ bg ≤ k ∧ k ≤ hi
theorem join_end {e : Expr} {Q : Value → Shared → Prop} {T D : Addr} {oT oD : Obj} {g : Obj → List (Addr × Obj)} {g2 : Obj → Obj → List (Addr × Obj)} {bg : Int} {tb td : Tok} {d : Array UInt8} {ks : List Int} (_ : Tub w T D oT oD) (_ : News h₀ L s.heap all) (_ : UpdF T oT all g) (_ : ∀ o, UpdF D oD (g o) (g2 o)) (_ : Fr h₀ L s.heap m)
    (_ : m (Str.ofString "begin") = some (.int bg tb)) (_ : m (Str.ofString "data") = some (.bytes d td)) (_ : KBw.bInts d = ks)
    (h1 : wpAny (model prog w) A (eval e env) (EndPost w h₀ L m g2 T D s bg ks.length) E s)
    (h2 : ∀ en t h' tk oT oD, bg ≤ en → en ≤ (ks.length : Int) → Fr h₀ L h' m → News h₀ L h' (g2 oT oD) → Tub w T D oT oD → Q (.int en t) { s with heap := h', toks := tk }) :
    wpAny (model prog w) A (eval e env) Q E s :=
  wpAny_mono h1 (fun v s' hq => by
    obtain ⟨k, t, h', tk, oT, oD, rfl, rfl, F', N', H', l1, l2⟩ := hq
    exact h2 k t h' tk oT oD l1 l2 F' N' H') fun _ _ e => e
end
theorem gen_begin {h₀ h : Heap} {L : Addr} {m : Str → Option Value} {vr vd : Value} {e : Int} {tb : Tok} {n : Nat} (F : Fr h₀ L h (fun y => if y = Str.ofString "run" then some vr else if y = Str.ofString "data" then some vd else if y = Str.ofString "begin" then some (.int e tb) else m y)) (h0 : 0 ≤ e) (h1 : e ≤ (n : Int)) :
    ∃ bg tb', (0 ≤ bg ∧ bg ≤ (n : Int)) ∧ Fr h₀ L h (fun y => if y = Str.ofString "run" then some vr else if y = Str.ofString "data" then some vd else if y = Str.ofString "begin" then some (.int bg tb') else m y) := ⟨e, tb, ⟨h0, h1⟩, F⟩
theorem gen_cur {w : World} {h₀ h : Heap} {L x dx D' : Addr} {o' : Obj} {d : Array UInt8} {t tb te u1 u2 u3 : Tok} {bg ee en : Int} {rest : List (Addr × Obj)} (N : News h₀ L h ((D', o') :: (x, instObj 236 dx) :: (dx, curObj w d t bg tb ee te u1 u2 u3) :: rest)) (he : ee = en) :
    ∃ tb te u1 u2 u3, News h₀ L h ((x, instObj 236 dx) :: (dx, curObj w d t bg tb en te u1 u2 u3) :: rest) := by
  subst he
  exact ⟨tb, te, u1, u2, u3, cb_drop N fun p hp => List.mem_cons_of_mem _ hp⟩
def TailPost (h₀ : Heap) (L : Addr) (vr vd : Value) (all : List (Addr × Obj)) (s : Shared) (fl : Flow) (s' : Shared) : Prop :=
  fl = .next ∧ ∃ (m' : Str → Option Value) (h' : Heap) (tk : Nat), s' = { s with heap := h', toks := tk } ∧ Fr h₀ L h' (fun y => if y = Str.ofString "run" then some vr else if y = Str.ofString "data" then some vd else m' y) ∧ News h₀ L h' all
theorem tail_end {h₀ h : Heap} {L : Addr} {m : Str → Option Value} {vr vd : Value} {s : Shared} {tk : Nat} {p q : Addr × Obj} {all : List (Addr × Obj)} (F : Fr h₀ L h m) (hr : m (Str.ofString "run") = some vr) (hd : m (Str.ofString "data") = some vd) (N : News h₀ L h (p :: q :: all)) : TailPost h₀ L vr vd all s .next { s with heap := h, toks := tk } := by
  obtain ⟨m', F'⟩ := fr_gen2 F hr hd
  exact ⟨rfl, m', h, tk, rfl, F', cb_drop N fun _ hp => List.mem_cons_of_mem _ (List.mem_cons_of_mem _ hp)⟩
theorem join_two {M : Model} {A : Around} {E : Value → Shared → Prop} {s : Shared} {env : Env} {h₀ : Heap} {L x dx : Addr} {ox od : Obj} {m : Str → Option Value} {all : List (Addr × Obj)} {vr vd : Value} {st1 st2 : Stmt} {rest : List Stmt} {Q : Flow → Shared → Prop} (_F : Fr h₀ L s.heap m) (_N : News h₀ L s.heap ((x, ox) :: (dx, od) :: all)) (_hr : m (Str.ofString "run") = some vr) (_hd : m (Str.ofString "data") = some vd)
    (h1 : wpAny M A (exec st1 env) (fun f s' => match f with | .next => wpAny M A (exec st2 env) (TailPost h₀ L vr vd all s) E s' | _ => False) E s)
    (h2 : ∀ (m' : Str → Option Value) h' tk, Fr h₀ L h' (fun y => if y = Str.ofString "run" then some vr else if y = Str.ofString "data" then some vd else m' y) → News h₀ L h' all → wpAny M A (execs rest env) Q E { s with heap := h', toks := tk }) :
    wpAny M A (execs (st1 :: st2 :: rest) env) Q E s :=
  wpAny_execs_cons (wpAny_mono h1 (fun f s' hf => by
    cases f with
    | next =>
      exact wpAny_execs_cons (wpAny_mono hf (fun f2 s2 hq => by
        obtain ⟨rfl, m', h', tk, rfl, F', N'⟩ := hq
        exact h2 m' h' tk F' N') fun _ _ e => e)
    | ret v => exact hf.elim
    | brk => exact hf.elim
    | cont => exact hf.elim) fun _ _ e => e)
def Keep (p : Prop) : Prop := p
theorem byte_in (c : UInt8) : (0 : Int) ≤ ((c.toNat : Nat) : Int) ∧ ((c.toNat : Nat) : Int) < 256 := by
  have := c.toNat_lt
  omega
section
variable {w : World} {mean : ExcName → Option Value} {mg mb : Str → Option Value} {dp un : Nat} {gd : Option (List Code)} {cn : Str} {cs : Scope} {a : Addr} {ccd : Value} {cl : List (Str × Addr)} {outer : List Env} {A₀ : Around} {base h₀ : Heap} {L : Addr} {m : Str → Option Value} {s : Shared} {Q E : Value → Shared → Prop} {all : List (Addr × Obj)}
theorem run_use {C T D : Addr} {oC oT oD : Obj}
    (B : Below A₀ base outer h₀) (F : Fr h₀ L s.heap m) (X : (Mine.hd.heap_39 w.params).In h₀) (N : News h₀ L s.heap all) (T' : Top Mine.view (looseW Mine.view []) mean mg mb h₀) (hk : cs.kind = .function)
    (H : Tub w T D oT oD) (hc : oC.data = .cell (some (.ref T))) (hC : (C, oC) ∈ all) (hT : (T, oT) ∈ all) (hD : (D, oD) ∈ all) (n1 : @Ne Nat C T) (n2 : @Ne Nat C D) (hd : dp + 16 < recursionLimit) (hu : un + 800 < cLine)
    (ret : ∀ b t ks oT' oD' h' tk', KBw.bInts b = ks → ks.length ≤ 1100 → Fr h₀ L h' m → News h₀ L h' [(C, oC), (T, oT'), (D, oD')] → Tub w T D oT' oD' → Q (.bytes b t) { s with heap := h', toks := tk' }) :
    wpAny (model PySem.Challenge.rw_qd0125_01.row.prog w) (ktrTop dp un gd cn cs L a ccd cl outer) (call (.ref 257) [.ref T]) Q E s := by
  have c := run_c w C T D oC oT oD n1 n2 H
  unfold Ctc0 at c
  refine c mean mg mb dp un gd cn cs a ccd cl outer A₀ base h₀ L m s Q E B F X (cb_drop N fun p hp => ?_) T' hk hd hu fun r news' h' tk' F' N' hR => ?_
  · rcases List.mem_cons.mp hp with rfl | hp
    · exact hC
    rcases List.mem_cons.mp hp with rfl | hp
    · exact hT
    rcases List.mem_cons.mp hp with rfl | hp
    · exact hD
    nomatch hp
  · obtain ⟨b, t, oT', oD', rfl, hb, H', rfl⟩ := hR
    exact ret b t _ oT' oD' h' tk' rfl (by rw [KBw.ints_length]; exact hb) F' N' H'
theorem isrd_use {b : Array UInt8} {t : Tok} {ks : List Int}
    (B : Below A₀ base outer h₀) (F : Fr h₀ L s.heap m) (X : (Mine.hd.heap_39 w.params).In h₀) (N : News h₀ L s.heap all) (T' : Top Mine.view (looseW Mine.view []) mean mg mb h₀) (hk : cs.kind = .function)
    (hB : KBw.bInts b = ks) (hz : ks.length ≤ 4000) (hd : dp + 30 < recursionLimit) (hu : un + 1400 < cLine)
    (ret : ∀ h' tk', Fr h₀ L h' m → News h₀ L h' all → Q (.bool true) { s with heap := h', toks := tk' }) :
    wpAny (model PySem.Challenge.rw_qd0125_01.row.prog w) (ktrTop dp un gd cn cs L a ccd cl outer) (call (.ref 276) [.bytes b t]) Q E s :=
  ctcN_use B F X N T' hk (isrd_c w b t ks hB hz) hd hu fun r news' h' tk' F' N' hR => by
    subst hR
    exact ret h' tk' F' (cb_drop N' fun _ hp => List.mem_append_right _ hp)
end
section
variable {w : World} {mean : ExcName → Option Value} {mg mb : Str → Option Value} {dp un : Nat} {gd : Option (List Code)} {cn : Str} {cs : Scope} {a : Addr} {ccd : Value} {cl : List (Str × Addr)} {outer : List Env} {A₀ : Around} {base h₀ : Heap} {L : Addr} {m : Str → Option Value} {s : Shared} {Q E : Value → Shared → Prop} {all : List (Addr × Obj)}
theorem num_use {x dx : Addr} {d : Array UInt8} {t : Tok} {ks : List Int} {bg : Int} {tb : Tok} {en ee : Int} {te u1 u2 u3 : Tok} {g : Int} {v : Value} {gg : Obj → List (Addr × Obj)}
    (B : Below A₀ base outer h₀) (F : Fr h₀ L s.heap m) (X : (Mine.hd.heap_39 w.params).In h₀) (N : News h₀ L s.heap all) (T' : Top Mine.view (looseW Mine.view []) mean mg mb h₀) (hk : cs.kind = .function)
    (hx : (x, instObj 236 dx) ∈ all) (U : UpdF dx (curObj w d t bg tb ee te u1 u2 u3) all gg) (hB : KBw.bInts d = ks) (S : Scan ks bg en g) (V : DueV ks bg g v) (he : ee = en) (hl : @LT.lt Nat _ dx x) (hz : ks.length ≤ 4000) (h0 : 0 ≤ bg) (h1 : bg ≤ en) (h2 : en ≤ (ks.length : Int)) (hd : dp + 10 < recursionLimit) (hu : un + 500 < cLine)
    (no : ∀ h' tk', v = .none → Fr h₀ L h' m → News h₀ L h' all → Q .none { s with heap := h', toks := tk' })
    (yes : ∀ h' tk' tg t1 t2, v = .int (val (sl ks bg g)) t1 → Fr h₀ L h' m → News h₀ L h' (gg (curObj w d t g tg ee te u1 u2 u3)) → Q (.int (val (sl ks bg g)) t2) { s with heap := h', toks := tk' }) :
    wpAny (model PySem.Challenge.rw_qd0125_01.row.prog w) (ktrTop dp un gd cn cs L a ccd cl outer) (call (.ref 219) [.ref x]) Q E s := by
  subst he
  obtain ⟨pre, post, rfl, hg, a1, b1⟩ := U.split
  have hdx : (dx, curObj w d t bg tb ee te u1 u2 u3) ∈ pre ++ (dx, curObj w d t bg tb ee te u1 u2 u3) :: post := List.mem_append_right _ (.head _)
  refine numb_c w x dx d t ks bg tb ee te u1 u2 u3 hB hz h0 h1 h2 hl mean mg mb dp un gd cn cs a ccd cl outer A₀ base h₀ L m s Q E B F X (cb_drop N fun p hp => ?_) T' hk hd hu fun r news' h' tk' F' N' fr hR => ?_
  · rcases List.mem_cons.mp hp with rfl | hp
    · exact hx
    rcases List.mem_cons.mp hp with rfl | hp
    · exact hdx
    nomatch hp
  · have rest : ∀ o', News h₀ L h' [(x, instObj 236 dx), (dx, o')] → ∀ p, p ∈ pre ++ (dx, curObj w d t bg tb ee te u1 u2 u3) :: post → p.1 ≠ dx → h'.get? p.1 = some p.2 ∧ p.1 ≠ L ∧ h₀.get? p.1 = none := by
      intro o' N2 p hp hn
      by_cases e : p.1 = x
      · have e1 := (N p hp).1
        have e2 := (N _ hx).1
        rw [e] at e1
        have e3 : some p.2 = some (instObj 236 dx) := e1.symm.trans e2
        have e4 := Option.some.inj e3
        have e5 : p = (x, instObj 236 dx) := Prod.ext e e4
        rw [e5]
        exact N2 _ (.head _)
      · refine ⟨fr _ _ (N p hp).1 ?_, (N p hp).2⟩
        simp only [List.map_cons, List.map_nil, List.mem_cons, List.not_mem_nil, or_false, not_or]
        exact ⟨e, hn⟩
    cases hR with
    | no g' S' hg' =>
      have eg := scan_one h0 S S'
      subst eg
      have ev : v = .none := by
        rcases V with ⟨rfl, _⟩ | ⟨_, _, q1, q2⟩
        · rfl
        · exact absurd ⟨q1, q2⟩ hg'
      refine no h' tk' ev F' fun p hp => ?_
      by_cases e : p.1 = dx
      · have e1 := (N p hp).1
        have e2 := (N _ hdx).1
        rw [e] at e1
        have e3 : some p.2 = some (curObj w d t bg tb ee te u1 u2 u3) := e1.symm.trans e2
        have e5 : p = (dx, curObj w d t bg tb ee te u1 u2 u3) := Prod.ext e (Option.some.inj e3)
        rw [e5]
        exact N' _ (.tail _ (.head _))
      · exact rest _ N' p hp e
    | yes g' tg t' S' q1 q2 =>
      have eg := scan_one h0 S S'
      subst eg
      rcases V with ⟨_, q⟩ | ⟨t1, ev, _, _⟩
      · exact absurd ⟨q1, q2⟩ q
      refine yes h' tk' tg t1 t' ev F' fun p hp => ?_
      rw [hg] at hp
      rcases List.mem_append.mp hp with h | h
      · exact rest _ N' p (List.mem_append_left _ h) (a1 p h)
      rcases List.mem_cons.mp h with rfl | h
      · exact N' _ (.tail _ (.head _))
      · exact rest _ N' p (List.mem_append_right _ (.tail _ h)) (b1 p h)
end
theorem sign_gen {prog : Program} {w : World} {A : Around} {E : Value → Shared → Prop} {s : Shared} {value slice : Expr} {l : Addr} {t0 t1 t2 u : Tok} {k : Int} {h₀ : Heap} {L : Addr} {news : List (Addr × Obj)} {Q : Value → Shared → Prop} (N : News h₀ L s.heap news) (hl : (l, ({ cls := .type "tuple", data := .seq #[.bytes #[] t0, .bytes #[43] t1, .bytes #[45] t2] } : Obj)) ∈ news)
    (h0 : 0 ≤ k) (h3 : k < 3) (h : ∀ d t es, KBw.bInts d = es → es.length ≤ 1 → Q (.bytes d t) s)
    (hs : subscripted slice false (.ref l) (.int k u) = operate [.ref l, .int k u] (getItem (.ref l) (.int k u)) := by with_unfolding_all rfl) :
    wpAny (model prog w) A (subscriptTail value slice (.ref l) (.int k u)) Q E s := by
  have ht : IsTup s.heap l [Value.bytes #[] t0, .bytes #[43] t1, .bytes #[45] t2].toArray := News.isTup N hl
  have e : k = 0 ∨ k = 1 ∨ k = 2 := by omega
  rcases e with rfl | rfl | rfl
  · exact item_tupleT ht (by decide) (by decide) (j := 0) rfl rfl (h _ _ _ lit0 (by decide)) hs
  · exact item_tupleT ht (by decide) (by decide) (j := 1) rfl rfl (h _ _ _ lit43 (by decide)) hs
  · exact item_tupleT ht (by decide) (by decide) (j := 2) rfl rfl (h _ _ _ lit45 (by decide)) hs
section
open PyProof.Rows.LCg
variable {prog : Program} {w : World} {A : Around} {h₀ : Heap} {L : Addr} {m : Str → Option Value} {env : Env} {elt : Expr} {x : Str} {scope : Scope} {cl : List (Str × Addr)} {s : Shared} {P : Nat → Value → Prop} {Fin : List Value → List (Addr × Obj) → Prop}
theorem end_mono {s₁ : Shared} {I C D : Addr} {oI oC oD : Obj} {S : List (Addr × Obj) → Prop} {r r' : Value → List (Addr × Obj) → Prop} {y : Value} {s₂ : Shared} (h : CompEnd h₀ L m s₁ I oI C oC D oD S r y s₂) (i : ∀ n, r y n → r' y n) : CompEnd h₀ L m s₁ I oI C oC D oD S r' y s₂ := by
  obtain ⟨h', tk, n, e, F, N, o, hS, hr⟩ := h
  exact ⟨h', tk, n, e, F, N, o, hS, i n hr⟩
theorem ints_snoc : ∀ {vs : List Value} {ns : List Int} (k : Int) (t : Tok), IntsAre vs ns → IntsAre (vs ++ [.int k t]) (ns ++ [k])
  | _, _, k, t, .nil => .cons k t .nil
  | _, _, k, t, .cons a b r => .cons a b (ints_snoc k t r)
theorem rest_tub0 {T D : Addr} {g2 : Obj → Obj → List (Addr × Obj)}
    (turn : ∀ i ys oT oD v I oI C oC D' m₂ h tk (E' : Value → Shared → Prop), Tub w T D oT oD → P i v → NsObj oC m₂ → m₂ x = some v → Fr h₀ L h m → News h₀ L h ((I, oI) :: (C, oC) :: (D', lst ys) :: g2 oT oD) → Off3 I C D' (g2 oT oD) → ((@Ne Nat I C) ∧ (@Ne Nat I D') ∧ (@Ne Nat C D')) →
      wpAny (model prog w) A (eval elt (compEnvC scope cl C env)) (CompEnd h₀ L m { s with heap := h, toks := tk } I oI C oC D' (lst ys) (fun _ => True) (fun y news' => ∃ k t oT' oD', y = .int k t ∧ (0 ≤ k ∧ k < 256) ∧ Tub w T D oT' oD' ∧ news' = g2 oT' oD')) E' { s with heap := h, toks := tk }) :
    ∀ (k i : Nat) (ys : List Value) (ns : List Int) (oT oD : Obj), Tub w T D oT oD → IntsAre ys ns → KBa.In ns →
      (∀ ys' ns' oT' oD', Tub w T D oT' oD' → IntsAre ys' ns' → KBa.In ns' → ns'.length = ns.length + k → Fin ys' (g2 oT' oD')) →
      CompRest prog w A h₀ L m env elt x scope cl s (fun _ => True) P Fin k i ys (g2 oT oD)
  | 0, i, ys, ns, oT, oD, H, hI, hr, fin => fin ys ns oT oD H hI hr rfl
  | k + 1, i, ys, ns, oT, oD, H, hI, hr, fin => by
    refine CompRest.succ fun v I oI C oC D' m₂ h tk E' hv hC hx F N off ne => ?_
    refine wpAny_mono (turn i ys oT oD v I oI C oC D' m₂ h tk E' H hv hC hx F N off ne) (fun y s₂ hy => end_mono hy fun n hn => ?_) fun _ _ e => e
    obtain ⟨k', t, oT', oD', rfl, hk', H', rfl⟩ := hn
    refine rest_tub0 turn k (i + 1) _ (ns ++ [k']) oT' oD' H' (ints_snoc k' t hI) (fun n hn => ?_) fun ys' ns' oT'' oD'' H'' hI'' hr'' hl => ?_
    · rcases List.mem_append.mp hn with hn | hn
      · exact hr n hn
      · rw [List.mem_singleton.mp hn]; exact hk'
    · refine fin ys' ns' oT'' oD'' H'' hI'' hr'' ?_
      rw [hl, List.length_append, List.length_singleton]
      omega
theorem rest_tub {T D : Addr} {oT oD : Obj} {all : List (Addr × Obj)} {g : Obj → List (Addr × Obj)} {g2 : Obj → Obj → List (Addr × Obj)} {k : Nat} (H : Tub w T D oT oD) (U : UpdF T oT all g) (V : ∀ o, UpdF D oD (g o) (g2 o))
    (turn : ∀ i ys oT oD v I oI C oC D' m₂ h tk (E' : Value → Shared → Prop), Tub w T D oT oD → P i v → NsObj oC m₂ → m₂ x = some v → Fr h₀ L h m → News h₀ L h ((I, oI) :: (C, oC) :: (D', lst ys) :: g2 oT oD) → Off3 I C D' (g2 oT oD) → ((@Ne Nat I C) ∧ (@Ne Nat I D') ∧ (@Ne Nat C D')) →
      wpAny (model prog w) A (eval elt (compEnvC scope cl C env)) (CompEnd h₀ L m { s with heap := h, toks := tk } I oI C oC D' (lst ys) (fun _ => True) (fun y news' => ∃ k t oT' oD', y = .int k t ∧ (0 ≤ k ∧ k < 256) ∧ Tub w T D oT' oD' ∧ news' = g2 oT' oD')) E' { s with heap := h, toks := tk })
    (fin : ∀ ys' ns' oT' oD', Tub w T D oT' oD' → IntsAre ys' ns' → KBa.In ns' → ns'.length = k → Fin ys' (g2 oT' oD')) :
    CompRest prog w A h₀ L m env elt x scope cl s (fun _ => True) P Fin k 0 [] all := by
  obtain ⟨pre, post, rfl, hg, _, _⟩ := U.split
  obtain ⟨pre', post', e, hg', _, _⟩ := (V oT).split
  have q : pre ++ (T, oT) :: post = g2 oT oD := by rw [← hg oT, e, ← hg' oD]
  rw [q]
  exact rest_tub0 turn k 0 [] [] oT oD H .nil (fun _ h => nomatch h) fun ys' ns' oT' oD' H' hI hr hl => fin ys' ns' oT' oD' H' hI hr (by rw [hl]; exact Nat.zero_add k)
end
theorem range_n {k : Int} (h : 0 ≤ k) : Builtin.Range.rangeSize 0 k 1 = ((k.toNat : Nat) : Int) := by
  rw [PySem.rangeSize_one]
  split <;> omega
theorem small_n {k : Int} (h : 0 ≤ k) (h' : k < 1000) : Builtin.Range.small 0 k 1 = true := PySem.small_one (by decide) (by decide) (by omega) (by omega)
theorem size_n {k : Int} (h' : k < 1000) : k.toNat ≤ sizeLine := by rw [sizeLine_eq]; omega
local macro_rules | `(tactic| units_room) => `(tactic| ktr_units)
local macro_rules | `(tactic| k_room) => `(tactic| ktr_room)
local macro_rules | `(tactic| walk_at "call ref") => `(tactic| (k_here; (with_reducible show wpAny _ _ (call (Value.ref _) [Value.ref _]) _ _ _); refine Stop.go ?_))
local macro_rules | `(tactic| walk_at "call ref") => `(tactic| (k_here; (with_reducible show wpAny _ _ (call (Value.ref 252) _) _ _ _); k_dflt (refine' tub_use ?k1 ?k2 ?k3 ?k4 ?k5 ?k6 ?kU ?kH ?kV (dip_t _ _ _ _ _ ?ka ?kb) ?kd ?ku ?_; (case k6 => first | exact rfl | assumption); (case k1 => k_asm); (case k2 => k_asm); (case k3 => k_asm); (case k4 => k_asm); (case k5 => k_asm); (case kU => k_updF); (case kH => assumption); (case kV => (intro _; k_updF)); (case ka => first | omega | decide); (case kb => first | omega | decide); (case kd => ktr_room); (case ku => ktr_units); k_whole); intro r9 oT9 oD9 h9 tk9 F9 N9 hP9 H9; obtain ⟨k9, t9, e9, lo9, hi9⟩ := hP9; subst e9; (try dsimp only at N9); (try dsimp only); (try k_sweep); (try k_fold)))
local macro_rules | `(tactic| kba_ints) => `(tactic| first | exact lit12 | exact lit0 | exact lit43 | exact lit45 | exact lit46)
local macro_rules | `(tactic| walk_at "binaryOp Mult int int") => `(tactic| (k_here; (with_reducible refine mul_b ?ka ?kb ?kc ?_); (case ka => assumption); (case kb => assumption); (case kc => assumption); intro c9 lo9 hi9))
local macro_rules | `(tactic| walk_at "binaryOp Add bytes bytes") => `(tactic| (k_here; (with_reducible show wpAny _ _ (binaryOp Operator.Add (Value.bytes _ _) (Value.bytes _ _)) _ _ _); (refine add_gen (by kba_ints2) (by kba_ints2) (by kba_size) ?_); intro d9 _ _ es9 hE9 hl9; (try simp only [List.length_append, List.length_take, List.length_drop, List.length_cons, List.length_nil] at hl9)))
local macro_rules | `(tactic| walk_at "subscriptTail") => `(tactic| (k_here; (with_reducible show wpAny _ _ (subscriptTail _ (Expr.Slice _ _ none _) (Value.bytes #[49, 50] _) (Value.ref _)) _ _ _); (with_reducible rename Fr _ _ _ _ => F'); (with_reducible rename News _ _ _ _ => N'); (refine slice_gen (s := ⟨_, _, _, _, _⟩) F' N' lit12 (by constructor) (by constructor) (by decide) ?_); intro d9 _ _ _ es9 _ _ hE9 hl9; replace hl9 := len12 hl9))
local macro_rules | `(tactic| ktr_rel) => `(tactic| first | omega | assumption)
local macro_rules | `(tactic| walk_at "eval ListComp") => `(tactic| (k_here; (with_reducible show wpAny _ _ (eval (Expr.ListComp (Expr.Subscript _ _ _) _ _ _) _) _ _ _); k_dflt (refine LCg.ListComp_U (F₀ := by k_asm) (by with_unfolding_all rfl) (by decide) (by rfl) (by decide) (by rfl) ?_)))
local macro_rules | `(tactic| walk_at "CompSrc") => `(tactic| (k_here; k_dflt (refine LCg.CompSrc.range (by rfl) (by k_asm) (by k_asm) (by assumption) (small_n (by omega) (by omega)) (range_n (by omega)) (size_n (by omega)) ?_; intro g')))
local macro_rules | `(tactic| walk_at "CompRest") => `(tactic| (k_here; k_dflt (refine' rest_tub (by assumption) ?U ?V ?_ ?_; (case U => k_updF); (case V => (intro _; k_updF))); all_goals (first | (intro i9 ys9 oT9 oD9 v9 I9 oI9 C9 oC9 D9 m9 h9 tk9 E9 H9 hv9 hC9 hx9 F9 N9 off9 ne9; (try dsimp only at N9 off9); (try simp only [LCg.Off3, and_true] at off9)) | (intro ys9 ns9 oT9 oD9 H9 hI9 hr9 hl9; (try dsimp only)))))
local macro_rules | `(tactic| walk_at "CompEnd") => `(tactic| (lcg_end; exact ⟨_, _, _, _, rfl, byte_in _, by assumption, rfl⟩))
local macro_rules | `(tactic| kaf_suf) => `(tactic| first | assumption | exact Ne.symm (by assumption) | exact Nat.ne_of_lt (by assumption) | exact Nat.ne_of_gt (by assumption) | ((with_reducible rename _ ∧ _ => c9); cases c9; kaf_suf))
local macro_rules | `(tactic| k_ne) => `(tactic| (refine neN ?_; (try dsimp only); kaf_suf))
local macro_rules | `(tactic| walk_at "call ref") => `(tactic| (k_here; (with_reducible show wpAny _ _ (call (Value.ref 245) _) _ _ _); k_dflt (refine' tubS_use ?k1 ?k2 ?k3 ?k4 ?k5 ?k6 ?kl ?ki ?kn ?kd ?ku ?_; (case k6 => first | exact rfl | assumption); (case k1 => k_asm); (case k2 => k_asm); (case k3 => k_asm); (case k4 => k_asm); (case k5 => k_asm); (case kl => assumption); (case ki => assumption); (case kn => omega); (case kd => decide); (case ku => ktr_units); k_whole); intro T9 D9 oT9 oD9 h9 tk9 F9 N9 lt9 H9; (obtain ⟨m9, F8⟩ := fr_any F9); clear F9; (try dsimp only); (try k_sweep); (try k_fold)))
local macro_rules | `(tactic| walk_at "call ref") => `(tactic| (k_here; (with_reducible show wpAny _ _ (call (Value.ref 257) _) _ _ _); k_dflt (refine' run_use ?k1 ?k2 ?k3 ?k4 ?k5 ?k6 ?kH ?kc ?kC ?kT ?kD ?n1 ?n2 ?kd ?ku ?_; (case k6 => first | exact rfl | assumption); (case k1 => k_asm); (case k2 => k_asm); (case k3 => k_asm); (case k4 => k_asm); (case k5 => k_asm); (case kH => assumption); (case kc => assumption); (case kT => k_mem); (case kD => k_mem); (case kC => k_mem); (case n1 => k_ne); (case n2 => k_ne); (case kd => decide); (case ku => ktr_units); k_whole); intro b9 t9 ks9 oT9 oD9 h9 tk9 hB9 hz9 F9 N9 H9; (try dsimp only); (try k_sweep); (try k_fold)))
local macro_rules | `(tactic| walk_at "call ref") => `(tactic| (k_here; (with_reducible show wpAny _ _ (call (Value.ref 276) _) _ _ _); k_dflt (refine' isrd_use ?k1 ?k2 ?k3 ?k4 ?k5 ?k6 ?ka ?kb ?kd ?ku ?_; (case k6 => first | exact rfl | assumption); (case k1 => k_asm); (case k2 => k_asm); (case k3 => k_asm); (case k4 => k_asm); (case k5 => k_asm); (case ka => kba_ints2); (case kb => kba_size); (case kd => decide); (case ku => ktr_units); k_whole); intro h9 tk9 F9 N9; (try dsimp only); (try k_sweep); (try k_fold)))
local macro_rules | `(tactic| walk_at "eval IfExp") => `(tactic| (k_here; (fail_if_success (with_reducible rename Mark => mk9)); (with_reducible show wpAny _ _ (eval (Expr.IfExp _ (Expr.Call _ _ _ _) (Expr.Constant _ _ _) _) _) _ _ _); refine Stop.go ?_))
local macro_rules | `(tactic| walk_at "eval IfExp") => `(tactic| (k_here; (fail_if_success (with_reducible rename Mark => mk9)); (with_reducible show wpAny _ _ (eval (Expr.IfExp _ (Expr.BinOp _ _ _ _) _ _) _) _ _ _); refine Stop.go ?_))
local macro_rules | `(tactic| walk_at "call ref") => `(tactic| (k_here; (with_reducible show wpAny _ _ (call (Value.ref 219) _) _ _ _); k_dflt (refine' num_use ?k1 ?k2 ?k3 ?k4 ?k5 ?k6 ?kx ?kU ?kB (by assumption) (by assumption) ?ke ?kl ?kz ?n0 ?n1 ?n2 ?kd ?ku ?_ ?_; (case k6 => first | exact rfl | assumption); (case k1 => k_asm); (case k2 => k_asm); (case k3 => k_asm); (case k4 => k_asm); (case k5 => k_asm); (case kB => assumption); (case kx => k_mem); (case kU => k_updF); (case ke => first | exact rfl | exact if_neg (by omega)); (case kl => ktr_rel); (case kz => omega); (case n0 => omega); (case n1 => omega); (case n2 => omega); (case kd => decide); (case ku => ktr_units); all_goals (k_whole; first | (intro h9 tk9 tg9 t19 t29 e9 F9 N9; subst e9; (try dsimp only at N9)) | (intro h9 tk9 e9 F9 N9; subst e9))); all_goals ((try dsimp only); (try k_sweep); (try k_fold))))
local macro_rules | `(tactic| walk_at "subscriptTail") => `(tactic| (k_here; (with_reducible show wpAny _ _ (subscriptTail (Expr.Tuple _ _ _) _ (Value.ref _) (Value.int _ _)) _ _ _); k_dflt (refine' sign_gen ?k1 ?k2 ?k3 ?k4 ?_; (case k1 => k_asm); (case k2 => k_mem); (case k3 => assumption); (case k4 => assumption)); intro d9 t9 es9 hE9 hl9))
local macro_rules | `(tactic| walk_at "execs cons") => `(tactic| (k_here; (with_reducible show wpAny _ _ (execs (Stmt.Assign _ (Expr.Call (Expr.Attribute _ _ _) _ _ _) _ :: _) _) _ _ _); refine Stop.go ?_))
local macro_rules | `(tactic| walk_at "exec While") => `(tactic| (k_here; refine Stop.go ?_))
local macro_rules | `(tactic| walk_at "call ref") => `(tactic| (k_here; (with_reducible show wpAny _ _ (call (Value.ref 264) _) _ _ _); k_dflt (refine' byt_use0 ?k1 ?k2 ?k3 ?k4 ?k5 ?k6 (sum_k _ _ _ ?ka ?kb) ?kd ?ku ?_; (case k6 => first | exact rfl | assumption); (case k1 => k_asm); (case k2 => k_asm); (case k3 => k_asm); (case k4 => k_asm); (case k5 => k_asm); (case ka => kba_ints2); (case kb => kba_size); (case kd => ktr_room); (case ku => ktr_units); k_whole); intro r9 h9 tk9 F9 N9 hP9; obtain ⟨t9, e9⟩ := hP9; subst e9; (try dsimp only); (try k_sweep); (try k_fold)))
set_option maxHeartbeats 4000000 in
theorem law_w : PySem.Challenge.rw_qd0125_01.Holds := hd (by
  k_go0
  (all_goals try k_fold)
  k_steps
  unfold Stop
  (with_reducible rename Fr _ _ _ _ => kF9)
  (with_reducible rename News _ _ _ _ => kN9)
  (with_reducible rename Tub _ _ _ _ _ => kH9)
  (with_reducible rename KBw.bInts _ = _ => hdat)
  (rename List Int => ks)
  obtain ⟨m8, kF7⟩ := fr_gen3 (x1 := Str.ofString "run") (x2 := Str.ofString "data") (x3 := Str.ofString "begin") kF9 (by with_unfolding_all rfl) (by with_unfolding_all rfl) (by with_unfolding_all rfl)
  clear kF9
  replace kN9 := cb_drop kN9 (fun p hp => List.mem_cons_of_mem _ hp)
  have hz : ks.length ≤ 1106 := by omega
  obtain ⟨bg, tb, hbg, kF8⟩ := gen_begin (n := ks.length) kF7 (by omega) (by omega)
  clear kF7
  have hlt := ‹@Ne Nat _ _ ∧ @LT.lt Nat _ _ _ ∧ @LT.lt Nat _ _ _›
  (with_reducible rename List.length _ ≤ 1100 => hz9)
  replace hbg : Keep _ := hbg
  replace hz : Keep _ := hz
  replace hlt : Keep _ := hlt
  replace hz9 : Keep _ := hz9
  repeat ((with_reducible rename (@LE.le Int _ _ _) => z9); clear z9)
  repeat ((with_reducible rename (@LT.lt Int _ _ _) => z9); clear z9)
  repeat ((with_reducible rename (@LE.le Nat _ _ _) => z9); clear z9)
  repeat ((with_reducible rename (@LT.lt Nat _ _ _) => z9); clear z9)
  repeat ((with_reducible rename (@Eq Nat _ _) => z9); clear z9)
  repeat ((with_reducible rename (@Ne Int _ _) => z9); clear z9)
  repeat ((with_reducible rename (_ ∧ _) => z9); clear z9)
  unfold Keep at hbg hz hlt hz9
  refine' join_end kH9 kN9 ?U ?V kF8 (by with_unfolding_all rfl) (by with_unfolding_all rfl) hdat ?_ ?_
  (case U => k_updF)
  (case V => (intro _; k_updF))
  · have mk8 : Mark := trivial
    k_steps
    all_goals (unfold EndPost; exact ⟨_, _, _, _, _, _, rfl, rfl, by k_asm, by k_asm, by assumption, by omega, by omega⟩)
  intro en9 te9 h9 tk9 oT9 oD9 lo9 hi9 F9 N9 H9
  (try dsimp only at N9)
  (try dsimp only)
  (try k_sweep)
  (try k_fold)
  k_steps
  unfold Stop
  (with_reducible rename Fr _ _ _ _ => kF8)
  (with_reducible rename News _ _ _ _ => kN7)
  obtain ⟨tb5, te5, u1, u2, u3, kN8⟩ := gen_cur kN7 (if_neg (by omega))
  clear kN7
  refine' join_while ks kF8 kN8 (by with_unfolding_all rfl) (by with_unfolding_all rfl) ?_ ?_
  · k_with "state" => (first | exact ⟨by omega, by omega, scan_0 (by omega)⟩ | exact ⟨by omega, by omega, scan_step ‹_› (by omega) (by omega) (by assumption) (by assumption)⟩)
    k_while_given ["begin", "end"] (fun bg en script g => bg ≤ g ∧ g ≤ en ∧ ScanI ks bg en g) (fun bg en script g => (en - g).toNat) "goal"
    k_steps
    all_goals (
      unfold WhilePost
      refine ⟨rfl, _, _, _, _, rfl, fr_eq (by k_asm) (fun y => rfl), by k_asm, ?_⟩
      first | exact scan_e1 ‹_› (by assumption) | exact scan_e2 ‹_› (by assumption) | exact scan_e3 ‹_› (by assumption))
  intro g9 tg9 h8 tk8 F8 N8 S9
  (try dsimp only)
  (try k_sweep)
  (try k_fold)
  k_steps
  unfold Stop
  (with_reducible rename Fr _ _ _ _ => kF7)
  (with_reducible rename News _ _ _ _ => kN7)
  refine join_due S9 kF7 kN7 ?_ ?_
  · have mk8 : Mark := trivial
    k_steps
    all_goals (
      unfold EvalPost
      refine ⟨_, _, rfl, by k_asm, by k_asm, ?_⟩
      first | exact due_v1 (by assumption) | exact due_v2 (by assumption) | exact due_v3 (by assumption) (by assumption))
  intro v9 h7 tk7 F7 N7 V9
  (try dsimp only)
  (try k_sweep)
  (try k_fold)
  k_steps
  unfold Stop
  (with_reducible rename Fr _ _ _ _ => kF6)
  (with_reducible rename News _ _ _ _ => kN6)
  refine join_two kF6 kN6 (by with_unfolding_all rfl) (by with_unfolding_all rfl) ?_ ?_
  · have mk8 : Mark := trivial
    (try k_fold)
    k_steps
    all_goals first
      | (with_unfolding_all exact tail_end (by k_asm) (by with_unfolding_all rfl) (by with_unfolding_all rfl) (by k_asm))
      | exact absurd rfl (by assumption)
      | (exfalso; omega)
      | exact Bool.noConfusion ((beq_self_eq_true _).symm.trans (by assumption))
      | exact Bool.noConfusion ((bne_self_eq_false _).symm.trans (by assumption))
  intro m5 h5 tk5 F5 N5
  (try dsimp only)
  (try k_sweep)
  (try k_fold)
  k_steps)
end Mine
theorem PySem.Challenge.cw_qd0125_01_holds : PySem.Challenge.rw_qd0125_01.Holds :=
  Mine.law_w
