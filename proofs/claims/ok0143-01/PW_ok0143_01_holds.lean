import PyProof.Rows.All
import Wide.All
import OpenK.AllK
import Wide.FinOn
import Lean
import PySem.Challenge.RW_ok0143_01
open PySem PySem.W PyProof.Rows
set_option Elab.async false
set_option compiler.extract_closed false
namespace Mine
set_option maxRecDepth 100000
set_option maxHeartbeats 8000000

-- makes the quick twin of the row, that the lemmas below name
theorem twinned : (!PySem.Challenge.rw_ok0143_01.row.writes) = true := by k_qdec

noncomputable def bootT (P : Params) : BT := ((boot_heap P).objs.toList.foldl (fun (a : BT × Nat) o => (a.1.ins a.2 o, a.2 + 1)) (BT.nil, 0)).1
theorem bootT_abs (P : Params) : absHeap (bootT P) 11 (boot_heap P).life = boot_heap P := by kernel_rfl

abbrev keep : List Nat := [0, 2, 3, 4, 6, 7, 8, 9, 10, 11, 12, 13, 14, 15, 16, 18, 19, 20, 22, 23, 25, 26, 28, 29, 30, 31, 32, 33, 34, 35, 36]
noncomputable def qlit : { q : Program // q = view PySem.Challenge.pw_ok0143_01 keep } := ⟨_, by
  conv => rhs; unfold view; dsimp only [PySem.Challenge.pw_ok0143_01, List.filterMap, List.getElem?_cons_zero, List.getElem?_cons_succ]⟩
noncomputable def qview : Program := qlit.1
abbrev lse : List PySem.Str := [PySem.Str.ofString "CHROMA"]
noncomputable abbrev xtt : Shared → Bool := fun s => xlAt qview [] s && recOk (RowW.records PySem.Challenge.rw_ok0143_01.row.toRowW) s

theorem topRun_of_seg {tb : String → Option Builtin} {p : Program} {w : World} {n₀ : Nat} {ann : Option Value} : ∀ {n : Nat} {s s' : Shared} {t : Thread} {f : Flow} {c : Code} {q : Pos},
    segRun tb p w n₀ ann 0 n s t = some (f, s', c, q) → topRun tb p w n₀ ann n s t = some s'
  | 0, _, _, _, _, _, _, h => by cases h
  | n + 1, s, s', t, f, c, q, h => by
    unfold segRun at h
    unfold topRun
    cases he : endAt 0 t with
    | some x =>
      rw [he] at h
      cases h
      have : through t = true := by
        obtain ⟨cur, code, pos, stack⟩ := t
        cases stack with
        | nil => cases cur with
          | pure f => cases f with
            | done f => rfl
            | again c => cases he
          | _ => cases he
        | cons a b => cases he
      rw [this]
    | none =>
      rw [he] at h
      have : through t = false := by
        obtain ⟨cur, code, pos, stack⟩ := t
        cases stack with
        | nil => cases cur with
          | pure f => cases f with
            | done f => cases he
            | again c => rfl
          | _ => rfl
        | cons a b => rfl
      rw [this]
      dsimp only
      cases hk : stepOk n₀ ann t with
      | false => rw [hk] at h; cases h
      | true =>
        rw [hk] at h
        dsimp only at h ⊢
        cases hs : step (denote tb) p w s t with
        | halt o s₂ => rw [hs] at h; cases h
        | go s₂ t₂ => rw [hs] at h; exact topRun_of_seg h

def seen1 (s : SharedT) (a : Addr) : Option Obj := match Nat.blt a s.n with
  | true => match s.tree.get a with
    | some o => alive o
    | none => none
  | false => none
theorem seen1_get {s : SharedT} {a : Addr} {o : Obj} (h : seen1 s a = some o) : s.abs.heap.get? a = some o := by
  unfold seen1 at h
  cases e : Nat.blt a s.n with
  | false => rw [e] at h; cases h
  | true =>
    rw [e] at h
    dsimp only at h
    cases g : s.tree.get a with
    | none => rw [g] at h; cases h
    | some o' =>
      rw [g] at h
      exact (abs_get (Nat.le_of_ble_eq_true e) g).trans h
theorem seen_all {s : SharedT} : ∀ {as : List Addr} {ks : List (Addr × Obj)}, as.map (seen1 s) = ks.map (fun p => some p.2) → as.map s.abs.heap.get? = ks.map fun p => some p.2
  | [], [], _ => rfl
  | [], _ :: _, h => by cases h
  | _ :: _, [], h => by cases h
  | a :: as, k :: ks, h => by
    simp only [List.map_cons, List.cons.injEq] at h ⊢
    exact ⟨seen1_get h.1, seen_all h.2⟩

noncomputable def checks (P : Params) (s : Shared) : Bool := staticsOk (importedModules PySem.Challenge.rw_ok0143_01.row.toRowW.1.main.body) (boot_heap P) s.heap && namesBound PySem.Challenge.rw_ok0143_01.row.toRowW.1 s.heap && gensDone s && laidKept (boot_heap P) s.heap
noncomputable abbrev startT (w : World) (os : OsState) : SharedT := ⟨bootT w.params, 11, (boot_heap w.params).life, #[], boot_drawn, boot_toks, os⟩

-- what is asked of the run of the top, in plain words, and in the quick twins
abbrev Asked (K : Params → Frag) (as : List Addr) (w : World) (os : OsState) : Prop :=
  (segRunT treeTable PySem.Challenge.rw_ok0143_01.row.toRowW.1 w 11 (some (.ref 6)) 0 2950 (startT w os) (topStub PySem.Challenge.rw_ok0143_01.row.toRowW.1)).map (fun r =>
    (checks w.params r.2.1.abs, openSeen qview lse (importedModules PySem.Challenge.rw_ok0143_01.row.toRowW.1.main.body) xtt true r.2.1.abs, as.map (seen1 r.2.1))) =
  some (true, openGood qview lse, (K w.params).map fun p => some p.2)

theorem ends_map {α : Type} {p : Program} {w : World} {N : Nat} {s0 s1 : Shared} {g : Shared → α} (e1 : fencedOpening treeTable p w N = some s0) (t3 : topFrom treeTable p w N s0 = some s1) : (openEnds treeTable p w N).map g = some (g s1) := by
  unfold openEnds
  rw [e1]
  show (topFrom treeTable p w N s0).map g = _
  rw [t3]
  rfl
theorem left_gen {K : Params → Frag} {as : List Addr} {e : ∀ P, as = (K P).map (·.1)} (h : ∀ w os, Asked K as w os) :
    LeftO PySem.Challenge.rw_ok0143_01.row.toRowW.1 qview lse xtt (Hook.obs (kHook K as e)) (Hook.val (kHook K as e)) 5868 := fun w => by
  obtain ⟨⟨h0, gs, d, k, os⟩, e1, e2⟩ := Option.map_eq_some_iff.mp (boot_open (p := PySem.Challenge.rw_ok0143_01.row.toRowW.1) (N := 5868) (by kernel_rfl) (by decide +kernel) (fun _ => by kernel_rfl) w)
  obtain ⟨rfl, rfl, rfl, rfl⟩ : h0 = boot_heap w.params ∧ gs = #[] ∧ d = boot_drawn ∧ k = boot_toks := by simpa using e2
  obtain ⟨⟨f, s', c, q⟩, r1, r2⟩ := Option.map_eq_some_iff.mp (h w os)
  obtain ⟨l1, l2, l3⟩ : checks w.params s'.abs = true ∧ _ = _ ∧ _ = _ := by simpa only [Prod.mk.injEq] using r2
  have t := topRun_of_seg (segRun_of r1)
  have t' : topRun treeTable PySem.Challenge.rw_ok0143_01.row.toRowW.1 w 11 (some (.ref 6)) 2950 ⟨boot_heap w.params, #[], boot_drawn, boot_toks, os⟩ (topStub PySem.Challenge.rw_ok0143_01.row.toRowW.1) = some s'.abs := by
    rw [← t]
    unfold SharedT.abs startT
    dsimp only
    rw [bootT_abs]
  have t2 := topRun_mono (5868 - 2950) _ _ _ _ t'
  have t3 : topFrom treeTable PySem.Challenge.rw_ok0143_01.row.toRowW.1 w 5868 ⟨boot_heap w.params, #[], boot_drawn, boot_toks, os⟩ = some s'.abs := by
    unfold topFrom
    dsimp only
    rw [show ((boot_heap w.params).isNs mainGlobals && (#[] : Array GenState).size == 0) = true by kernel_rfl, show (boot_heap w.params).objs.size = 11 by kernel_rfl,
      show (boot_heap w.params).nsMap mainGlobals "__annotations__" = some (.ref 6) by kernel_rfl, t2]
    show (match checks w.params s'.abs with | true => _ | false => _) = _
    rw [l1]
  refine (ends_map e1 t3).trans ?_
  exact congrArg some (Prod.ext l2 (seen_all l3))

theorem prog_q : PySem.Challenge.rw_ok0143_01.row.toRowW.1 = (PySem.W.Fast.tw2368527892694137696 PySem.W.Fast.tw6072931915561115701).toRowW.1 := by
  rw [PySem.W.Fast.te2368527892694137696, PySem.W.Fast.te6072931915561115701]
theorem recs_q : PySem.Challenge.rw_ok0143_01.row.toRowW = (PySem.W.Fast.tw2368527892694137696 PySem.W.Fast.tw6072931915561115701).toRowW := by
  rw [PySem.W.Fast.te2368527892694137696, PySem.W.Fast.te6072931915561115701]
noncomputable def progQ : Program := (PySem.W.Fast.tw2368527892694137696 PySem.W.Fast.tw6072931915561115701).toRowW.1
noncomputable def qviewQ : Program := view progQ keep
theorem view_q : qview = qviewQ := qlit.2.trans (congrArg (fun p => view p keep) prog_q)
noncomputable abbrev xttQ : Shared → Bool := fun s => xlAt qviewQ [] s && recOk (RowW.records (PySem.W.Fast.tw2368527892694137696 PySem.W.Fast.tw6072931915561115701).toRowW) s
noncomputable def checksQ (P : Params) (s : Shared) : Bool := staticsOk (PySem.W.Fast.tw5923862056798008813 progQ.main.body) (boot_heap P) s.heap && namesBound progQ s.heap && gensDone s && laidKept (boot_heap P) s.heap
theorem checks_q (P : Params) (s : Shared) : checks P s = checksQ P s := by unfold checks checksQ; rw [PySem.W.Fast.te5923862056798008813, prog_q]; rfl
abbrev AskedQ (K : Params → Frag) (as : List Addr) (w : World) (os : OsState) : Prop :=
  (PySem.W.Fast.tw10110043849684766642 PySem.W.Fast.tw14364793385576792824 progQ w 11 (some (.ref 6)) 0 2950 (startT w os) (topStub progQ)).map (fun r =>
    (checksQ w.params r.2.1.abs, PySem.W.Fast.tw4187177175401517315 qviewQ lse (PySem.W.Fast.tw5923862056798008813 progQ.main.body) xttQ true r.2.1.abs, as.map (seen1 r.2.1))) =
  some (true, openGood qviewQ lse, (K w.params).map fun p => some p.2)
theorem xtt_q : xtt = xttQ := by
  funext s
  show (xlAt qview [] s && recOk (RowW.records PySem.Challenge.rw_ok0143_01.row.toRowW) s) = _
  rw [view_q, recs_q]
theorem asked_q {K : Params → Frag} {as : List Addr} {w : World} {os : OsState} (h : AskedQ K as w os) : Asked K as w os := by
  unfold Asked
  rw [PySem.W.Fast.te10110043849684766642, PySem.W.Fast.te14364793385576792824, PySem.W.Fast.te4187177175401517315, PySem.W.Fast.te5923862056798008813, prog_q, xtt_q, view_q]
  simp only [checks_q]
  exact h
theorem left_q {K : Params → Frag} {as : List Addr} {e : ∀ P, as = (K P).map (·.1)} (h0 : ∀ (w : World) os, AskedQ K as (w.withFollow "special-get-raises" false) os) (h1 : ∀ (w : World) os, AskedQ K as (w.withFollow "special-get-raises" true) os) :
    LeftO PySem.Challenge.rw_ok0143_01.row.toRowW.1 qview lse xtt (Hook.obs (kHook K as e)) (Hook.val (kHook K as e)) 5868 :=
  left_gen fun w os => asked_q (byRow2 "special-get-raises" (P := fun w => AskedQ K as w os) (fun w => h0 w os) (fun w => h1 w os) w)

local macro_rules | `(tactic| o_head $H) => `(tactic| refine holds_open (q := qview) (loose := lse) (Xt := xtt) (XP := XL qview []) (Yf := Hook.obs $H) (Ya := Hook.val $H) (YP := Hook.says $H) (N := 5868)
  (left_q (fun w os => by kernel_rfl) (fun w os => by kernel_rfl)) (Hook.of $H) (Hook.keeps $H) (fun s e => xl_of s (Bool.and_eq_true_iff.mp e).1) XL.keeps (by rfl) (by rfl) (by rfl) (fun s e => recFacts_of (Bool.and_eq_true_iff.mp e).2) (by rfl) (by first | assumption | decide +kernel) (by decide +kernel) ⟨rfl, rfl, rfl, rfl, rfl, by decide +kernel⟩ ?hw ?hc)

open_top hd for PySem.Challenge.rw_ok0143_01
end Mine
open PySem PySem.W PyProof.Rows PySem.Calls PySem.Spec
set_option maxRecDepth 100000
set_option maxHeartbeats 8000000
set_option linter.unusedVariables false
namespace Mine
-- part Base
section
abbrev topA (hd : Option Value) (dp un : Nat) (gd : Option (List Code)) (cn : Str) (cs : Scope) (L a : Addr) (ccd : Value) (cl : List (Str × Addr)) (outer : List Env) : Around :=
  { handled := hd, depth := dp, frames := some (envX cn cs L a ccd cl :: outer), guards := gd, units := un }
end
-- part Take
section
theorem zfill_Take : ∀ w : World, (hd.heap_39 w.params, PySem.Challenge.rw_ok0143_01.row.prog) = (hd.heap_39 w.params, PySem.Challenge.rw_ok0143_01.row.prog) := by
  k_fill
  w_top off
  intro w
  rfl
theorem fmod_small (a : Int) {b : Int} (hb : 0 < b) : 0 ≤ a.fmod b ∧ a.fmod b < b := by
  rw [Int.fmod_eq_emod_of_nonneg _ (Int.le_of_lt hb)]
  exact ⟨Int.emod_nonneg _ (by omega), Int.emod_lt_of_pos _ hb⟩
theorem fdiv_nn {a b : Int} (ha : 0 ≤ a) (hb : 0 < b) : 0 ≤ a.fdiv b := by
  rw [Int.fdiv_eq_ediv_of_nonneg _ (Int.le_of_lt hb)]
  exact Int.ediv_nonneg ha (Int.le_of_lt hb)
theorem mulok {a b : Int} (h : -(2 ^ 64) < a ∧ a < 2 ^ 64) : IntMulOk a b := IntMulOk.of_left (intBits_le_64 h.1 h.2)
theorem fm64 (a : Int) : -(2 ^ 64) < a.fmod 2147483647 ∧ a.fmod 2147483647 < 2 ^ 64 := by
  have q1 := fmod_small a (b := 2147483647) (by decide)
  omega
local macro_rules | `(tactic| walk_at "binaryOp Mult int int") => `(tactic| (k_here; refine mul_int ?_ (mulok (by
  simp only [Int.toNat_zero, Int.toNat_one, List.getD_cons_zero, List.getD_cons_succ]
  first | exact fm64 _ | omega))))
theorem take_con : ∀ (w : World) (mean : ExcName → Option Value) (mg mb : Str → Option Value) (dp un : Nat) (gd : Option (List Code)) (hdl : Option Value) (cn : Str) (cs : Scope) (a : Addr) (ccd : Value) (cl : List (Str × Addr)) (outer : List Env) (A₀ : Around) (base h₀ : Heap) (L : Addr) (m : Str → Option Value) (s : Shared) (Q E : Value → Shared → Prop) (src : Addr) (x y : Int) (tx ty tt : Tok) (n : Nat) (top : Int) (rest : List (Addr × Obj)),
    Below A₀ base outer h₀ → Fr h₀ L s.heap m → (hd.heap_39 w.params).In h₀ → Top qview (looseW qview lse) mean mg mb h₀ → cs.kind = .function → News h₀ L s.heap ((src, W.listOf #[.int x tx, .int y ty] n) :: rest) → OwnOff rest [src] →
    0 ≤ x → 0 ≤ y → y < 2147483647 → 0 < top → top < 100 → dp + 1 < recursionLimit → un + 8 < cLine →
    (∀ (v : Int) (tv : Tok) (x' y' : Int) (tx' ty' : Tok) (n' : Nat) h' tk', 0 ≤ v → v < top → 0 ≤ x' → 0 ≤ y' → y' < 2147483647 → Fr h₀ L h' m → News h₀ L h' ((src, W.listOf #[.int x' tx', .int y' ty'] n') :: rest) → Q (.int v tv) { s with heap := h', toks := tk' }) →
    wpAny (model PySem.Challenge.rw_ok0143_01.row.prog w) (topA hdl dp un gd cn cs L a ccd cl outer) (call (.ref 318) [.ref src, .int top tt]) Q E s := by
  k_fill; intro w mean mg mb dp un gd hdl cn cs a ccd cl outer A₀ base h₀ L m s Q E
  intro src x y tx ty tt n top rest B F X T hk N hoff hx hy hy2 h1 h2 hd1 hu1 hret
  refine wpAny_call ?_
  (first | k_dflt ktr_enter | fail "not entered")
  k_steps
  all_goals simp only [Int.toNat_zero, Int.toNat_one, List.getD_cons_zero, List.getD_cons_succ] at *
  · exact hret _ _ _ _ _ _ _ _ _ (fmod_small _ h1).1 (fmod_small _ h1).2 (fdiv_nn hx h1) hy hy2 (by assumption) (by assumption)
  · exact hret _ _ _ _ _ _ _ _ _ (fmod_small _ h1).1 (fmod_small _ h1).2 hx (fmod_small _ (by decide)).1 (fmod_small _ (by decide)).2 (by assumption) (by assumption)
end
-- part Hand
section
/- what is handled: nothing, or an exception whose context is none -/
def Hand (hdl : Option Value) (h : Heap) : Prop := match hdl with
  | none => True
  | some v => ∃ x ox vs, v = .ref x ∧ h.get? x = some ox ∧ ox.data = .fields vs ∧ vs[2]? = some .none
def handAt (hdl : Option Value) : List Addr := match hdl with
  | some (.ref x) => [x]
  | _ => []
theorem Hand.keeps {hdl : Option Value} {h h' : Heap} (x : Hand hdl h) (k : ∀ b ∈ handAt hdl, ∀ o, h.get? b = some o → h'.get? b = some o) : Hand hdl h' := by
  cases hdl with
  | none => trivial
  | some v =>
    obtain ⟨x, ox, vs, rfl, a, b, c⟩ := x
    exact ⟨x, ox, vs, rfl, k x (.head _) _ a, b, c⟩
section
variable {prog : Program} {w : World} {A : Around} {E : Value → Shared → Prop} {s : Shared}
theorem entry_unchain : entryFor table "proto.unchain" = some Builtin.«proto.unchain» := entryFor_of_tree (by kernel_rfl)
theorem unchain_none {e : Value} {x : Addr} {ox : Obj} {vs : Array Value} {Q : Value → Shared → Prop} (hx : s.heap.get? x = some ox) (hd : ox.data = .fields vs) (h2 : vs[2]? = some .none) (h : Q .none s) :
    wpAny (model prog w) A (runValue (.builtin "proto.unchain" ⟨[e, .ref x, .ref x, .bool false], []⟩)) Q E s := by
  refine wpAny_runValue (codeAny_builtin entry_unchain ?_)
  show wpAny _ _ (field (.ref x) 2 >>= _) _ _ s
  refine wpAny_bind (wpAny_field hx hd h2 ?_)
  rw [if_pos (by decide)]
  exact wpAny_pure h
theorem raise_under {e : Addr} {oe : Obj} {vs : Array Value} {α : Type} {Q : α → Shared → Prop} (he : s.heap.get? e = some oe) (hd : oe.data = .fields vs) (hsz : 2 < vs.size) (hnew : e ∉ handAt A.handled) (H : Hand A.handled s.heap)
    (h : ∀ h' oe', (∀ b, b ≠ e → h'.get? b = s.heap.get? b) → h'.get? e = some oe' → oe'.cls = oe.cls → E (.ref e) { s with heap := h' }) :
    wpAny (model prog w) A (raiseNew (.ref e) : Sem α) Q E s := by
  unfold raiseNew
  refine wpAny_bind (wpAny_handled ?_)
  cases hh : A.handled with
  | none => exact wpAny_bind (wpAny_pure (wpAny_throw (h s.heap oe (fun _ _ => rfl) he rfl)))
  | some v =>
    rw [hh] at H hnew
    obtain ⟨x, ox, vx, rfl, hx, hdx, h2⟩ := H
    have hne : x ≠ e := fun q => hnew (by rw [q]; exact .head _)
    dsimp only
    rw [if_pos (by simp [hne])]
    refine wpAny_bind (wpAny_holding (unchain_none hx hdx h2 (wpAny_bind ?_)))
    unfold updateField
    refine wpAny_bind (wpAny_load he ?_)
    rw [hd]
    dsimp only
    rw [if_pos hsz]
    refine wpAny_update he ?_
    refine wpAny_throw (h _ _ (fun b hb => Heap.get?_update_other _ _ (Ne.symm hb)) (Heap.get?_update_self _ he (Obj.isFreed_of_fields (Obj.data_mapFields hd _))) (Obj.cls_mapFields _ _))
theorem stop_raise {α : Type} {Q : α → Shared → Prop} (H : Hand A.handled s.heap)
    (h : ∀ h' e, (∀ b o, s.heap.get? b = some o → h'.get? b = some o) → (∃ o, h'.get? e = some o ∧ o.cls = .type "StopIteration") → E (.ref e) { s with heap := h' }) :
    wpAny (model prog w) A (newExc (.type "StopIteration") [] >>= fun e => (raiseNew e : Sem α)) Q E s := by
  have hlt : ∀ b ∈ handAt A.handled, b < s.heap.objs.size := fun b hb => by
    cases hh : A.handled with
    | none => rw [hh] at hb; cases hb
    | some v =>
      rw [hh] at hb H
      obtain ⟨x, ox, vs, rfl, h1, _⟩ := H
      rw [List.mem_singleton.mp hb]
      exact Heap.lt_size h1
  refine wpAny_bind ?_
  simp only [newExc, newTuple]
  refine wpAny_bind (wpAny_newObj_type ?_ (by size_fits))
  refine wpAny_bind (m := firstArgMember _ _) (wpAny_of_eq (a := Value.none) (by first | rfl | (simp only [firstArgMember]; rfl)) ?_)
  refine wpAny_newObj_type ?_ (by size_fits)
  refine raise_under (Heap.get?_push_size _ rfl) rfl (by simp; omega) (fun hb => ?_) (H.keeps fun b _ o e => Heap.get?_push_of_some _ (Heap.get?_push_of_some _ e)) fun h' oe' hk he hc => ?_
  · have := hlt _ hb
    dsimp only at this
    rw [Heap.size_push] at this
    exact absurd this (Nat.not_lt.mpr (Nat.le_succ _))
  · refine h h' _ (fun b o e => ?_) ⟨oe', he, hc⟩
    refine (hk b fun q => ?_).trans (Heap.get?_push_of_some _ (Heap.get?_push_of_some _ e))
    have := Heap.lt_size e
    rw [q] at this
    dsimp only at this
    rw [Heap.size_push] at this
    exact absurd this (Nat.not_lt.mpr (Nat.le_succ _))
theorem list_endX {it l : Addr} {i : Nat} {items : Array Value} {Q : Option Value → Shared → Prop}
    (hit : s.heap.IsListIter it l i) (hl : s.heap.IsList l items) (hx : items[i]? = none) (H : Hand A.handled s.heap) (hni : it ∉ handAt A.handled)
    (hQ : ∀ h', Heap.ExtBut it s.heap h' → Q none { s with heap := h' }) : wpAny (model prog w) A (pyNext (.ref it)) Q E s := by
  obtain ⟨o, ho, hc, hd⟩ := id hit
  obtain ⟨ol, hol, _, nl, hdl⟩ := hl
  unfold pyNext
  refine wpAny_bind (wpAny_attempt (wpAny_callSpecial?_slot (name := PySem.Str.ofString "__next__") hit.typeIs slot_listiter_next
    (wpAny_call_entry slot_listiter_next hit.typeIs entry_listiter_next ?_ (args_listiter_next _))))
  show wpAny _ _ (field (.ref it) 0 >>= _) _ _ s
  refine wpAny_bind (wpAny_field ho hd (x := .ref l) rfl ?_)
  show wpAny _ _ (if (Value.ref l == Value.none) = true then _ else _) _ _ s
  rw [if_neg (show ¬ ((Value.ref l == Value.none) = true) from Bool.false_ne_true)]
  show wpAny _ _ (field (.ref it) 1 >>= _) _ _ s
  refine wpAny_bind (wpAny_field ho hd (x := .int i 0) rfl ?_)
  show wpAny _ _ (seqItems? (.ref l) >>= _) _ _ s
  refine wpAny_bind (wpAny_seqItems hol hdl ?_)
  simp only [Int.toNat_natCast, hx]
  refine wpAny_bind (wpAny_rule (wpAny_bind (wpAny_setField ho hd (by simp) ?_)))
  refine stop_raise (H.keeps fun b hb o e => ?_) fun h' e hk he => ?_
  · exact (Heap.get?_update_other _ _ (fun q => by subst q; exact hni hb)).trans e
  · refine wpAny_bind (wpAny_isInstance (T := "StopIteration") (b := true) he isSubtype_stop ?_)
    exact wpAny_pure (hQ _ fun b o' hb e' => hk b o' ((Heap.get?_update_other _ _ (Ne.symm hb)).trans e'))
theorem tuple_endX {it l : Addr} {i : Nat} {items : Array Value} {Q : Option Value → Shared → Prop}
    (hit : s.heap.IsTupleIter it l i) (hl : s.heap.IsTuple l items) (hx : items[i]? = none) (H : Hand A.handled s.heap) (hni : it ∉ handAt A.handled)
    (hQ : ∀ h', Heap.ExtBut it s.heap h' → Q none { s with heap := h' }) : wpAny (model prog w) A (pyNext (.ref it)) Q E s := by
  obtain ⟨o, ho, hc, hd⟩ := id hit
  obtain ⟨ol, hol, _, nl, hdl⟩ := hl
  unfold pyNext
  refine wpAny_bind (wpAny_attempt (wpAny_callSpecial?_slot (name := PySem.Str.ofString "__next__") hit.typeIs F.slot_tuple_iterator_next
    (wpAny_call_entry F.slot_tuple_iterator_next hit.typeIs F.entry_tuple_iterator_next ?_ (F.args_tuple_iterator_next_1 _))))
  show wpAny _ _ (field (.ref it) 0 >>= _) _ _ s
  refine wpAny_bind (wpAny_field ho hd (x := .ref l) rfl ?_)
  show wpAny _ _ (if (Value.ref l == Value.none) = true then _ else _) _ _ s
  rw [if_neg (show ¬ ((Value.ref l == Value.none) = true) from Bool.false_ne_true)]
  show wpAny _ _ (field (.ref it) 1 >>= _) _ _ s
  refine wpAny_bind (wpAny_field ho hd (x := .int i 0) rfl ?_)
  show wpAny _ _ (seqItems? (.ref l) >>= _) _ _ s
  refine wpAny_bind (wpAny_seqItems hol hdl ?_)
  simp only [Int.toNat_natCast, hx]
  refine wpAny_bind (wpAny_rule (wpAny_bind (wpAny_setField ho hd (by simp) ?_)))
  refine stop_raise (H.keeps fun b hb o e => ?_) fun h' e hk he => ?_
  · exact (Heap.get?_update_other _ _ (fun q => by subst q; exact hni hb)).trans e
  · refine wpAny_bind (wpAny_isInstance (T := "StopIteration") (b := true) he isSubtype_stop ?_)
    exact wpAny_pure (hQ _ fun b o' hb e' => hk b o' ((Heap.get?_update_other _ _ (Ne.symm hb)).trans e'))
end
theorem walksListX {prog : Program} {w : World} {A : Around} (I ax : Addr) (hne : ax ≠ I) (hni : I ∉ handAt A.handled) (items : Array Value) :
    Walks prog w A I (I :: ax :: handAt A.handled) [I] items.size (fun i v => items[i]? = some v) (fun i h => (h.IsListIter I ax i ∧ h.IsList ax items) ∧ Hand A.handled h) where
  sub := fun b hb => by rw [List.mem_singleton.mp hb]; exact .head _
  frame := fun _ _ _ st hk => ⟨⟨st.1.1.at fun o e => hk I (.head _) o e, st.1.2.at fun o e => hk ax (.tail _ (.head _)) o e⟩, st.2.keeps fun b hb => hk b (.tail _ (.tail _ hb))⟩
  item := fun i s Q E hi st hQ => by
    refine wpAny_pyNext_list_item st.1.1 st.1.2 (x := items[i]) (by simp [hi]) fun h' hit' hs' => ?_
    exact hQ _ h' s.toks (by simp [hi]) ⟨⟨hit', st.1.2.extBut hs'.extBut hne⟩, st.2.keeps fun b hb o e => hs'.extBut b o (fun q => hni (q ▸ hb)) e⟩ fun b o hb e => hs'.extBut b o (fun h => hb (by simp [h])) e
  done := fun s Q E st hQ => list_endX st.1.1 st.1.2 (by simp) st.2 hni fun h' he' => hQ h' s.toks fun b o hb e => he' b o (fun h => hb (by simp [h])) e
  self := fun _ _ _ _ st hQ => wpAny_pyIter_listiter st.1.1 hQ
theorem walksTupleX {prog : Program} {w : World} {A : Around} (I ax : Addr) (hne : ax ≠ I) (hni : I ∉ handAt A.handled) (items : Array Value) :
    Walks prog w A I (I :: ax :: handAt A.handled) [I] items.size (fun i v => items[i]? = some v) (fun i h => (h.IsTupleIter I ax i ∧ h.IsTuple ax items) ∧ Hand A.handled h) where
  sub := fun b hb => by rw [List.mem_singleton.mp hb]; exact .head _
  frame := fun _ _ _ st hk => ⟨⟨st.1.1.at fun o e => hk I (.head _) o e, st.1.2.at fun o e => hk ax (.tail _ (.head _)) o e⟩, st.2.keeps fun b hb => hk b (.tail _ (.tail _ hb))⟩
  item := fun i s Q E hi st hQ => by
    refine wpAny_pyNext_tuple_item st.1.1 st.1.2 (x := items[i]) (by simp [hi]) fun h' hit' hs' => ?_
    exact hQ _ h' s.toks (by simp [hi]) ⟨⟨hit', st.1.2.extBut hs'.extBut hne⟩, st.2.keeps fun b hb o e => hs'.extBut b o (fun q => hni (q ▸ hb)) e⟩ fun b o hb e => hs'.extBut b o (fun h => hb (by simp [h])) e
  done := fun s Q E st hQ => tuple_endX st.1.1 st.1.2 (by simp) st.2 hni fun h' he' => hQ h' s.toks fun b o hb e => he' b o (fun h => hb (by simp [h])) e
  self := fun _ _ _ _ st hQ => wpAny_pyIter_tupleiter st.1.1 hQ
end
-- part Led
section
inductive Pull (d : Addr) (o : Obj) : List (Addr × Obj) → List (Addr × Obj) → Prop
  | head {r : List (Addr × Obj)} : (∀ p ∈ r, p.1 ≠ d) → Pull d o ((d, o) :: r) r
  | tail {p : Addr × Obj} {l r : List (Addr × Obj)} : p.1 ≠ d → Pull d o l r → Pull d o (p :: l) (p :: r)
theorem Pull.sub {d : Addr} {o : Obj} {l r : List (Addr × Obj)} (P : Pull d o l r) : ∀ p ∈ (d, o) :: r, p ∈ l := by
  induction P with
  | head _ => exact fun _ h => h
  | @tail p l r _ _ ih =>
    intro q hq
    rcases List.mem_cons.mp hq with rfl | hq
    · exact .tail _ (ih _ (.head _))
    · rcases List.mem_cons.mp hq with rfl | hq
      · exact .head _
      · exact .tail _ (ih _ (.tail _ hq))
theorem Pull.off {d : Addr} {o : Obj} {l r : List (Addr × Obj)} (P : Pull d o l r) : OwnOff r [d] := by
  intro p hp b hb
  rw [List.mem_singleton.mp hb]
  induction P with
  | head h => exact h p hp
  | tail h _ ih =>
    rcases List.mem_cons.mp hp with rfl | hp
    · exact h
    · exact ih hp
theorem Pull.news {h₀ h : Heap} {L d : Addr} {o : Obj} {l r : List (Addr × Obj)} (P : Pull d o l r) (N : News h₀ L h l) : News h₀ L h ((d, o) :: r) := fun p hp => N p (P.sub p hp)
theorem off_lt {d : Addr} {l : List (Addr × Obj)} (h : AllLt d l) : ∀ p ∈ l, p.1 ≠ d := fun p hp => Nat.ne_of_lt (ktn_ltOf h p hp)
theorem off_cons {a I : Addr} {o : Obj} {r : List (Addr × Obj)} (h : ∀ q ∈ (a, o) :: r, q.1 ≠ I) : (@Ne Nat a I) ∧ ∀ q ∈ r, q.1 ≠ I := ⟨h _ (.head _), fun q hq => h q (.tail _ hq)⟩
theorem off1_mem {D : Addr} : ∀ {l : List (Addr × Obj)}, PyProof.Rows.LCg.Off1 D l → ∀ p ∈ l, p.1 ≠ D
  | [], _, _, h => nomatch h
  | _ :: _, x, p, h => by
    rcases List.mem_cons.mp h with rfl | h
    · exact x.1
    · exact off1_mem x.2 p h
theorem take_use {w : World} {mean : ExcName → Option Value} {mg mb : Str → Option Value} {dp un : Nat} {gd : Option (List Code)} {hdl : Option Value} {cn : Str} {cs : Scope} {a : Addr} {ccd : Value} {cl : List (Str × Addr)} {outer : List Env} {A₀ : Around} {base h₀ : Heap} {L : Addr} {m : Str → Option Value} {s : Shared} {Q E : Value → Shared → Prop}
    {src : Addr} {x y : Int} {tx ty tt : Tok} {n : Nat} {top : Int} {news rest : List (Addr × Obj)}
    (B : Below A₀ base outer h₀) (F : Fr h₀ L s.heap m) (X : (hd.heap_39 w.params).In h₀) (T : Top qview (looseW qview lse) mean mg mb h₀) (hk : cs.kind = .function) (N : News h₀ L s.heap news) (P : Pull src (W.listOf #[.int x tx, .int y ty] n) news rest)
    (hx : 0 ≤ x) (hy : 0 ≤ y) (hy2 : y < 2147483647) (h1 : 0 < top) (h2 : top < 100) (hd1 : dp + 1 < recursionLimit) (hu1 : un + 8 < cLine)
    (hret : ∀ (v : Int) (tv : Tok) (x' y' : Int) (tx' ty' : Tok) (n' : Nat) h' tk', 0 ≤ v → v < top → 0 ≤ x' → 0 ≤ y' → y' < 2147483647 → Fr h₀ L h' m → News h₀ L h' ((src, W.listOf #[.int x' tx', .int y' ty'] n') :: rest) → OwnOff rest [src] → Q (.int v tv) { s with heap := h', toks := tk' }) :
    wpAny (model PySem.Challenge.rw_ok0143_01.row.prog w) (topA hdl dp un gd cn cs L a ccd cl outer) (call (.ref 318) [.ref src, .int top tt]) Q E s :=
  take_con w mean mg mb dp un gd hdl cn cs a ccd cl outer A₀ base h₀ L m s Q E src x y tx ty tt n top rest B F X T hk (P.news N) P.off hx hy hy2 h1 h2 hd1 hu1
    fun v tv x' y' tx' ty' n' h' tk' a1 a2 a3 a4 a5 F' N' => hret v tv x' y' tx' ty' n' h' tk' a1 a2 a3 a4 a5 F' N' P.off
section
variable {prog : Program} {w : World} {A : Around} {E : Value → Shared → Prop} {s : Shared} {h₀ : Heap} {L l : Addr} {m : Str → Option Value} {news : List (Addr × Obj)} {vs : List Value} {k : Nat} {Q : Value → Shared → Prop}
theorem isList_mem (N : News h₀ L s.heap news) (hm : (l, W.listOf vs.toArray k) ∈ news) : s.heap.IsList l vs.toArray := ⟨_, N.get hm, rfl, k, rfl⟩
theorem len_mem (N : News h₀ L s.heap news) (hm : (l, W.listOf vs.toArray k) ∈ news) (hz : vs.length < 1000) (h : ∀ n : Int, n = (vs.length : Int) → Q (.int n (s.toks + 1)) { s with toks := s.toks + 1 + 1 }) :
    wpAny (model prog w) A (call (.builtin "len") [.ref l]) Q E s := by
  refine PyProof.Rows.len_list (isList_mem N hm) (by simp; omega) ?_
  exact h _ (by simp)
theorem item_mem {value slice : PySem.Expr} {i : Int} {u : Tok} (N : News h₀ L s.heap news) (hm : (l, W.listOf vs.toArray k) ∈ news) (hz : vs.length < 1000) (h0 : 0 ≤ i) (h1 : i < (vs.length : Int)) (h : ∀ v, vs[i.toNat]? = some v → Q v s)
    (hs : subscripted slice false (.ref l) (.int i u) = operate [.ref l, .int i u] (getItem (.ref l) (.int i u)) := by with_unfolding_all rfl) :
    wpAny (model prog w) A (subscriptTail value slice (.ref l) (.int i u)) Q E s := by
  obtain ⟨v, hv⟩ : ∃ v, vs[i.toNat]? = some v := ⟨vs[i.toNat]'(by omega), by simp⟩
  exact tail_any (isList_mem N hm).typeIs slot_list_getitem.lookup (wpAny_getItem_list (isList_mem N hm) h0 (by omega) (by simpa using hv) (h v hv)) hs
end
end
-- part Loop
section
def EndJ (h₀ : Heap) (L : Addr) (x : Str) (stored : List Str) (m : Str → Option Value) (I : Addr) (oI : Obj) (J : List (Addr × Obj) → Prop) (s₁ s₂ : Shared) : Prop :=
  ∃ h' tk m' nx, s₂ = { s₁ with heap := h', toks := tk } ∧ Fr h₀ L h' m' ∧ News h₀ L h' ((I, oI) :: nx) ∧ (∀ q ∈ nx, q.1 ≠ I) ∧ (∀ y, y ≠ x → stored.contains y = false → m' y = m y) ∧ J nx
def PostJ (h₀ : Heap) (L : Addr) (x : Str) (stored : List Str) (m : Str → Option Value) (I : Addr) (oI : Obj) (J : List (Addr × Obj) → Prop) (s₁ : Shared) (Q : Flow → Shared → Prop) (f : Flow) (s₂ : Shared) : Prop :=
  match f with
  | .ret v => Q (.ret v) s₂
  | .brk => Q .next s₂
  | _ => EndJ h₀ L x stored m I oI J s₁ s₂
section
variable {prog : Program} {w : World} {A : Around} {E : Value → Shared → Prop} {s : Shared} {env : Env} {h₀ : Heap} {x : Str} {body : List Stmt} {Q : Flow → Shared → Prop}
theorem walks_J {I : Addr} {fp : List Addr} {n : Nat} {P : Nat → Value → Prop} {St : Nat → Heap → Prop} {m₀ : Str → Option Value} {nx : List (Addr × Obj)} (stored : List Str) (J : Nat → List (Addr × Obj) → Prop)
    (W : Walks prog w A I fp [I] n P St) (hob : ∀ i h, St i h → ∃ o, h.get? I = some o) (hfp : ∀ b ∈ fp, b = I ∨ (∃ q, h₀.get? b = some q) ∨ ∃ o, ∀ i nx, J i nx → (b, o) ∈ nx) (hLf : env.locals ∉ fp) (hI : h₀.get? I = none) (hlt : ∀ p ∈ nx, p.1 ≠ I)
    (hst : St 0 s.heap) (F : Fr h₀ env.locals s.heap m₀) (N : News h₀ env.locals s.heap nx) (hj : J 0 nx)
    (turn : ∀ i v (u : Str → Option Value) h tk oI nx, i < n → P i v → J i nx → (∀ q ∈ nx, q.1 ≠ I) → Fr h₀ env.locals h (fun y => if y = x then some v else if stored.contains y then u y else m₀ y) → News h₀ env.locals h ((I, oI) :: nx) →
      wpAny (model prog w) A (execs body env) (PostJ h₀ env.locals x stored m₀ I oI (J (i + 1)) { s with heap := h, toks := tk } Q) E { s with heap := h, toks := tk })
    (done : ∀ (u : Str → Option Value) h tk nx, J n nx → Fr h₀ env.locals h (fun y => if y = x then u y else if stored.contains y then u y else m₀ y) → News h₀ env.locals h nx → Q .next { s with heap := h, toks := tk }) :
    LoopAtV prog w A h₀ env x body Q E (.ref I) s := by
  have hIf : I ∈ fp := W.sub I (List.mem_singleton.mpr rfl)
  let J' : Nat → (Str → Option Value) → List (Addr × Obj) → Prop := fun i m₁ nx => J i nx ∧ ∀ y, y ≠ x → stored.contains y = false → m₁ y = m₀ y
  refine ⟨I, fp, [I], n, P, St, m₀, nx, J', rfl, W, hLf, ?_, ?_, hst, F, N, ⟨hj, fun _ _ _ => rfl⟩, ?_, ?_⟩
  · intro b hb
    rw [List.mem_singleton.mp hb]
    exact hI
  · intro p hp hb
    exact hlt p hp (List.mem_singleton.mp hb)
  · rintro i v m₁ nx₁ s₁ own ⟨hh', tk', rfl⟩ hin hP ⟨hJ, hm⟩ hoff hown hown2 hall hst' F₁ N₁
    have e : (fun y => if y = x then some v else m₁ y) = fun y => if y = x then some v else if stored.contains y then m₁ y else m₀ y := by
      funext y
      by_cases h1 : y = x
      · simp [h1]
      · simp only [if_neg h1]
        cases h2 : stored.contains y with
        | true => simp
        | false => simp only [Bool.false_eq_true, if_false]; exact hm y h1 h2
    rw [e] at F₁
    obtain ⟨oI, hoI⟩ := hob _ _ hst'
    have hIo := hall I hIf hI oI hoI
    have hoff' : ∀ q ∈ nx₁, q.1 ≠ I := fun q hq z => hoff q hq (List.mem_singleton.mpr z)
    refine wpAny_mono (turn i v m₁ hh' tk' oI nx₁ hin hP hJ hoff' F₁ fun p hp => ?_) (fun f s₂ p => ?_) fun _ _ e => e
    · rcases List.mem_cons.mp hp with rfl | hp
      · exact N₁ _ (List.mem_append_left _ hIo)
      · exact N₁ _ (List.mem_append_right _ hp)
    have fin : EndJ h₀ env.locals x stored m₀ I oI (J (i + 1)) { s with heap := hh', toks := tk' } s₂ → LoopStepU h₀ env.locals [I] own (J' (i + 1)) { s with heap := hh', toks := tk' } .next s₂ := by
      rintro ⟨h', tk, m', nx', e, F', N', hs, hm', hj'⟩
      refine ⟨rfl, h', tk, m', nx', e, F', fun p hp => ?_, fun q hq hb => hs q hq (List.mem_singleton.mp hb), hj', hm'⟩
      rcases List.mem_append.mp hp with hp | hp
      · have hp1 := N₁ p (List.mem_append_left _ hp)
        rcases hfp p.1 (hown p hp) with z | ⟨q, hq⟩ | ⟨o, ho⟩
        · have : p = (I, oI) := Prod.ext z (by have := hp1.1; rw [z, hoI] at this; exact (Option.some.inj this).symm)
          rw [this]
          exact N' _ (.head _)
        · rw [hp1.2.2] at hq; cases hq
        · have h1 := ho _ _ hJ
          have h2 := ho _ _ hj'
          have : p = (p.1, o) := Prod.ext rfl (by have := (N₁ _ (List.mem_append_right _ h1)).1; rw [hp1.1] at this; exact Option.some.inj this)
          rw [this]
          exact N' _ (.tail _ h2)
      · exact N' p (.tail _ hp)
    cases f with
    | ret v => exact .ret p
    | brk => exact .brk p
    | next => exact .next (fin p)
    | cont => exact .cont (fin p)
  · rintro h' tk m' nx' F' N' _ ⟨hj', hm'⟩
    refine done m' h' tk nx' hj' ?_ N'
    have e : (fun y => if y = x then m' y else if stored.contains y then m' y else m₀ y) = m' := by
      funext y
      by_cases h1 : y = x
      · simp [h1]
      · simp only [if_neg h1]
        cases h2 : stored.contains y with
        | true => simp
        | false => simp only [Bool.false_eq_true, if_false]; exact (hm' y h1 h2).symm
    rw [e]; exact F'
theorem range_J {r : Addr} {b₀ : Int} {t₀ u₀ v₀ : Tok} {n : Nat} {m₀ : Str → Option Value} {news nx : List (Addr × Obj)} (stored : List Str) (J : Nat → List (Addr × Obj) → Prop)
    (hh : A.handled = none) (hr : IsRange s.heap r 0 b₀ 1 t₀ u₀ v₀) (hn : b₀ = (n : Int)) (hz : n < 1000) (F : Fr h₀ env.locals s.heap m₀) (N : News h₀ env.locals s.heap news) (hs : ∀ p ∈ nx, p ∈ news) (hj : J 0 nx)
    (turn : ∀ (i : Nat) t (u : Str → Option Value) h tk I oI nx, i < n → J i nx → (∀ q ∈ nx, q.1 ≠ I) → Fr h₀ env.locals h (fun y => if y = x then some (.int (i : Int) t) else if stored.contains y then u y else m₀ y) → News h₀ env.locals h ((I, oI) :: nx) →
      wpAny (model prog w) A (execs body env) (PostJ h₀ env.locals x stored m₀ I oI (J (i + 1)) { s with heap := h, toks := tk } Q) E { s with heap := h, toks := tk })
    (done : ∀ (u : Str → Option Value) h tk nx, J n nx → Fr h₀ env.locals h (fun y => if y = x then u y else if stored.contains y then u y else m₀ y) → News h₀ env.locals h nx → Q .next { s with heap := h, toks := tk }) :
    wpAny (model prog w) A (pyIter (.ref r)) (fun it s₂ => LoopAtV prog w A h₀ env x body Q E it s₂) E s := by
  subst hn
  have hsm : Builtin.Range.small 0 (n : Int) 1 = true := small_one (by omega) (by omega) (by omega) (by omega)
  have hsz : Builtin.Range.rangeSize 0 (n : Int) 1 = (n : Int) := by rw [rangeSize_nat]; omega
  refine wpAny_pyIter_range hr hsm ?_
  have N₀ : News h₀ env.locals s.heap nx := fun p hp => N p (hs p hp)
  refine walks_J stored J (LCg.range_walks hh 0 n) (fun _ _ st => ⟨_, st⟩) (fun b hb => .inl (List.mem_singleton.mp hb)) ?_ (next_is_new F) (fun p hp => Nat.ne_of_lt (Heap.lt_size (N₀ p hp).1)) ?_ (F.push _) (fun p hp => ⟨Heap.get?_push_of_some _ (N₀ p hp).1, (N₀ p hp).2⟩) hj ?_ done
  · intro hm
    exact absurd F.ns.lt ((List.mem_singleton.mp hm) ▸ Nat.lt_irrefl _)
  · show IsRangeIter _ _ _ _ _
    rw [hsz]
    simpa using Heap.get?_push_size _ rfl
  · rintro i v u h tk oI nx hi ⟨t, rfl⟩ hJ ho F₁ N₁
    rw [Int.zero_add] at F₁
    exact turn i t u h tk _ oI nx hi hJ ho F₁ N₁
end
/-- a turn's end is kept as one letter -/
theorem turn_gen {M : Model} {A : Around} {env : Env} {x : Sem Unit} {body : List Stmt} {R : Flow → Shared → Prop} {E : Value → Shared → Prop} {s : Shared}
    (h : ∀ R' : Flow → Shared → Prop, (∀ f s₁, R f s₁ → R' f s₁) → wpAny M A x (fun _ s₃ => wpAny M A (execs body env) R' (fun _ _ => False) s₃) (fun _ _ => False) s) : wpAny M A x (fun _ s₃ => wpAny M A (execs body env) R E s₃) E s :=
  wpAny_mono (h R fun _ _ z => z) (fun _ _ z => wpAny_mono z (fun _ _ y => y) fun _ _ y => y.elim) fun _ _ y => y.elim
theorem elt_gen {M : Model} {A : Around} {x : Sem Value} {R : Value → Shared → Prop} {E : Value → Shared → Prop} {s : Shared}
    (h : ∀ R' : Value → Shared → Prop, (∀ y s₁, R y s₁ → R' y s₁) → wpAny M A x R' (fun _ _ => False) s) : wpAny M A x R E s :=
  wpAny_mono (h R fun _ _ z => z) (fun _ _ y => y) fun _ _ y => y.elim
end
-- part Comp
section
open PyProof.Rows.LCg
section
variable {prog : Program} {w : World} {A : Around} {E : Value → Shared → Prop} {s : Shared} {h₀ : Heap} {L : Addr} {m : Str → Option Value} {env : Env}
def EndE (h₀ : Heap) (L : Addr) (m : Str → Option Value) (s₁ : Shared) (I : Addr) (oI : Obj) (C : Addr) (oC : Obj) (D : Addr) (oD : Obj) (J : Value → List (Addr × Obj) → Prop) (y : Value) (s₂ : Shared) : Prop :=
  ∃ h' tk nx, s₂ = { s₁ with heap := h', toks := tk } ∧ Fr h₀ L h' m ∧ News h₀ L h' ((I, oI) :: (C, oC) :: (D, oD) :: nx) ∧ Off3 I C D nx ∧ J y nx
def SrcJ (prog : Program) (w : World) (A : Around) (h₀ : Heap) (L : Addr) (m : Str → Option Value) (env : Env) (elt : PySem.Expr) (x : Str) (scope : Scope) (cl : List (Str × Addr)) (Q : Value → Shared → Prop) (it : Value) (s₂ : Shared) : Prop :=
  ∃ (I : Addr) (fp : List Addr) (n : Nat) (P : Nat → Value → Prop) (St : Nat → Heap → Prop) (nx : List (Addr × Obj)) (J : Nat → List Value → List (Addr × Obj) → Prop), it = .ref I ∧ Walks prog w A I fp [I] n P St ∧ n ≤ sizeLine ∧ (∀ i h, St i h → ∃ o, h.get? I = some o) ∧
    (∀ i h h' o j ys nw, St i h → h.get? I = some o → h'.get? I = some o → (∀ b o, h₀.get? b = some o → h'.get? b = some o) → News h₀ L h' nw → J j ys nw → St i h') ∧ St 0 s₂.heap ∧ (∀ b ∈ fp, b < s₂.heap.objs.size) ∧
    Fr h₀ L s₂.heap m ∧ News h₀ L s₂.heap nx ∧ L ≠ I ∧ h₀.get? I = none ∧ (∀ p ∈ nx, p.1 ≠ I) ∧ J 0 [] nx ∧
    (∀ i ys nx v I oI C oC D m₂ h tk (E' : Value → Shared → Prop), i < n → ys.length = i → J i ys nx → P i v → NsObj oC m₂ → m₂ x = some v → Fr h₀ L h m → News h₀ L h ((I, oI) :: (C, oC) :: (D, lst ys) :: nx) → Off3 I C D nx → ((@Ne Nat I C) ∧ (@Ne Nat I D) ∧ (@Ne Nat C D)) →
      wpAny (model prog w) A (eval elt (compEnvC scope cl C env)) (EndE h₀ L m { s₂ with heap := h, toks := tk } I oI C oC D (lst ys) fun y nx' => J (i + 1) (ys ++ [y]) nx') E' { s₂ with heap := h, toks := tk }) ∧
    ∀ ys nx D h tk, ys.length = n → J n ys nx → Fr h₀ L h m → News h₀ L h ((D, lst ys) :: nx) → Off1 D nx → Q (.ref D) { s₂ with heap := h, toks := tk }

theorem rest_J {elt : PySem.Expr} {x : Str} {scope : Scope} {cl : List (Str × Addr)} {P : Nat → Value → Prop} {Fi : List Value → List (Addr × Obj) → Prop} {n : Nat} (J : Nat → List Value → List (Addr × Obj) → Prop)
    (fin : ∀ ys nx, ys.length = n → J n ys nx → Fi ys nx)
    (step : ∀ i ys nx v I oI C oC D m₂ h tk (E' : Value → Shared → Prop), i < n → ys.length = i → J i ys nx → P i v → NsObj oC m₂ → m₂ x = some v → Fr h₀ L h m → News h₀ L h ((I, oI) :: (C, oC) :: (D, lst ys) :: nx) → Off3 I C D nx → ((@Ne Nat I C) ∧ (@Ne Nat I D) ∧ (@Ne Nat C D)) →
      wpAny (model prog w) A (eval elt (compEnvC scope cl C env)) (EndE h₀ L m { s with heap := h, toks := tk } I oI C oC D (lst ys) fun y nx' => J (i + 1) (ys ++ [y]) nx') E' { s with heap := h, toks := tk }) :
    ∀ k i ys nx, i + k = n → ys.length = i → J i ys nx → CompRest prog w A h₀ L m env elt x scope cl s (fun nw => ∃ j ys, J j ys nw) P Fi k i ys nx
  | 0, i, ys, nx, hi, hl, hj => fin ys nx (by omega) (by rw [← hi]; exact hj)
  | k + 1, i, ys, nx, hi, hl, hj => fun v I oI C oC D m₂ h tk E' hP hC hx F N o3 ne =>
    wpAny_mono (step i ys nx v I oI C oC D m₂ h tk E' (by omega) hl hj hP hC hx F N o3 ne)
      (fun y s₂ ⟨h', tk', nx', e, F', N', o', hj'⟩ => ⟨h', tk', nx', e, F', N', o', ⟨_, _, hj'⟩, rest_J J fin step k (i + 1) (ys ++ [y]) nx' (by omega) (by rw [List.length_append, List.length_singleton, hl]) hj'⟩) fun _ _ e => e

theorem ListComp_J {elt iter : PySem.Expr} {x : Str} {px : Pos} {scope : Scope} {cl : List (Str × Addr)} {pos : Pos} {Q : Value → Shared → Prop} (_F : Fr h₀ L s.heap m)
    (hclos : closureFor scope env = pure cl) (hcell : ∀ y ∈ scope.names, y.2 ≠ .cell) (hkind : scope.kind = .function)
    (hnames : ∀ y ∈ scope.names, y.2 = .local → scope.names.lookup y.1 = some .local) (hx : scope.names.lookup x = some .local)
    (h : wpAny (model prog w) A (eval iter env) (fun xv s₁ => wpAny (model prog w) A (pyIter xv) (fun it s₂ => SrcJ prog w A h₀ L m env elt x scope cl Q it s₂) E s₁) E s)
    (hs : ∀ x, foldedSetIterable iter env x = pure x := by intro _; rfl) :
    wpAny (model prog w) A (eval (.ListComp elt [⟨.Name x px, iter, [], 0⟩] scope pos) env) Q E s := by
  rw [eval_ListComp]
  refine wpAny_comprehension_free (use := none) rfl hs hclos hkind hnames (wpAny_mono h (fun xv s₁ h₁ => wpAny_mono h₁ (fun it s₂ h₂ => ?_) fun _ _ e => e) fun _ _ e => e)
  obtain ⟨I, fp, n, P, St, nx, J, rfl, W, hsz, hIo, hSt, hst, hfp, F, N, hIL, hI₀, off, hJ, step, fin⟩ := h₂
  refine block_U (S := fun nw => ∃ j ys, J j ys nw) (Fin := FinE h₀ L m s₂ Q) W hsz hIo (fun i h h' o nw a b c d e ⟨j, ys, q⟩ => hSt i h h' o j ys nw a b c d e q) hcell hkind hx hst hfp F N hIL hI₀ off ⟨_, _, hJ⟩
    (rest_J J (fun ys nx a b D h tk F N o => fin ys nx D h tk a b F N o) step n 0 [] nx (by omega) rfl hJ) ?_
  intro D C h tk m' ys news' F' N' o1 hn hC₀ hD₀ hCL hDL hCD offC fin
  refine ⟨m', hn, fun h'' hs'' => fin D h'' tk (F'.change hs'' hCL hC₀) (fun p hp => ?_) o1⟩
  refine ⟨hs''.extBut _ _ ?_ (N' p hp).1, (N' p hp).2⟩
  rcases List.mem_cons.mp hp with rfl | hp
  · exact Ne.symm hCD
  · exact offC p hp
/-- the source is a range from 0 -/
theorem src_range {elt : PySem.Expr} {x : Str} {scope : Scope} {cl : List (Str × Addr)} {Q : Value → Shared → Prop} {r : Addr} {b₀ : Int} {t₀ u₀ v₀ : Tok} {n : Nat} {nx : List (Addr × Obj)} (J : Nat → List Value → List (Addr × Obj) → Prop)
    (hh : A.handled = none) (hr : IsRange s.heap r 0 b₀ 1 t₀ u₀ v₀) (hn : b₀ = (n : Int)) (hz : n < 1000) (F : Fr h₀ L s.heap m) (N : News h₀ L s.heap nx) (hJ : J 0 [] nx)
    (step : ∀ (i : Nat) t ys nx I oI C oC D m₂ h tk (E' : Value → Shared → Prop), i < n → ys.length = i → J i ys nx → NsObj oC m₂ → m₂ x = some (.int (i : Int) t) → Fr h₀ L h m → News h₀ L h ((I, oI) :: (C, oC) :: (D, lst ys) :: nx) → Off3 I C D nx → ((@Ne Nat I C) ∧ (@Ne Nat I D) ∧ (@Ne Nat C D)) →
      wpAny (model prog w) A (eval elt (compEnvC scope cl C env)) (EndE h₀ L m { s with heap := h, toks := tk } I oI C oC D (lst ys) fun y nx' => J (i + 1) (ys ++ [y]) nx') E' { s with heap := h, toks := tk })
    (fin : ∀ ys nx D h tk, ys.length = n → J n ys nx → Fr h₀ L h m → News h₀ L h ((D, lst ys) :: nx) → Off1 D nx → Q (.ref D) { s with heap := h, toks := tk }) :
    wpAny (model prog w) A (pyIter (.ref r)) (fun it s₂ => SrcJ prog w A h₀ L m env elt x scope cl Q it s₂) E s := by
  subst hn
  have hsm : Builtin.Range.small 0 (n : Int) 1 = true := small_one (by omega) (by omega) (by omega) (by omega)
  have hsz : Builtin.Range.rangeSize 0 (n : Int) 1 = (n : Int) := by rw [rangeSize_nat]; omega
  refine wpAny_pyIter_range hr hsm ?_
  refine ⟨s.heap.objs.size, _, n, _, _, nx, J, rfl, LCg.range_walks hh 0 n, by rw [sizeLine_eq]; omega, fun _ _ st => ⟨_, st⟩, fun i h h' o _ _ nw a b c d e _ => range_st (L := L) i h h' o nw a b c d e trivial, ?_, ?_, F.push _, fun p hp => ⟨Heap.get?_push_of_some _ (N p hp).1, (N p hp).2⟩,
    Nat.ne_of_lt F.ns.lt, next_is_new F, fun p hp => Nat.ne_of_lt (Heap.lt_size (N p hp).1), hJ, ?_, fin⟩
  · show IsRangeIter _ _ _ _ _
    rw [hsz]
    simpa using Heap.get?_push_size _ rfl
  · intro b hb
    rw [List.mem_singleton.mp hb]
    show s.heap.objs.size < (s.heap.push _).objs.size
    rw [Heap.size_push]; exact Nat.lt_succ_self _
  · rintro i ys nx v I oI C oC D m₂ h tk E' a b c ⟨t, rfl⟩ d e f g o3 ne
    rw [Int.zero_add] at e
    exact step i t ys nx I oI C oC D m₂ h tk E' a b c d e f g o3 ne
/-- the source is a list of the ledger, under whatever is handled -/
theorem src_list {elt : PySem.Expr} {x : Str} {scope : Scope} {cl : List (Str × Addr)} {Q : Value → Shared → Prop} {ax : Addr} {its : List Value} {k : Nat} {nx : List (Addr × Obj)} (J : Nat → List Value → List (Addr × Obj) → Prop)
    (hz : its.length < 1000) (F : Fr h₀ L s.heap m) (N : News h₀ L s.heap nx) (hJ : J 0 [] nx) (hax : ∀ i ys nw, J i ys nw → (ax, W.listOf its.toArray k) ∈ nw)
    (hand : ∀ b ∈ handAt A.handled, ∃ o vs, A.handled = some (.ref b) ∧ o.data = .fields vs ∧ vs[2]? = some .none ∧ ∀ i ys nw, J i ys nw → (b, o) ∈ nw) (hhr : ∀ v, A.handled = some v → ∃ b, v = .ref b)
    (step : ∀ (i : Nat) ys nx v I oI C oC D m₂ h tk (E' : Value → Shared → Prop), i < its.length → ys.length = i → J i ys nx → its[i]? = some v → NsObj oC m₂ → m₂ x = some v → Fr h₀ L h m → News h₀ L h ((I, oI) :: (C, oC) :: (D, lst ys) :: nx) → Off3 I C D nx → ((@Ne Nat I C) ∧ (@Ne Nat I D) ∧ (@Ne Nat C D)) →
      wpAny (model prog w) A (eval elt (compEnvC scope cl C env)) (EndE h₀ L m { s with heap := h, toks := tk } I oI C oC D (lst ys) fun y nx' => J (i + 1) (ys ++ [y]) nx') E' { s with heap := h, toks := tk })
    (fin : ∀ ys nx D h tk, ys.length = its.length → J its.length ys nx → Fr h₀ L h m → News h₀ L h ((D, lst ys) :: nx) → Off1 D nx → Q (.ref D) { s with heap := h, toks := tk }) :
    wpAny (model prog w) A (pyIter (.ref ax)) (fun it s₂ => SrcJ prog w A h₀ L m env elt x scope cl Q it s₂) E s := by
  have hl : s.heap.IsList ax its.toArray := isList_mem N (hax _ _ _ hJ)
  have hlt : ax < s.heap.objs.size := Heap.lt_size (N _ (hax _ _ _ hJ)).1
  have handL : ∀ i ys nw (h : Heap), J i ys nw → News h₀ L h nw → Hand A.handled h := fun i ys nw h q Nw => by
    cases hq : A.handled with
    | none => trivial
    | some v =>
      obtain ⟨b, rfl⟩ := hhr v hq
      obtain ⟨o, vs, _, hd, h2, hm⟩ := hand b (by rw [hq]; exact .head _)
      exact ⟨b, o, vs, rfl, (Nw _ (hm _ _ _ q)).1, hd, h2⟩
  have hni : s.heap.objs.size ∉ handAt A.handled := fun hb => by
    obtain ⟨o, vs, _, _, _, hm⟩ := hand _ hb
    exact absurd (Heap.lt_size (N _ (hm _ _ _ hJ)).1) (Nat.lt_irrefl _)
  refine wpAny_pyIter_list hl ?_
  have up : ∀ b o, s.heap.get? b = some o → (s.heap.push { cls := .type "list_iterator", data := .fields #[.ref ax, .int 0 0] }).get? b = some o := fun b o e => Heap.get?_push_of_some _ e
  have hsz : its.toArray.size = its.length := by simp
  have W := walksListX (prog := prog) (w := w) (A := A) s.heap.objs.size ax (Nat.ne_of_lt hlt) hni its.toArray
  rw [hsz] at W
  refine ⟨s.heap.objs.size, _, its.length, _, _, nx, J, rfl, W, by rw [sizeLine_eq]; omega, fun _ _ st => let ⟨o, e, _⟩ := st.1.1; ⟨o, e⟩, ?_, ⟨⟨⟨_, Heap.get?_push_size _ rfl, rfl, rfl⟩, hl.push _⟩, (handL _ _ _ _ hJ N).keeps fun b _ o e => up b o e⟩, ?_,
    F.push _, fun p hp => ⟨up _ _ (N p hp).1, (N p hp).2⟩, Nat.ne_of_lt F.ns.lt, next_is_new F, fun p hp => Nat.ne_of_lt (Heap.lt_size (N p hp).1), hJ, ?_, fin⟩
  · intro i h h' o j ys nw st e e' _ Nw q
    refine ⟨⟨?_, isList_mem (s := { s with heap := h' }) Nw (hax _ _ _ q)⟩, handL _ _ _ _ q Nw⟩
    obtain ⟨o', q1, r⟩ := st.1.1
    rw [e] at q1
    cases q1
    exact ⟨o, e', r⟩
  · intro b hb
    show b < (s.heap.push _).objs.size
    rw [Heap.size_push]
    rcases List.mem_cons.mp hb with rfl | hb
    · exact Nat.lt_succ_self _
    · rcases List.mem_cons.mp hb with rfl | hb
      · exact Nat.lt_succ_of_lt hlt
      · obtain ⟨o, vs, _, _, _, hm⟩ := hand _ hb
        exact Nat.lt_succ_of_lt (Heap.lt_size (N _ (hm _ _ _ hJ)).1)
  · intro i ys nx v I oI C oC D m₂ h tk E' a b c hP d e f g o3 ne
    exact step i ys nx v I oI C oC D m₂ h tk E' a b c (by simpa using hP) d e f g o3 ne
end
end
-- part Turns
section
section
variable {prog : Program} {w : World} {A : Around} {E : Value → Shared → Prop} {s : Shared} {env : Env} {h₀ : Heap} {x : Str} {target : PySem.Expr} {body : List Stmt} {Q : Flow → Shared → Prop}
/-- a for over range(n) whose target is any expression (a cell) -/
theorem turns_J {r : Addr} {b₀ : Int} {t₀ u₀ v₀ : Tok} {n : Nat} {m₀ : Str → Option Value} {news nx : List (Addr × Obj)} (stored : List Str) (J : Nat → List (Addr × Obj) → Prop)
    (hh : A.handled = none) (hr : IsRange s.heap r 0 b₀ 1 t₀ u₀ v₀) (hn : b₀ = (n : Int)) (hz : n < 1000) (F : Fr h₀ env.locals s.heap m₀) (N : News h₀ env.locals s.heap news) (hs : ∀ p ∈ nx, p ∈ news) (hj : J 0 nx)
    (hgo : ∀ I v, letOwnedTupleGo target (.ref I) v = pure ())
    (turn : ∀ (i : Nat) t (u : Str → Option Value) h tk I oI nx, i < n → J i nx → (∀ q ∈ nx, q.1 ≠ I) → Fr h₀ env.locals h (fun y => if y = x then u y else if stored.contains y then u y else m₀ y) → News h₀ env.locals h ((I, oI) :: nx) →
      wpAny (model prog w) A (assign target env (.int (i : Int) t)) (fun _ s₃ => wpAny (model prog w) A (execs body env) (PostJ h₀ env.locals x stored m₀ I oI (J (i + 1)) { s with heap := h, toks := tk } Q) E s₃) E { s with heap := h, toks := tk })
    (done : ∀ (u : Str → Option Value) h tk nx, J n nx → Fr h₀ env.locals h (fun y => if y = x then u y else if stored.contains y then u y else m₀ y) → News h₀ env.locals h nx → Q .next { s with heap := h, toks := tk }) :
    wpAny (model prog w) A (pyIter (.ref r)) (fun it s₂ => TurnsAt prog w A h₀ env target body Q E it s₂) E s := by
  subst hn
  have hsm : Builtin.Range.small 0 (n : Int) 1 = true := small_one (by omega) (by omega) (by omega) (by omega)
  have hsz : Builtin.Range.rangeSize 0 (n : Int) 1 = (n : Int) := by rw [rangeSize_nat]; omega
  refine wpAny_pyIter_range hr hsm ?_
  have N₀ : News h₀ env.locals s.heap nx := fun p hp => N p (hs p hp)
  have W := KTurns.ofWalks (target := target) (LCg.range_walks (prog := prog) (w := w) (A := A) (I := s.heap.objs.size) hh 0 n) fun i v s Q E _ hQ => by rw [hgo]; exact wpAny_pure hQ
  have eqm : ∀ (m₁ : Str → Option Value), (∀ y, y ≠ x → stored.contains y = false → m₁ y = m₀ y) → (fun y => if y = x then m₁ y else if stored.contains y then m₁ y else m₀ y) = m₁ := by
    intro m₁ hm
    funext y
    by_cases h1 : y = x
    · simp [h1]
    · simp only [if_neg h1]
      cases h2 : stored.contains y with
      | true => simp
      | false => simp only [Bool.false_eq_true, if_false]; exact (hm y h1 h2).symm
  let J' : Nat → (Str → Option Value) → List (Addr × Obj) → Prop := fun i m₁ nx => J i nx ∧ ∀ y, y ≠ x → stored.contains y = false → m₁ y = m₀ y
  refine ⟨_, _, [s.heap.objs.size], n, _, _, _, m₀, nx, J', rfl, W, ?_, ?_, ?_, ?_, F.push _, fun p hp => ⟨Heap.get?_push_of_some _ (N₀ p hp).1, (N₀ p hp).2⟩, ⟨hj, fun _ _ _ => rfl⟩, ?_, ?_⟩
  · intro hm
    exact absurd F.ns.lt ((List.mem_singleton.mp hm) ▸ Nat.lt_irrefl _)
  · intro b hb
    rw [List.mem_singleton.mp hb]
    exact next_is_new F
  · intro p hp hb
    exact absurd (Heap.lt_size (N₀ p hp).1) ((List.mem_singleton.mp hb) ▸ Nat.lt_irrefl _)
  · show IsRangeIter _ _ _ _ _
    rw [hsz]
    simpa using Heap.get?_push_size _ rfl
  · rintro i v m₁ nx₁ h₁ tk₁ own hi ⟨t, rfl⟩ ⟨hJ, hm⟩ hoff hown hown2 hall hst F₁ N₁
    obtain ⟨oI, hoI⟩ : ∃ oI, h₁.get? s.heap.objs.size = some oI := ⟨_, hst⟩
    have hIo := hall _ (.head _) (next_is_new F) _ hoI
    rw [← eqm m₁ hm] at F₁
    have e0 : (0 : Int) + (i : Int) = (i : Int) := Int.zero_add _
    rw [e0]
    refine wpAny_mono (turn i t m₁ h₁ tk₁ _ oI nx₁ hi hJ (fun q hq z => hoff q hq (List.mem_singleton.mpr z)) F₁ fun p hp => ?_) (fun _ s₃ h₃ => wpAny_mono h₃ (fun f s₂ p => ?_) fun _ _ e => e) fun _ _ e => e
    · rcases List.mem_cons.mp hp with rfl | hp
      · exact N₁ _ (List.mem_append_left _ hIo)
      · exact N₁ _ (List.mem_append_right _ hp)
    have fin : EndJ h₀ env.locals x stored m₀ s.heap.objs.size oI (J (i + 1)) { s with heap := h₁, toks := tk₁ } s₂ → LoopStepU h₀ env.locals [s.heap.objs.size] own (J' (i + 1)) { s with heap := h₁, toks := tk₁ } .next s₂ := by
      rintro ⟨h', tk, m', nx', e, F', N', hs, hm', hj'⟩
      refine ⟨rfl, h', tk, m', nx', e, F', fun p hp => ?_, fun q hq hb => hs q hq (List.mem_singleton.mp hb), hj', hm'⟩
      rcases List.mem_append.mp hp with hp | hp
      · have hp1 := N₁ p (List.mem_append_left _ hp)
        have z := List.mem_singleton.mp (hown p hp)
        have : p = (s.heap.objs.size, oI) := Prod.ext z (by have := hp1.1; rw [z, hoI] at this; exact (Option.some.inj this).symm)
        rw [this]
        exact N' _ (.head _)
      · exact N' p (.tail _ hp)
    cases f with
    | ret v => exact .ret p
    | brk => exact .brk p
    | next => exact .next (fin p)
    | cont => exact .cont (fin p)
  · rintro h' tk m' nx' F' N' _ ⟨hj', hm'⟩
    rw [← eqm m' hm'] at F'
    exact done m' h' tk nx' hj' F' N'
/-- a for over a list of the ledger -/
theorem list_J {ax : Addr} {its : List Value} {k : Nat} {m₀ : Str → Option Value} {nx : List (Addr × Obj)} (stored : List Str) (J : Nat → List (Addr × Obj) → Prop)
    (hh : A.handled = none) (F : Fr h₀ env.locals s.heap m₀) (N : News h₀ env.locals s.heap nx) (hj : J 0 nx) (hax : ∀ i nw, J i nw → (ax, W.listOf its.toArray k) ∈ nw)
    (turn : ∀ (i : Nat) v (u : Str → Option Value) h tk I oI nx, i < its.length → its[i]? = some v → J i nx → (∀ q ∈ nx, q.1 ≠ I) → Fr h₀ env.locals h (fun y => if y = x then some v else if stored.contains y then u y else m₀ y) → News h₀ env.locals h ((I, oI) :: nx) →
      wpAny (model prog w) A (execs body env) (PostJ h₀ env.locals x stored m₀ I oI (J (i + 1)) { s with heap := h, toks := tk } Q) E { s with heap := h, toks := tk })
    (done : ∀ (u : Str → Option Value) h tk nx, J its.length nx → Fr h₀ env.locals h (fun y => if y = x then u y else if stored.contains y then u y else m₀ y) → News h₀ env.locals h nx → Q .next { s with heap := h, toks := tk }) :
    wpAny (model prog w) A (pyIter (.ref ax)) (fun it s₂ => LoopAtV prog w A h₀ env x body Q E it s₂) E s := by
  have hl : s.heap.IsList ax its.toArray := isList_mem N (hax _ _ hj)
  have hm := N _ (hax _ _ hj)
  have hlt : ax < s.heap.objs.size := Heap.lt_size hm.1
  refine wpAny_pyIter_list hl ?_
  have hsz : its.toArray.size = its.length := by simp
  have W := Walks.list (prog := prog) (w := w) hh s.heap.objs.size ax (Nat.ne_of_lt hlt) its.toArray
  rw [hsz] at W
  refine walks_J stored J W (fun _ _ st => let ⟨o, e, _⟩ := st.1; ⟨o, e⟩) (fun b hb => ?_) ?_ (next_is_new F) (fun p hp => Nat.ne_of_lt (Heap.lt_size (N p hp).1)) ⟨⟨_, Heap.get?_push_size _ rfl, rfl, rfl⟩, hl.push _⟩ (F.push _)
    (fun p hp => ⟨Heap.get?_push_of_some _ (N p hp).1, (N p hp).2⟩) hj ?_ done
  · rcases List.mem_cons.mp hb with h | h
    · exact .inl h
    · exact .inr (.inr ⟨_, fun i nw q => (List.mem_singleton.mp h) ▸ hax i nw q⟩)
  · intro hm'
    rcases List.mem_cons.mp hm' with e | h
    · exact absurd F.ns.lt (e ▸ Nat.lt_irrefl _)
    · exact hm.2.1 (List.mem_singleton.mp h).symm
  · intro i v u h tk oI nx hi hP hJ ho F₁ N₁
    exact turn i v u h tk _ oI nx hi (by simpa using hP) hJ ho F₁ N₁
end
end
-- part CompC
section
open PyProof.Rows.LCg
section
variable {prog : Program} {w : World} {A : Around} {E : Value → Shared → Prop} {s : Shared} {h₀ : Heap} {L : Addr} {m : Str → Option Value} {env : Env}
theorem newEnv_cell {M : Model} {scope : Scope} {globals : Addr} {cl : List (Str × Addr)} {qual : Str} {outer : Env} {x : Str} {Q : Env → Shared → Prop}
    (hcf : ∀ n acc, cellsFrom n scope.names acc = (x, n) :: acc) (hpc : ∀ h, pushCells h scope.names = h.push { cls := .type "cell", data := .cell none })
    (h : Q { scope := scope, locals := s.heap.objs.size, globals := globals, cells := (x, s.heap.objs.size + 1) :: cl, qual := qual, func := none, code := outer.code, frame := outer.frame, builtins := outer.builtins }
      { s with heap := (s.heap.push { cls := .type "dict", data := .dict #[] }).push { cls := .type "cell", data := .cell none } }) :
    wpAny M A (newFunctionEnv scope globals cl [] qual none .none (some outer)) Q E s := by
  simp only [newFunctionEnv, Option.isSome_some, if_true]
  refine wpAny_bind (wpAny_alloc ?_)
  refine wpAny_bind (wpAny_layCells _ (fun name kind cells => by cases hkc : kind == NameKind.cell <;> simp [hkc]) _ _ _ _ ?_)
  rw [hcf, hpc]
  rw [List.forIn_nil]
  refine wpAny_bind (wpAny_pure (wpAny_pure ?_))
  rw [show ({ s with heap := s.heap.push { cls := .type "dict", data := .dict #[] } } : Shared).heap.objs.size = s.heap.objs.size + 1 from Heap.size_push ..]
  exact h
abbrev cellObj (v : Option Value) : Obj := { cls := .type "cell", data := .cell v }
def Off4 (I C c D : Addr) (l : List (Addr × Obj)) : Prop := ∀ p ∈ l, p.1 ≠ I ∧ p.1 ≠ C ∧ p.1 ≠ c ∧ p.1 ≠ D
def EndC (h₀ : Heap) (L : Addr) (m : Str → Option Value) (s₁ : Shared) (I : Addr) (oI : Obj) (C : Addr) (oC : Obj) (c : Addr) (oc : Obj) (D : Addr) (oD : Obj) (J : Value → List (Addr × Obj) → Prop) (y : Value) (s₂ : Shared) : Prop :=
  ∃ h' tk nx, s₂ = { s₁ with heap := h', toks := tk } ∧ Fr h₀ L h' m ∧ News h₀ L h' ((I, oI) :: (C, oC) :: (c, oc) :: (D, oD) :: nx) ∧ Off4 I C c D nx ∧ J y nx
def SrcC (prog : Program) (w : World) (A : Around) (h₀ : Heap) (L : Addr) (m : Str → Option Value) (env : Env) (elt : PySem.Expr) (x : Str) (scope : Scope) (cl : List (Str × Addr)) (Q : Value → Shared → Prop) (xv : Value) (s₁ : Shared) : Prop :=
  ∃ (r : Addr) (b₀ : Int) (t₀ u₀ v₀ : Tok) (n : Nat) (nx : List (Addr × Obj)) (J : Nat → List Value → List (Addr × Obj) → Prop), xv = .ref r ∧ A.handled = none ∧ IsRange s₁.heap r 0 b₀ 1 t₀ u₀ v₀ ∧ b₀ = (n : Int) ∧ n < 1000 ∧
      Fr h₀ L s₁.heap m ∧ News h₀ L s₁.heap nx ∧ J 0 [] nx ∧
      (∀ (i : Nat) t ys nx I oI C oC c oc D h tk (E' : Value → Shared → Prop), i < n → ys.length = i → J i ys nx → oc.data = .cell (some (.int (i : Int) t)) → Fr h₀ L h m → News h₀ L h ((I, oI) :: (C, oC) :: (c, oc) :: (D, lst ys) :: nx) → Off4 I C c D nx →
        ((@Ne Nat I C) ∧ (@Ne Nat I c) ∧ (@Ne Nat I D) ∧ (@Ne Nat C c) ∧ (@Ne Nat C D) ∧ (@Ne Nat c D)) →
        wpAny (model prog w) A (eval elt (compEnvC scope ((x, c) :: cl) C env)) (EndC h₀ L m { s₁ with heap := h, toks := tk } I oI C oC c oc D (lst ys) fun y nx' => J (i + 1) (ys ++ [y]) nx') E' { s₁ with heap := h, toks := tk }) ∧
      ∀ ys nx D h tk, ys.length = n → J n ys nx → Fr h₀ L h m → News h₀ L h ((D, lst ys) :: nx) → (∀ p ∈ nx, p.1 ≠ D) → Q (.ref D) { s₁ with heap := h, toks := tk }
theorem srcC_range {elt : PySem.Expr} {x : Str} {scope : Scope} {cl : List (Str × Addr)} {Q : Value → Shared → Prop} {r : Addr} {b₀ : Int} {t₀ u₀ v₀ : Tok} {n : Nat} {nx : List (Addr × Obj)} (J : Nat → List Value → List (Addr × Obj) → Prop)
    (hh : A.handled = none) (hr : IsRange s.heap r 0 b₀ 1 t₀ u₀ v₀) (hn : b₀ = (n : Int)) (hz : n < 1000) (F : Fr h₀ L s.heap m) (N : News h₀ L s.heap nx) (hJ : J 0 [] nx)
    (step : ∀ (i : Nat) t ys nx I oI C oC c oc D h tk (E' : Value → Shared → Prop), i < n → ys.length = i → J i ys nx → oc.data = .cell (some (.int (i : Int) t)) → Fr h₀ L h m → News h₀ L h ((I, oI) :: (C, oC) :: (c, oc) :: (D, lst ys) :: nx) → Off4 I C c D nx →
        ((@Ne Nat I C) ∧ (@Ne Nat I c) ∧ (@Ne Nat I D) ∧ (@Ne Nat C c) ∧ (@Ne Nat C D) ∧ (@Ne Nat c D)) →
        wpAny (model prog w) A (eval elt (compEnvC scope ((x, c) :: cl) C env)) (EndC h₀ L m { s with heap := h, toks := tk } I oI C oC c oc D (lst ys) fun y nx' => J (i + 1) (ys ++ [y]) nx') E' { s with heap := h, toks := tk })
    (fin : ∀ ys nx D h tk, ys.length = n → J n ys nx → Fr h₀ L h m → News h₀ L h ((D, lst ys) :: nx) → (∀ p ∈ nx, p.1 ≠ D) → Q (.ref D) { s with heap := h, toks := tk }) :
    SrcC prog w A h₀ L m env elt x scope cl Q (.ref r) s :=
  ⟨r, b₀, t₀, u₀, v₀, n, nx, J, rfl, hh, hr, hn, hz, F, N, hJ, step, fin⟩
theorem ListComp_JC {elt iter : PySem.Expr} {x : Str} {px : Pos} {scope : Scope} {cl : List (Str × Addr)} {pos : Pos} {Q : Value → Shared → Prop} (_F : Fr h₀ L s.heap m)
    (hclos : closureFor scope env = pure cl) (hcf : ∀ n acc, cellsFrom n scope.names acc = (x, n) :: acc) (hpc : ∀ h, pushCells h scope.names = h.push { cls := .type "cell", data := .cell none }) (hkind : scope.kind = .function)
    (hnames : ∀ y ∈ scope.names, y.2 = .local → scope.names.lookup y.1 = some .local) (hx : ∀ C c, (compEnvC scope ((x, c) :: cl) C env).kindOf x = some .cell)
    (h : wpAny (model prog w) A (eval iter env) (SrcC prog w A h₀ L m env elt x scope cl Q) E s)
    (hs : ∀ x, foldedSetIterable iter env x = pure x := by intro _; rfl) :
    wpAny (model prog w) A (eval (.ListComp elt [⟨.Name x px, iter, [], 0⟩] scope pos) env) Q E s := by
  rw [eval_ListComp]
  refine wpAny_comprehension_free (use := none) rfl hs hclos hkind hnames (wpAny_mono h (fun xv s₁ h₁ => ?_) fun _ _ e => e)
  obtain ⟨r, b₀, t₀, u₀, v₀, n, nx₀, J, rfl, hh, hr, rfl, hz, F, N, hJ, step, fin⟩ := h₁
  have hsm : Builtin.Range.small 0 (n : Int) 1 = true := small_one (by omega) (by omega) (by omega) (by omega)
  have hsz : Builtin.Range.rangeSize 0 (n : Int) 1 = (n : Int) := by rw [rangeSize_nat]; omega
  refine wpAny_pyIter_range hr hsm ?_
  rw [hsz]
  generalize hI : s₁.heap.objs.size = I at *
  generalize hH1 : s₁.heap.push { cls := .type "range_iterator", data := .fields #[rawInt 0, rawInt (n : Int), rawInt 1] } = H1
  have H1s : H1.objs.size = I + 1 := by rw [← hH1, Heap.size_push, hI]
  refine wpAny_newObj_type ?_
  refine newEnv_cell hcf hpc ?_
  dsimp only
  rw [Heap.size_push, H1s]
  generalize hH4 : ((H1.push { cls := .type "list", dict := none, data := .seq ([] : List Value).toArray }).push { cls := .type "dict", data := .dict #[] }).push { cls := .type "cell", data := .cell none } = H4
  have old : ∀ b o, s₁.heap.get? b = some o → H4.get? b = some o := fun b o e => by
    rw [← hH4, ← hH1]
    exact Heap.get?_push_of_some _ (Heap.get?_push_of_some _ (Heap.get?_push_of_some _ (Heap.get?_push_of_some _ e)))
  have gI : IsRangeIter H4 I (0 + ((0 : Nat) : Int) * 1) ((n : Int) - ((0 : Nat) : Int)) 1 := by
    show H4.get? I = some _
    rw [← hH4, ← hH1]
    refine Heap.get?_push_of_some _ (Heap.get?_push_of_some _ (Heap.get?_push_of_some _ ?_))
    rw [← hI]
    simpa using Heap.get?_push_size _ rfl
  have gD : H4.get? (I + 1) = some (lst []) := by
    rw [← hH4]
    refine Heap.get?_push_of_some _ (Heap.get?_push_of_some _ ?_)
    rw [← H1s]
    exact Heap.get?_push_size _ rfl
  have gC : H4.get? (I + 2) = some { cls := .type "dict", data := .dict #[] } := by
    rw [← hH4]
    exact Heap.get?_push_of_some _ (Heap.get?_push_at (by rw [Heap.size_push, H1s]) rfl)
  have gc : H4.get? (I + 3) = some (cellObj none) := by
    rw [← hH4]
    exact Heap.get?_push_at (by rw [Heap.size_push, Heap.size_push, H1s]) rfl
  have hLlt : L < I := by rw [← hI]; exact F.ns.lt
  have fresh₀ : ∀ a, I ≤ a → h₀.get? a = none := fun a ha => by
    cases e : h₀.get? a with
    | none => rfl
    | some o' =>
      have := Heap.lt_size (F.keep a o' e)
      rw [hI] at this
      exact absurd this (Nat.not_lt.mpr ha)
  have big : ∀ k, h₀.get? (I + k) = none := fun k => fresh₀ _ (Nat.le_add_right _ _)
  have nIL : I ≠ L := Nat.ne_of_gt hLlt
  have nL : ∀ k : Nat, I + k ≠ L := fun k => Nat.ne_of_gt (Nat.lt_of_lt_of_le hLlt (Nat.le_add_right _ _))
  have n1 : @Ne Nat I (I + 1) := by omega
  have n2 : @Ne Nat I (I + 2) := by omega
  have n3 : @Ne Nat I (I + 3) := by omega
  have n12 : @Ne Nat (I + 1) (I + 2) := by omega
  have n13 : @Ne Nat (I + 1) (I + 3) := by omega
  have n23 : @Ne Nat (I + 2) (I + 3) := by omega
  have W := LCg.range_walks (prog := prog) (w := w) (A := A) (I := I) hh 0 n
  have off₀ : Off4 I (I + 2) (I + 3) (I + 1) nx₀ := fun p hp => by
    have l : @LT.lt Nat _ p.1 I := by have := Heap.lt_size (N p hp).1; rw [hI] at this; exact this
    refine ⟨?_, ?_, ?_, ?_⟩ <;> (refine @neN p.1 _ ?_; omega)
  have loop : ∀ s₃ : Shared, s₃ = { s₁ with heap := H4 } → codeAny (model prog w) A (.compLoop (.ListComp elt [⟨.Name x px, iter, [], 0⟩] scope pos) 0 (.ref I) (.ref (I + 1)) (compEnvC scope ((x, I + 3) :: cl) (I + 2) env))
      (compPost (model prog w) A E none Q (.ref (I + 1)) (I + 2)) s₃ := by
    rintro s₃ rfl
    refine codeAny_compLoop_tests
      (fun k s' => ∃ h' tk i ys nx oc v0, s' = { s₁ with heap := h', toks := tk } ∧ i ≤ n ∧ k = n + 1 - i ∧ ys.length = i ∧ IsRangeIter h' I (0 + (i : Int) * 1) ((n : Int) - (i : Int)) 1 ∧ Fr h₀ L h' m ∧
        News h₀ L h' ((I + 2, { cls := .type "dict", data := .dict #[] }) :: (I + 3, oc) :: (I + 1, lst ys) :: nx) ∧ oc.data = .cell v0 ∧ Off4 I (I + 2) (I + 3) (I + 1) nx ∧ J i ys nx) ?_ (n + 1)
      ⟨H4, _, 0, [], nx₀, cellObj none, none, rfl, Nat.zero_le _, rfl, rfl, gI, F.keeps old, fun p hp => ?_, rfl, off₀, hJ⟩
    · rintro k s' ⟨h', tk, i, ys, nx, oc, v0, rfl, hi, rfl, hyl, hst, F', N', hoc, off', hJ'⟩
      have NC := N' _ (.head _)
      have Nc := N' _ (.tail _ (.head _))
      have ND := N' _ (.tail _ (.tail _ (.head _)))
      by_cases hlt : i < n
      · refine W.item i _ _ _ hlt hst fun v h₂ tk₂ hPv hst₂ hk₂ => ?_
        obtain ⟨t, rfl⟩ := hPv
        rw [Int.zero_add]
        have k2 : ∀ b o, b ≠ I → h'.get? b = some o → h₂.get? b = some o := fun b o hb e => hk₂ b o (fun q => hb (List.mem_singleton.mp q)) e
        refine wpAny_assign_Name (wpAny_storeName_cell (by show scope.kind = _; exact hkind) (hx _ _) (c := I + 3) (by show List.lookup x ((x, I + 3) :: cl) = _; simp) (v₀ := v0) ⟨oc, k2 _ _ (Ne.symm n3) Nc.1, hoc⟩ fun h₃ hc₃ hs₃ => ?_)
        obtain ⟨oc', hgc', hoc'⟩ := hc₃
        refine wpAny_tests_nil ?_
        simp only [if_true]
        have k3 : ∀ b o, b ≠ I → b ≠ I + 3 → h'.get? b = some o → h₃.get? b = some o := fun b o hb hb3 e => hs₃.extBut b o hb3 (k2 b o hb e)
        have hst₃ : IsRangeIter h₃ I (0 + ((i + 1 : Nat) : Int) * 1) ((n : Int) - ((i + 1 : Nat) : Int)) 1 := hs₃.extBut _ _ n3 hst₂
        have F₃ : Fr h₀ L h₃ m := ⟨F'.ns.at' fun o e => k3 _ o (Ne.symm nIL) (Ne.symm (nL 3)) e, fun b o e => k3 b o (fun q => by rw [q, fresh₀ I (Nat.le_refl _)] at e; cases e) (fun q => by rw [q, big 3] at e; cases e) (F'.keep b o e), F'.above⟩
        have N₃ : News h₀ L h₃ ((I, _) :: (I + 2, { cls := .type "dict", data := .dict #[] }) :: (I + 3, oc') :: (I + 1, lst ys) :: nx) := fun p hp => by
          rcases List.mem_cons.mp hp with rfl | hp
          · exact ⟨hst₃, nIL, fresh₀ I (Nat.le_refl _)⟩
          rcases List.mem_cons.mp hp with rfl | hp
          · exact ⟨k3 _ _ (Ne.symm n2) n23 NC.1, NC.2⟩
          rcases List.mem_cons.mp hp with rfl | hp
          · exact ⟨hgc', Nc.2⟩
          rcases List.mem_cons.mp hp with rfl | hp
          · exact ⟨k3 _ _ (Ne.symm n1) n13 ND.1, ND.2⟩
          · have z := N' p (.tail _ (.tail _ (.tail _ hp)))
            have o := off' p hp
            exact ⟨k3 _ _ o.1 o.2.2.1 z.1, z.2⟩
        refine wpAny_mono (step i t ys nx I _ (I + 2) _ (I + 3) oc' (I + 1) h₃ _ _ hlt hyl hJ' hoc' F₃ N₃ off' ⟨n2, n3, n1, n23, Ne.symm n12, Ne.symm n13⟩) (fun y s₄ h₄ => ?_) fun _ _ e => e
        obtain ⟨h₄, tk₄, nx₄, rfl, F₄, N₄, off₄, hJ₄⟩ := h₄
        have z := fun p hp => N₄ p hp
        refine append_at (hsz := by show ys.toArray.size ≤ sizeLine; rw [List.size_toArray, hyl, sizeLine_eq]; omega) (z _ (.tail _ (.tail _ (.tail _ (.head _))))).1 fun h₅ hs₅ hD₅ => ?_
        refine ⟨n + 1 - (i + 1), by omega, h₅, tk₄, i + 1, ys ++ [y], nx₄, oc', _, rfl, hlt, rfl, by rw [List.length_append, List.length_singleton, hyl], hs₅.extBut _ _ n1 (z _ (.head _)).1, F₄.change hs₅ (nL 1) (big 1), fun p hp => ?_, hoc', off₄, hJ₄⟩
        rcases List.mem_cons.mp hp with rfl | hp
        · exact ⟨hs₅.extBut _ _ (Ne.symm n12) (z _ (.tail _ (.head _))).1, (z _ (.tail _ (.head _))).2⟩
        rcases List.mem_cons.mp hp with rfl | hp
        · exact ⟨hs₅.extBut _ _ (Ne.symm n13) (z _ (.tail _ (.tail _ (.head _)))).1, (z _ (.tail _ (.tail _ (.head _)))).2⟩
        rcases List.mem_cons.mp hp with rfl | hp
        · exact ⟨hD₅.trans (congrArg some (lst_snoc ys y)), nL 1, big 1⟩
        · have q := z p (.tail _ (.tail _ (.tail _ (.tail _ hp))))
          exact ⟨hs₅.extBut _ _ (off₄ p hp).2.2.2 q.1, q.2⟩
      · obtain rfl : i = n := Nat.le_antisymm hi (Nat.not_lt.mp hlt)
        refine W.done _ _ _ hst fun h₂ tk₂ hk₂ => ?_
        have k2 : ∀ b o, b ≠ I → h'.get? b = some o → h₂.get? b = some o := fun b o hb e => hk₂ b o (fun q => hb (List.mem_singleton.mp q)) e
        have F₂ : Fr h₀ L h₂ m := ⟨F'.ns.at' fun o e => k2 _ o (Ne.symm nIL) e, fun b o e => k2 b o (fun q => by rw [q, fresh₀ I (Nat.le_refl _)] at e; cases e) (F'.keep b o e), F'.above⟩
        have hns : h₂.Ns (I + 2) (fun _ => none) := ⟨_, #[], _, k2 _ _ (Ne.symm n2) NC.1, rfl, fun e he => absurd he (by simp), fun _ => rfl⟩
        refine ⟨_, hns, fun h'' hs'' => fin ys nx (I + 1) h'' tk₂ hyl hJ' (F₂.change hs'' (nL 2) (big 2)) (fun p hp => ?_) fun p hp => (off' p hp).2.2.2⟩
        rcases List.mem_cons.mp hp with rfl | hp
        · exact ⟨hs''.extBut _ _ n12 (k2 _ _ (Ne.symm n1) ND.1), ND.2⟩
        · have q := N' p (.tail _ (.tail _ (.tail _ hp)))
          have o := off' p hp
          exact ⟨hs''.extBut _ _ o.2.1 (k2 _ _ o.1 q.1), q.2⟩
    · rcases List.mem_cons.mp hp with rfl | hp
      · exact ⟨gC, nL 2, big 2⟩
      rcases List.mem_cons.mp hp with rfl | hp
      · exact ⟨gc, nL 3, big 3⟩
      rcases List.mem_cons.mp hp with rfl | hp
      · exact ⟨gD, nL 1, big 1⟩
      · exact ⟨old _ _ (N p hp).1, (N p hp).2⟩
  exact codeAny_compStart_list (loop _ rfl) (W.self 0 _ _ _ gI (loop _ rfl))
end
end
-- part CompU
section
def StoreQ (h₀ : Heap) (L : Addr) (m : Str → Option Value) (y : Str) (Q : Flow → Shared → Prop) (v : Value) (s' : Shared) : Prop :=
  ∀ h1 tk1, Fr h₀ L h1 (fun z => if z = y then some v else m z) → (∀ b o, b ≠ L → s'.heap.get? b = some o → h1.get? b = some o) → Q .next { s' with heap := h1, toks := tk1 }
section
open LCg
variable {prog : Program} {w : World} {A : Around} {E : Value → Shared → Prop} {s : Shared} {env : Env} {h₀ : Heap} {L : Addr} {m : Str → Option Value}
theorem Assign_ListComp_J {elt iter : PySem.Expr} {x y : Str} {px py : Pos} {scope : Scope} {cl : List (Str × Addr)} {pos spos : Pos} {Q : Flow → Shared → Prop} (_F : Fr h₀ L s.heap m) (hL : env.locals = L)
    (hsw : swapsWith (.ListComp elt [⟨.Name x px, iter, [], 0⟩] scope pos) (some (.Name y py)) spos.line env = pure true) (hy : env.kindOf y = some .local)
    (hclos : closureFor scope env = pure cl) (hcell : ∀ y ∈ scope.names, y.2 ≠ .cell) (hkind : scope.kind = .function)
    (hnames : ∀ y ∈ scope.names, y.2 = .local → scope.names.lookup y.1 = some .local) (hx : scope.names.lookup x = some .local)
    (h : wpAny (model prog w) A (eval iter env) (fun xv s₁ => wpAny (model prog w) A (pyIter xv) (fun it s₂ => SrcJ prog w A h₀ L m env elt x scope cl (StoreQ h₀ L m y Q) it s₂) E s₁) E s)
    (hs : ∀ x, foldedSetIterable iter env x = pure x := by intro _; rfl)
    (hp : (env.scope.kind == .class || (env.scope.kind == .module && env.locals != env.globals)) = false := by rfl) :
    wpAny (model prog w) A (exec (.Assign [.Name y py] (.ListComp elt [⟨.Name x px, iter, [], 0⟩] scope pos) spos) env) Q E s := by
  subst hL
  rw [exec_Assign_Name_used _ _ _ _ hsw]
  refine wpAny_bind (wpAny_standAt (wpAny_bind ?_))
  show wpAny _ _ (comprehension _ scope env _ (newList []) _ _ (some (assign (.Name y py) env)) >>= _) _ _ _
  refine wpAny_bind (wpAny_comprehension_free (use := some (assign (.Name y py) env)) rfl hs hclos hkind hnames (wpAny_mono h (fun xv s₁ h₁ => wpAny_mono h₁ (fun it s₂ h₂ => ?_) fun _ _ e => e) fun _ _ e => e))
  obtain ⟨I, fp, n, P, St, nx, J, rfl, W, hsz, hIo, hSt, hst, hfp, F, N, hIL, hI₀, off, hJ, step, fin⟩ := h₂
  refine block_U (S := fun nw => ∃ j ys, J j ys nw) (Fin := FinE h₀ env.locals m s₂ (StoreQ h₀ env.locals m y Q)) W hsz hIo (fun i h h' o nw a b c d e ⟨j, ys, q⟩ => hSt i h h' o j ys nw a b c d e q) hcell hkind hx hst hfp F N hIL hI₀ off ⟨_, _, hJ⟩
    (rest_J J (fun ys nx a b D h tk F N o => fin ys nx D h tk a b F N o) step n 0 [] nx (by omega) rfl hJ) ?_
  intro D C h tk m' ys news' F' N' o1 hn hC₀ hD₀ hCL hDL hCD offC fin
  show wpAny (model prog w) A (assign (.Name y py) env (.ref D)) _ E _
  refine wpAny_assign_Name (wpAny_storeName_local hy F'.ns (fun h2 hn2 hs2 => ?_) hp)
  have hnC : h2.Ns C m' := hn.at' fun o e => (hs2.2 C hCL).trans e
  refine ⟨m', hnC, fun h3 hs3 => wpAny_pure (wpAny_pure ?_)⟩
  obtain ⟨oL, esL, epL, hoL, hdL, rL⟩ := F'.ns
  obtain ⟨oL3, esL3, epL3, hoL3, hdL3, rL3⟩ : h3.Ns env.locals _ := hn2.at' fun o e => (hs3.2 _ (Ne.symm hCL)).trans e
  have hfr : oL.isFreed = false := (Heap.get?_some_iff.mp hoL).2
  have hget : ∀ b, b ≠ env.locals → (h3.update env.locals fun _ => oL).get? b = h3.get? b := fun b hb => Heap.get?_update_other _ _ (Ne.symm hb)
  have hgetL : (h3.update env.locals fun _ => oL).get? env.locals = some oL := Heap.get?_update_self _ hoL3 hfr
  have sb : Heap.SameBut C h (h3.update env.locals fun _ => oL) := ⟨by rw [Heap.size_update]; exact hs3.1.trans hs2.1, fun b hb => by
    by_cases e : b = env.locals
    · rw [e, hgetL, hoL]
    · rw [hget b e, hs3.2 b hb, hs2.2 b e]⟩
  have q := fin D (h3.update env.locals fun _ => oL) tk (F'.change sb hCL hC₀) (fun p hp => ?_) o1
  · refine q h3 _ ⟨⟨_, _, _, hoL3, hdL3, rL3⟩, fun b o e => ?_, F'.above⟩ fun b o hb e => (hget b hb).symm.trans e
    have hb : b ≠ env.locals := fun z => absurd (Heap.lt_size e) (Nat.not_lt.mpr (z ▸ F'.above))
    have hbC : b ≠ C := fun z => by rw [z, hC₀] at e; cases e
    exact (hs3.2 b hbC).trans ((hs2.2 b hb).trans (F'.keep b o e))
  · have hpC : p.1 ≠ C := by
      rcases List.mem_cons.mp hp with rfl | hp
      · exact Ne.symm hCD
      · exact offC p hp
    exact ⟨(sb.2 p.1 hpC).trans (N' p hp).1, (N' p hp).2⟩
end
end
-- part Exc1
section
section
variable {M : Model} {A : Around} {E : Value → Shared → Prop} {h : Heap} {g : Array GenState} {d : Drawn} {t : Nat} {os : OsState}
variable {nm q : Str} {C N : Addr} {bs bm bmB : List Value} {hdct : Bool} {sn : List Str} {sub : List Value} {ab : Bool} {col : Option Bool} {dd : Option Addr} {k0 k1 k2 k3 k5 : Option Value} {B newId initId : String}

theorem chk_new (F : ExcBaseFacts B newId initId bmB) (hB : bm.contains (.type B) = true) {rest : List Value} {Q : Unit → Shared → Prop} (hC : h.get? C = some (excClassObj nm q C N bs bm hdct sn sub ab col dd k0 k1 k2 k3 k5 newId))
    (hq : Q () ⟨h, g, d, t, os⟩) : wpAny M A (checkBuiltinCall newId ⟨.ref C :: rest, []⟩) Q E ⟨h, g, d, t, os⟩ := by
  have hcont : (Value.ref C :: bm).contains (.type B) = true := by rw [List.contains_cons, hB, Bool.or_true]
  have hstar := F.noStar
  simp only [checkBuiltinCall, F.newKind, F.newSplit, F.newRow]
  repeat (first | refine wpAny_loadPart_at hC ?_ | (refine wpAny_isSubtype_exc hC ?_; rw [hcont]) | refine wpAny_staticBase_exc hC ?_ | refine wpAny_madeBy_exc hC ?_ | simp only [bne_self_eq_false, Bool.false_eq_true, if_false] | wp_step)
  exact hq

theorem chk_init (F : ExcBaseFacts B newId initId bmB) (hB : bm.contains (.type B) = true) {e : Addr} {oe : Obj} {rest : List Value} {Q : Unit → Shared → Prop}
    (hC : h.get? C = some (excClassObj nm q C N bs bm hdct sn sub ab col dd k0 k1 k2 k3 k5 newId)) (he : h.get? e = some oe) (hcls : oe.cls = .ref C) (hq : Q () ⟨h, g, d, t, os⟩) :
    wpAny M A (checkBuiltinCall initId ⟨.ref e :: rest, []⟩) Q E ⟨h, g, d, t, os⟩ := by
  have hcB : (Value.ref C :: bm).contains (.type B) = true := by rw [List.contains_cons, hB, Bool.or_true]
  have hshort := F.noStar
  simp only [checkBuiltinCall, F.initKind, F.initSplit, F.initRow]
  repeat (first | (with_reducible refine wpAny_loadPart_at he ?_; rw [hcls]) | with_reducible refine wpAny_loadPart_at hC ?_ | (with_reducible refine wpAny_isSubtype_exc hC ?_; rw [hcB]) | wp_step)
  refine wpAny_onRaise ?_
  rw [show ∀ (a b : String) (n : Nat), Bind.check ⟨.positional, "*", B, .self, [⟨"args", .varPos, false⟩]⟩ a b n (List.map (fun x => x.fst) ({ pos := Value.ref e :: rest } : Args).kw) = pure () from
    fun a b n => check_star_args _ _ _ _ _ _]
  exact wpAny_pure hq
end

section
variable {prog : Program} {w : World} {A : Around} {R : Result → Shared → Prop} {E : Value → Shared → Prop} {h : Heap} {g : Array GenState} {d : Drawn} {t : Nat} {os : OsState}
variable {nm q : Str} {C N : Addr} {bs bm bmB : List Value} {hdct : Bool} {sn : List Str} {sub : List Value} {ab : Bool} {col : Option Bool} {dd : Option Addr} {k0 k1 k2 k3 k5 : Option Value} {B newId initId : String}

theorem exc_new (F : ExcBaseFacts B newId initId bmB) (hB : bm.contains (.type B) = true) (hA : bm.contains (.type "AttributeError") = false) (hN : bm.contains (.type "NameError") = false) {rest : List Value}
    (hC : h.get? C = some (excClassObj nm q C N bs bm hdct sn sub ab col dd k0 k1 k2 k3 k5 newId))
    (hq : R (.ok (.ret (.ref (h.objs.size + 1)))) ⟨(h.push { cls := .type "tuple", data := .seq rest.toArray }).push
      { cls := .ref C, data := .fields #[.ref h.objs.size, .none, .none, .none, .bool false, .none] }, g, d, t, os⟩) (hrest : rest.length ≤ sizeLine := by size_fits) :
    codeAny (model prog w) A (.builtin newId ⟨.ref C :: rest, []⟩) R ⟨h, g, d, t, os⟩ := by
  have hends := F.ends
  have hcB : (Value.ref C :: bm).contains (.type B) = true := by rw [List.contains_cons, hB, Bool.or_true]
  have hcA : (Value.ref C :: bm).contains (.type "AttributeError") = false := by rw [List.contains_cons, hA]; rfl
  have hcN : (Value.ref C :: bm).contains (.type "NameError") = false := by rw [List.contains_cons, hN]; rfl
  refine codeAny_builtinAt F.entry ?_
  unfold Builtin.«BaseException.__new__»
  refine PySem.wpAt_bind ?_
  show PySem.wpAt _ _ _ (stack >>= _) _ _ _
  refine PySem.wpAt_bind (PySem.wpAt_stack fun p below => PySem.wpAt_of_wpAny ?_)
  wp_walk
  refine PySem.wpAt_of_wpAny ?_
  rw [F.owner]
  repeat (first | with_reducible refine wpAny_madeHere_exc F.canon hC ?_ | with_reducible refine wpAny_loadPart_at hC ?_ | (with_reducible refine wpAny_isSubtype_exc hC ?_; first | rw [hcB] | rw [hcA] | rw [hcN]) | wp_step)
  show R _ _
  rw [Heap.size_push]
  exact hq

/-- Exception.__init__(e, v): a new tuple stands at the first field -/
theorem exc_init (F : ExcBaseFacts B newId initId bmB) (hB : bm.contains (.type B) = true) {e : Addr} {oe : Obj} {vs : Array Value} {rest : List Value} {Q : Value → Shared → Prop}
    (hC : h.get? C = some (excClassObj nm q C N bs bm hdct sn sub ab col dd k0 k1 k2 k3 k5 newId)) (he : h.get? e = some oe) (hcls : oe.cls = .ref C) (hd : oe.data = .fields vs) (hsz : 0 < vs.size) {t0 : Addr} (h0 : vs[0]? = some (.ref t0))
    (hq : Q .none ⟨(h.push { cls := .type "tuple", data := .seq rest.toArray }).update e (Obj.mapFields (·.setIfInBounds 0 (.ref h.objs.size))), g, d, t, os⟩) (hrest : rest.length ≤ sizeLine := by size_fits) :
    wpAny (model prog w) A (call (.builtin initId) (.ref e :: rest)) Q E ⟨h, g, d, t, os⟩ := by
  refine wpAny_call (codeAny_call_builtin F.init.plain F.initEntry (chk_init F hB hC he hcls ?_))
  have he' := Heap.get?_push_of_some { cls := .type "tuple", data := .seq rest.toArray } he
  wp_walk
  rw [hd]
  wp_walk
  rw [h0]
  refine wpAny_pure ?_
  refine wpAny_bind (wpAny_setField he' hd hsz (wpAny_letGo ?_))
  exact wpAny_pure hq

/-- type.__call__ of a class whose __init__ is its own base's -/
theorem exc_tcall {P fI : Addr} {oP oI : Obj} {cdP : ClassData} {bm' : List Value} {mN mP : Str → Option Value} (F : ExcBaseFacts B newId initId bmB)
    (hC : h.get? C = some (excClassObj nm q C N bs (.ref P :: bm') hdct sn sub ab col dd k0 k1 k2 k3 k5 newId)) (hB : bm'.contains (.type B) = true) (hA : bm'.contains (.type "AttributeError") = false) (hN : bm'.contains (.type "NameError") = false)
    (hn : h.Ns N mN) (hni : mN "__init__" = none) (hP : h.get? P = some oP) (hPd : oP.data = .cls cdP) (hnP : h.Ns cdP.ns mP) (hi : mP "__init__" = some (.ref fI)) (hfI : h.get? fI = some oI) (hfc : oI.cls = .type "function") {rest : List Value} {Q : PySem.Fin → Shared → Prop}
    (hq : wpAny (model prog w) A (call (.ref fI) (.ref (h.objs.size + 1) :: rest)) (fun r s' => r = .none ∧ Q (.done (.ret (.ref (h.objs.size + 1)))) s') E
      ⟨(h.push { cls := .type "tuple", data := .seq rest.toArray }).push { cls := .ref C, data := .fields #[.ref h.objs.size, .none, .none, .none, .bool false, .none] }, g, d, t, os⟩) (hrest : rest.length ≤ sizeLine := by size_fits) :
    wpAny (model prog w) A (Builtin.«type.__call__» ⟨.ref C :: rest, []⟩) Q E ⟨h, g, d, t, os⟩ := by
  have hB' : (Value.ref P :: bm').contains (.type B) = true := by rw [List.contains_cons, hB, Bool.or_true]
  have hA' : (Value.ref P :: bm').contains (.type "AttributeError") = false := by rw [List.contains_cons, hA]; rfl
  have hN' : (Value.ref P :: bm').contains (.type "NameError") = false := by rw [List.contains_cons, hN]; rfl
  repeat (first | with_reducible refine wpAny_loadPart_at hC ?_ | with_reducible refine wpAny_madeBy_exc hC ?_ | wp_step)
  refine codeAny_call_builtin_code (Code.quiet_builtin _ F.quiet) (chk_new F hB' hC ?_)
  refine exc_new F hB' hA' hN' hC ?_ hrest
  show wpAny _ _ _ _ _ _
  have up : ∀ b o, h.get? b = some o → ((h.push { cls := .type "tuple", data := .seq rest.toArray }).push { cls := .ref C, data := .fields #[.ref h.objs.size, .none, .none, .none, .bool false, .none] }).get? b = some o :=
    fun b o x => Heap.get?_push_of_some _ (Heap.get?_push_of_some _ x)
  have hC₁ := up _ _ hC
  have hfI₁ := up _ _ hfI
  have hP₁ := up _ _ hP
  have hn₁ := hn.keeps up
  have hnP₁ := hnP.keeps up
  have hget : ((h.push { cls := .type "tuple", data := .seq rest.toArray }).push
      { cls := .ref C, data := .fields #[.ref h.objs.size, .none, .none, .none, .bool false, .none] }).get? (h.objs.size + 1) = some
      { cls := .ref C, data := .fields #[.ref h.objs.size, .none, .none, .none, .bool false, .none] } := by heap_get
  have hcC : (Value.ref C :: .ref P :: bm').contains (.ref C) = true := by simp
  unfold isInstance
  repeat (first | with_reducible refine wpAny_loadPart_at hget ?_ | (with_reducible refine wpAny_isSubtype_exc hC₁ ?_; rw [hcC]) | wp_step)
  show wpAny _ _ (typeLookup (.ref C) _) _ _ _
  rw [typeLookup_eq]
  refine wpAny_bind (wpAny_mroOf_exc hC₁ ?_)
  rw [lookupAlong_cons]
  refine wpAny_bind (wpAny_classOwn_exc hC₁ hn₁ ?_)
  rw [hni]
  show wpAny _ _ (lookupAlong _ _) _ _ _
  rw [lookupAlong_cons]
  obtain ⟨oPc, oPd, oPda, oPs⟩ := oP
  dsimp only at hPd
  subst hPd
  refine wpAny_bind (wpAny_classOwn_cls hP₁ hnP₁ ?_)
  rw [hi]
  refine wpAny_pure ?_
  refine wpAny_holding (wpAny_bind ?_)
  unfold bindSpecial
  refine wpAny_bind (wpAny_typeOf (T := "function") ⟨_, hfI₁, hfc⟩ ?_)
  rw [if_pos (by decide)]
  refine wpAny_pure (wpAny_bind (wpAny_mono hq (fun r s' hr => ?_) fun _ _ x => x))
  obtain ⟨rfl, hQ⟩ := hr
  wp_walk
  exact hQ
theorem exc_call {P fI : Addr} {oP oI : Obj} {cdP : ClassData} {bm' : List Value} {mN mP : Str → Option Value} (F : ExcBaseFacts B newId initId bmB)
    (hC : h.get? C = some (excClassObj nm q C N bs (.ref P :: bm') hdct sn sub ab col dd k0 k1 k2 k3 k5 newId)) (hB : bm'.contains (.type B) = true) (hA : bm'.contains (.type "AttributeError") = false) (hN : bm'.contains (.type "NameError") = false)
    (hn : h.Ns N mN) (hni : mN "__init__" = none) (hP : h.get? P = some oP) (hPd : oP.data = .cls cdP) (hnP : h.Ns cdP.ns mP) (hi : mP "__init__" = some (.ref fI)) (hfI : h.get? fI = some oI) (hfc : oI.cls = .type "function") {rest : List Value} {Q : Value → Shared → Prop}
    (hq : wpAny (model prog w) (A.under (.builtin "type.__call__" ⟨.ref C :: rest, []⟩)) (call (.ref fI) (.ref (h.objs.size + 1) :: rest)) (fun r s' => r = .none ∧ Q (.ref (h.objs.size + 1)) s') E
      ⟨(h.push { cls := .type "tuple", data := .seq rest.toArray }).push { cls := .ref C, data := .fields #[.ref h.objs.size, .none, .none, .none, .bool false, .none] }, g, d, t, os⟩) (hrest : rest.length ≤ sizeLine := by size_fits) :
    wpAny (model prog w) A (call (.ref C) rest) Q E ⟨h, g, d, t, os⟩ := by
  have f1 := tc_lookup
  have f2 := tc_bind (.ref C)
  have hT : (⟨h, g, d, t, os⟩ : Shared).TypeIs (.ref C) "type" := ⟨_, hC, rfl⟩
  refine wpAny_call (codeAny_of_tree ?_)
  show wpAny _ _ (callAny (.ref C) _) _ _ _
  repeat (any_goals (first | assumption | with_reducible refine wpAny_loadPart_at hC ?_ | wp_step))
  refine ⟨rfl, ?_⟩
  exact codeAny_call_builtin_at (Code.quiet_builtin _ (by decide +kernel)) entry_typeCall (wpAny_check_type_call_sub hC (exc_tcall (hrest := hrest) F hC hB hA hN hn hni hP hPd hnP hi hfI hfc hq))
end
end
-- part Exc2
section
theorem fe_passes (self : Value) : refuseLoop self "__setattr__" [.ref 51, .ref 38, .type "Exception", .type "BaseException", .type "object"] = pure () := by
  rw [refuseLoop_ref, refuseLoop_ref]; exact PySem.F.store_Exception.passes self
theorem exc_store {prog : Program} {w : World} {A : Around} {E : Value → Shared → Prop} {s : Shared} {K : Frag} {x : Addr} {ox : Obj} {name : Str} {v : Value} {cd : ClassData} {Q : Unit → Shared → Prop}
    (X : K.In s.heap) (hx : s.heap.get? x = some ox) (hcl : ox.cls = .ref 51) (hno : notCls ox = true) (hdn : ox.dict = none)
    (hs : findIn K (.ref 51) "__setattr__" = some (some (.builtin "object.__setattr__"))) (hc : clsIn K 51 = some cd) (hmro : cd.mro = [.ref 51, .ref 38, .type "Exception", .type "BaseException", .type "object"]) (hhd : cd.hasDict = true)
    (hsub : mroIn K 51 (.type "object") = some true) (hna : findIn K (.ref 51) name = some none)
    (h : ∀ h' tk', (∀ b o, b ≠ x → s.heap.get? b = some o → h'.get? b = some o) → (∃ dx, h'.get? x = some { ox with dict := some dx }) → Q () { s with heap := h', toks := tk' }) :
    wpAny (model prog w) A (setAttr (.ref x) name v) Q E s := by
  have I : InstAt s.heap x ox 51 none := ⟨hx, hcl, hno, by rw [hdn]; trivial⟩
  refine set_plain X I hs ?_
  have SF := PySem.F.store_object
  have sub : Looks (model prog w) s.heap (isInstance (.ref x) (.type "object")) true := I.type.andThen (looks_mroIn X hsub)
  refine codeAny_call_builtin SF.slot.plain SF.entry (@check_slot (model prog w) _ _ { s with toks := s.toks + 1 } "object.__setattr__" "object" "__setattr__" (.ref x) [.str name s.toks, v] [] _ SF.kind SF.split sub (SF.args (.ref x) (.str name s.toks) v) ?_)
  have hm : Looks (model prog w) s.heap (mroOf (.ref 51)) cd.mro := (looks_clsIn X hc).andThen .now
  rw [osa_eq, refuse_eq]
  refine wpAny_bind (wpAny_bind (I.type _ _ _ _ (fun _ _ e => e) (wpAny_bind (hm _ _ _ _ (fun _ _ e => e) ?_))))
  rw [hmro, fe_passes]
  refine wpAny_pure (wpAny_bind (I.type _ _ _ _ (fun _ _ e => e) (wpAny_bind (looks_findIn X hna _ _ _ _ (fun _ _ e => e) (wpAny_bind (wpAny_pure ?_))))))
  obtain ⟨oc, od, odt, osl⟩ := ox
  dsimp only at hcl hdn
  subst hcl hdn
  show wpAny _ _ (Builtin.ObjectAttr.storeInOwnDict _ _ _ _ _ _) _ _ _
  unfold Builtin.ObjectAttr.storeInOwnDict
  refine wpAny_bind (wpAny_pure (wpAny_bind ?_))
  have hnc : ∀ c, odt ≠ .cls c := fun c q => by subst q; cases hno
  have hfr : ({ cls := .ref 51, data := odt, slots := osl } : Obj).isFreed = false := (Heap.get?_some_iff.mp hx).2
  unfold Builtin.ObjectAttr.ownDictForStores instanceDict
  refine wpAny_bind (wpAny_loadPart hx (wpAny_bind ((looks_clsIn X hc) _ _ _ _ (fun _ _ e => e) ?_)))
  rw [hhd]
  dsimp only
  rw [if_neg (by decide), if_neg (by simp [typeHasDict])]
  have hx₁ : (s.heap.push { cls := .type "dict", data := .dict #[] }).get? x = some { cls := .ref 51, data := odt, slots := osl } := Heap.get?_push_of_some _ hx
  have hxs : x ≠ s.heap.objs.size := Nat.ne_of_lt (Heap.lt_size hx)
  split
  · rename_i c; exact absurd rfl (hnc c)
  refine wpAny_bind (wpAny_alloc' ?_)
  refine wpAny_bind (wpAny_update' hx₁ ?_)
  refine wpAny_pure ?_
  have hgd : ((s.heap.push { cls := .type "dict", data := .dict #[] }).update x fun o => { cls := o.cls, dict := some s.heap.objs.size, data := o.data, slots := o.slots }).get? s.heap.objs.size
      = some { cls := .type "dict", data := .dict #[] } :=
    (Heap.get?_update_ne _ _ _ _ hxs.symm).trans (Heap.get?_push_at rfl rfl)
  have hnd : ((s.heap.push { cls := .type "dict", data := .dict #[] }).update x fun o => { cls := o.cls, dict := some s.heap.objs.size, data := o.data, slots := o.slots }).Ns s.heap.objs.size (fun _ => none) :=
    ⟨_, #[], _, hgd, rfl, fun e he => absurd he (by simp), fun _ => rfl⟩
  show wpAny _ _ (Builtin.ObjectAttr.storeInDict s.heap.objs.size (.str name s.toks) name v) _ _ _
  unfold Builtin.ObjectAttr.storeInDict Builtin.ObjectAttr.newKeyGuard
  refine wpAny_bind (wpAny_pure (wpAny_bind (wpAny_nsSet1 (Heap.Ns1.of_empty hnd) fun h' hn' hs' => ?_)))
  obtain ⟨oD, esD, epD, hoD, hdD, hcD⟩ := hn'.count (Within.cons name v Within.nil)
  refine wpAny_bind (wpAny_lookBehind hoD (by rw [hdD]; exact pastItsLine_dict (Nat.le_trans hcD (by rw [List.length_cons, List.length_nil, sizeLine_eq]; omega))) ?_)
  wp_walk
  refine h h' _ (fun b ob hbx hb => ?_) ⟨s.heap.objs.size, ?_⟩
  · exact (hs'.2 b (Nat.ne_of_lt (Heap.lt_size hb))).trans ((Heap.get?_update_ne _ _ _ _ hbx).trans (Heap.get?_push_of_some _ hb))
  · exact (hs'.2 x hxs).trans (Heap.get?_update_self _ hx₁ (by cases odt <;> first | rfl | exact hfr))
end
-- part Fly
section
/- the exception e of the class C flies: its third field (the context) stays none -/
def TracedX (h base : Heap) (e C : Addr) (fl : Value) : Prop :=
  ∃ oe vs T oT ts, h.get? e = some oe ∧ oe.cls = .ref C ∧ oe.data = .fields vs ∧ vs[2]? = some .none ∧ vs[1]? = some (.ref T) ∧ base.get? T = none ∧ T ≠ e ∧ h.get? T = some oT ∧ oT.data = .fields ts ∧ ts[3]? = some fl
def LeftX (base : Heap) (l : List Env) (e C : Addr) (fl : Value) (h h' : Heap) : Prop :=
  base.StaysIn h' ∧ h'.FunFrames base l ∧ TracedX h' base e C fl ∧ h.UpToSlots h'
def FlyX (base : Heap) (l : List Env) (e C : Addr) (fl : Value) (h : Heap) : Prop :=
  base.StaysIn h ∧ base.get? e = none ∧ h.FunFrames base l ∧ TracedX h base e C fl
theorem FlyX.there {base h : Heap} {l : List Env} {e C : Addr} {fl : Value} (x : FlyX base l e C fl h) : ∃ oe vs, h.get? e = some oe ∧ oe.cls = .ref C ∧ oe.data = .fields vs ∧ vs[2]? = some .none :=
  let ⟨_, _, _, oe, vs, _, _, _, a, b, c, d, _⟩ := x; ⟨oe, vs, a, b, c, d⟩
section
variable {M : Model} {A : Around} {E : Value → Shared → Prop} {s : Shared}

theorem entryX {base : Heap} {env : Env} {outer : List Env} {L e C : Addr} {oe : Obj} {vs : Array Value} {head : Value} {hadNext : Bool} {Q : Unit → Shared → Prop}
    (hfr : A.frames = some (env :: outer)) (hl : s.heap.FunFrames base (env :: outer)) (hf : env.frame = some L)
    (he : s.heap.get? e = some oe) (hc : oe.cls = .ref C) (hkb : base.StaysIn s.heap) (hen : base.get? e = none) (hd : oe.data = .fields vs) (hsz : 1 < vs.size) (h2 : vs[2]? = some .none)
    (h : ∀ h', LeftX base (env :: outer) e C (rawInt L) s.heap h' → Q () { s with heap := h' }) :
    wpAny M A (do let a ← frameOf env; let pl ← entryPlaceOf L hadNext; let b ← EntryCells.newEntry head a .none (rawInt L) .none pl; setField (.ref e) 1 b) Q E s := by
  have hene : e ∉ (env :: outer).filterMap (·.frame) := fun hm => by
    obtain ⟨_, o, ho, hnf⟩ := hl.mem hm
    rw [he] at ho; injection ho with ho; subst ho; exact hnf vs hd
  refine wpAny_bind (wpAny_frameOf_fun hfr hl hf fun h₁ hs₁ => ?_)
  refine wpAny_bind (wpAny_entryPlaceOf fun pl hpl => ?_)
  unfold EntryCells.newEntry newFields
  refine wpAny_bind (wpAny_newObj_type ?_ (hpl.sizeOk5 _ _ _ _ _))
  have he₁ : h₁.get? e = some oe := (hs₁.2.1 e hene).trans he
  have kb₁ : base.StaysIn h₁ := fun b o hbo => (hs₁.2.1 b fun hm => by rw [(hl.mem hm).1] at hbo; cases hbo).trans (hkb b o hbo)
  have he₂ := Heap.get?_push_of_some (h := h₁) { cls := .type "traceback", dict := none, data := .fields ([head, .ref L, .none, rawInt L, .none] ++ (if pl.isEmpty then List.replicate 6 Value.none else pl)).toArray } he₁
  refine wpAny_setField he₂ hd hsz (h _ ?_)
  have hTe : h₁.objs.size ≠ e := Nat.ne_of_gt (Heap.lt_size he₁)
  have hd₃ := Obj.data_mapFields hd (·.setIfInBounds 1 (Value.ref h₁.objs.size))
  have he₃ := Heap.get?_update_self (Obj.mapFields (·.setIfInBounds 1 (Value.ref h₁.objs.size))) he₂ (Obj.isFreed_of_fields hd₃)
  have hT₃ := (Heap.get?_update_other (h₁.push { cls := .type "traceback", dict := none, data := .fields ([head, .ref L, .none, rawInt L, .none] ++ (if pl.isEmpty then List.replicate 6 Value.none else pl)).toArray })
    (Obj.mapFields (·.setIfInBounds 1 (Value.ref h₁.objs.size))) (Ne.symm hTe)).trans (Heap.get?_push_size h₁ rfl)
  have keep : ∀ b o, b ≠ e → h₁.get? b = some o →
      ((h₁.push { cls := .type "traceback", dict := none, data := .fields ([head, .ref L, .none, rawInt L, .none] ++ (if pl.isEmpty then List.replicate 6 Value.none else pl)).toArray }).update e (Obj.mapFields (·.setIfInBounds 1 (Value.ref h₁.objs.size)))).get? b = some o :=
    fun b o hbe hb => by
      rw [Heap.get?_update_other _ _ (Ne.symm hbe)]
      exact Heap.get?_push_of_some _ hb
  have noRecord : ∀ b o, s.heap.get? b = some o → (∀ vs, o.data ≠ .fields vs) → b ≠ e := fun b o hb hnf q => by
    rw [q, he] at hb; injection hb with hb; subst hb; exact hnf vs hd
  refine ⟨fun b o hbo => keep b o (fun q => by rw [q, hen] at hbo; cases hbo) (kb₁ b o hbo), hl.of_keeps fun b o hb hnf => ?_, ?_, fun b o hb hnf => ?_⟩
  · obtain ⟨sl, hs⟩ := hs₁.2.2 b o hb
    exact ⟨_, keep b _ (noRecord b o hb hnf) hs, rfl⟩
  · exact ⟨_, _, h₁.objs.size, _, _, he₃, (Obj.cls_mapFields _ _).trans hc, hd₃, by rw [Array.getElem?_setIfInBounds_ne (by decide)]; exact h2, by simp [hsz], kb₁.fresh, hTe, hT₃, rfl, by first | (simp; done) | (rcases hpl with rfl | ⟨_, _, _, _, _, _, _, rfl⟩ <;> simp)⟩
  · obtain ⟨sl, hs⟩ := hs₁.2.2 b o hb
    exact ⟨sl, keep b _ (noRecord b o hb hnf) hs⟩

theorem landX {base : Heap} {l : List Env} {e C : Addr} {fl : Value} {Q : Unit → Shared → Prop} (hx : FlyX base l e C fl s.heap)
    (h : ∀ h', FlyX base l e C .none h' → s.heap.UpToSlots h' → Q () { s with heap := h' }) :
    wpAny M A (setFlight (.ref e) none) Q E s := by
  obtain ⟨hkb, hen, hl, oe, vs, T, oT, ts, he, hcls, hd, h2, h1, hnT, hTe, hT, hdT, h3⟩ := hx
  have hsz3 : 3 < ts.size := (Array.getElem?_eq_some_iff.mp h3).1
  have other : ∀ b, b ≠ T → (s.heap.update T (Obj.mapFields (·.setIfInBounds 3 ((none : Option Addr).elim Value.none fun f => rawInt f)))).get? b = s.heap.get? b :=
    fun b hb => Heap.get?_update_other _ _ (Ne.symm hb)
  have noRecord : ∀ b o, s.heap.get? b = some o → (∀ vs, o.data ≠ .fields vs) → b ≠ T := fun b o hb hnf q => by
    rw [q, hT] at hb; injection hb with hb; subst hb; exact hnf ts hdT
  unfold setFlight
  refine wpAny_bind (wpAny_field he hd h1 ?_)
  rw [if_pos (show (Value.ref T != Value.none) = true from by simp)]
  refine wpAny_setField hT hdT hsz3 (h _ ⟨fun b o hbo => (other b fun q => by rw [q, hnT] at hbo; cases hbo).trans (hkb b o hbo), hen,
    hl.of_keeps fun b o hb hnf => ⟨o, (other b (noRecord b o hb hnf)).trans hb, rfl⟩, ?_⟩ fun b o hb hnf => ⟨o.slots, (other b (noRecord b o hb hnf)).trans hb⟩)
  exact ⟨oe, vs, T, _, _, (other e (Ne.symm hTe)).trans he, hcls, hd, h2, h1, hnT, hTe, Heap.get?_update_self _ hT (Obj.isFreed_of_fields (Obj.data_mapFields hdT _)), Obj.data_mapFields hdT _, by simp [hsz3]⟩

theorem noteX {base : Heap} {env : Env} {outer : List Env} {L e C : Addr} {Q : Unit → Shared → Prop}
    (hfr : A.frames = some (env :: outer)) (hf : env.frame = some L) (hx : FlyX base (env :: outer) e C .none s.heap)
    (h : ∀ h', FlyX base (env :: outer) e C (rawInt L) h' → s.heap.UpToSlots h' → Q () { s with heap := h' }) : wpAny M A (noteFrame (.ref e) env) Q E s := by
  obtain ⟨hkb, hen, hl, oe, vs, T, oT, ts, he, hcls, hd, h2, h1, hnT, hTe, hT, hdT, h3⟩ := hx
  unfold noteFrame
  simp only [hf]
  refine wpAny_bind (wpAny_field he hd h1 ?_)
  rw [if_pos (show (Value.ref T != Value.none) = true from by simp)]
  refine wpAny_bind (wpAny_field hT hdT h3 ?_)
  rw [if_neg (show ¬ ((Value.none == rawInt L) = true) from by simp [rawInt])]
  refine wpAny_bind (wpAny_setField hT hdT (Array.getElem?_eq_some_iff.mp h3).1 ?_)
  have other : ∀ b, b ≠ T → (s.heap.update T (Obj.mapFields (·.setIfInBounds 3 Value.none))).get? b = s.heap.get? b := fun b hb => Heap.get?_update_other _ _ (Ne.symm hb)
  have noRecord : ∀ b o, s.heap.get? b = some o → (∀ vs, o.data ≠ .fields vs) → b ≠ T := fun b o hb hnf q => by
    rw [q, hT] at hb; injection hb with hb; subst hb; exact hnf ts hdT
  refine entryX hfr (hl.of_keeps fun b o hb hnf => ⟨o, (other b (noRecord b o hb hnf)).trans hb, rfl⟩) hf ((other e (Ne.symm hTe)).trans he) hcls
    (fun b o hbo => (other b fun q => by rw [q, hnT] at hbo; cases hbo).trans (hkb b o hbo)) hen hd (Array.getElem?_eq_some_iff.mp h1).1 h2
    fun h' ⟨x1, x2, x3, x4⟩ => h h' ⟨x1, hen, x2, x3⟩ fun b o hb hnf => x4 b o ((other b (noRecord b o hb hnf)).trans hb) hnf

theorem leaves_onX {base : Heap} {env : Env} {outer : List Env} {L e C : Addr} {Q : Unit → Shared → Prop}
    (hfr : A.frames = some (env :: outer)) (hf : env.frame = some L) (hx : FlyX base (env :: outer) e C .none s.heap)
    (h : ∀ h', FlyX base outer e C .none h' → s.heap.UpToSlots h' → Q () { s with heap := h' }) : wpAny M A (leaving env (.ref e)) Q E s := by
  unfold leaving
  refine wpAny_bind (noteX hfr hf hx fun h₁ x₁ k₁ => ?_)
  refine landX x₁ fun h₂ x₂ k₂ => ?_
  obtain ⟨a, b, ⟨_, _, c⟩, d⟩ := x₂
  exact h h₂ ⟨a, b, c, d⟩ (k₁.trans k₂)

theorem leaves_firstX {base : Heap} {env : Env} {outer : List Env} {L e C : Addr} {oe : Obj} {vs : Array Value} {Q : Unit → Shared → Prop}
    (hfr : A.frames = some (env :: outer)) (hl : s.heap.FunFrames base (env :: outer)) (hf : env.frame = some L)
    (he : s.heap.get? e = some oe) (hc : oe.cls = .ref C) (hkb : base.StaysIn s.heap) (hen : base.get? e = none) (hd : oe.data = .fields vs) (h1 : vs[1]? = some .none) (h2 : vs[2]? = some .none)
    (h : ∀ h', FlyX base outer e C .none h' → s.heap.UpToSlots h' → Q () { s with heap := h' }) : wpAny M A (leaving env (.ref e)) Q E s := by
  unfold leaving noteFrame
  simp only [hf]
  refine wpAny_bind (wpAny_bind (wpAny_field he hd h1 ?_))
  rw [if_neg (by decide)]
  refine wpAny_mono (entryX (hadNext := _) (head := _) (Q := fun _ s' => wpAny M A (setFlight (.ref e) none) Q E s') hfr hl hf he hc hkb hen hd (Array.getElem?_eq_some_iff.mp h1).1 h2 fun h₁ x₁ => ?_) (fun _ _ x => x) fun _ _ x => x
  refine landX (s := { s with heap := h₁ }) ⟨x₁.1, hen, x₁.2.1, x₁.2.2.1⟩ fun h₂ x₂ k₂ => ?_
  obtain ⟨a, b, ⟨_, _, c⟩, d⟩ := x₂
  exact h h₂ ⟨a, b, c, d⟩ (x₁.2.2.2.trans k₂)
end
end
-- part Fly2
section
theorem ns_some {K : Frag} {h : Heap} {N : Addr} {mg : Str → Option Value} {n : Str} {v : Value} (X : K.In h) (G : h.Ns N mg) (e : nsIn K N n = some (some v)) : mg n = some v := by
  obtain ⟨o, es, ep, ho, hd, _, hf⟩ := G
  unfold nsIn at e
  split at e
  · rename_i c d es' n' sl q
    have := X _ _ q
    rw [ho] at this
    cases this
    cases hd
    split at e
    · rename_i en he
      have e' := Option.some.inj (Option.some.inj e)
      rw [← hf]
      unfold nsFind findBy
      rw [← Array.find?_toList, he, ← e']
      rfl
    · split at e <;> cases e
  · cases e
theorem nsOk_of {K : Frag} {N : Addr} {c : Value} {d : Option Addr} {es : Array DictEntry} {n : Nat} {sl : Array (Option Value)} (q : K.lookup N = some ⟨c, d, .dict es n, sl⟩)
    (r : (es.all fun e => match e.key with | .str _ _ => true | _ => false) = true) : nsOkIn K N = true := by
  unfold nsOkIn; rw [q]; exact r
theorem fe_cls : ∀ (w : World) (h : Heap), (hd.heap_39 w.params).In h → ∃ nm q bs hdct sn sub ab col dd k0 k1 k2 k3 k5,
    h.get? 51 = some (excClassObj nm q 51 50 bs [.ref 38, .type "Exception", .type "BaseException", .type "object"] hdct sn sub ab col dd k0 k1 k2 k3 k5 "Exception.__new__") := by
  intro w h X
  exact ⟨_, _, _, _, _, _, _, _, _, _, _, _, _, _, X _ _ (by k_dflt k_is)⟩
theorem fe_base : ∀ (w : World) (h : Heap), (hd.heap_39 w.params).In h → ∃ oP cdP oI, h.get? 38 = some oP ∧ oP.data = .cls cdP ∧ cdP.ns = 37 ∧ h.get? 35 = some oI ∧ oI.cls = .type "function" := by
  intro w h X
  exact ⟨_, _, _, X _ _ (by k_dflt k_is), rfl, rfl, X _ _ (by k_dflt k_is), rfl⟩
theorem fe_ns : ∀ (w : World) (h : Heap), (hd.heap_39 w.params).In h → (∃ mN, h.Ns 50 mN ∧ mN "__init__" = none) ∧ ∃ mP, h.Ns 37 mP ∧ mP "__init__" = some (.ref 35) := by
  intro w h X
  have a1 : nsOkIn (hd.heap_39 w.params) 50 = true := by refine' nsOk_of ?q ?r; (case q => k_dflt k_is); (case r => simp)
  have a2 : nsOkIn (hd.heap_39 w.params) 37 = true := by refine' nsOk_of ?q ?r; (case q => k_dflt k_is); (case r => simp)
  have b1 : nsIn (hd.heap_39 w.params) 50 "__init__" = some none := by k_dflt k_is
  have b2 : nsIn (hd.heap_39 w.params) 37 "__init__" = some (some (.ref 35)) := by k_dflt k_is
  have n1 : h.Ns 50 (h.nsMap 50) := .of_isNs (isNs_of_in X a1)
  have n2 : h.Ns 37 (h.nsMap 37) := .of_isNs (isNs_of_in X a2)
  exact ⟨⟨_, n1, ns_none_of X n1 b1⟩, _, n2, ns_some X n2 b2⟩
end
-- part Ini
section
abbrev feObj (t : Addr) (dx : Option Addr) : Obj := { cls := .ref 51, dict := dx, data := .fields #[.ref t, .none, .none, .none, .bool false, .none] }
theorem excInit_K {w : World} {A : Around} {E : Value → Shared → Prop} {s : Shared} {h₀ : Heap} {L : Addr} {m : Str → Option Value} {e t0 : Addr} {v : Value} {rest : List (Addr × Obj)} {Q : Value → Shared → Prop}
    (F : Fr h₀ L s.heap m) (X : (hd.heap_39 w.params).In h₀) (N : News h₀ L s.heap ((e, feObj t0 none) :: rest)) (hoff : ∀ p ∈ rest, p.1 ≠ e)
    (h : ∀ t' h', Fr h₀ L h' m → News h₀ L h' ((e, feObj t' none) :: rest) → Q .none { s with heap := h' }) :
    wpAny (model PySem.Challenge.rw_ok0143_01.row.prog w) A (call (.builtin "Exception.__init__") [.ref e, v]) Q E s := by
  obtain ⟨nm, q, bs, hdct, sn, sub, ab, col, dd, k0, k1, k2, k3, k5, hC⟩ := fe_cls w s.heap (X.keeps F.keep)
  obtain ⟨hp, g, d, tk, os⟩ := s
  have he := (N (e, feObj t0 none) (.head _)).1
  refine exc_init PySem.F.excBase_Exception (by decide) hC he rfl rfl (by simp) rfl ?_
  have N1 := N.push F { cls := .type "tuple", data := .seq [v].toArray }
  have F1 := F.push { cls := .type "tuple", data := .seq [v].toArray }
  obtain ⟨F2, N2⟩ := news_upd (pre := [(hp.objs.size, { cls := .type "tuple", data := .seq [v].toArray })]) (o' := feObj hp.objs.size none) (f := Obj.mapFields (·.setIfInBounds 0 (.ref hp.objs.size))) F1 N1
    (fun p hp' => by rw [List.mem_singleton.mp hp']; exact Nat.ne_of_gt (Heap.lt_size he)) hoff rfl rfl
  exact h _ _ F2 fun p hp' => N2 p (List.mem_append_right _ hp')
theorem excStore_K : ∀ {w : World} {A : Around} {E : Value → Shared → Prop} {s : Shared} {h₀ : Heap} {L : Addr} {m : Str → Option Value} {e t0 : Addr} {v : Value} {rest : List (Addr × Obj)} {Q : Unit → Shared → Prop}
    (F : Fr h₀ L s.heap m) (X : (hd.heap_39 w.params).In h₀) (N : News h₀ L s.heap ((e, feObj t0 none) :: rest)) (hoff : ∀ p ∈ rest, p.1 ≠ e)
    (h : ∀ dx h' tk', Fr h₀ L h' m → News h₀ L h' ((e, feObj t0 (some dx)) :: rest) → Q () { s with heap := h', toks := tk' }),
    wpAny (model PySem.Challenge.rw_ok0143_01.row.prog w) A (setAttr (.ref e) (PySem.Str.ofString "message") v) Q E s := by
  intro w A E s h₀ L m e t0 v rest Q F X N hoff h
  have he := N (e, feObj t0 none) (.head _)
  have a1 : findIn (hd.heap_39 w.params) (.ref 51) "__setattr__" = some (some (.builtin "object.__setattr__")) := by k_dflt k_is
  have a2 : mroIn (hd.heap_39 w.params) 51 (.type "object") = some true := by k_dflt k_is
  have a3 : findIn (hd.heap_39 w.params) (.ref 51) "message" = some none := by k_dflt k_is
  refine' exc_store (X.keeps F.keep) he.1 rfl rfl rfl a1 ?c ?hm ?hh a2 a3 ?_
  case c => k_dflt k_is
  case hm => rfl
  case hh => rfl
  intro h' tk' hk ⟨dx, hx⟩
  refine h dx h' tk' ⟨F.ns.at' fun o q => hk _ _ (Ne.symm he.2.1) q, fun b o q => hk b o (fun z => by rw [z, he.2.2] at q; cases q) (F.keep b o q), F.above⟩ fun p hp => ?_
  rcases List.mem_cons.mp hp with rfl | hp
  · exact ⟨hx, he.2⟩
  · exact ⟨hk _ _ (hoff p hp) (N p (.tail _ hp)).1, (N p (.tail _ hp)).2⟩
end
-- part Ini2
section
theorem zfill_Ini2 : ∀ w : World, (hd.heap_39 w.params, PySem.Challenge.rw_ok0143_01.row.prog) = (hd.heap_39 w.params, PySem.Challenge.rw_ok0143_01.row.prog) := by
  k_fill
  w_top off
  intro w
  rfl
theorem meta_Exc : typeOf (.type "Exception") = pure (.type "type") := by first | rfl | kernel_rfl
local macro_rules | `(tactic| walk_at "getMethod type:Exception") => `(tactic| (k_here; refine' method_type ?F ?X ?m (by decide +kernel) ?e ?h ?_; (case F | X => k_asm); (case m => exact meta_Exc); (case e => k_dflt k_is); (case h => k_handed)))
local macro_rules | `(tactic| walk_at "call builtin:Exception.__init__") => `(tactic| (k_here; refine' excInit_K ?F ?X ?N ?o ?_; (case F | X | N => k_asm); (case o => k_all); k_whole; intro t' h' F' N'; (try k_sweep)))
local macro_rules | `(tactic| walk_at "setAttr ref") => `(tactic| (k_here; refine' excStore_K ?F ?X ?N ?o ?_; (case F | X | N => k_asm); (case o => k_all); k_whole; intro dx' h' tk' F' N'; (try k_sweep)))
theorem ini_con : ∀ (w : World) (mean : ExcName → Option Value) (mg mb : Str → Option Value) (dp un : Nat) (gd : Option (List Code)) (hdl : Option Value) (cn : Str) (cs : Scope) (a : Addr) (ccd : Value) (cl : List (Str × Addr)) (outer : List Env) (A₀ : Around) (base h₀ : Heap) (L : Addr) (m : Str → Option Value) (s : Shared) (Q E : Value → Shared → Prop) (e t : Addr) (msg : Str) (tt : Tok) (rest : List (Addr × Obj)),
    Below A₀ base outer h₀ → Fr h₀ L s.heap m → (hd.heap_39 w.params).In h₀ → Top qview (looseW qview lse) mean mg mb h₀ → cs.kind = .function → News h₀ L s.heap ((e, feObj t none) :: rest) → OwnOff rest [e] →
    dp + 2 < recursionLimit → un + 16 < cLine →
    (∀ dx t' h' tk', Fr h₀ L h' m → News h₀ L h' ((e, feObj t' (some dx)) :: rest) → Q .none { s with heap := h', toks := tk' }) →
    wpAny (model PySem.Challenge.rw_ok0143_01.row.prog w) (topA hdl dp un gd cn cs L a ccd cl outer) (call (.ref 35) [.ref e, .str msg tt]) Q E s := by
  k_fill; intro w mean mg mb dp un gd hdl cn cs a ccd cl outer A₀ base h₀ L m s Q E
  intro e t msg tt rest B F X T hk N hoff hd1 hu1 hret
  refine wpAny_call ?_
  (first | k_dflt ktr_enter | fail "not entered")
  k_steps
  exact hret _ _ _ _ (by assumption) (by assumption)
end
-- part Raise
section
theorem raise_made {w : World} {A : Around} {E : Value → Shared → Prop} {s : Shared} {env : Env} {x : Sem Value} {Q : Flow → Shared → Prop} (hh : A.handled = none)
    (h : wpAny (model PySem.Challenge.rw_ok0143_01.row.prog w) A x (fun v s₁ => ∃ e oe vs, v = .ref e ∧ (hd.heap_39 w.params).In s₁.heap ∧ s₁.heap.get? e = some oe ∧ oe.cls = .ref 51 ∧ oe.data = .fields vs ∧ vs[1]? = some .none ∧ E (.ref e) s₁) E s) :
    wpAny (model PySem.Challenge.rw_ok0143_01.row.prog w) A (raiseStmt env (some x) none) Q E s := by
  unfold raiseStmt
  refine wpAny_bind (wpAny_mono h (fun v s₁ h₁ => ?_) fun _ _ x => x)
  obtain ⟨e, oe, vs, rfl, X, he, hc, hd, h1, hE⟩ := h₁
  obtain ⟨nm, q, bs, hdct, sn, sub, ab, col, dd, k0, k1, k2, k3, k5, hC⟩ := fe_cls w s₁.heap X
  obtain ⟨hp, g, d, tk, os⟩ := s₁
  have hcB : ([Value.ref 51, Value.ref 38, Value.type "Exception", Value.type "BaseException", Value.type "object"] : List Value).contains (.type "BaseException") = true := by decide
  repeat (first | (with_reducible refine wpAny_loadPart_at he ?_; try rw [hc]) | with_reducible refine wpAny_loadPart_at hC ?_ | (with_reducible refine wpAny_isSubtype_exc hC ?_; rw [hcB]) | wp_step)
  rw [hd]
  refine wpAny_pure ?_
  rw [h1]
  refine wpAny_pure ?_
  rw [if_neg (by decide)]
  exact wpAny_pure (wpAny_raiseNew_none hh hE)
theorem Raise_fe {w : World} {A : Around} {E : Value → Shared → Prop} {s : Shared} {env : Env} {x : PySem.Expr} {pos : Pos} {Q : Flow → Shared → Prop} (hh : A.handled = none)
    (h : wpAny (model PySem.Challenge.rw_ok0143_01.row.prog w) A (eval x env) (fun v s₁ => ∃ e oe vs, v = .ref e ∧ (hd.heap_39 w.params).In s₁.heap ∧ s₁.heap.get? e = some oe ∧ oe.cls = .ref 51 ∧ oe.data = .fields vs ∧ vs[1]? = some .none ∧ E (.ref e) s₁) E s) :
    wpAny (model PySem.Challenge.rw_ok0143_01.row.prog w) A (exec (.Raise (some x) none pos) env) Q E s := by
  rw [arm_exec_Raise]
  exact wpAny_bind (wpAny_standAt (raise_made hh (wpAny_bind (wpAny_mono h (fun v s₁ h₁ => wpAny_bind (wpAny_standAt (wpAny_pure h₁))) fun _ _ x => x))))
theorem fe_make : ∀ (w : World) (mean : ExcName → Option Value) (mg mb : Str → Option Value) (dp un : Nat) (gd : Option (List Code)) (hdl : Option Value) (cn : Str) (cs : Scope) (a : Addr) (ccd : Value) (cl : List (Str × Addr)) (outer : List Env) (A₀ : Around) (base h₀ : Heap) (L : Addr) (m : Str → Option Value) (s : Shared) (Q E : Value → Shared → Prop) (msg : Str) (tt : Tok) (news : List (Addr × Obj)),
    Below A₀ base outer h₀ → Fr h₀ L s.heap m → (hd.heap_39 w.params).In h₀ → Top qview (looseW qview lse) mean mg mb h₀ → cs.kind = .function → News h₀ L s.heap news → dp + 3 < recursionLimit → un + 24 < cLine →
    (∀ e dx t' h' tk', Fr h₀ L h' m → News h₀ L h' ((e, feObj t' (some dx)) :: news) → (∀ p ∈ news, p.1 < e) → Q (.ref e) { s with heap := h', toks := tk' }) →
    wpAny (model PySem.Challenge.rw_ok0143_01.row.prog w) (topA hdl dp un gd cn cs L a ccd cl outer) (call (.ref 51) [.str msg tt]) Q E s := by
  k_fill; intro w mean mg mb dp un gd hdl cn cs a ccd cl outer A₀ base h₀ L m s Q E
  intro msg tt news B F X T hk N hd1 hu1 hret
  obtain ⟨nm, q, bs, hdct, sn, sub, ab, col, dd, k0, k1, k2, k3, k5, hC⟩ := fe_cls w s.heap (X.keeps F.keep)
  obtain ⟨oP, cdP, oI, hP, hPd, hPn, hI, hIc⟩ := fe_base w s.heap (X.keeps F.keep)
  obtain ⟨⟨mN, hN, hN0⟩, mP, hnP, hP0⟩ := fe_ns w s.heap (X.keeps F.keep)
  obtain ⟨hp, g, d, tk, os⟩ := s
  refine exc_call PySem.F.excBase_Exception hC (by decide) (by decide) (by decide) hN hN0 hP hPd (hPn ▸ hnP) hP0 hI hIc ?_
  have N1 := N.push F { cls := .type "tuple", data := .seq [Value.str msg tt].toArray }
  have F1 := F.push { cls := .type "tuple", data := .seq [Value.str msg tt].toArray }
  have N2 := N1.push F1 (feObj hp.objs.size none)
  have F2 := F1.push (feObj hp.objs.size none)
  have l : ∀ p ∈ news, p.1 < hp.objs.size + 1 := fun p hp' => Nat.lt_succ_of_lt (Heap.lt_size (N p hp').1)
  rw [Heap.size_push] at N2
  refine ini_con w mean mg mb _ _ _ _ _ _ _ _ _ _ A₀ base h₀ L m _ _ _ (hp.objs.size + 1) hp.objs.size msg tt news B F2 X T hk (fun p hp' => N2 p ?_) ?_ ?_ ?_ fun dx t' h' tk' F' N' => ⟨rfl, hret _ dx t' h' tk' F' N' l⟩
  · rcases List.mem_cons.mp hp' with rfl | hp'
    · exact .head _
    · exact .tail _ (.tail _ hp')
  · intro p hp' b hb
    rw [List.mem_singleton.mp hb]
    exact Nat.ne_of_lt (l p hp')
  · show dp + 1 + 2 < recursionLimit
    omega
  · show un + _ + 16 < cLine
    first | (show un + 0 + 16 < cLine; omega) | (show un + 1 + 16 < cLine; omega) | (show un + 2 + 16 < cLine; omega) | (show un + 3 + 16 < cLine; omega) | (show un + 4 + 16 < cLine; omega)
end
-- part Caught
section
def RaisedX (base : Heap) (l : List Env) (e : Addr) (news : List (Addr × Obj)) (h : Heap) : Prop :=
  ∃ B, base.StaysIn B ∧ (∀ q ∈ news, B.get? q.1 = some q.2 ∧ base.get? q.1 = none) ∧ FlyX B l e 51 .none h
theorem RaisedX.less {base h : Heap} {l : List Env} {e : Addr} {news news' : List (Addr × Obj)} (R : RaisedX base l e news h) (hs : ∀ p ∈ news', p ∈ news) : RaisedX base l e news' h :=
  let ⟨B, a, b, c⟩ := R; ⟨B, a, fun q hq => b q (hs q hq), c⟩
section
variable {M : Model} {A : Around} {E : Value → Shared → Prop} {s' : Shared} {base g g₂ : Heap} {outer : List Env} {L a e : Addr} {m : Str → Option Value} {name : Str} {scope : Scope} {cd : Value} {Q : Unit → Shared → Prop} {news : List (Addr × Obj)}
theorem leave_raiseX {t : Addr} {dx : Option Addr} (K : Below A base outer g) (F : Fr g L s'.heap m) (N : News g L s'.heap ((e, feObj t dx) :: news)) (hne : ∀ p ∈ news, p.1 ≠ e)
    (hQ : ∀ h', RaisedX base outer e news h' → g.UpToSlots h' → Q () { s' with heap := h' }) (hk : scope.kind = .function := by rfl) :
    wpAny M (A.deeper (envOf name scope L a cd)) (leaving (envOf name scope L a cd) (.ref e)) Q E s' := by
  have K' := K.push (name := name) (a := a) (cd := cd) F hk
  have he := N (e, feObj t dx) (.head _)
  have hb : base.get? e = none := fresh_of_stays K.stays he.2.2
  have nf : ∀ q ∈ news, ∀ (hm : q.1 ∈ (envOf name scope L a cd :: outer).filterMap (·.frame)), False := fun q hq hm => by
    obtain ⟨env, hev, hf⟩ := List.mem_filterMap.mp hm
    rcases List.mem_cons.mp hev with rfl | hev
    · exact (N q (.tail _ hq)).2.1 (Option.some.inj hf).symm
    · obtain ⟨o, ho, _⟩ := (K.frames.mem (List.mem_filterMap.mpr ⟨env, hev, hf⟩)).2
      rw [(N q (.tail _ hq)).2.2] at ho; cases ho
  have st : base.StaysIn (hideAll s'.heap (e :: (envOf name scope L a cd :: outer).filterMap (·.frame))) := fun b o q => hideAll_get _ (K'.stays b o q) fun hm => by
    rcases List.mem_cons.mp hm with z | hm
    · rw [z, hb] at q; cases q
    · rw [(K'.frames.mem hm).1] at q; cases q
  have hl : ∀ q ∈ news, (hideAll s'.heap (e :: (envOf name scope L a cd :: outer).filterMap (·.frame))).get? q.1 = some q.2 ∧ base.get? q.1 = none := fun q hq => by
    refine ⟨hideAll_get _ (N q (.tail _ hq)).1 fun hm => ?_, fresh_of_stays K.stays (N q (.tail _ hq)).2.2⟩
    rcases List.mem_cons.mp hm with z | hm
    · exact hne q hq z
    · exact nf q hq hm
  exact leaves_firstX K'.stack (funFrames_hide K'.frames fun env hev b hb => .tail _ (List.mem_filterMap.mpr ⟨env, hev, hb⟩)) rfl he.1 rfl (fun b o q => of_hideAll _ q) (hideAll_none _ (.head _)) rfl rfl rfl
    fun h' x1 x2 => hQ h' ⟨_, st, hl, x1⟩ ((Heap.UpToSlots.of_keeps F.keep).trans x2)

theorem leave_onX (K : Below A base outer g) (F : Fr g L g₂ m) (R : RaisedX base (envOf name scope L a cd :: outer) e news s'.heap) (hsm : g₂.UpToSlots s'.heap)
    (hQ : ∀ h', RaisedX base outer e news h' → g.UpToSlots h' → Q () { s' with heap := h' }) :
    wpAny M (A.deeper (envOf name scope L a cd)) (leaving (envOf name scope L a cd) (.ref e)) Q E s' := by
  obtain ⟨B, hB, hl, hfl⟩ := R
  exact leaves_onX (Around.frames_deeper K.stack) rfl hfl fun h' x1 x2 => hQ h' ⟨B, hB, hl, x1⟩ ((Heap.UpToSlots.of_keeps F.keep).trans (hsm.trans x2))
end
theorem funFrames_base' {base B h : Heap} (k : base.StaysIn B) {l : List Env} (x : h.FunFrames B l) : h.FunFrames base l := funFrames_base k x

section
variable {w : World} {A₀ : Around} {E : Value → Shared → Prop} {s' : Shared} {h₀ g₂ : Heap} {outer : List Env} {L a e : Addr} {m : Str → Option Value} {name : Str} {scope : Scope} {cd : Value}
  {b₀ : Stmt} {suite : List Stmt} {pos np : Pos} {rest : List ExceptHandler} {Q : Flow → Shared → Prop} {news : List (Addr × Obj)}
  {p : Program} {loose : List Str} {mean : ExcName → Option Value} {mg mb : Str → Option Value} {x : Str}
theorem caught_X (K : Below A₀ h₀ outer h₀) (F : Fr h₀ L g₂ m) (hsm : g₂.UpToSlots s'.heap) (R : RaisedX h₀ (envOf name scope L a cd :: outer) e news s'.heap)
    (X : (hd.heap_39 w.params).In h₀) (T : TopRead p loose mg mb h₀) (ex : nsIn (hd.heap_39 w.params) mainGlobals x = some (some (.ref 51)))
    (k : ∀ h' oe vs, Fr h₀ L h' m → News h₀ L h' ((e, oe) :: news) → oe.cls = .ref 51 → oe.data = .fields vs → vs[2]? = some .none → (∀ p ∈ news, p.1 ≠ e) →
      wpAny (model PySem.Challenge.rw_ok0143_01.row.prog w) ((A₀.deeper (envOf name scope L a cd)).mark (some (.ref e))) (execs (b₀ :: suite) (envOf name scope L a cd)) Q E { s' with heap := h' })
    (hk : scope.kind = .function := by rfl) (hx : (envOf name scope L a cd).kindOf x = some .globalImplicit := by rfl) (hd : (x == ("__debug__" : Str)) = false := by decide)
    (hE : PassesOwnAt (model PySem.Challenge.rw_ok0143_01.row.prog w) ((A₀.deeper (envOf name scope L a cd)).mark (some (.ref e))) (A₀.deeper (envOf name scope L a cd)) (envOf name scope L a cd) E := by passes_own) :
    wpAny (model PySem.Challenge.rw_ok0143_01.row.prog w) (A₀.deeper (envOf name scope L a cd)) (noteFrame (.ref e) (envOf name scope L a cd))
      (fun _ s₂ => wpAny (model PySem.Challenge.rw_ok0143_01.row.prog w) (A₀.deeper (envOf name scope L a cd)) (setFlight (.ref e) none) (fun _ s₃ =>
        wpAny (model PySem.Challenge.rw_ok0143_01.row.prog w) (A₀.deeper (envOf name scope L a cd)) (handleBy (.ref e) (envOf name scope L a cd) (.ExceptHandler (some (.Name x np)) none (b₀ :: suite) pos :: rest)) Q E s₃) E s₂) E s' := by
  obtain ⟨B, hB, hl, hfl⟩ := R
  have hL : B.get? L = none := by
    obtain ⟨_, ⟨L', _, hf, hn', _⟩, _⟩ := hfl.2.2.1
    obtain rfl : L = L' := Option.some.inj hf
    exact hn'
  have hBe := hfl.2.1
  refine noteX (Around.frames_deeper K.stack) rfl hfl fun h₄ hheld₄ hsm₄ => ?_
  refine landX hheld₄ fun h₅ hheld hsm₅' => ?_
  have hsm₅ := hsm₄.trans hsm₅'
  have st₅ : h₀.StaysIn h₅ := fun b o q => hheld.1 b o (hB b o q)
  have F₅ := F.of_stays st₅ (hsm.trans hsm₅)
  obtain ⟨ob, vb, hob, hobc, _⟩ := hheld.there
  refine wpAny_handleBy_cons (codeAny_handlers_test (name_K F₅ X T ex ?_ hk hx hd)) (by intro q; cases q)
  obtain ⟨nm, q, bs, hdct, sn, sub, ab, col, dd, k0, k1, k2, k3, k5, hC⟩ := fe_cls w h₅ (X.keeps st₅)
  refine wpAny_excMatches_sub_self hC hob hobc (by decide) (codeAny_handlers_suite ?_)
  refine landX hheld fun h₆ hfl₆ hsm₆ => ?_
  have st₆ : h₀.StaysIn h₆ := fun b o q => hfl₆.1 b o (hB b o q)
  have F₆ := F.of_stays st₆ ((hsm.trans hsm₅).trans hsm₆)
  obtain ⟨oe, ws, hoe, hoec, hoed, hoe2⟩ := hfl₆.there
  have ne : ∀ q ∈ news, q.1 ≠ e := fun q hq z => by have := (hl q hq).1; rw [z, hBe] at this; cases this
  refine wpAny_passesOwnAt hE (k h₆ oe ws F₆ (fun q hq => ?_) hoec hoed hoe2 ne)
  rcases List.mem_cons.mp hq with rfl | hq
  · refine ⟨hoe, fun z => ?_, fresh_of_stays hB hBe⟩
    obtain ⟨o, es, ep, ho, hd', _⟩ := F₆.ns
    dsimp only at z
    rw [← z, hoe] at ho
    cases ho
    rw [hoed] at hd'
    cases hd'
  · exact ⟨hfl₆.1 _ _ (hl q hq).1, (fun z => by have := (hl q hq).1; rw [z, hL] at this; cases this), (hl q hq).2⟩
end
end
-- part Rai
section
theorem fe_use {w : World} {mean : ExcName → Option Value} {mg mb : Str → Option Value} {dp un : Nat} {gd : Option (List Code)} {hdl : Option Value} {cn : Str} {cs : Scope} {a : Addr} {ccd : Value} {cl : List (Str × Addr)} {outer : List Env} {A₀ : Around} {base h₀ : Heap} {L : Addr} {m : Str → Option Value} {s : Shared} {E E' : Value → Shared → Prop}
    {msg : Str} {tt : Tok} {news : List (Addr × Obj)}
    (B : Below A₀ base outer h₀) (F : Fr h₀ L s.heap m) (X : (hd.heap_39 w.params).In h₀) (T : Top qview (looseW qview lse) mean mg mb h₀) (hk : cs.kind = .function) (N : News h₀ L s.heap news) (hd1 : dp + 3 < recursionLimit) (hu1 : un + 24 < cLine)
    (hret : ∀ e dx t' h' tk', Fr h₀ L h' m → News h₀ L h' ((e, feObj t' (some dx)) :: news) → (∀ p ∈ news, p.1 ≠ e) → E' (.ref e) { s with heap := h', toks := tk' }) :
    wpAny (model PySem.Challenge.rw_ok0143_01.row.prog w) (topA hdl dp un gd cn cs L a ccd cl outer) (call (.ref 51) [.str msg tt]) (fun v s₁ => ∃ e oe vs, v = .ref e ∧ (hd.heap_39 w.params).In s₁.heap ∧ s₁.heap.get? e = some oe ∧ oe.cls = .ref 51 ∧ oe.data = .fields vs ∧ vs[1]? = some .none ∧ E' (.ref e) s₁) E s :=
  fe_make w mean mg mb dp un gd hdl cn cs a ccd cl outer A₀ base h₀ L m s _ E msg tt news B F X T hk N hd1 hu1
    fun e dx t' h' tk' F' N' l => ⟨e, _, _, rfl, X.keeps F'.keep, (N' _ (.head _)).1, rfl, rfl, rfl, hret e dx t' h' tk' F' N' fun p hp => Nat.ne_of_lt (l p hp)⟩
abbrev ErrC (base h₀ : Heap) (L : Addr) (m : Str → Option Value) (l : List Env) (news : List (Addr × Obj)) (s : Shared) (E : Value → Shared → Prop) : Prop :=
  ∀ e h' tk' g₂, RaisedX base l e news h' → Fr h₀ L g₂ m → g₂.UpToSlots h' → E (.ref e) { s with heap := h', toks := tk' }
end
section
local macro_rules | `(tactic| k_mem) => `(tactic| assumption)
local macro_rules | `(tactic| k_all) => `(tactic| exact off_lt (by first | exact And.right (by assumption) | exact And.right (And.right (by assumption)) | exact And.right (And.right (And.right (by assumption))) | exact And.right (And.right (And.right (And.right (by assumption)))) | exact And.right (And.right (And.right (And.right (And.right (by assumption))))) | exact And.right (And.right (And.right (And.right (And.right (And.right (by assumption)))))) | exact And.right (And.right (And.right (And.right (And.right (And.right (And.right (by assumption))))))) | exact And.right (And.right (And.right (And.right (And.right (And.right (And.right (And.right (by assumption)))))))) | exact And.right (And.right (And.right (And.right (And.right (And.right (And.right (And.right (And.right (by assumption)))))))))))
local macro_rules | `(tactic| k_all) => `(tactic| exact off_lt (by assumption))
local macro_rules | `(tactic| walk_at "PULL") => `(tactic| first | (refine' Pull.head ?a; (case a => k_all)) | (refine' Pull.tail ?a ?b; (case a => k_ne); (case b => walk_at "PULL")))
local macro_rules | `(tactic| walk_at "call ref") => `(tactic| (k_here; (with_reducible show wpAny _ _ (call (Value.ref 318) [Value.ref _, Value.int _ _]) _ _ _); k_dflt (refine' take_use ?B ?F ?X ?T ?hk ?N ?P ?a1 ?a2 ?a3 ?a4 ?a5 ?d1 ?u1 ?_; (case B | F | X | T => k_asm); (case hk => first | exact rfl | assumption); (case N => k_asm); (case P => walk_at "PULL"); (case a1 | a2 | a3 | a4 | a5 => omega); (case d1 => ktr_room); (case u1 => ktr_units); k_whole; intro v' tv' x' y' tx' ty' n' h' tk' b1' b2' b3' b4' b5' F' N' o'; (try k_sweep))))
local macro_rules | `(tactic| walk_at "call builtin:len") => `(tactic| (k_here; (with_reducible show wpAny _ _ (call (Value.builtin "len") [Value.ref _]) _ _ _); k_dflt (refine' len_mem ?N ?M ?z ?_; (case N => k_asm); (case M => k_mem); (case z => omega); k_whole; intro n' en')))
local macro_rules | `(tactic| walk_at "subscriptTail") => `(tactic| (k_here; (with_reducible show wpAny _ _ (subscriptTail _ _ (Value.ref _) (Value.int _ _)) _ _ _); k_dflt (refine' item_mem ?N ?M ?z ?a ?b ?_ ?hs; (case N => k_asm); (case M => k_mem); (case z | a | b => omega); (case hs => with_unfolding_all rfl); k_whole; intro v' hv')))
-- part Krow
section
theorem zfill_Krow : ∀ w : World, (hd.heap_39 w.params, PySem.Challenge.rw_ok0143_01.row.prog) = (hd.heap_39 w.params, PySem.Challenge.rw_ok0143_01.row.prog) := by
  k_fill
  w_top off
  intro w
  rfl
local macro_rules | `(tactic| walk_at "exec For Name Name") => `(tactic| (k_here; (rename Fr _ _ _ _ => lF'); (with_unfolding_all refine' For_turns lF' ?_); k_whole))
theorem unrEnd1 {h₀ : Heap} {L I : Addr} {o : Obj} {rest : (Str → Option Value) → List (Addr × Obj) → Prop} {s₁ : Shared} {h' : Heap} {tk : Nat} {m' : Str → Option Value} {news : List (Addr × Obj)} (F : Fr h₀ L h' m') (N : News h₀ L h' ((I, o) :: news))
    (hl : ∀ p ∈ news, p.1 < I) (r : rest m' news) : UnrEndW h₀ L s₁ [(I, o)] rest { s₁ with heap := h', toks := tk } :=
  ⟨h', tk, m', news, rfl, F, N, fun p hp q hq => by rw [List.mem_singleton.mp hq]; exact Nat.ne_of_lt (hl p hp), r⟩
local macro_rules | `(tactic| walk_at "UnrEndW") => `(tactic| k_dflt (refine' unrEnd1 ?F ?N ?l ⟨?S, ?_⟩; (case F | N => k_asm); (case l => assumption); (case S => first | trivial | constructor)))
def kndOk (x : Str) : Prop := x = PySem.Str.ofString "baseline" ∨ x = PySem.Str.ofString "extended" ∨ x = PySem.Str.ofString "progressive" ∨ x = PySem.Str.ofString "arith" ∨ x = PySem.Str.ofString "arith progressive"
noncomputable def precsOf (x : Str) : List Int := if x = PySem.Str.ofString "baseline" then [8] else [8, 12]
theorem precs_base : precsOf (PySem.Str.ofString "baseline") = [8] := if_pos rfl
theorem precs_other {x : Str} (h : x ≠ PySem.Str.ofString "baseline") : precsOf x = [8, 12] := if_neg h
theorem row67 : ∀ (w : World) (h : Heap), (hd.heap_39 w.params).In h → ∃ p x1 x2 vs, IsTup h 67 #[x1, x2, .ref p] ∧ IsTup h p vs.toArray ∧ IntsAre vs (precsOf (PySem.Str.ofString "baseline")) := by
  intro w h X
  exact ⟨66, _, _, [.int 8 261], ⟨_, X _ _ (by k_dflt k_is), rfl, _, rfl⟩, ⟨_, X _ _ (by k_dflt k_is), rfl, _, rfl⟩, by rw [precs_base]; repeat constructor⟩
theorem row69 : ∀ (w : World) (h : Heap), (hd.heap_39 w.params).In h → ∃ p x1 x2 vs, IsTup h 69 #[x1, x2, .ref p] ∧ IsTup h p vs.toArray ∧ IntsAre vs (precsOf (PySem.Str.ofString "extended")) := by
  intro w h X
  exact ⟨68, _, _, [.int 8 264, .int 12 265], ⟨_, X _ _ (by k_dflt k_is), rfl, _, rfl⟩, ⟨_, X _ _ (by k_dflt k_is), rfl, _, rfl⟩, by rw [precs_other (by decide +kernel)]; repeat constructor⟩
theorem row71 : ∀ (w : World) (h : Heap), (hd.heap_39 w.params).In h → ∃ p x1 x2 vs, IsTup h 71 #[x1, x2, .ref p] ∧ IsTup h p vs.toArray ∧ IntsAre vs (precsOf (PySem.Str.ofString "progressive")) := by
  intro w h X
  exact ⟨70, _, _, [.int 8 268, .int 12 269], ⟨_, X _ _ (by k_dflt k_is), rfl, _, rfl⟩, ⟨_, X _ _ (by k_dflt k_is), rfl, _, rfl⟩, by rw [precs_other (by decide +kernel)]; repeat constructor⟩
theorem row75 : ∀ (w : World) (h : Heap), (hd.heap_39 w.params).In h → ∃ p x1 x2 vs, IsTup h 75 #[x1, x2, .ref p] ∧ IsTup h p vs.toArray ∧ IntsAre vs (precsOf (PySem.Str.ofString "arith")) := by
  intro w h X
  exact ⟨74, _, _, [.int 8 289, .int 12 290], ⟨_, X _ _ (by k_dflt k_is), rfl, _, rfl⟩, ⟨_, X _ _ (by k_dflt k_is), rfl, _, rfl⟩, by rw [precs_other (by decide +kernel)]; repeat constructor⟩
theorem row77 : ∀ (w : World) (h : Heap), (hd.heap_39 w.params).In h → ∃ p x1 x2 vs, IsTup h 77 #[x1, x2, .ref p] ∧ IsTup h p vs.toArray ∧ IntsAre vs (precsOf (PySem.Str.ofString "arith progressive")) := by
  intro w h X
  exact ⟨76, _, _, [.int 8 293, .int 12 294], ⟨_, X _ _ (by k_dflt k_is), rfl, _, rfl⟩, ⟨_, X _ _ (by k_dflt k_is), rfl, _, rfl⟩, by rw [precs_other (by decide +kernel)]; repeat constructor⟩
theorem knd_ll : ¬ kndOk (PySem.Str.ofString "lossless") := by
  rintro (h | h | h | h | h) <;> exact absurd h (by decide +kernel)
theorem krow_con : ∀ (w : World) (mean : ExcName → Option Value) (mg mb : Str → Option Value) (dp un : Nat) (gd : Option (List Code)) (hdl : Option Value) (cn : Str) (cs : Scope) (a : Addr) (ccd : Value) (cl : List (Str × Addr)) (outer : List Env) (A₀ : Around) (base h₀ : Heap) (L : Addr) (m : Str → Option Value) (s : Shared) (Q E : Value → Shared → Prop) (x : Str) (tx : Tok) (news : List (Addr × Obj)),
    Below A₀ base outer h₀ → Fr h₀ L s.heap m → (hd.heap_39 w.params).In h₀ → Top qview (looseW qview lse) mean mg mb h₀ → cs.kind = .function → News h₀ L s.heap news → kndOk x → hdl = none → dp + 2 < recursionLimit → un + 16 < cLine →
    (∀ (r p : Addr) (x1 x2 : Value) (vs : List Value) h' tk', IsTup h₀ r #[x1, x2, .ref p] → IsTup h₀ p vs.toArray → IntsAre vs (precsOf x) → Fr h₀ L h' m → News h₀ L h' news → Q (.ref r) { s with heap := h', toks := tk' }) →
    wpAny (model PySem.Challenge.rw_ok0143_01.row.prog w) (topA hdl dp un gd cn cs L a ccd cl outer) (call (.ref 179) [.str x tx]) Q E s := by
  k_fill; intro w mean mg mb dp un gd hdl cn cs a ccd cl outer A₀ base h₀ L m s Q E
  intro x tx news B F X T hk N hm hh hd1 hu1 hret
  subst hh
  refine wpAny_call ?_
  (first | k_dflt ktr_enter | fail "not entered")
  k_steps
  · rename (PySem.Str.ofString "baseline" == x) = true => e1
    rename_i kF kN Tc kX
    obtain rfl := eq_of_beq e1
    obtain ⟨p, x1, x2, vs, r1, r2, r3⟩ := row67 w _ X
    exact hret _ p x1 x2 vs _ _ r1 r2 r3 kF fun q hq => by first | exact kN q hq | exact kN q (.tail _ hq)
  · rename (PySem.Str.ofString "extended" == x) = true => e1
    rename_i kF kN Tc kX
    obtain rfl := eq_of_beq e1
    obtain ⟨p, x1, x2, vs, r1, r2, r3⟩ := row69 w _ X
    exact hret _ p x1 x2 vs _ _ r1 r2 r3 kF fun q hq => by first | exact kN q hq | exact kN q (.tail _ hq)
  · rename (PySem.Str.ofString "progressive" == x) = true => e1
    rename_i kF kN Tc kX
    obtain rfl := eq_of_beq e1
    obtain ⟨p, x1, x2, vs, r1, r2, r3⟩ := row71 w _ X
    exact hret _ p x1 x2 vs _ _ r1 r2 r3 kF fun q hq => by first | exact kN q hq | exact kN q (.tail _ hq)
  · rename (PySem.Str.ofString "lossless" == x) = true => e1
    exact absurd hm (by rw [← eq_of_beq e1]; exact knd_ll)
  · rename (PySem.Str.ofString "arith" == x) = true => e1
    rename_i kF kN Tc kX
    obtain rfl := eq_of_beq e1
    obtain ⟨p, x1, x2, vs, r1, r2, r3⟩ := row75 w _ X
    exact hret _ p x1 x2 vs _ _ r1 r2 r3 kF fun q hq => by first | exact kN q hq | exact kN q (.tail _ hq)
  · rename (PySem.Str.ofString "arith progressive" == x) = true => e1
    rename_i kF kN Tc kX
    obtain rfl := eq_of_beq e1
    obtain ⟨p, x1, x2, vs, r1, r2, r3⟩ := row77 w _ X
    exact hret _ p x1 x2 vs _ _ r1 r2 r3 kF fun q hq => by first | exact kN q hq | exact kN q (.tail _ hq)
  · exfalso
    rcases hm with rfl | rfl | rfl | rfl | rfl
    · rename (PySem.Str.ofString "baseline" == PySem.Str.ofString "baseline") = false => e1
      rw [beq_self_eq_true] at e1
      cases e1
    · rename (PySem.Str.ofString "extended" == PySem.Str.ofString "extended") = false => e1
      rw [beq_self_eq_true] at e1
      cases e1
    · rename (PySem.Str.ofString "progressive" == PySem.Str.ofString "progressive") = false => e1
      rw [beq_self_eq_true] at e1
      cases e1
    · rename (PySem.Str.ofString "arith" == PySem.Str.ofString "arith") = false => e1
      rw [beq_self_eq_true] at e1
      cases e1
    · rename (PySem.Str.ofString "arith progressive" == PySem.Str.ofString "arith progressive") = false => e1
      rw [beq_self_eq_true] at e1
      cases e1
end
-- part Pool
section
theorem zfill_Pool : ∀ w : World, (hd.heap_39 w.params, PySem.Challenge.rw_ok0143_01.row.prog) = (hd.heap_39 w.params, PySem.Challenge.rw_ok0143_01.row.prog) := by
  k_fill
  w_top off
  intro w
  rfl
theorem mulX {a b : Int} (h : -(2 ^ 64) < a ∧ a < 2 ^ 64) : IntMulOk a b := IntMulOk.of_left (intBits_le_64 h.1 h.2)
local macro_rules | `(tactic| walk_at "binaryOp Mult int int") => `(tactic| (k_here; refine mul_int ?_ (mulX (by omega))))
theorem big_nn (c : Int) : 0 ≤ (if -1 - c > c then -1 - c else c) := by split <;> omega
theorem pool_con : ∀ (w : World) (mean : ExcName → Option Value) (mg mb : Str → Option Value) (dp un : Nat) (gd : Option (List Code)) (hdl : Option Value) (cn : Str) (cs : Scope) (a : Addr) (ccd : Value) (cl : List (Str × Addr)) (outer : List Env) (A₀ : Around) (base h₀ : Heap) (L : Addr) (m : Str → Option Value) (s : Shared) (Q E : Value → Shared → Prop) (sc : Addr) (vs : List Value) (ks : List Int) (k : Int) (tk0 : Tok) (news : List (Addr × Obj)),
    Below A₀ base outer h₀ → Fr h₀ L s.heap m → (hd.heap_39 w.params).In h₀ → Top qview (looseW qview lse) mean mg mb h₀ → cs.kind = .function → News h₀ L s.heap news → h₀.IsList sc vs.toArray → IntsAre vs ks → ¬ ((63 : Nat) : Int) < (ks.length : Int) → (k = 0 ∨ k = 1) → hdl = none → dp + 2 < recursionLimit → un + 16 < cLine →
    (∀ (src : Addr) (x y : Int) (tx ty : Tok) (n : Nat) h' tk', 0 ≤ x → 0 ≤ y → y < 2147483647 → Fr h₀ L h' m → News h₀ L h' ((src, W.listOf #[.int x tx, .int y ty] n) :: news) → (∀ p ∈ news, p.1 ≠ src) → Q (.ref src) { s with heap := h', toks := tk' }) →
    wpAny (model PySem.Challenge.rw_ok0143_01.row.prog w) (topA hdl dp un gd cn cs L a ccd cl outer) (call (.ref 311) [.ref sc, .int k tk0]) Q E s := by
  k_fill; intro w mean mg mb dp un gd hdl cn cs a ccd cl outer A₀ base h₀ L m s Q E
  intro sc vs ks k tk0 news B F X T hk N hL hI hlen hkk hh hd1 hu1 hret
  subst hh
  refine wpAny_call ?_
  (first | k_dflt ktr_enter | fail "not entered")
  rename_i g1 L1 h1 FG F1 N1 B1 X1 T1
  have hLg : g1.IsList sc vs.toArray := (let ⟨o, ho, hr⟩ := hL; ⟨o, FG.keep _ _ ho, hr⟩)
  k_steps
  all_goals rename_i l1 kF kN Tc kX
  all_goals refine hret _ _ _ _ _ _ _ _ ?_ (fmod_small _ (by decide)).1 (fmod_small _ (by decide)).2 kF kN fun p hp => Nat.ne_of_lt (l1 p hp)
  all_goals exact Int.mul_nonneg (big_nn _) (by split <;> omega)
end
-- part One
section
theorem zfill_One : ∀ w : World, (hd.heap_39 w.params, PySem.Challenge.rw_ok0143_01.row.prog) = (hd.heap_39 w.params, PySem.Challenge.rw_ok0143_01.row.prog) := by
  k_fill
  w_top off
  intro w
  rfl
theorem one_con : ∀ (w : World) (mean : ExcName → Option Value) (mg mb : Str → Option Value) (dp un : Nat) (gd : Option (List Code)) (hdl : Option Value) (cn : Str) (cs : Scope) (a : Addr) (ccd : Value) (cl : List (Str × Addr)) (outer : List Env) (A₀ : Around) (base h₀ : Heap) (L : Addr) (m : Str → Option Value) (s : Shared) (Q E : Value → Shared → Prop) (src l : Addr) (x y : Int) (tx ty : Tok) (n k : Nat) (vs : List Value) (rest : List (Addr × Obj)),
    Below A₀ base outer h₀ → Fr h₀ L s.heap m → (hd.heap_39 w.params).In h₀ → Top qview (looseW qview lse) mean mg mb h₀ → cs.kind = .function → News h₀ L s.heap ((src, W.listOf #[.int x tx, .int y ty] n) :: rest) → OwnOff rest [src] → (l, W.listOf vs.toArray k) ∈ rest → 0 < vs.length → vs.length < 100 →
    0 ≤ x → 0 ≤ y → y < 2147483647 → dp + 2 < recursionLimit → un + 16 < cLine →
    (∀ (v : Value) (x' y' : Int) (tx' ty' : Tok) (n' : Nat) h' tk', v ∈ vs → 0 ≤ x' → 0 ≤ y' → y' < 2147483647 → Fr h₀ L h' m → News h₀ L h' ((src, W.listOf #[.int x' tx', .int y' ty'] n') :: rest) → Q v { s with heap := h', toks := tk' }) →
    wpAny (model PySem.Challenge.rw_ok0143_01.row.prog w) (topA hdl dp un gd cn cs L a ccd cl outer) (call (.ref 325) [.ref src, .ref l]) Q E s := by
  k_fill; intro w mean mg mb dp un gd hdl cn cs a ccd cl outer A₀ base h₀ L m s Q E
  intro src l x y tx ty n k vs rest B F X T hk N hoff hl hv1 hv2 hx hy hy2 hd1 hu1 hret
  refine wpAny_call ?_
  (first | k_dflt ktr_enter | fail "not entered")
  k_steps
  all_goals (refine' hret _ _ _ _ _ _ _ _ ?m ?a ?b ?c ?F ?N; (case N => assumption); (case F => assumption); (case m => exact List.mem_of_getElem? (by assumption)); all_goals assumption)
theorem one_use {w : World} {mean : ExcName → Option Value} {mg mb : Str → Option Value} {dp un : Nat} {gd : Option (List Code)} {hdl : Option Value} {cn : Str} {cs : Scope} {a : Addr} {ccd : Value} {cl : List (Str × Addr)} {outer : List Env} {A₀ : Around} {base h₀ : Heap} {L : Addr} {m : Str → Option Value} {s : Shared} {Q E : Value → Shared → Prop}
    {src l : Addr} {x y : Int} {tx ty : Tok} {n k : Nat} {vs : List Value} {news rest : List (Addr × Obj)}
    (B : Below A₀ base outer h₀) (F : Fr h₀ L s.heap m) (X : (hd.heap_39 w.params).In h₀) (T : Top qview (looseW qview lse) mean mg mb h₀) (hk : cs.kind = .function) (N : News h₀ L s.heap news) (P : Pull src (W.listOf #[.int x tx, .int y ty] n) news rest) (hl : (l, W.listOf vs.toArray k) ∈ rest)
    (hv1 : 0 < vs.length) (hv2 : vs.length < 100) (hx : 0 ≤ x) (hy : 0 ≤ y) (hy2 : y < 2147483647) (hd1 : dp + 2 < recursionLimit) (hu1 : un + 16 < cLine)
    (hret : ∀ (v : Value) (x' y' : Int) (tx' ty' : Tok) (n' : Nat) h' tk', v ∈ vs → 0 ≤ x' → 0 ≤ y' → y' < 2147483647 → Fr h₀ L h' m → News h₀ L h' ((src, W.listOf #[.int x' tx', .int y' ty'] n') :: rest) → OwnOff rest [src] → Q v { s with heap := h', toks := tk' }) :
    wpAny (model PySem.Challenge.rw_ok0143_01.row.prog w) (topA hdl dp un gd cn cs L a ccd cl outer) (call (.ref 325) [.ref src, .ref l]) Q E s :=
  one_con w mean mg mb dp un gd hdl cn cs a ccd cl outer A₀ base h₀ L m s Q E src l x y tx ty n k vs rest B F X T hk (P.news N) P.off hl hv1 hv2 hx hy hy2 hd1 hu1
    fun v x' y' tx' ty' n' h' tk' a1 a3 a4 a5 F' N' => hret v x' y' tx' ty' n' h' tk' a1 a3 a4 a5 F' N' P.off
end
-- part Slot
section
theorem zfill_Slot : ∀ w : World, (hd.heap_39 w.params, PySem.Challenge.rw_ok0143_01.row.prog) = (hd.heap_39 w.params, PySem.Challenge.rw_ok0143_01.row.prog) := by
  k_fill
  w_top off
  intro w
  rfl
local macro_rules | `(tactic| walk_at "compareOp In int ref") => `(tactic| (k_here; refine' in_tuple_ints ?t ?i ?_; (case t => exact News.isTup (by k_asm) (by k_mem)); (case i => repeat constructor)))
def mdlOk (x : Str) : Prop := x = PySem.Str.ofString "ycc" ∨ x = PySem.Str.ofString "rgb" ∨ x = PySem.Str.ofString "ycck" ∨ x = PySem.Str.ofString "cmyk" ∨ x = PySem.Str.ofString "grey" ∨ x = PySem.Str.ofString "raw"
def slotOf (x : Str) (p : Int) : Int := if (x = PySem.Str.ofString "ycc" ∨ x = PySem.Str.ofString "ycck") ∧ (p = 1 ∨ p = 2) then 1 else 0
theorem slot_yes1 {x : Str} {p : Int} (hx : x = PySem.Str.ofString "ycc" ∨ x = PySem.Str.ofString "ycck") (h : ([1, 2].any fun y => y == p) = true) : slotOf x p = 1 := by
  have : p = 1 ∨ p = 2 := by simp at h; omega
  exact if_pos ⟨hx, this⟩
theorem slot_yes0 {x : Str} {p : Int} (h : ([1, 2].any fun y => y == p) = false) : slotOf x p = 0 := by
  have : ¬ (p = 1 ∨ p = 2) := by simp at h; omega
  exact if_neg fun q => this q.2
theorem slot_no {x : Str} {p : Int} (hx : ¬ (x = PySem.Str.ofString "ycc" ∨ x = PySem.Str.ofString "ycck")) : slotOf x p = 0 := if_neg fun q => hx q.1
theorem slot_con : ∀ (w : World) (mean : ExcName → Option Value) (mg mb : Str → Option Value) (dp un : Nat) (gd : Option (List Code)) (hdl : Option Value) (cn : Str) (cs : Scope) (a : Addr) (ccd : Value) (cl : List (Str × Addr)) (outer : List Env) (A₀ : Around) (base h₀ : Heap) (L : Addr) (m : Str → Option Value) (s : Shared) (Q E : Value → Shared → Prop) (x : Str) (tx : Tok) (p : Int) (tp : Tok) (news : List (Addr × Obj)),
    Below A₀ base outer h₀ → Fr h₀ L s.heap m → (hd.heap_39 w.params).In h₀ → Top qview (looseW qview lse) mean mg mb h₀ → cs.kind = .function → News h₀ L s.heap news → mdlOk x → 0 ≤ p → p < 100 → dp + 2 < recursionLimit → un + 16 < cLine →
    (∀ tv h' tk', Fr h₀ L h' m → News h₀ L h' news → Q (.int (slotOf x p) tv) { s with heap := h', toks := tk' }) →
    wpAny (model PySem.Challenge.rw_ok0143_01.row.prog w) (topA hdl dp un gd cn cs L a ccd cl outer) (call (.ref 203) [.str x tx, .int p tp]) Q E s := by
  k_fill; intro w mean mg mb dp un gd hdl cn cs a ccd cl outer A₀ base h₀ L m s Q E
  intro x tx p tp news B F X T hk N hm hp1 hp2 hd1 hu1 hret
  refine wpAny_call ?_
  (first | k_dflt ktr_enter | fail "not entered")
  rcases hm with rfl | rfl | rfl | rfl | rfl | rfl
  all_goals k_steps
  all_goals rename_i ha kF kN Tc kX
  all_goals first
    | (exfalso; revert ha; simp; done)
    | (simp only [slot_yes1 (.inl rfl) ha] at hret; exact hret _ _ _ kF fun q hq => kN q (.tail _ hq))
    | (simp only [slot_yes1 (.inr rfl) ha] at hret; exact hret _ _ _ kF fun q hq => kN q (.tail _ hq))
    | (simp only [slot_yes0 ha] at hret; exact hret _ _ _ kF fun q hq => kN q (.tail _ hq))
    | (rw [slot_no (by decide +kernel)] at hret; exact hret _ _ _ kF fun q hq => kN q (.tail _ hq))
    | (simp only [slot_no (x := PySem.Str.ofString "rgb") (by decide +kernel), slot_no (x := PySem.Str.ofString "cmyk") (by decide +kernel), slot_no (x := PySem.Str.ofString "grey") (by decide +kernel), slot_no (x := PySem.Str.ofString "raw") (by decide +kernel)] at hret; exact hret _ _ _ kF fun q hq => kN q (.tail _ hq))
end
section
local macro_rules | `(tactic| walk_at "exec Raise some none") => `(tactic| (k_here; k_dflt (refine' Raise_fe ?h1 ?_; (case h1 => exact rfl)); k_whole))
local macro_rules | `(tactic| walk_at "call ref") => `(tactic| (k_here; (with_reducible show wpAny _ _ (call (Value.ref 51) [Value.str _ _]) _ _ _); k_dflt (refine' fe_use ?B ?F ?X ?T ?hk ?N ?d1 ?u1 ?_; (case B | F | X | T => k_asm); (case hk => first | exact rfl | assumption); (case N => k_asm); (case d1 => ktr_room); (case u1 => ktr_units); k_whole; intro e' dx' t' h' tk' F' N' o')))
-- part Chk
section
theorem zfill_Chk : ∀ w : World, (hd.heap_39 w.params, PySem.Challenge.rw_ok0143_01.row.prog) = (hd.heap_39 w.params, PySem.Challenge.rw_ok0143_01.row.prog) := by
  k_fill
  w_top off
  intro w
  rfl
def CompObj (w : World) (news : List (Addr × Obj)) (v : Value) (i x y q : Int) : Prop :=
  ∃ (c d : Addr) (τ : Nat → Tok), v = .ref c ∧ (c, instObj 102 d) ∈ news ∧ (d, dictOf [⟨PyData.keyHash w.params (PySem.Str.ofString "ident"), .str (PySem.Str.ofString "ident") (τ 0), .int i (τ 1)⟩, ⟨PyData.keyHash w.params (PySem.Str.ofString "across"), .str (PySem.Str.ofString "across") (τ 2), .int x (τ 3)⟩, ⟨PyData.keyHash w.params (PySem.Str.ofString "down"), .str (PySem.Str.ofString "down") (τ 4), .int y (τ 5)⟩, ⟨PyData.keyHash w.params (PySem.Str.ofString "quant"), .str (PySem.Str.ofString "quant") (τ 6), .int q (τ 7)⟩] 4) ∈ news
theorem CompObj.mk {w : World} {news : List (Addr × Obj)} {c d : Addr} {i x y q : Int} {t1 t2 t3 t4 u1 u2 u3 u4 : Tok} (a : (c, instObj 102 d) ∈ news) (b : (d, dictOf [⟨PyData.keyHash w.params (PySem.Str.ofString "ident"), .str (PySem.Str.ofString "ident") t1, .int i u1⟩, ⟨PyData.keyHash w.params (PySem.Str.ofString "across"), .str (PySem.Str.ofString "across") t2, .int x u2⟩, ⟨PyData.keyHash w.params (PySem.Str.ofString "down"), .str (PySem.Str.ofString "down") t3, .int y u3⟩, ⟨PyData.keyHash w.params (PySem.Str.ofString "quant"), .str (PySem.Str.ofString "quant") t4, .int q u4⟩] 4) ∈ news) : CompObj w news (.ref c) i x y q :=
  ⟨c, d, fun n => [t1, u1, t2, u2, t3, u3, t4, u4].getD n 0, rfl, a, b⟩
theorem CompObj.mono {w : World} {news news' : List (Addr × Obj)} (hs : ∀ p ∈ news, p ∈ news') {v : Value} {i x y q : Int} (z : CompObj w news v i x y q) : CompObj w news' v i x y q := by
  obtain ⟨c, d, τ, a, b, e⟩ := z
  exact ⟨c, d, τ, a, hs _ b, hs _ e⟩
theorem chkc_con : ∀ (w : World) (mean : ExcName → Option Value) (mg mb : Str → Option Value) (dp un : Nat) (gd : Option (List Code)) (hdl : Option Value) (cn : Str) (cs : Scope) (a : Addr) (ccd : Value) (cl : List (Str × Addr)) (outer : List Env) (A₀ : Around) (base h₀ : Heap) (L : Addr) (m : Str → Option Value) (s : Shared) (Q E : Value → Shared → Prop) (c d : Addr) (i x y q : Int) (t1 t2 t3 t4 u1 u2 u3 u4 : Tok) (news : List (Addr × Obj)),
    Below A₀ base outer h₀ → Fr h₀ L s.heap m → (hd.heap_39 w.params).In h₀ → Top qview (looseW qview lse) mean mg mb h₀ → cs.kind = .function → News h₀ L s.heap news → (c, instObj 102 d) ∈ news → (d, dictOf [⟨PyData.keyHash w.params (PySem.Str.ofString "ident"), .str (PySem.Str.ofString "ident") t1, .int i u1⟩, ⟨PyData.keyHash w.params (PySem.Str.ofString "across"), .str (PySem.Str.ofString "across") t2, .int x u2⟩,
    ⟨PyData.keyHash w.params (PySem.Str.ofString "down"), .str (PySem.Str.ofString "down") t3, .int y u3⟩, ⟨PyData.keyHash w.params (PySem.Str.ofString "quant"), .str (PySem.Str.ofString "quant") t4, .int q u4⟩] 4) ∈ news → 0 ≤ i → i ≤ 255 → 0 ≤ q → q ≤ 3 → hdl = none → dp + 5 < recursionLimit → un + 40 < cLine →
    (1 ≤ x → x ≤ 4 → 1 ≤ y → y ≤ 4 → ∀ h' tk', Fr h₀ L h' m → News h₀ L h' news → Q .none { s with heap := h', toks := tk' }) →
    (¬ (1 ≤ x ∧ x ≤ 4 ∧ 1 ≤ y ∧ y ≤ 4) → ErrC base h₀ L m (envX cn cs L a ccd cl :: outer) news s E) →
    wpAny (model PySem.Challenge.rw_ok0143_01.row.prog w) (topA hdl dp un gd cn cs L a ccd cl outer) (call (.ref 186) [.ref c]) Q E s := by
  k_fill; intro w mean mg mb dp un gd hdl cn cs a ccd cl outer A₀ base h₀ L m s Q E
  intro c d i x y q t1 t2 t3 t4 u1 u2 u3 u4 news B F X T hk N hc hdd hi1 hi2 hq1 hq2 hh hd1 hu1 hret herr
  subst hh
  refine wpAny_call ?_
  (first | k_dflt ktr_enter | fail "not entered")
  rename_i g1 L1 h1 FG F1 N1 B1 X1 T1
  k_steps
  · rename_i kF kN Tc kX
    exact hret (by assumption) (by assumption) (by assumption) (by assumption) _ _ kF kN
  all_goals (rename_i e1 dx1 t1' h1' tk1' Fe Ne oe; exact leave_raiseX B1 Fe Ne oe fun h' R U => herr (by omega) _ _ _ _ R FG U)
end
-- part Chkf
section
theorem zfill_Chkf : ∀ w : World, (hd.heap_39 w.params, PySem.Challenge.rw_ok0143_01.row.prog) = (hd.heap_39 w.params, PySem.Challenge.rw_ok0143_01.row.prog) := by
  k_fill
  w_top off
  intro w
  rfl
structure Cp where
  x : Int
  y : Int
  q : Int
inductive CompsIn (w : World) (news : List (Addr × Obj)) : Int → List Value → List Cp → Prop
  | nil {i} : CompsIn w news i [] []
  | cons {i v vs c cs} : CompObj w news v i c.x c.y c.q → CompsIn w news (i + 1) vs cs → CompsIn w news i (v :: vs) (c :: cs)
theorem CompsIn.mono {w : World} {news news' : List (Addr × Obj)} (hs : ∀ p ∈ news, p ∈ news') {i : Int} {vs : List Value} {cs : List Cp} (x : CompsIn w news i vs cs) : CompsIn w news' i vs cs := by
  induction x with
  | nil => exact .nil
  | cons a _ ih => exact .cons (a.mono hs) ih
theorem CompsIn.length {w : World} {news : List (Addr × Obj)} : ∀ {i : Int} {vs : List Value} {cs : List Cp}, CompsIn w news i vs cs → vs.length = cs.length
  | _, _, _, .nil => rfl
  | _, _, _, .cons _ b => by rw [List.length_cons, List.length_cons, b.length]
theorem CompsIn.get {w : World} {news : List (Addr × Obj)} : ∀ {i : Int} {vs : List Value} {cs : List Cp}, CompsIn w news i vs cs → ∀ {j : Nat} {v : Value}, vs[j]? = some v → ∃ c, cs[j]? = some c ∧ CompObj w news v (i + j) c.x c.y c.q
  | _, _, _, .nil, j, v, h => by simp at h
  | _, _, _, .cons a b, 0, v, h => by simp at h; subst h; exact ⟨_, rfl, by simpa using a⟩
  | i, _, _, .cons a b, j + 1, v, h => by
    obtain ⟨c, h1, h2⟩ := b.get (j := j) (by simpa using h)
    exact ⟨c, by simpa using h1, by rw [show i + ((j + 1 : Nat) : Int) = i + 1 + (j : Int) by omega]; exact h2⟩
theorem CompsIn.snoc {w : World} {news : List (Addr × Obj)} {v : Value} {c : Cp} : ∀ {i : Int} {vs : List Value} {cs : List Cp}, CompsIn w news i vs cs → CompObj w news v (i + vs.length) c.x c.y c.q → CompsIn w news i (vs ++ [v]) (cs ++ [c])
  | _, _, _, .nil, h => .cons (by simpa using h) .nil
  | i, _, _, .cons (vs := vs) a b, h => .cons a (b.snoc (by rw [show i + 1 + (vs.length : Int) = i + ((vs.length + 1 : Nat) : Int) by omega]; exact h))
def FrameAt (w : World) (news : List (Addr × Obj)) (f cl : Addr) (kind : Str) (prec Ht Wd n : Int) (vs : List Value) (k : Nat) : Prop :=
  ∃ (d : Addr) (τ : Nat → Tok), (f, instObj 168 d) ∈ news ∧ (d, dictOf [⟨PyData.keyHash w.params (PySem.Str.ofString "kind"), .str (PySem.Str.ofString "kind") (τ 0), .str kind (τ 1)⟩, ⟨PyData.keyHash w.params (PySem.Str.ofString "precision"), .str (PySem.Str.ofString "precision") (τ 2), .int prec (τ 3)⟩, ⟨PyData.keyHash w.params (PySem.Str.ofString "height"), .str (PySem.Str.ofString "height") (τ 4), .int Ht (τ 5)⟩, ⟨PyData.keyHash w.params (PySem.Str.ofString "width"), .str (PySem.Str.ofString "width") (τ 6), .int Wd (τ 7)⟩, ⟨PyData.keyHash w.params (PySem.Str.ofString "components"), .str (PySem.Str.ofString "components") (τ 8), .ref cl⟩, ⟨PyData.keyHash w.params (PySem.Str.ofString "n"), .str (PySem.Str.ofString "n") (τ 9), .int n (τ 10)⟩] 6) ∈ news ∧ (cl, W.listOf vs.toArray k) ∈ news
theorem FrameAt.mk {w : World} {news : List (Addr × Obj)} {f d cl : Addr} {kind : Str} {prec Ht Wd n : Int} {vs : List Value} {k : Nat} {t1 u1 t2 u2 t3 u3 t4 u4 t5 t6 u6 : Tok} (a : (f, instObj 168 d) ∈ news) (b : (d, dictOf [⟨PyData.keyHash w.params (PySem.Str.ofString "kind"), .str (PySem.Str.ofString "kind") t1, .str kind u1⟩, ⟨PyData.keyHash w.params (PySem.Str.ofString "precision"), .str (PySem.Str.ofString "precision") t2, .int prec u2⟩, ⟨PyData.keyHash w.params (PySem.Str.ofString "height"), .str (PySem.Str.ofString "height") t3, .int Ht u3⟩, ⟨PyData.keyHash w.params (PySem.Str.ofString "width"), .str (PySem.Str.ofString "width") t4, .int Wd u4⟩, ⟨PyData.keyHash w.params (PySem.Str.ofString "components"), .str (PySem.Str.ofString "components") t5, .ref cl⟩, ⟨PyData.keyHash w.params (PySem.Str.ofString "n"), .str (PySem.Str.ofString "n") t6, .int n u6⟩] 6) ∈ news) (c : (cl, W.listOf vs.toArray k) ∈ news) : FrameAt w news f cl kind prec Ht Wd n vs k :=
  ⟨d, fun n => [t1, u1, t2, u2, t3, u3, t4, u4, t5, t6, u6].getD n 0, a, b, c⟩
theorem FrameAt.mono {w : World} {news news' : List (Addr × Obj)} (hs : ∀ p ∈ news, p ∈ news') {f cl : Addr} {kind : Str} {prec Ht Wd n : Int} {vs : List Value} {k : Nat} (x : FrameAt w news f cl kind prec Ht Wd n vs k) : FrameAt w news' f cl kind prec Ht Wd n vs k := by
  obtain ⟨d, τ, a, b, c⟩ := x
  exact ⟨d, τ, hs _ a, hs _ b, hs _ c⟩
def cpOk (c : Cp) : Prop := 1 ≤ c.x ∧ c.x ≤ 4 ∧ 1 ≤ c.y ∧ c.y ≤ 4
local macro_rules | `(tactic| walk_at "call ref") => `(tactic| (k_here; (with_reducible show wpAny _ _ (call (Value.ref 179) [Value.str _ _]) _ _ _); k_dflt (refine' krow_con _ _ _ _ _ _ _ _ _ _ _ _ _ _ _ _ _ _ _ _ _ _ _ _ _ ?B ?F ?X ?T ?hk ?N ?a1 ?hh ?d1 ?u1 ?_; (case B | F | X | T => k_asm); (case hk => first | exact rfl | assumption); (case N => k_asm); (case a1 => assumption); (case hh => exact rfl); (case d1 => ktr_room); (case u1 => ktr_units); k_whole; intro r' p' x1' x2' vs' h' tk' tr' tp' ip' F' N'; (try k_sweep))))
local macro_rules | `(tactic| walk_at "call ref") => `(tactic| (k_here; (with_reducible show wpAny _ _ (call (Value.ref 186) [Value.ref _]) _ _ _); k_dflt (refine' chkc_con _ _ _ _ _ _ _ _ _ _ _ _ _ _ _ _ _ _ _ _ _ _ _ _ _ _ _ _ _ _ _ _ _ _ _ _ _ ?B ?F ?X ?T ?hk ?N ?M1 ?M2 ?i1 ?i2 ?q1 ?q2 ?hh ?d1 ?u1 ?_ ?_; (case B | F | X | T => k_asm); (case hk => first | exact rfl | assumption); (case N => k_asm); (case M1 | M2 => k_mem); (case i1 | i2 | q1 | q2 => omega); (case hh => exact rfl); (case d1 => ktr_room); (case u1 => ktr_units))))
theorem val_none {kvs : List (Int × Value)} {k : Int} (h : ∀ p ∈ kvs, p.1 ≠ k) : (valueAt kvs k).isSome = false := by
  have : kvs.find? (fun kv => decide (kv.1 = k)) = none := List.find?_eq_none.mpr fun p hp => by simpa using h p hp
  unfold valueAt
  rw [this]; rfl
theorem stored_new {kvs : List (Int × Value)} {k : Int} {v : Value} (h : ∀ p ∈ kvs, p.1 ≠ k) : stored kvs k v = kvs ++ [(k, v)] := by
  unfold stored
  rw [if_neg]
  intro q
  obtain ⟨p, hp, e⟩ := List.any_eq_true.mp q
  exact h p hp (of_decide_eq_true e)
local macro_rules | `(tactic| walk_at "compareOp In int ref") => `(tactic| (k_here; k_dflt (refine' kda_in (knd := PySem.intKind _ _) ?N ?M ?D ?lo (intKind_is _ _ _ _) false ?hb ?_; (case N => k_asm); (case M => k_mem); (case D | lo => assumption); (case hb => exact val_none (by assumption))); k_whole))
local macro_rules | `(tactic| walk_at "setItem ref int") => `(tactic| (k_here; k_dflt (refine' kda_set (knd := PySem.intKind _ _) ?F ?N ?U ?d (intKind_is _ _ _ _) ?z ?_; (case F | N => k_asm); (case U => k_updF); (case d => assumption); (case z => rw [sizeLine_eq]; omega)); intro h' o' F' N' hd'; (try dsimp only at N')))
theorem chkf_con : ∀ (w : World) (mean : ExcName → Option Value) (mg mb : Str → Option Value) (dp un : Nat) (gd : Option (List Code)) (hdl : Option Value) (cn : Str) (cs : Scope) (a : Addr) (ccd : Value) (cl : List (Str × Addr)) (outer : List Env) (A₀ : Around) (base h₀ : Heap) (L : Addr) (m : Str → Option Value) (s : Shared) (Q E : Value → Shared → Prop) (f clA : Addr) (kind : Str) (prec Ht Wd n : Int) (vs : List Value) (cps : List Cp) (k : Nat) (news : List (Addr × Obj)),
    Below A₀ base outer h₀ → Fr h₀ L s.heap m → (hd.heap_39 w.params).In h₀ → Top qview (looseW qview lse) mean mg mb h₀ → cs.kind = .function → News h₀ L s.heap news → FrameAt w news f clA kind prec Ht Wd n vs k → CompsIn w news 1 vs cps → kndOk kind → 1 ≤ Wd → Wd ≤ 4 → 1 ≤ Ht → Ht ≤ 4 → 1 ≤ cps.length → cps.length ≤ 5 → (∀ c ∈ cps, 0 ≤ c.q ∧ c.q ≤ 1) → hdl = none → dp + 7 < recursionLimit → un + 80 < cLine →
    (prec ∈ precsOf kind → (∀ c ∈ cps, cpOk c) → ∀ h' tk', Fr h₀ L h' m → News h₀ L h' news → Q .none { s with heap := h', toks := tk' }) →
    (¬ (prec ∈ precsOf kind ∧ ∀ c ∈ cps, cpOk c) → ErrC base h₀ L m (envX cn cs L a ccd cl :: outer) news s E) →
    wpAny (model PySem.Challenge.rw_ok0143_01.row.prog w) (topA hdl dp un gd cn cs L a ccd cl outer) (call (.ref 193) [.ref f]) Q E s := by
  k_fill; intro w mean mg mb dp un gd hdl cn cs a ccd cl outer A₀ base h₀ L m s Q E
  intro f clA kind prec Ht Wd n vs cps k news B F X T hk N hfr hcp hkn hw1 hw2 hh1 hh2 hc1 hc2 hq hh hd1 hu1 hret herr
  obtain ⟨d, τF, hf, hd', hcl⟩ := hfr
  have hvl := hcp.length
  subst hh
  refine wpAny_call ?_
  (first | k_dflt ktr_enter | fail "not entered")
  rename_i g1 L1 h1 FG F1 N1 B1 X1 T1
  k_steps
  · rename_i tkA r1 p1 x1 x2 vs1 hA tkB tr1 tp1 ip1 hany tkC tkD n1 en1 dk hB o1 l1 lo1 hs1 fs1 hi1 fi1 hC FC NC
    have hpin : prec ∈ precsOf kind := by
      obtain ⟨y, hy, e⟩ := List.any_eq_true.mp hany
      rw [← beq_iff_eq.mp e]; exact hy
    refine list_J (x := PySem.Str.ofString "component") (k := k) [] (fun i nx => ∃ o kvs, nx = (dk, o) :: news ∧ Obj.IsDictOf (PySem.intKind PySem.Challenge.rw_ok0143_01.row.prog w) o kvs ∧ kvs.length = i ∧ (∀ p ∈ kvs, p.1 ≤ (i : Int)) ∧ ∀ c ∈ cps.take i, cpOk c)
      rfl FC NC ⟨_, _, rfl, hi1, rfl, fun _ h => (nomatch h), fun _ h => (nomatch h)⟩ (fun i nw hj => by obtain ⟨o, kvs, rfl, _⟩ := hj; exact .tail _ hcl) ?turn ?done
    case turn =>
      intro i v u h tk I oI nx hi hv hJ hI F N
      obtain ⟨o, kvs, rfl, hdo, hkl, hkb, hok⟩ := hJ
      obtain ⟨cp, hcp1, c, dC, τC, rfl, hcc, hcd⟩ := hcp.get hv
      obtain ⟨i1, hI⟩ := off_cons hI
      have hcq := hq cp (List.mem_of_getElem? hcp1)
      have hkn' : ∀ p ∈ kvs, p.1 ≠ 1 + (i : Int) := fun p hp z => by have := hkb p hp; omega
      k_steps
      · rename_i hI0 a1 a2 a3 a4 hx tkx Fx Nx hy o2 F2 N2 hd2
        rw [stored_new hkn'] at hd2
        refine ⟨_, _, _, (dk, o2) :: news, rfl, F2, N2, fun q hq => ?_, fun y hy1 hy2 => ?_, _, _, rfl, hd2, by rw [List.length_append, hkl]; rfl, fun p hp => ?_, fun c' hc' => ?_⟩
        · rcases List.mem_cons.mp hq with rfl | hq
          · exact i1
          · exact hI q hq
        · simp only [if_neg hy1, hy2, Bool.false_eq_true, if_false]
        · rcases List.mem_append.mp hp with hp | hp
          · have := hkb p hp; omega
          · rw [List.mem_singleton.mp hp]; show 1 + (i : Int) ≤ ((i + 1 : Nat) : Int); omega
        · rw [List.take_add_one, hcp1] at hc'
          rcases List.mem_append.mp hc' with hc' | hc'
          · exact hok c' hc'
          · rw [List.mem_singleton.mp hc']
            exact ⟨a1, a2, a3, a4⟩
      · rename_i hbad e9 hx tkx g9 R Fg U
        exact leave_onX B1 Fg R U fun h' R' U' => herr (fun q => hbad (q.2 cp (List.mem_of_getElem? hcp1))) _ _ _ _ (R'.less fun p hp => .tail _ (.tail _ hp)) FG U'
    case done =>
      intro u h tk nx hJ F N
      obtain ⟨o, kvs, rfl, hdo, hkl, hkb, hok⟩ := hJ
      clear FC NC
      k_steps
      rename_i kF kN Tc kX
      refine hret hpin (fun c hc => hok c ?_) _ _ kF fun p hp => kN p (.tail _ hp)
      rw [hvl, List.take_length]
      exact hc
  · rename_i e1 dx1 t1' h1' tk1' Fe Ne oe
    rename ((precsOf kind).any _ = false) => hf
    refine leave_raiseX B1 Fe Ne oe fun h' R U => herr (fun q => ?_) _ _ _ _ R FG U
    have : ((precsOf kind).any fun x => x == prec) = true := List.any_eq_true.mpr ⟨prec, q.1, by simp⟩
    rw [this] at hf
    cases hf
end
-- part Menu
section
theorem menu_pic {v : Value} {a b c d e f : Tok} (h : v ∈ [Value.int 1 a, .int 3 b, .int 3 c, .int 4 d, .int 2 e, .int 5 f]) : ∃ k t, v = .int k t ∧ 1 ≤ k ∧ k ≤ 5 := by
  simp only [List.mem_cons, List.not_mem_nil, or_false] at h
  rcases h with rfl | rfl | rfl | rfl | rfl | rfl <;> exact ⟨_, _, rfl, by decide, by decide⟩
theorem menu_prec {v : Value} {a b c d e f g : Tok} (h : v ∈ [Value.int 8 a, .int 8 b, .int 8 c, .int 12 d, .int 12 e, .int 16 f, .int 7 g]) : ∃ k t, v = .int k t ∧ (k = 7 ∨ k = 8 ∨ k = 12 ∨ k = 16) := by
  simp only [List.mem_cons, List.not_mem_nil, or_false] at h
  rcases h with rfl | rfl | rfl | rfl | rfl | rfl | rfl <;> exact ⟨_, _, rfl, by decide⟩
end
-- part Data
section
structure Pd where
  W : Int
  H : Int
  R : Dat
def RowOk (d : Dat) : Prop := ∃ es : List Dat, d = .list es ∧ es.length ≤ 4 ∧ ∀ e ∈ es, ∃ k, e = .int k ∧ 0 ≤ k ∧ k ≤ 20
def RowsOk (d : Dat) : Prop := ∃ ds : List Dat, d = .list ds ∧ ds.length ≤ 3 ∧ ∀ e ∈ ds, RowOk e
def PdOk (p : Pd) : Prop := 1 ≤ p.W ∧ p.W ≤ 4 ∧ 1 ≤ p.H ∧ p.H ≤ 3 ∧ RowsOk p.R
abbrev ent (w : World) (x : String) (t : Tok) (v : Value) : DictEntry := ⟨PyData.keyHash w.params (PySem.Str.ofString x), .str (PySem.Str.ofString x) t, v⟩
def PlaneIn (w : World) (news : List (Addr × Obj)) (v : Value) (pd : Pd) : Prop :=
  ∃ (p d : Addr) (vr : Value) (τ : Nat → Tok), v = .ref p ∧ (p, instObj 239 d) ∈ news ∧ (d, dictOf [ent w "width" (τ 0) (.int pd.W (τ 1)), ent w "height" (τ 2) (.int pd.H (τ 3)), ent w "rows" (τ 4) vr] 3) ∈ news ∧ DatIn news vr pd.R
theorem PlaneIn.mk {w : World} {news : List (Addr × Obj)} {p d : Addr} {pd : Pd} {t1 t2 t3 u1 u2 : Tok} {vr : Value} (a : (p, instObj 239 d) ∈ news) (b : (d, dictOf [ent w "width" t1 (.int pd.W u1), ent w "height" t2 (.int pd.H u2), ent w "rows" t3 vr] 3) ∈ news) (c : DatIn news vr pd.R) : PlaneIn w news (.ref p) pd :=
  ⟨p, d, vr, fun n => [t1, u1, t2, u2, t3].getD n 0, rfl, a, b, c⟩
theorem PlaneIn.mono {w : World} {news news' : List (Addr × Obj)} {v : Value} {pd : Pd} (hs : ∀ p ∈ news, p ∈ news') (x : PlaneIn w news v pd) : PlaneIn w news' v pd := by
  obtain ⟨p, d, vr, τ, a, b, c, e⟩ := x
  exact ⟨p, d, vr, τ, a, hs _ b, hs _ c, e.mono hs⟩
inductive PlanesIn (w : World) (news : List (Addr × Obj)) : List Value → List Pd → Prop
  | nil : PlanesIn w news [] []
  | cons {v vs pd pds} : PlaneIn w news v pd → PlanesIn w news vs pds → PlanesIn w news (v :: vs) (pd :: pds)
theorem PlanesIn.mono {w : World} {news news' : List (Addr × Obj)} (hs : ∀ p ∈ news, p ∈ news') : ∀ {vs : List Value} {pds : List Pd}, PlanesIn w news vs pds → PlanesIn w news' vs pds
  | _, _, .nil => .nil
  | _, _, .cons a b => .cons (a.mono hs) (b.mono hs)
theorem PlanesIn.length {w : World} {news : List (Addr × Obj)} : ∀ {vs : List Value} {pds : List Pd}, PlanesIn w news vs pds → vs.length = pds.length
  | _, _, .nil => rfl
  | _, _, .cons _ b => by rw [List.length_cons, List.length_cons, b.length]
theorem PlanesIn.snoc {w : World} {news : List (Addr × Obj)} {v : Value} {pd : Pd} : ∀ {vs : List Value} {pds : List Pd}, PlanesIn w news vs pds → PlaneIn w news v pd → PlanesIn w news (vs ++ [v]) (pds ++ [pd])
  | _, _, .nil, h => .cons h .nil
  | _, _, .cons a b, h => .cons a (b.snoc h)
theorem PlanesIn.get {w : World} {news : List (Addr × Obj)} : ∀ {vs : List Value} {pds : List Pd}, PlanesIn w news vs pds → ∀ {i : Nat} {v : Value}, vs[i]? = some v → ∃ pd, pds[i]? = some pd ∧ PlaneIn w news v pd
  | _, _, .nil, i, v, h => by simp at h
  | _, _, .cons a b, 0, v, h => by simp at h; subst h; exact ⟨_, rfl, a⟩
  | _, _, .cons a b, i + 1, v, h => by simpa using b.get (by simpa using h)
def PicIn (w : World) (news : List (Addr × Obj)) (pic : Addr) (prec : Int) (pds : List Pd) : Prop :=
  ∃ (d pl : Addr) (vs : List Value) (k : Nat) (τ : Nat → Tok), (pic, instObj 277 d) ∈ news ∧ (d, dictOf [ent w "model" (τ 0) (.str (PySem.Str.ofString "raw") (τ 1)), ent w "precision" (τ 2) (.int prec (τ 3)), ent w "planes" (τ 4) (.ref pl)] 3) ∈ news ∧
    (pl, W.listOf vs.toArray k) ∈ news ∧ PlanesIn w news vs pds
theorem PicIn.mk {w : World} {news : List (Addr × Obj)} {pic d pl : Addr} {prec : Int} {pds : List Pd} {vs : List Value} {k : Nat} {t1 t2 t3 t4 u : Tok} (a : (pic, instObj 277 d) ∈ news) (b : (d, dictOf [ent w "model" t1 (.str (PySem.Str.ofString "raw") t4), ent w "precision" t2 (.int prec u), ent w "planes" t3 (.ref pl)] 3) ∈ news)
    (c : (pl, W.listOf vs.toArray k) ∈ news) (e : PlanesIn w news vs pds) : PicIn w news pic prec pds :=
  ⟨d, pl, vs, k, fun n => [t1, t4, t2, u, t3].getD n 0, a, b, c, e⟩
theorem PicIn.mono {w : World} {news news' : List (Addr × Obj)} {pic : Addr} {prec : Int} {pds : List Pd} (hs : ∀ p ∈ news, p ∈ news') (x : PicIn w news pic prec pds) : PicIn w news' pic prec pds := by
  obtain ⟨d, pl, vs, k, τ, a, b, c, e⟩ := x
  exact ⟨d, pl, vs, k, τ, hs _ a, hs _ b, hs _ c, e.mono hs⟩
theorem ints_dat {news : List (Addr × Obj)} : ∀ {ys : List Value}, (∀ y ∈ ys, ∃ k t, y = Value.int k t ∧ 0 ≤ k ∧ k ≤ 20) → ∃ es, DatAll news ys es ∧ es.length = ys.length ∧ ∀ e ∈ es, ∃ k, e = Dat.int k ∧ 0 ≤ k ∧ k ≤ 20
  | [], _ => ⟨[], .nil, rfl, fun _ h => (nomatch h)⟩
  | y :: ys, h => by
    obtain ⟨k, t, rfl, a, b⟩ := h y (.head _)
    obtain ⟨es, p, q, r⟩ := ints_dat fun z hz => h z (.tail _ hz)
    refine ⟨.int k :: es, .cons (.int k t) p, by rw [List.length_cons, List.length_cons, q], fun e he => ?_⟩
    rcases List.mem_cons.mp he with rfl | he
    · exact ⟨k, rfl, a, b⟩
    · exact r e he
end
-- part Smp
section
abbrev tupO (vs : List Value) : Obj := { cls := .type "tuple", data := .seq vs.toArray }
def PairObj (news : List (Addr × Obj)) (v : Value) (p : Int × Int) : Prop := ∃ (t : Addr) (u1 u2 : Tok), v = .ref t ∧ (t, tupO [.int p.1 u1, .int p.2 u2]) ∈ news
inductive PairsIn (news : List (Addr × Obj)) : List Value → List (Int × Int) → Prop
  | nil : PairsIn news [] []
  | cons {v vs p ps} : PairObj news v p → PairsIn news vs ps → PairsIn news (v :: vs) (p :: ps)
theorem PairObj.mono {news news' : List (Addr × Obj)} (hs : ∀ p ∈ news, p ∈ news') {v : Value} {p : Int × Int} (x : PairObj news v p) : PairObj news' v p := by
  obtain ⟨t, u1, u2, a, b⟩ := x
  exact ⟨t, u1, u2, a, hs _ b⟩
theorem PairsIn.mono {news news' : List (Addr × Obj)} (hs : ∀ p ∈ news, p ∈ news') : ∀ {vs : List Value} {ps : List (Int × Int)}, PairsIn news vs ps → PairsIn news' vs ps
  | _, _, .nil => .nil
  | _, _, .cons a r => .cons (a.mono hs) (r.mono hs)
theorem PairsIn.length {news : List (Addr × Obj)} : ∀ {vs : List Value} {ps : List (Int × Int)}, PairsIn news vs ps → vs.length = ps.length
  | _, _, .nil => rfl
  | _, _, .cons _ b => by rw [List.length_cons, List.length_cons, b.length]
theorem PairsIn.get {news : List (Addr × Obj)} : ∀ {vs : List Value} {ps : List (Int × Int)}, PairsIn news vs ps → ∀ {i : Nat} {v : Value}, vs[i]? = some v → ∃ p, ps[i]? = some p ∧ PairObj news v p
  | _, _, .nil, i, v, h => by simp at h
  | _, _, .cons a b, 0, v, h => by simp at h; subst h; exact ⟨_, rfl, a⟩
  | _, _, .cons a b, i + 1, v, h => by simpa using b.get (by simpa using h)
theorem PairsIn.append {news : List (Addr × Obj)} {vs' : List Value} {ps' : List (Int × Int)} (b : PairsIn news vs' ps') : ∀ {vs : List Value} {ps : List (Int × Int)}, PairsIn news vs ps → PairsIn news (vs ++ vs') (ps ++ ps')
  | _, _, .nil => b
  | _, _, .cons a r => .cons a (PairsIn.append b r)
theorem PairsIn.one {news : List (Addr × Obj)} {v : Value} {p : Int × Int} (x : PairObj news v p) : PairsIn news [v] [p] := .cons x .nil
def SmpIn (news : List (Addr × Obj)) (sv : Value) : Option (List (Int × Int)) → Prop
  | none => sv = .none
  | some ps => ∃ (l : Addr) (vs : List Value) (k : Nat), sv = .ref l ∧ (l, W.listOf vs.toArray k) ∈ news ∧ PairsIn news vs ps
theorem SmpIn.mono {news news' : List (Addr × Obj)} (hs : ∀ p ∈ news, p ∈ news') {sv : Value} : ∀ {o : Option (List (Int × Int))}, SmpIn news sv o → SmpIn news' sv o
  | none, h => h
  | some _, ⟨l, vs, k, a, b, c⟩ => ⟨l, vs, k, a, hs _ b, c.mono hs⟩
def psOf (o : Option (List (Int × Int))) (many : Nat) : List (Int × Int) := match o with
  | none => List.replicate many (1, 1)
  | some ps => ps
def prOk (p : Int × Int) : Prop := 1 ≤ p.1 ∧ p.1 ≤ 4 ∧ 1 ≤ p.2 ∧ p.2 ≤ 4
def frameOk (kind : Str) (prec : Int) (o : Option (List (Int × Int))) (many : Nat) : Prop := prec ∈ precsOf kind ∧ (psOf o many).length = many ∧ ∀ p ∈ psOf o many, prOk p
noncomputable def cpsFrom (wish : Str) : Nat → List (Int × Int) → List Cp
  | _, [] => []
  | i, p :: ps => ⟨p.1, p.2, slotOf wish i⟩ :: cpsFrom wish (i + 1) ps
theorem cpsFrom_len (wish : Str) : ∀ (i : Nat) (ps : List (Int × Int)), (cpsFrom wish i ps).length = ps.length
  | _, [] => rfl
  | i, _ :: ps => by rw [cpsFrom, List.length_cons, List.length_cons, cpsFrom_len]
theorem cpsFrom_snoc (wish : Str) (p : Int × Int) : ∀ (i : Nat) (ps : List (Int × Int)), cpsFrom wish i (ps ++ [p]) = cpsFrom wish i ps ++ [⟨p.1, p.2, slotOf wish ((i + ps.length : Nat) : Int)⟩]
  | _, [] => rfl
  | i, q :: ps => by
    rw [List.cons_append, cpsFrom, cpsFrom, cpsFrom_snoc wish p (i + 1) ps, List.cons_append, List.length_cons, show i + 1 + ps.length = i + (ps.length + 1) by omega]
theorem slot_bd (x : Str) (p : Int) : 0 ≤ slotOf x p ∧ slotOf x p ≤ 1 := by unfold slotOf; split <;> decide
theorem cpsFrom_q (wish : Str) : ∀ (i : Nat) (ps : List (Int × Int)), ∀ c ∈ cpsFrom wish i ps, 0 ≤ c.q ∧ c.q ≤ 1
  | _, [], _, h => nomatch h
  | i, _ :: ps, c, h => by
    rcases List.mem_cons.mp h with rfl | h
    · exact slot_bd _ _
    · exact cpsFrom_q wish _ ps c h
theorem cpsFrom_ok (wish : Str) : ∀ (i : Nat) (ps : List (Int × Int)), (∀ c ∈ cpsFrom wish i ps, cpOk c) ↔ ∀ p ∈ ps, prOk p
  | _, [] => ⟨fun _ _ h => (nomatch h), fun _ _ h => (nomatch h)⟩
  | i, p :: ps => by
    have ih := cpsFrom_ok wish (i + 1) ps
    constructor
    · intro h q hq
      rcases List.mem_cons.mp hq with rfl | hq
      · exact h _ (.head _)
      · exact ih.mp (fun c hc => h c (.tail _ hc)) q hq
    · intro h c hc
      rcases List.mem_cons.mp hc with rfl | hc
      · exact h p (.head _)
      · exact ih.mpr (fun q hq => h q (.tail _ hq)) c hc
def SetIn (w : World) (news : List (Addr × Obj)) (st : Addr) (kind : Str) (sv : Value) (n : Int) (wish : Str) : Prop :=
  ∃ (d : Addr) (τ : Nat → Tok), (st, instObj 300 d) ∈ news ∧ (d, dictOf [ent w "kind" (τ 0) (.str kind (τ 1)), ent w "quality" (τ 2) (.int 60 (τ 3)), ent w "sampling" (τ 4) sv, ent w "interval" (τ 5) (.int 0 (τ 6)), ent w "optimise" (τ 7) (.bool false), ent w "scans" (τ 8) .none, ent w "n" (τ 9) (.int n (τ 10)), ent w "model" (τ 11) (.str wish (τ 12))] 8) ∈ news
theorem SetIn.mk {w : World} {news : List (Addr × Obj)} {st d : Addr} {kind : Str} {sv : Value} {n : Int} {wish : Str} {t1 u1 t2 u2 t3 t4 u3 t5 t6 t7 u4 t8 u5 : Tok} (a : (st, instObj 300 d) ∈ news) (b : (d, dictOf [ent w "kind" t1 (.str kind u1), ent w "quality" t2 (.int 60 u2), ent w "sampling" t3 sv, ent w "interval" t4 (.int 0 u3), ent w "optimise" t5 (.bool false), ent w "scans" t6 .none, ent w "n" t7 (.int n u4), ent w "model" t8 (.str wish u5)] 8) ∈ news) : SetIn w news st kind sv n wish :=
  ⟨d, fun n => [t1, u1, t2, u2, t3, t4, u3, t5, t6, t7, u4, t8, u5].getD n 0, a, b⟩
theorem SetIn.mono {w : World} {news news' : List (Addr × Obj)} (hs : ∀ p ∈ news, p ∈ news') {st : Addr} {kind : Str} {sv : Value} {n : Int} {wish : Str} (x : SetIn w news st kind sv n wish) : SetIn w news' st kind sv n wish := by
  obtain ⟨d, τ, a, b⟩ := x
  exact ⟨d, τ, hs _ a, hs _ b⟩
theorem Fr.same {h₀ h : Heap} {L : Addr} {m m' : Str → Option Value} (F : Fr h₀ L h m) (e : ∀ y, m y = m' y) : Fr h₀ L h m' := (funext e) ▸ F
def JoinQ (g : Heap) (L : Addr) (mX : Str → Option Value) (x : Str) (P : Value → List (Addr × Obj) → Prop) (s : Shared) (f : Flow) (s₁ : Shared) : Prop :=
  f = .next ∧ ∃ v h' tk' nx, s₁ = { s with heap := h', toks := tk' } ∧ Fr g L h' (fun y => if y = x then some v else mX y) ∧ News g L h' nx ∧ P v nx
theorem join_at {M : Model} {A : Around} {E : Value → Shared → Prop} {s : Shared} {env : Env} {st : Stmt} {Q : Flow → Shared → Prop} {g : Heap} {L : Addr} {mX : Str → Option Value} (F : Fr g L s.heap mX) (x : Str) (P : Value → List (Addr × Obj) → Prop)
    (h1 : wpAny M A (exec st env) (JoinQ g L mX x P s) E s)
    (h2 : ∀ v h' tk' nx, Fr g L h' (fun y => if y = x then some v else mX y) → News g L h' nx → P v nx → Q .next { s with heap := h', toks := tk' }) : wpAny M A (exec st env) Q E s :=
  wpAny_mono h1 (fun f s₁ ⟨e, v, h', tk', nx, e2, F', N', p⟩ => by subst e e2; exact h2 v h' tk' nx F' N' p) fun _ _ x => x
theorem smp_handed {news : List (Addr × Obj)} {sv : Value} : ∀ {o : Option (List (Int × Int))}, SmpIn news sv o → handedIn sv = true
  | none, h => by rw [show sv = .none from h]; rfl
  | some _, ⟨l, _, _, e, _⟩ => by rw [e]; rfl
end
-- part HandIn
section
def HandIn (hdl : Option Value) (news : List (Addr × Obj)) : Prop := match hdl with
  | none => True
  | some v => ∃ (e : Addr) (oe : Obj) (vs : Array Value), v = .ref e ∧ (e, oe) ∈ news ∧ oe.data = .fields vs ∧ vs[2]? = some .none
theorem HandIn.hand {hdl : Option Value} {news : List (Addr × Obj)} {h₀ h : Heap} {L : Addr} (x : HandIn hdl news) (N : News h₀ L h news) : Hand hdl h := by
  cases hdl with
  | none => trivial
  | some v =>
    obtain ⟨e, oe, vs, rfl, a, b, c⟩ := x
    exact ⟨e, oe, vs, rfl, (N _ a).1, b, c⟩
theorem HandIn.lt {hdl : Option Value} {news : List (Addr × Obj)} {h₀ h : Heap} {L : Addr} (x : HandIn hdl news) (N : News h₀ L h news) : ∀ b ∈ handAt hdl, b < h.objs.size := by
  intro b hb
  cases hdl with
  | none => cases hb
  | some v =>
    obtain ⟨e, oe, vs, rfl, a, _, _⟩ := x
    rw [List.mem_singleton.mp hb]
    exact Heap.lt_size (N _ a).1
theorem HandIn.mono {hdl : Option Value} {news news' : List (Addr × Obj)} (x : HandIn hdl news) (hs : ∀ p ∈ news, p ∈ news') : HandIn hdl news' := by
  cases hdl with
  | none => trivial
  | some v =>
    obtain ⟨e, oe, vs, rfl, a, b, c⟩ := x
    exact ⟨e, oe, vs, rfl, hs _ a, b, c⟩
end
-- part CompT
section
open PyProof.Rows.LCg PyProof.Rows.LCt
section
variable {prog : Program} {w : World} {A : Around} {E : Value → Shared → Prop} {s : Shared} {h₀ : Heap} {L : Addr} {m : Str → Option Value} {env : Env}
/-- a comprehension over a list of the ledger with one test -/
def SrcJT (prog : Program) (w : World) (A : Around) (h₀ : Heap) (L : Addr) (m : Str → Option Value) (env : Env) (ct elt : PySem.Expr) (x : Str) (scope : Scope) (cl : List (Str × Addr)) (Q : Value → Shared → Prop) (xv : Value) (s₁ : Shared) : Prop :=
  ∃ (ax : Addr) (its : List Value) (k : Nat) (nx : List (Addr × Obj)) (J : Nat → List Value → List (Addr × Obj) → Prop), xv = .ref ax ∧ its.length < 1000 ∧ Fr h₀ L s₁.heap m ∧ News h₀ L s₁.heap nx ∧ J 0 [] nx ∧ (∀ i ys nw, J i ys nw → (ax, W.listOf its.toArray k) ∈ nw) ∧
    (∀ i ys nw, J i ys nw → HandIn A.handled nw) ∧
    (∀ (i : Nat) ys nx v I oI C oC D m₂ h tk (E' : Value → Shared → Prop), i < its.length → ys.length ≤ i → J i ys nx → its[i]? = some v → NsObj oC m₂ → m₂ x = some v → Fr h₀ L h m → News h₀ L h ((I, oI) :: (C, oC) :: (D, lst ys) :: nx) → Off3 I C D nx → ((@Ne Nat I C) ∧ (@Ne Nat I D) ∧ (@Ne Nat C D)) →
      wpAny (model prog w) A (isTrue ct (compEnvC scope cl C env) (eval ct (compEnvC scope cl C env))) (fun ok s' => if ok = true then
        wpAny (model prog w) A (eval elt (compEnvC scope cl C env)) (EndE h₀ L m { s₁ with heap := h, toks := tk } I oI C oC D (lst ys) fun y nx' => J (i + 1) (ys ++ [y]) nx') E' s'
        else EndE h₀ L m { s₁ with heap := h, toks := tk } I oI C oC D (lst ys) (fun _ nx' => J (i + 1) ys nx') Value.none s') E' { s₁ with heap := h, toks := tk }) ∧
    ∀ ys nx D h tk, J its.length ys nx → Fr h₀ L h m → News h₀ L h ((D, lst ys) :: nx) → Off1 D nx → Q (.ref D) { s₁ with heap := h, toks := tk }
theorem rest_JT {ct elt : PySem.Expr} {x : Str} {scope : Scope} {cl : List (Str × Addr)} {P : Nat → Value → Prop} {Fi : List Value → List (Addr × Obj) → Prop} {n : Nat} (J : Nat → List Value → List (Addr × Obj) → Prop)
    (fin : ∀ ys nx, J n ys nx → Fi ys nx)
    (step : ∀ i ys nx v I oI C oC D m₂ h tk (E' : Value → Shared → Prop), i < n → ys.length ≤ i → J i ys nx → P i v → NsObj oC m₂ → m₂ x = some v → Fr h₀ L h m → News h₀ L h ((I, oI) :: (C, oC) :: (D, lst ys) :: nx) → Off3 I C D nx → ((@Ne Nat I C) ∧ (@Ne Nat I D) ∧ (@Ne Nat C D)) →
      wpAny (model prog w) A (isTrue ct (compEnvC scope cl C env) (eval ct (compEnvC scope cl C env))) (fun ok s' => if ok = true then
        wpAny (model prog w) A (eval elt (compEnvC scope cl C env)) (EndE h₀ L m { s with heap := h, toks := tk } I oI C oC D (lst ys) fun y nx' => J (i + 1) (ys ++ [y]) nx') E' s'
        else EndE h₀ L m { s with heap := h, toks := tk } I oI C oC D (lst ys) (fun _ nx' => J (i + 1) ys nx') Value.none s') E' { s with heap := h, toks := tk }) :
    ∀ k i ys nx, i + k = n → ys.length ≤ i → J i ys nx → CompRestT prog w A h₀ L m env ct elt x scope cl s (fun nw => ∃ j ys, J j ys nw) P Fi k i ys nx
  | 0, i, ys, nx, hi, hl, hj => fin ys nx (by rw [← hi]; exact hj)
  | k + 1, i, ys, nx, hi, hl, hj => fun v I oI C oC D m₂ h tk E' hP hC hx F N o3 ne => by
    refine wpAny_mono (step i ys nx v I oI C oC D m₂ h tk E' (by omega) hl hj hP hC hx F N o3 ne) (fun ok s₂ hok => ?_) fun _ _ e => e
    cases ok with
    | true =>
      simp only [if_true] at hok ⊢
      exact wpAny_mono hok (fun y s₂ ⟨h', tk', nx', e, F', N', o', hj'⟩ => ⟨h', tk', nx', e, F', N', o', ⟨_, _, hj'⟩, rest_JT J fin step k (i + 1) (ys ++ [y]) nx' (by omega) (by rw [List.length_append, List.length_singleton]; omega) hj'⟩) fun _ _ e => e
    | false =>
      simp only [Bool.false_eq_true, if_false] at hok ⊢
      obtain ⟨h', tk', nx', e, F', N', o', hj'⟩ := hok
      exact ⟨h', tk', nx', e, F', N', o', ⟨_, _, hj'⟩, rest_JT J fin step k (i + 1) ys nx' (by omega) (by omega) hj'⟩
theorem ListComp_JT {ct elt iter : PySem.Expr} {x : Str} {px : Pos} {scope : Scope} {cl : List (Str × Addr)} {pos : Pos} {Q : Value → Shared → Prop} (_F : Fr h₀ L s.heap m)
    (hclos : closureFor scope env = pure cl) (hcell : ∀ y ∈ scope.names, y.2 ≠ .cell) (hkind : scope.kind = .function)
    (hnames : ∀ y ∈ scope.names, y.2 = .local → scope.names.lookup y.1 = some .local) (hx : scope.names.lookup x = some .local)
    (h : wpAny (model prog w) A (eval iter env) (SrcJT prog w A h₀ L m env ct elt x scope cl Q) E s)
    (hs : ∀ x, foldedSetIterable iter env x = pure x := by intro _; rfl) :
    wpAny (model prog w) A (eval (.ListComp elt [⟨.Name x px, iter, [ct], 0⟩] scope pos) env) Q E s := by
  rw [eval_ListComp]
  refine wpAny_comprehension_free (use := none) rfl hs hclos hkind hnames (wpAny_mono h (fun xv s₁ h₁ => ?_) fun _ _ e => e)
  obtain ⟨ax, its, k, nx, J, rfl, hz, F, N, hJ, hax, hand, step, fin⟩ := h₁
  have hl : s₁.heap.IsList ax its.toArray := isList_mem N (hax _ _ _ hJ)
  have hlt : ax < s₁.heap.objs.size := Heap.lt_size (N _ (hax _ _ _ hJ)).1
  have handL : ∀ i ys nw (h : Heap), J i ys nw → News h₀ L h nw → Hand A.handled h := fun i ys nw h q Nw => (hand _ _ _ q).hand Nw
  have hltH := (hand _ _ _ hJ).lt N
  have hni : s₁.heap.objs.size ∉ handAt A.handled := fun hb => absurd (hltH _ hb) (Nat.lt_irrefl _)
  refine wpAny_pyIter_list hl ?_
  have up : ∀ b o, s₁.heap.get? b = some o → (s₁.heap.push { cls := .type "list_iterator", data := .fields #[.ref ax, .int 0 0] }).get? b = some o := fun b o e => Heap.get?_push_of_some _ e
  have hsz : its.toArray.size = its.length := by simp
  have W := walksListX (prog := prog) (w := w) (A := A) s₁.heap.objs.size ax (Nat.ne_of_lt hlt) hni its.toArray
  rw [hsz] at W
  generalize hs2 : ({ s₁ with heap := s₁.heap.push { cls := .type "list_iterator", data := .fields #[.ref ax, .int 0 0] } } : Shared) = s₂
  refine block_T (s₂ := s₂) (S := fun nw => ∃ j ys, J j ys nw) (Fin := fun ys nx => ∀ D h tk, Fr h₀ L h m → News h₀ L h ((D, lst ys) :: nx) → Off1 D nx → Q (.ref D) { s₂ with heap := h, toks := tk }) W (by rw [sizeLine_eq]; omega) (fun _ _ st => let ⟨o, e, _⟩ := st.1.1; ⟨o, e⟩) ?_ hcell hkind hx ?_ ?_ ?_ ?_ (Nat.ne_of_lt F.ns.lt) (next_is_new F) (fun p hp => Nat.ne_of_lt (Heap.lt_size (N p hp).1)) ⟨_, _, hJ⟩
    (rest_JT J (fun ys nx a D h tk F N o => by subst hs2; exact fin ys nx D h tk a F N o) (by
      subst hs2
      intro i ys nx v I oI C oC D m₂ h tk E' a b c hP d e f g o3 ne
      exact step i ys nx v I oI C oC D m₂ h tk E' a b c (by simpa using hP) d e f g o3 ne) its.length 0 [] nx (by omega) (Nat.le_refl _) hJ) ?_
  · rintro i h h' o nw st e e' _ Nw ⟨j, ys, q⟩
    refine ⟨⟨?_, isList_mem (s := { s₁ with heap := h' }) Nw (hax _ _ _ q)⟩, handL _ _ _ _ q Nw⟩
    obtain ⟨o', q1, r⟩ := st.1.1
    rw [e] at q1
    cases q1
    exact ⟨o, e', r⟩
  · subst hs2; exact ⟨⟨⟨_, Heap.get?_push_size _ rfl, rfl, rfl⟩, hl.push _⟩, (handL _ _ _ _ hJ N).keeps fun b _ o e => up b o e⟩
  · subst hs2
    intro b hb
    show b < (s₁.heap.push _).objs.size
    rw [Heap.size_push]
    rcases List.mem_cons.mp hb with rfl | hb
    · exact Nat.lt_succ_self _
    · rcases List.mem_cons.mp hb with rfl | hb
      · exact Nat.lt_succ_of_lt hlt
      · exact Nat.lt_succ_of_lt (hltH _ hb)
  · subst hs2; exact F.push _
  · subst hs2; exact fun p hp => ⟨up _ _ (N p hp).1, (N p hp).2⟩
  · intro D C h tk m' ys news' F' N' o1 hn hC₀ hD₀ hCL hDL hCD offC fin'
    refine ⟨m', hn, fun h'' hs'' => ?_⟩
    have q := fin' D h'' tk (F'.change hs'' hCL hC₀) (fun p hp => ?_) o1
    · subst hs2; exact q
    refine ⟨hs''.extBut _ _ ?_ (N' p hp).1, (N' p hp).2⟩
    rcases List.mem_cons.mp hp with rfl | hp
    · exact Ne.symm hCD
    · exact offC p hp
end
end
-- part Cut
section
/-- a statement is walked apart: what is known of it behind it is `P` -/
def CutQ (g : Heap) (L : Addr) (m : Str → Option Value) (s : Shared) (P : Flow → List (Addr × Obj) → Prop) (f : Flow) (s₁ : Shared) : Prop :=
  ∃ h' tk' nx, s₁ = { s with heap := h', toks := tk' } ∧ Fr g L h' m ∧ News g L h' nx ∧ P f nx
theorem cut_at {M : Model} {A : Around} {E : Value → Shared → Prop} {s : Shared} {env : Env} {st : Stmt} {Q : Flow → Shared → Prop} {g : Heap} {L : Addr} {m : Str → Option Value} (_F : Fr g L s.heap m) (P : Flow → List (Addr × Obj) → Prop)
    (h1 : wpAny M A (exec st env) (CutQ g L m s P) E s)
    (h2 : ∀ f h' tk' nx, Fr g L h' m → News g L h' nx → P f nx → Q f { s with heap := h', toks := tk' }) : wpAny M A (exec st env) Q E s :=
  wpAny_mono h1 (fun f s₁ ⟨h', tk', nx, e, F', N', p⟩ => by subst e; exact h2 f h' tk' nx F' N' p) fun _ _ x => x
/-- the same, where the statement stores two names -/
def Cut2Q (g : Heap) (L : Addr) (mX : Str → Option Value) (x1 x2 : Str) (s : Shared) (P : Value → Value → List (Addr × Obj) → Prop) (f : Flow) (s₁ : Shared) : Prop :=
  f = .next ∧ ∃ v1 v2 h' tk' nx, s₁ = { s with heap := h', toks := tk' } ∧ Fr g L h' (fun y => if y = x2 then some v2 else if y = x1 then some v1 else mX y) ∧ News g L h' nx ∧ P v1 v2 nx
theorem cut2_at {M : Model} {A : Around} {E : Value → Shared → Prop} {s : Shared} {env : Env} {st : Stmt} {Q : Flow → Shared → Prop} {g : Heap} {L : Addr} {mX : Str → Option Value} (_F : Fr g L s.heap mX) (x1 x2 : Str) (P : Value → Value → List (Addr × Obj) → Prop)
    (h1 : wpAny M A (exec st env) (Cut2Q g L mX x1 x2 s P) E s)
    (h2 : ∀ v1 v2 h' tk' nx, Fr g L h' (fun y => if y = x2 then some v2 else if y = x1 then some v1 else mX y) → News g L h' nx → P v1 v2 nx → Q .next { s with heap := h', toks := tk' }) : wpAny M A (exec st env) Q E s :=
  wpAny_mono h1 (fun f s₁ ⟨e, v1, v2, h', tk', nx, e2, F', N', p⟩ => by subst e e2; exact h2 v1 v2 h' tk' nx F' N' p) fun _ _ x => x
end
-- part MinX
section
section
variable {prog : Program} {w : World} {A : Around} {E : Value → Shared → Prop} {s : Shared} {h₀ : Heap} {L t : Addr} {m : Str → Option Value} {news : List (Addr × Obj)} {x y : Int} {u1 u2 : Tok} {Q : Value → Shared → Prop}
theorem pair_items (i : Nat) (v : Value) (h : (intItems #[(x, u1), (y, u2)])[i]? = some v) (bt : Bool) (hi : i = if bt then 1 else 0) : ∃ tv, v = .int (if bt then y else x) tv := by
  subst hi
  cases bt <;> simp [intItems] at h <;> subst h <;> exact ⟨_, rfl⟩
theorem min_pairX (F : Fr h₀ L s.heap m) (N : News h₀ L s.heap news) (hm : (t, tupO [.int x u1, .int y u2]) ∈ news) (H : HandIn A.handled news)
    (h : ∀ h' v tv tk, v = (if y < x then y else x) → Fr h₀ L h' m → News h₀ L h' news → Q (.int v tv) { s with heap := h', toks := tk }) : wpAny (model prog w) A (call (.builtin "min") [.ref t]) Q E s := by
  have hT : s.heap.IsTuple t (intItems #[(x, u1), (y, u2)]) := ⟨_, (N _ hm).1, rfl, 0, by simp [intItems]⟩
  have hlt : t < s.heap.objs.size := Heap.lt_size (N _ hm).1
  have hH := H.hand N
  have hHl := H.lt N
  have up : ∀ b o, s.heap.get? b = some o → (s.heap.push { cls := .type "tuple_iterator", data := .fields #[.ref t, .int 0 0] }).get? b = some o := fun b o e => Heap.get?_push_of_some _ e
  refine call_min_walk (wpAny_pyIter_tuple hT ?_)
  refine ⟨_, s.heap.objs.size :: t :: handAt A.in1.handled, [s.heap.objs.size], _, _, _, _, rfl, walksTupleX (A := A.in1) s.heap.objs.size t (Nat.ne_of_lt hlt) (fun hb => absurd (hHl _ hb) (Nat.lt_irrefl _)) (intItems #[(x, u1), (y, u2)]),
    ⟨⟨⟨_, Heap.get?_push_size _ rfl, rfl, rfl⟩, hT.push _⟩, hH.keeps fun b _ o e => up b o e⟩, fun b hb => ?_, by simp [intItems], CmpOf.ints_lt (numAt #[(x, u1), (y, u2)]) (fun _ _ => intItems_at), fun v h' tk hP hk => ?_⟩
  · show b < (s.heap.push _).objs.size
    rw [Heap.size_push]
    rcases List.mem_cons.mp hb with rfl | hb
    · exact Nat.lt_succ_self _
    rcases List.mem_cons.mp hb with rfl | hb
    · exact Nat.lt_succ_of_lt hlt
    · exact Nat.lt_succ_of_lt (hHl _ hb)
  · have k : ∀ b o, s.heap.get? b = some o → h'.get? b = some o := fun b o e => hk b o (fun q => absurd (Heap.lt_size e) (by rw [List.mem_singleton.mp q]; exact Nat.lt_irrefl _)) (up b o e)
    obtain ⟨tv, rfl⟩ := pair_items _ v hP (decide (y < x)) (by simp [argBest, numAt, intItems])
    refine h _ _ tv tk (by simp) (F.keeps k) (N.keepsAll k)
theorem max_pairX (F : Fr h₀ L s.heap m) (N : News h₀ L s.heap news) (hm : (t, tupO [.int x u1, .int y u2]) ∈ news) (H : HandIn A.handled news)
    (h : ∀ h' v tv tk, v = (if y > x then y else x) → Fr h₀ L h' m → News h₀ L h' news → Q (.int v tv) { s with heap := h', toks := tk }) : wpAny (model prog w) A (call (.builtin "max") [.ref t]) Q E s := by
  have hT : s.heap.IsTuple t (intItems #[(x, u1), (y, u2)]) := ⟨_, (N _ hm).1, rfl, 0, by simp [intItems]⟩
  have hlt : t < s.heap.objs.size := Heap.lt_size (N _ hm).1
  have hH := H.hand N
  have hHl := H.lt N
  have up : ∀ b o, s.heap.get? b = some o → (s.heap.push { cls := .type "tuple_iterator", data := .fields #[.ref t, .int 0 0] }).get? b = some o := fun b o e => Heap.get?_push_of_some _ e
  refine call_max_walk (wpAny_pyIter_tuple hT ?_)
  refine ⟨_, s.heap.objs.size :: t :: handAt A.in1.handled, [s.heap.objs.size], _, _, _, _, rfl, walksTupleX (A := A.in1) s.heap.objs.size t (Nat.ne_of_lt hlt) (fun hb => absurd (hHl _ hb) (Nat.lt_irrefl _)) (intItems #[(x, u1), (y, u2)]),
    ⟨⟨⟨_, Heap.get?_push_size _ rfl, rfl, rfl⟩, hT.push _⟩, hH.keeps fun b _ o e => up b o e⟩, fun b hb => ?_, by simp [intItems], CmpOf.ints_gt (numAt #[(x, u1), (y, u2)]) (fun _ _ => intItems_at), fun v h' tk hP hk => ?_⟩
  · show b < (s.heap.push _).objs.size
    rw [Heap.size_push]
    rcases List.mem_cons.mp hb with rfl | hb
    · exact Nat.lt_succ_self _
    rcases List.mem_cons.mp hb with rfl | hb
    · exact Nat.lt_succ_of_lt hlt
    · exact Nat.lt_succ_of_lt (hHl _ hb)
  · have k : ∀ b o, s.heap.get? b = some o → h'.get? b = some o := fun b o e => hk b o (fun q => absurd (Heap.lt_size e) (by rw [List.mem_singleton.mp q]; exact Nat.lt_irrefl _)) (up b o e)
    obtain ⟨tv, rfl⟩ := pair_items _ v hP (decide (y > x)) (by simp [argBest, numAt, intItems])
    refine h _ _ tv tk (by simp) (F.keeps k) (N.keepsAll k)
end
end
-- part Eqd
section
section
variable {prog : Program} {w : World} {A : Around} {E : Value → Shared → Prop} {s : Shared} {h₀ : Heap} {L : Addr} {news : List (Addr × Obj)} {x y : Value} {d e : Dat} {Q : Value → Shared → Prop}
theorem dat_shaped (hx : kqdOk 8 d = true) : SeqAt.shaped (kqdP d) = true := by
  have l := kqd_lay 8 d hx
  unfold SeqAt.shaped
  rw [l.1, Bool.true_and]
  exact decide_eq_true (Nat.le_trans l.2 (by decide))
theorem dat_same (N : News h₀ L s.heap news) (Dx : DatIn news x d) (Dy : DatIn news y d) (hx : kqdOk 8 d = true) (hu : A.units + 64 < cLine) (h : Q (.bool true) s) : wpAny (model prog w) A (compareOp .Eq x y) Q E s := by
  obtain ⟨as, ra⟩ := kqd_in N 8 Dx hx
  obtain ⟨bs, rb⟩ := kqd_in N 8 Dy hx
  refine eq_dataH ra rb (dat_shaped hx) (dat_shaped hx) hu ?_
  rw [(kqd_eqv 8 d d 8 hx hx).mpr rfl]
  exact h
theorem dat_diff (N : News h₀ L s.heap news) (Dx : DatIn news x d) (Dy : DatIn news y d) (hx : kqdOk 8 d = true) (hu : A.units + 64 < cLine) (h : Q (.bool false) s) : wpAny (model prog w) A (compareOp .NotEq x y) Q E s := by
  obtain ⟨as, ra⟩ := kqd_in N 8 Dx hx
  obtain ⟨bs, rb⟩ := kqd_in N 8 Dy hx
  refine ne_dataH ra rb (dat_shaped hx) (dat_shaped hx) hu ?_
  rw [(kqd_eqv 8 d d 8 hx hx).mpr rfl]
  exact h
end
theorem knd_strOk {x : Str} (h : kndOk x) : PyData.strOk x = true := by
  rcases h with rfl | rfl | rfl | rfl | rfl <;> decide +kernel
/-- the rows of a frame's components as a datum -/
def rowD (i : Nat) (c : Cp) : Dat := .tuple [.int ((i : Int) + 1), .int c.x, .int c.y, .int c.q]
def rowsD : Nat → List Cp → List Dat
  | _, [] => []
  | i, c :: cs => rowD i c :: rowsD (i + 1) cs
theorem rowsD_get : ∀ (i : Nat) (cs : List Cp) (j : Nat) (c : Cp), cs[j]? = some c → (rowsD i cs)[j]? = some (rowD (i + j) c)
  | _, [], j, c, h => by simp at h
  | i, b :: cs, 0, c, h => by simp at h; subst h; rfl
  | i, b :: cs, j + 1, c, h => by
    have := rowsD_get (i + 1) cs j c (by simpa using h)
    rw [show i + 1 + j = i + (j + 1) by omega] at this
    simpa [rowsD] using this
theorem rowsD_len : ∀ (i : Nat) (cs : List Cp), (rowsD i cs).length = cs.length
  | _, [] => rfl
  | i, _ :: cs => by rw [rowsD, List.length_cons, List.length_cons, rowsD_len]
theorem rowsD_ok : ∀ (i : Nat) (cs : List Cp), ∀ d ∈ rowsD i cs, kqdOk 7 d = true
  | _, [], _, h => nomatch h
  | i, c :: cs, d, h => by
    rcases List.mem_cons.mp h with rfl | h
    · rfl
    · exact rowsD_ok _ cs d h
theorem cpsFrom_get (wish : Str) : ∀ (i : Nat) (ps : List (Int × Int)) (j : Nat) (p : Int × Int), ps[j]? = some p → (cpsFrom wish i ps)[j]? = some ⟨p.1, p.2, slotOf wish ((i + j : Nat) : Int)⟩
  | _, [], j, p, h => by simp at h
  | i, b :: ps, 0, p, h => by simp at h; subst h; rfl
  | i, b :: ps, j + 1, p, h => by
    have := cpsFrom_get wish (i + 1) ps j p (by simpa using h)
    rw [show i + 1 + j = i + (j + 1) by omega] at this
    simpa [cpsFrom] using this
theorem take_snoc {α : Type} {l : List α} {i : Nat} {a : α} (h : l[i]? = some a) : l.take (i + 1) = l.take i ++ [a] := by rw [List.take_add_one, h]; rfl
theorem pairs_dat {news : List (Addr × Obj)} : ∀ {vs : List Value} {ps : List (Int × Int)}, PairsIn news vs ps → DatAll news vs (ps.map fun p => .tuple [.int p.1, .int p.2])
  | _, _, .nil => .nil
  | _, _, .cons ⟨_, _, _, e, h⟩ r => .cons (by rw [e]; exact .tuple h (.cons (.int _ _) (.cons (.int _ _) .nil))) (pairs_dat r)
theorem dat_get {news : List (Addr × Obj)} : ∀ {vs : List Value} {ds : List Dat}, DatAll news vs ds → ∀ {i : Nat} {v : Value} {d : Dat}, vs[i]? = some v → ds[i]? = some d → DatIn news v d
  | _, _, .nil, i, v, d, h, _ => by simp at h
  | _, _, .cons a b, 0, v, d, h, h2 => by simp at h h2; subst h h2; exact a
  | _, _, .cons a b, i + 1, v, d, h, h2 => dat_get b (by simpa using h) (by simpa using h2)
theorem row_open {news : List (Addr × Obj)} {v : Value} {i : Nat} {c : Cp} (h : DatIn news v (rowD i c)) : ∃ (a : Addr) (u1 u2 u3 u4 : Tok) (n : Nat), v = .ref a ∧ (a, ({ cls := .type "tuple", data := .seq #[.int ((i : Int) + 1) u1, .int c.x u2, .int c.y u3, .int c.q u4] n } : Obj)) ∈ news := by
  unfold rowD at h
  cases h with
  | tuple hm r =>
    cases r with
    | cons h1 r => cases h1; cases r with
      | cons h1 r => cases h1; cases r with
        | cons h1 r => cases h1; cases r with
          | cons h1 r => cases h1; cases r; exact ⟨_, _, _, _, _, _, rfl, hm⟩
end
section
local macro_rules | `(tactic| ktr_enter) => `(tactic| (refine' code_defC ?k1 ?k2 ?k3 ?k4 ?k5 ?kA ?kF ?kK ?k6 ?k7 ?k8 ?k9 ?kB ?kD ?_ ?c2 ?c3 ?c4; (case kA | kF => exact rfl); (case kK => first | exact rfl | assumption); (case k1 | k2 | k3 | k4 | k5 => k_asm); (case k6 | k7 => k_is); (case k8 => ktr_room); (case k9 => first | exact BindsTo.of_eq rfl | exact binds_K (by k_in) rfl (by k_is) rfl rfl rfl); (case kB => exact rfl); (case kD => decide +kernel); (case c2 | c3 | c4 => exact rfl); k_whole; intro g' L' h' tk' cells' FG' F' N' Y' B' X' T' l1; (try k_lt l1); k_cells Y'; (try simp only [List.cons_append, List.nil_append] at N'); (try dsimp only); (try k_fold)))
local macro_rules | `(tactic| walk_at "call ref") => `(tactic| (k_here; (with_reducible show wpAny _ _ (call (Value.ref 325) [Value.ref _, Value.ref _]) _ _ _); k_dflt (refine' one_use ?B ?F ?X ?T ?hk ?N ?P ?M ?z1 ?z2 ?a1 ?a2 ?a3 ?d1 ?u1 ?_; (case B | F | X | T => k_asm); (case hk => first | exact rfl | assumption); (case N => k_asm); (case P => walk_at "PULL"); (case M => k_mem); (case z1 | z2 => (simp only [List.length_cons, List.length_nil]; omega)); (case a1 | a2 | a3 => omega); (case d1 => ktr_room); (case u1 => ktr_units); k_whole; intro v' x' y' tx' ty' n' h' tk' m' b3' b4' b5' F' N' o'; (try walk_at "MENU"); (try k_sweep))))
local macro_rules | `(tactic| walk_at "MENU") => `(tactic| first | ((rename _ ∈ [Value.int 1 _, Value.int 3 _, Value.int 3 _, Value.int 4 _, Value.int 2 _, Value.int 5 _] => menu'); obtain ⟨k', t', ek', q1', q2'⟩ := menu_pic menu'; subst ek'; clear menu') | ((rename _ ∈ [Value.int 8 _, Value.int 8 _, Value.int 8 _, Value.int 12 _, Value.int 12 _, Value.int 16 _, Value.int 7 _] => menu'); obtain ⟨k', t', ek', q1'⟩ := menu_prec menu'; subst ek'; clear menu') | skip)
local macro_rules | `(tactic| walk_at "exec For Name Call cons nil") => `(tactic| (k_here; (rename Fr _ _ _ _ => lF'); (with_unfolding_all refine' For_turns lF' ?_); k_whole))
local macro_rules | `(tactic| ktr_enter) => `(tactic| (refine' code_def ?k1 ?k2 ?k3 ?k4 ?k5 ?kA ?kF ?kK ?k6 ?k7 ?k8 ?k9 ?kB ?_ ?c2 ?c3 ?c4 ?c5; (case kA | kF => exact rfl); (case kK => first | exact rfl | assumption); (case k1 | k2 | k3 | k4 | k5 => k_asm); (case k6 | k7 => k_is); (case k8 => ktr_room); (case k9 => first | exact BindsTo.of_eq rfl | exact binds_K (by k_in) rfl (by k_is) rfl rfl rfl); (case c5 => decide); (case kB => exact locs rfl); (case c2 | c3 | c4 => exact rfl); k_whole; intro g' L' h' FG' F' N' B' X' T'; (try dsimp only); (try k_fold)))
local macro_rules | `(tactic| walk_at "call ref") => `(tactic| (k_here; k_dflt (refine' call_cls ?k1 ?k2 ?k3 ?k4 ?k5 ?k6 ?_; (case k1 | k2 | k3 => k_asm); (case k4 | k5 | k6 => k_is); k_whole; intro x' d' h' F' N' l1 l2; (try k_lt l1); (try k_lt2 l2); (try k_sweep); ktr_enter)))
-- part Let
section
theorem zfill_Let : ∀ w : World, (hd.heap_39 w.params, PySem.Challenge.rw_ok0143_01.row.prog) = (hd.heap_39 w.params, PySem.Challenge.rw_ok0143_01.row.prog) := by
  k_fill
  w_top off
  intro w
  rfl
local macro_rules | `(tactic| walk_at "call builtin:min") => `(tactic| (k_here; (with_reducible show wpAny _ _ (call (Value.builtin _) [Value.ref _]) _ _ _); k_dflt (refine' min_pairX ?F ?N ?M ?H ?_; (case F | N => k_asm); (case M => k_mem); (case H => assumption)); intro h' v' tv' tk' ev' F' N'))
local macro_rules | `(tactic| walk_at "call builtin:max") => `(tactic| (k_here; (with_reducible show wpAny _ _ (call (Value.builtin _) [Value.ref _]) _ _ _); k_dflt (refine' max_pairX ?F ?N ?M ?H ?_; (case F | N => k_asm); (case M => k_mem); (case H => assumption)); intro h' v' tv' tk' ev' F' N'))
local macro_rules | `(tactic| walk_at "eval ListComp") => `(tactic| k_dflt (refine' ListComp_JT ?F ?c1 ?c2 ?c3 ?c4 ?c5 ?_; (case F => k_asm); (case c1 => with_unfolding_all rfl); (case c2 => decide); (case c3 => exact rfl); (case c4 => decide); (case c5 => exact rfl)))
theorem any_precs {kind : Str} {prec : Int} : (((precsOf kind).any fun x => x == prec) = true) ↔ prec ∈ precsOf kind := by
  rw [List.any_eq_true]
  constructor
  · rintro ⟨y, hy, e⟩
    rw [← beq_iff_eq.mp e]; exact hy
  · exact fun h => ⟨prec, h, by simp⟩
theorem ones_snoc {nw : List (Addr × Obj)} {ys : List Value} {u : Tok} (h : DatAll nw ys (List.replicate ys.length (.int 1))) : DatAll nw (ys ++ [Value.int 1 u]) (List.replicate (ys ++ [Value.int 1 u]).length (.int 1)) := by
  rw [List.length_append, List.length_singleton, List.replicate_succ']
  exact h.append (.one (.int 1 u))
theorem let_con : ∀ (w : World) (mean : ExcName → Option Value) (mg mb : Str → Option Value) (dp un : Nat) (gd : Option (List Code)) (hdl : Option Value) (cn : Str) (cs : Scope) (a : Addr) (ccd : Value) (cl : List (Str × Addr)) (outer : List Env) (A₀ : Around) (base h₀ : Heap) (L : Addr) (m : Str → Option Value) (s : Shared) (Q E : Value → Shared → Prop) (kind : Str) (prec : Int) (many : Nat) (kv : Value) (smp : Option (List (Int × Int))) (tk1 tp tm : Tok) (news : List (Addr × Obj)),
    Below A₀ base outer h₀ → Fr h₀ L s.heap m → (hd.heap_39 w.params).In h₀ → Top qview (looseW qview lse) mean mg mb h₀ → cs.kind = .function → News h₀ L s.heap news → SmpIn news kv smp → HandIn hdl news → kndOk kind → 1 ≤ many → many ≤ 5 → (psOf smp many).length ≤ 6 → dp + 4 < recursionLimit → un + 200 < cLine →
    (∀ (b : Bool) (nx : List (Addr × Obj)) h' tk', (b = true ↔ frameOk kind prec smp many) → Fr h₀ L h' m → News h₀ L h' nx → (∀ p ∈ news, p ∈ nx) → Q (.bool b) { s with heap := h', toks := tk' }) →
    wpAny (model PySem.Challenge.rw_ok0143_01.row.prog w) (topA hdl dp un gd cn cs L a ccd cl outer) (call (.ref 340) [.str kind tk1, .int prec tp, kv, .int many tm]) Q E s := by
  k_fill; intro w mean mg mb dp un gd hdl cn cs a ccd cl outer A₀ base h₀ L m s Q E
  intro kind prec many kv smp tk1 tp tm news B F X T hk N hsmp hhd hkn hm1 hm2 hps hd1 hu1 hret
  have hkv : handedIn kv = true := smp_handed hsmp
  refine wpAny_call ?_
  (first | k_dflt ktr_enter | fail "not entered")
  rename_i g1 L1 h1 FG F1 N1 B1 X1 T1
  iterate 2 (first | (k_unfold; (try dsimp only)) | (k_end; wrow_close) | walk1 | (dsimp only; walk1) | (leave1; try dsimp only))
  refine cut_at (by exact F1) (fun f nx => (∀ p ∈ news, p ∈ nx) ∧ ((f = .next ∧ prec ∈ precsOf kind) ∨ (f = .ret (.bool false) ∧ prec ∉ precsOf kind))) ?br ?rest
  case br =>
    have e8 : (kind == PySem.Str.ofString "baseline") = true → precsOf kind = [8] := fun e => by rw [eq_of_beq e]; exact precs_base
    have e12 : (kind == PySem.Str.ofString "baseline") = false → precsOf kind = [8, 12] := fun e => precs_other fun q => by rw [q] at e; simp at e
    k_steps
    all_goals rename_i tkA hkd lA hA FA NA lA1 i1 i2 hany
    · rw [← e8 hkd] at hany
      exact ⟨_, _, _, rfl, FA, NA, fun p hp => .tail _ hp, .inl ⟨rfl, any_precs.mp hany⟩⟩
    · rw [← e8 hkd] at hany
      exact ⟨_, _, _, rfl, FA, NA, fun p hp => .tail _ hp, .inr ⟨rfl, fun q => by rw [any_precs.mpr q] at hany; cases hany⟩⟩
    · rw [← e12 hkd] at hany
      exact ⟨_, _, _, rfl, FA, NA, fun p hp => .tail _ hp, .inl ⟨rfl, any_precs.mp hany⟩⟩
    · rw [← e12 hkd] at hany
      exact ⟨_, _, _, rfl, FA, NA, fun p hp => .tail _ hp, .inr ⟨rfl, fun q => by rw [any_precs.mpr q] at hany; cases hany⟩⟩
  case rest =>
    rintro f h' tk' nx F N ⟨hsub, hf⟩
    clear F1 N1
    rcases hf with ⟨rfl, hpr⟩ | ⟨rfl, hpr⟩
    · cases smp with
      | none =>
        have hkv : kv = .none := hsmp
        subst hkv
        k_steps
        rename_i kF kN Tc kX
        refine hret true nx _ _ ⟨fun _ => ⟨hpr, List.length_replicate, fun p hp => ?_⟩, fun _ => rfl⟩ kF kN hsub
        rw [List.eq_of_mem_replicate hp]
        exact ⟨by decide, by decide, by decide, by decide⟩
      | some ps =>
        obtain ⟨lK, vsK, kK, rfl, hlK, hpK⟩ := hsmp
        have hvl := hpK.length
        have hlK' := hsub _ hlK
        have hps : ps.length ≤ 6 := hps
        k_steps
        · rename_i n1 e1 q1
          have hlen : ps.length = many := by omega
          refine ⟨lK, vsK, kK, nx, fun i ys nw => (∀ p ∈ nx, p ∈ nw) ∧ DatAll nw ys (List.replicate ys.length (.int 1)) ∧ (ys = [] ↔ ∀ p ∈ ps.take i, prOk p), rfl, by omega, F, N, ⟨fun p hp => hp, .nil, ⟨fun _ p hp => by simp at hp, fun _ => rfl⟩⟩, fun _ _ _ q => q.1 _ hlK', fun _ _ _ q => hhd.mono fun p hp => q.1 _ (hsub _ hp), ?step, ?fin⟩
          case step =>
            intro i ys nw v I oI C oC D m₂ h tk E' hi hl hJ hv hNs hm F N off ne
            obtain ⟨hJ1, hJ2, hJ3⟩ := hJ
            obtain ⟨pr, hp1, tpA, a1, a2, rfl, htp⟩ := hpK.get hv
            have htp' := hJ1 _ (hsub _ htp)
            have hhd' : HandIn hdl ((I, oI) :: (C, oC) :: (D, PyProof.Rows.LCg.lst ys) :: nw) := hhd.mono fun p hp => .tail _ (.tail _ (.tail _ (hJ1 _ (hsub _ hp))))
            have htk : ps.take (i + 1) = ps.take i ++ [pr] := by rw [List.take_add_one, hp1]; rfl
            k_steps
            · rename_i hA v1 t1 tk1 ev FA NA q2
              exact ⟨_, _, nw, rfl, FA, NA, off, hJ1, ones_snoc hJ2, ⟨fun z => by simp at z, fun z => absurd (z pr (by rw [htk]; simp)) fun w' => by have := w'.1; have := w'.2.2.1; split at ev <;> omega⟩⟩
            · rename_i hA v1 t1 tk1 ev FA NA q2 hB v3 t3 tk3 ev3 FB NB q3
              exact ⟨_, _, nw, rfl, FB, NB, off, hJ1, ones_snoc hJ2, ⟨fun z => by simp at z, fun z => absurd (z pr (by rw [htk]; simp)) fun w' => by have := w'.2.1; have := w'.2.2.2; split at ev3 <;> omega⟩⟩
            · rename_i hA v1 t1 tk1 ev FA NA q2 hB v3 t3 tk3 ev3 FB NB q3
              refine ⟨_, _, nw, rfl, FB, NB, off, hJ1, hJ2, ⟨fun z p hp => ?_, fun z => hJ3.mpr fun p hp => z p (by rw [htk]; exact List.mem_append_left _ hp)⟩⟩
              rw [htk] at hp
              rcases List.mem_append.mp hp with hp | hp
              · exact hJ3.mp z p hp
              · rw [List.mem_singleton.mp hp]
                refine ⟨?_, ?_, ?_, ?_⟩ <;> (split at ev <;> split at ev3 <;> omega)
          case fin =>
            intro ys nw D h tk hJ F N o
            obtain ⟨hJ1, hJ2, hJ3⟩ := hJ
            have oel := off1_mem o
            k_steps
            rename_i lE hE FE NE lE1
            refine kqd_eq (n₁ := nw) (n₂ := []) (xs := ys) (ys := []) (ds := List.replicate ys.length (.int 1)) (es := []) NE (.tail _ (.head _)) rfl rfl hJ2 (fun p hp => .tail _ (.tail _ hp)) (.head _) rfl rfl .nil (fun p hp => (nomatch hp)) (fun d hd => by rw [List.eq_of_mem_replicate hd]; rfl) (fun d hd => (nomatch hd)) (by show un + 3 + 64 < cLine; omega) ?_
            k_steps
            rename_i kF kN Tc kX
            refine hret _ _ _ _ ⟨fun q => ⟨hpr, hlen, fun p hp => ?_⟩, fun q => ?_⟩ kF kN fun p hp => .tail _ (.tail _ (hJ1 _ (hsub _ hp)))
            · have z : ys = [] := List.eq_nil_of_length_eq_zero (by simpa using of_decide_eq_true q)
              have := hJ3.mp z p
              rw [hvl, List.take_length] at this
              exact this hp
            · have z : ys = [] := hJ3.mpr (by rw [hvl, List.take_length]; exact q.2.2)
              exact decide_eq_true (by rw [z]; rfl)
        · rename_i n1 e1 q1 kF kN Tc kX
          have hb : (n1 == (many : Int)) = false := beq_eq_false_iff_ne.mpr q1
          rw [hb]
          refine hret false nx _ _ ⟨fun q => (nomatch q), fun q => absurd q.2.1 ?_⟩ kF kN hsub
          show ¬ ps.length = many
          omega
    · k_steps
      rename_i kF kN Tc kX
      exact hret false nx _ _ ⟨fun q => (nomatch q), fun q => absurd q.1 hpr⟩ kF kN hsub
end
-- part Pic
section
theorem zfill_Pic : ∀ w : World, (hd.heap_39 w.params, PySem.Challenge.rw_ok0143_01.row.prog) = (hd.heap_39 w.params, PySem.Challenge.rw_ok0143_01.row.prog) := by
  k_fill
  w_top off
  intro w
  rfl
def PicJ (w : World) (src pl c1 c2 : Addr) (rest : List (Addr × Obj)) (i : Nat) (nx : List (Addr × Obj)) : Prop :=
  ∃ (a b : Int) (ta tb : Tok) (k kk : Nat) (vs : List Value) (pds : List Pd) (o1 o2 : Obj) (v1 v2 : Option Value) (tl : List (Addr × Obj)),
    nx = (src, W.listOf #[.int a ta, .int b tb] k) :: (pl, W.listOf vs.toArray kk) :: (c1, o1) :: (c2, o2) :: tl ∧ 0 ≤ a ∧ 0 ≤ b ∧ b < 2147483647 ∧ vs.length = i ∧ o1.data = .cell v1 ∧ o2.data = .cell v2 ∧
    (∀ p ∈ rest, p ∈ tl) ∧ OwnOff tl [src, pl, c1, c2] ∧ PlanesIn w tl vs pds ∧ ∀ pd ∈ pds, PdOk pd
def IntsJ (nx₀ : List (Addr × Obj)) (_i : Nat) (ys : List Value) (nx : List (Addr × Obj)) : Prop := nx = nx₀ ∧ ∀ y ∈ ys, ∃ k t, y = .int k t ∧ 0 ≤ k ∧ k ≤ 20
def RowsJ (led : List (Addr × Obj)) (_i : Nat) (ys : List Value) (nx : List (Addr × Obj)) : Prop :=
  ∃ (ext : List (Addr × Obj)) (ds : List Dat), nx = ext ++ led ∧ (∀ p ∈ ext, ∀ q ∈ led, p.1 ≠ q.1) ∧ DatAll ext ys ds ∧ ∀ d ∈ ds, RowOk d
theorem pic_con : ∀ (w : World) (mean : ExcName → Option Value) (mg mb : Str → Option Value) (dp un : Nat) (gd : Option (List Code)) (hdl : Option Value) (cn : Str) (cs : Scope) (a : Addr) (ccd : Value) (cl : List (Str × Addr)) (outer : List Env) (A₀ : Around) (base h₀ : Heap) (L : Addr) (m : Str → Option Value) (s : Shared) (Q E : Value → Shared → Prop) (src : Addr) (x y : Int) (tx ty : Tok) (n : Nat) (rest : List (Addr × Obj)),
    Below A₀ base outer h₀ → Fr h₀ L s.heap m → (hd.heap_39 w.params).In h₀ → Top qview (looseW qview lse) mean mg mb h₀ → cs.kind = .function → News h₀ L s.heap ((src, W.listOf #[.int x tx, .int y ty] n) :: rest) → OwnOff rest [src] → hdl = none →
    0 ≤ x → 0 ≤ y → y < 2147483647 → dp + 5 < recursionLimit → un + 40 < cLine →
    (∀ (pic : Addr) (prec : Int) (pds : List Pd) (x' y' : Int) (tx' ty' : Tok) (n' : Nat) (rest' : List (Addr × Obj)) h' tk', (prec = 7 ∨ prec = 8 ∨ prec = 12 ∨ prec = 16) → 1 ≤ pds.length → pds.length ≤ 5 → (∀ pd ∈ pds, PdOk pd) → 0 ≤ x' → 0 ≤ y' → y' < 2147483647 → Fr h₀ L h' m →
      News h₀ L h' ((src, W.listOf #[.int x' tx', .int y' ty'] n') :: rest') → OwnOff rest' [src] → (∀ p ∈ rest, p ∈ rest') → PicIn w rest' pic prec pds → Q (.ref pic) { s with heap := h', toks := tk' }) →
    wpAny (model PySem.Challenge.rw_ok0143_01.row.prog w) (topA hdl dp un gd cn cs L a ccd cl outer) (call (.ref 330) [.ref src]) Q E s := by
  k_fill; intro w mean mg mb dp un gd hdl cn cs a ccd cl outer A₀ base h₀ L m s Q E
  intro src x y tx ty n rest B F X T hk N hoff hh hx hy hy2 hd1 hu1 hret
  subst hh
  refine wpAny_call ?_
  (first | k_dflt ktr_enter | fail "not entered")
  k_steps
  rename_i g1 L1 h5 tk1 FG B1 X1 T1 l1a o1 o2 d1 d2 pl h4 l1b h3 lm h2 l1c xa ya txa tya na h1 tka b3 b4 b5 F1 N1 of1 kk tkk q1 q2 h0 tk0 t1 u1 v1 hr Fr0 Nr0 kp
  obtain ⟨nn, hnn⟩ : ∃ nn : Nat, kk = (nn : Int) := ⟨kk.toNat, by omega⟩
  refine turns_J (x := PySem.Str.ofString "place") [PySem.Str.ofString "height"] (PicJ w src pl (L1 + 1 + 1) (L1 + 1) rest) rfl hr hnn (by omega) Fr0 (nx := (src, W.listOf #[.int xa txa, .int ya tya] na) :: (pl, W.listOf [].toArray 0) :: (L1 + 1 + 1, o1) :: (L1 + 1, o2) :: rest) Nr0 ?sub ?j0 (fun _ _ => rfl) ?turn ?done
  case sub =>
    intro p hp
    simp only [List.mem_cons] at hp ⊢
    rcases hp with h | h | h | h | h <;> simp only [h, eq_self, true_or, or_true]
  case j0 =>
    refine ⟨xa, ya, txa, tya, na, 0, [], [], o1, o2, _, _, rest, rfl, b3, b4, b5, rfl, d1, d2, fun _ h => h, fun p hp b hb => ?_, .nil, fun _ h => (nomatch h)⟩
    simp only [List.mem_cons, List.not_mem_nil, or_false] at hb
    have q1 : @LT.lt Nat _ p.1 L1 := ktn_ltOf l1a.2 p hp
    have q2 : @LT.lt Nat _ p.1 pl := ktn_ltOf l1b.2.2.2 p hp
    rcases hb with rfl | rfl | rfl | rfl
    · exact hoff p hp _ (by simp)
    · exact Nat.ne_of_lt q2
    · exact Nat.ne_of_lt (Nat.lt_of_lt_of_le q1 (Nat.le_trans (Nat.le_succ _) (Nat.le_succ _)))
    · exact Nat.ne_of_lt (Nat.lt_of_lt_of_le q1 (Nat.le_succ _))
  case turn =>
    intro i t u h tk I oI nx hi hJ hI F N
    obtain ⟨a, b, ta, tb, k, kl, vs, pds, o1, o2, v1, v2, tl, rfl, ha, hb, hb2, hvl, ho1, ho2, hrest, hoff2, hpl, hpd⟩ := hJ
    obtain ⟨i1, hI⟩ := off_cons hI
    obtain ⟨i2, hI⟩ := off_cons hI
    obtain ⟨i3, hI⟩ := off_cons hI
    obtain ⟨i4, hI⟩ := off_cons hI
    refine turn_gen fun R' hR => ?_
    k_steps
    refine ListComp_JC (by k_asm) (by with_unfolding_all rfl) (fun _ _ => rfl) (fun _ => rfl) rfl (by decide) (fun _ _ => rfl) ?_
    k_steps
    rename_i hpc ocp dcp tkp w1 tw1 xa1 ya1 txa1 tya1 na1 ha1 tka1 w1a w1b b31 b41 b51 of1 hh1 thh1 xa2 ya2 txa2 tya2 na2 ha2 tka2 h1a h1b b32 b42 b52 of2 D0 hD0 lD0 hc3 hc2 oc1 dc1 hc1 Fc Nc hc0 tkc0 t1c u1c v1c hrc Frc Nrc kpc
    obtain ⟨hn, ehn⟩ : ∃ hn : Nat, 1 + hh1 = (hn : Int) := ⟨(1 + hh1).toNat, by omega⟩
    obtain ⟨wn, ewn⟩ : ∃ wn : Nat, 1 + w1 = (wn : Int) := ⟨(1 + w1).toNat, by omega⟩
    obtain ⟨led, hled, Nl⟩ : ∃ led, led = _ ∧ News g1 L1 hc0 led := ⟨_, rfl, Nrc⟩
    have hm1 : (L1 + 1 + 1, oc1) ∈ led := by rw [hled]; k_mem
    have hm2 : (L1 + 1, ocp) ∈ led := by rw [hled]; k_mem
    refine srcC_range (RowsJ led) rfl hrc ehn (by omega) Frc Nl ⟨[], [], rfl, fun _ h => (nomatch h), .nil, fun _ h => (nomatch h)⟩ ?rstep ?rfin
    case rstep =>
      intro i2 t2 ys nx I2 oI2 C2 oC2 c2 oc2 D2 h2' tk2' E2 hi2 hl2 hJ2 hoc2 F2 N2 off2 ne2
      obtain ⟨ext, ds, rfl, hsep, hda, hro⟩ := hJ2
      have m1 : (L1 + 1 + 1, oc1) ∈ ext ++ led := List.mem_append_right _ hm1
      have m2 : (L1 + 1, ocp) ∈ ext ++ led := List.mem_append_right _ hm2
      clear Frc Nrc Fc Nc Nl hrc
      refine elt_gen fun R2' hR2 => ?_
      refine ListComp_J (by k_asm) (by with_unfolding_all rfl) (by decide) rfl (by decide) rfl ?_
      k_steps
      rename_i hq tkq tq uq vq hrq Fq Nq kpq
      refine src_range (IntsJ _) rfl hrq ewn (by omega) Fq Nq ⟨rfl, fun _ h => (nomatch h)⟩ ?istep ?ifin
      case istep =>
        intro i3 t3 ys3 nx3 I3 oI3 C3 oC3 D3 m3 h3' tk3' E3 hi3 hl3 hJ3 hNs3 hm3 F3 N3 off3 ne3
        obtain ⟨rfl, hy3⟩ := hJ3
        clear Fq Nq hrq
        refine elt_gen fun R3' hR3 => ?_
        k_steps
        rename_i F9 N9
        refine hR3 _ _ ⟨_, _, _, rfl, F3, N3, off3, rfl, fun y hy => ?_⟩
        rcases List.mem_append.mp hy with hy | hy
        · exact hy3 y hy
        · exact ⟨_, _, List.mem_singleton.mp hy, by omega, by omega⟩
      case ifin =>
        intro ys3 nx3 D3 h3' tk3' hl3 hJ3 F3 N3 o3
        obtain ⟨rfl, hy3⟩ := hJ3
        obtain ⟨es, e1, e2, e3⟩ := ints_dat (news := (D3, W.listOf ys3.toArray ys3.length) :: ext) hy3
        obtain ⟨oI3, oC3, oc3, oD3, o3⟩ := o3
        have oel := off1_mem o3
        refine hR2 _ _ ⟨_, _, (D3, W.listOf ys3.toArray ys3.length) :: (ext ++ led), rfl, F3, fun p hp => N3 p ?_, fun p hp => ?_, (D3, W.listOf ys3.toArray ys3.length) :: ext, ds ++ [.list es], rfl, fun p hp q hq => ?_, ?_, fun d hd => ?_⟩
        · rcases List.mem_cons.mp hp with rfl | hp
          · exact .tail _ (.head _)
          rcases List.mem_cons.mp hp with rfl | hp
          · exact .tail _ (.tail _ (.head _))
          rcases List.mem_cons.mp hp with rfl | hp
          · exact .tail _ (.tail _ (.tail _ (.head _)))
          rcases List.mem_cons.mp hp with rfl | hp
          · exact .tail _ (.tail _ (.tail _ (.tail _ (.head _))))
          rcases List.mem_cons.mp hp with rfl | hp
          · exact .head _
          · exact .tail _ (.tail _ (.tail _ (.tail _ (.tail _ hp))))
        · rcases List.mem_cons.mp hp with rfl | hp
          · exact ⟨Ne.symm oI3, Ne.symm oC3, Ne.symm oc3, Ne.symm oD3⟩
          · exact off2 p hp
        · rcases List.mem_cons.mp hp with rfl | hp
          · exact fun z => oel q (List.mem_append_right _ hq) z.symm
          · exact hsep p hp q hq
        · exact (hda.mono fun p hp => .tail _ hp).append (.one (.list (.head _) e1))
        · rcases List.mem_append.mp hd with hd | hd
          · exact hro d hd
          · rw [List.mem_singleton.mp hd]
            exact ⟨es, rfl, by omega, e3⟩
    case rfin =>
      intro ys nx D h9 tk9 hl9 hJ9 F9 N9 o9
      obtain ⟨ext, ds, rfl, hsep, hda, hro⟩ := hJ9
      have hlen : ds.length = hn := by rw [← hl9, hda.length]
      have hrows : RowsOk (.list ds) := ⟨ds, rfl, by omega, hro⟩
      have hD : DatIn ((D, W.listOf ys.toArray ys.length) :: ext) (.ref D) (.list ds) := .list (.head _) (hda.mono fun p hp => .tail _ hp)
      subst hled
      have s1 := fun p hp => hsep p hp _ (.tail _ (.head _))
      have s2 := fun p hp => hsep p hp _ (.tail _ (.tail _ (.head _)))
      have s3 := fun p hp => hsep p hp _ (.tail _ (.tail _ (.tail _ (.head _))))
      have s4 := fun p hp => hsep p hp _ (.tail _ (.tail _ (.tail _ (.tail _ (.head _)))))
      have s5 := fun p hp => hsep p hp _ (.tail _ (.tail _ (.tail _ (.tail _ (.tail _ (.head _))))))
      have d1 : @Ne Nat src D := o9 _ (List.mem_append_right _ (.tail _ (.head _)))
      have d2 : @Ne Nat I D := o9 _ (List.mem_append_right _ (.tail _ (.tail _ (.head _))))
      have d3 : @Ne Nat pl D := o9 _ (List.mem_append_right _ (.tail _ (.tail _ (.tail _ (.head _)))))
      have d4 : @Ne Nat (L1 + 1 + 1) D := o9 _ (List.mem_append_right _ (.tail _ (.tail _ (.tail _ (.tail _ (.head _))))))
      have d5 : @Ne Nat (L1 + 1) D := o9 _ (List.mem_append_right _ (.tail _ (.tail _ (.tail _ (.tail _ (.tail _ (.head _)))))))
      have ofx : OwnOff (ext ++ tl) [src, pl, L1 + 1 + 1, L1 + 1, I] := by
        intro p hp b hb
        rcases List.mem_append.mp hp with hp | hp
        · simp only [List.mem_cons, List.not_mem_nil, or_false] at hb
          rcases hb with rfl | rfl | rfl | rfl | rfl
          · exact s1 p hp
          · exact s3 p hp
          · exact s4 p hp
          · exact s5 p hp
          · exact s2 p hp
        · simp only [List.mem_cons, List.not_mem_nil, or_false] at hb
          rcases hb with rfl | rfl | rfl | rfl | rfl
          · exact hoff2 p hp _ (by simp)
          · exact hoff2 p hp _ (by simp)
          · exact hoff2 p hp _ (by simp)
          · exact hoff2 p hp _ (by simp)
          · exact hI p hp
      have N10 : News g1 L1 h9 ((src, W.listOf #[Value.int xa2 txa2, Value.int ya2 tya2] na2) :: (I, oI) :: (pl, W.listOf vs.toArray kl) :: (L1 + 1 + 1, oc1) :: (L1 + 1, ocp) :: (D, W.listOf ys.toArray ys.length) :: (ext ++ tl)) := by
        intro p hp
        refine N9 p ?_
        rcases List.mem_cons.mp hp with rfl | hp
        · exact .tail _ (List.mem_append_right _ (.tail _ (.head _)))
        rcases List.mem_cons.mp hp with rfl | hp
        · exact .tail _ (List.mem_append_right _ (.tail _ (.tail _ (.head _))))
        rcases List.mem_cons.mp hp with rfl | hp
        · exact .tail _ (List.mem_append_right _ (.tail _ (.tail _ (.tail _ (.head _)))))
        rcases List.mem_cons.mp hp with rfl | hp
        · exact .tail _ (List.mem_append_right _ (.tail _ (.tail _ (.tail _ (.tail _ (.head _))))))
        rcases List.mem_cons.mp hp with rfl | hp
        · exact .tail _ (List.mem_append_right _ (.tail _ (.tail _ (.tail _ (.tail _ (.tail _ (.head _)))))))
        rcases List.mem_cons.mp hp with rfl | hp
        · exact .head _
        rcases List.mem_append.mp hp with hp | hp
        · exact .tail _ (List.mem_append_left _ hp)
        · exact .tail _ (List.mem_append_right _ (.tail _ (.tail _ (.tail _ (.tail _ (.tail _ (.tail _ hp)))))))
      clear N9 Frc Nrc Fc Nc Nl hrc
      k_steps
      rename_i xp dpp hz5 lz1 lz2 gz Lz hz4 Bz Xz Tz tkz hz3 hz2 hz1 Fz1 Nz1 Tcz kXz hz Fz Nz
      obtain ⟨od, eod, Nz⟩ : ∃ od, od = _ ∧ News g1 L1 hz ((xp, instObj 239 dpp) :: (dpp, od) :: _) := ⟨_, rfl, Nz⟩
      have ep : vs.toArray.push (Value.ref xp) = (vs ++ [Value.ref xp]).toArray := by simp
      rw [ep] at Nz
      have at1 : AllLt dpp (ext ++ tl) := lz1.2.2.2.2.2.2
      refine hR .next _ ⟨_, _, _, (src, W.listOf #[Value.int xa2 txa2, Value.int ya2 tya2] na2) :: (pl, W.listOf (vs ++ [Value.ref xp]).toArray (kl + 1)) :: (L1 + 1 + 1, oc1) :: (L1 + 1, ocp) :: (xp, instObj 239 dpp) :: (dpp, od) :: (D, W.listOf ys.toArray ys.length) :: (ext ++ tl), rfl, Fz, fun p hp => Nz p ?_, fun p hp => ?_, fun y hy hs => ?_, ?_⟩
      · simp only [List.mem_cons] at hp ⊢
        rcases hp with h | h | h | h | h | h | h | h | h <;> simp only [h, eq_self, true_or, or_true]
      · simp only [List.mem_cons] at hp
        rcases hp with h | h | h | h | h | h | h | h
        · rw [h]; exact i1
        · rw [h]; exact i2
        · rw [h]; exact i3
        · rw [h]; exact i4
        · rw [h]; refine neN ?_; dsimp only; omega
        · rw [h]; refine neN ?_; dsimp only; omega
        · rw [h]; exact Ne.symm d2
        · exact ofx p h _ (by simp)
      · have : y ≠ PySem.Str.ofString "height" := fun q => by subst q; exact absurd hs (by decide)
        simp only [if_neg this, if_neg hy, hs, Bool.false_eq_true, if_false]
      · refine ⟨xa2, ya2, txa2, tya2, na2, kl + 1, vs ++ [Value.ref xp], pds ++ [⟨1 + w1, 1 + hh1, .list ds⟩], oc1, ocp, _, _, _, rfl, b32, b42, b52, by simp [hvl], dc1, dcp, fun p hp => .tail _ (.tail _ (.tail _ (List.mem_append_right _ (hrest p hp)))), fun p hp b hb => ?_, ?_, fun pd hp => ?_⟩
        · simp only [List.mem_cons] at hp
          simp only [List.mem_cons, List.not_mem_nil, or_false] at hb
          rcases hp with h | h | h | h <;> rcases hb with rfl | rfl | rfl | rfl <;> first | exact ofx p h _ (by simp) | (rw [h]; refine neN ?_; dsimp only; omega)
        · subst eod
          exact (hpl.mono fun p hp => .tail _ (.tail _ (.tail _ (List.mem_append_right _ hp)))).snoc (PlaneIn.mk (.head _) (.tail _ (.head _)) (hD.mono fun p hp => by
            rcases List.mem_cons.mp hp with rfl | hp
            · exact .tail _ (.tail _ (.head _))
            · exact .tail _ (.tail _ (.tail _ (List.mem_append_left _ hp)))))
        · rcases List.mem_append.mp hp with hp | hp
          · exact hpd pd hp
          · rw [List.mem_singleton.mp hp]
            refine ⟨?_, ?_, ?_, ?_, hrows⟩ <;> (dsimp only; omega)
  case done =>
    intro u h tk nx hJ F N
    obtain ⟨a, b, ta, tb, k, kl, vs, pds, o1, o2, v1, v2, tl, rfl, ha, hb, hb2, hvl, ho1, ho2, hrest, hoff2, hpl, hpd⟩ := hJ
    clear Fr0 Nr0 hr
    k_steps
    rename_i xq yq txq tyq nq hq5 tkq bq3 bq4 bq5 oq kq tq1 qq1 xp dpp hq4 Fq1 Nq1 lq1 lq2 gq Lq hq3 FGq Bq Xq Tq hq2 hq1 hq Fq Nq kFq1 kNq1 Tcq1 kXq1 kFq kNq Tcq kXq
    have hlen := hpl.length
    obtain ⟨od, eod, kNq⟩ : ∃ od, od = _ ∧ News h₀ L hq ((xp, instObj 277 dpp) :: (dpp, od) :: _) := ⟨_, rfl, kNq⟩
    refine hret xp kq pds xq yq txq tyq nq ((xp, instObj 277 dpp) :: (dpp, od) :: (pl, W.listOf vs.toArray kl) :: (L1 + 1 + 1, o1) :: (L1 + 1, o2) :: tl) _ _ qq1 (by omega) (by omega) hpd bq3 bq4 bq5 kFq (fun p hp => kNq p ?_) (fun p hp b hb => ?_) (fun p hp => .tail _ (.tail _ (.tail _ (.tail _ (.tail _ (hrest p hp)))))) ?_
    · simp only [List.mem_cons] at hp ⊢
      rcases hp with h | h | h | h | h | h | h <;> simp only [h, eq_self, true_or, or_true]
    · simp only [List.mem_cons] at hp
      have ofs := fun p hp => oq p hp src (by simp)
      rw [List.mem_singleton.mp hb]
      rcases hp with h | h | h | h | h | h
      · rw [h]; refine neN ?_; dsimp only; omega
      · rw [h]; refine neN ?_; dsimp only; omega
      · exact ofs p (by rw [h]; simp)
      · exact ofs p (by rw [h]; simp)
      · exact ofs p (by rw [h]; simp)
      · exact ofs p (by simp [h])
    · subst eod
      exact PicIn.mk (.head _) (.tail _ (.head _)) (.tail _ (.tail _ (.head _))) (hpl.mono fun p hp => .tail _ (.tail _ (.tail _ (.tail _ (.tail _ hp)))))
end
-- part Sett
section
theorem zfill_Sett : ∀ w : World, (hd.heap_39 w.params, PySem.Challenge.rw_ok0143_01.row.prog) = (hd.heap_39 w.params, PySem.Challenge.rw_ok0143_01.row.prog) := by
  k_fill
  w_top off
  intro w
  rfl
theorem notin_kinds {prog : Program} {w : World} {A : Around} {E : Value → Shared → Prop} {s : Shared} {t : Addr} {items : Array Value} {x : Str} {u : Tok} {Q : Value → Shared → Prop} (ht : IsTup s.heap t items)
    (hi : StrsAre items.toList [PySem.Str.ofString "baseline", PySem.Str.ofString "extended", PySem.Str.ofString "progressive", PySem.Str.ofString "arith", PySem.Str.ofString "arith progressive"]) (hk : kndOk x) (h : Q (.bool false) s) :
    wpAny (model prog w) A (compareOp .NotIn (.str x u) (.ref t)) Q E s := by
  refine notin_tuple_strs ht hi ?_
  have : (([PySem.Str.ofString "baseline", PySem.Str.ofString "extended", PySem.Str.ofString "progressive", PySem.Str.ofString "arith", PySem.Str.ofString "arith progressive"] : List Str).any fun y => y == x) = true := by
    rcases hk with rfl | rfl | rfl | rfl | rfl <;> simp only [List.any_cons, beq_self_eq_true, Bool.true_or, Bool.or_true]
  rw [this]
  exact h
local macro_rules | `(tactic| walk_at "compareOp NotIn str ref") => `(tactic| (k_here; k_dflt (refine' notin_kinds ?t ?i ?m ?_; (case t => exact kun_topT (by k_asm) (by k_asm) (by k_is)); (case i => repeat constructor); (case m => assumption)); k_whole))
theorem set_con : ∀ (w : World) (mean : ExcName → Option Value) (mg mb : Str → Option Value) (dp un : Nat) (gd : Option (List Code)) (hdl : Option Value) (cn : Str) (cs : Scope) (a : Addr) (ccd : Value) (cl : List (Str × Addr)) (outer : List Env) (A₀ : Around) (base h₀ : Heap) (L : Addr) (m : Str → Option Value) (s : Shared) (Q E : Value → Shared → Prop) (kind wish : Str) (n : Int) (sv : Value) (u1 u2 u3 u4 u5 : Tok) (news : List (Addr × Obj)),
    Below A₀ base outer h₀ → Fr h₀ L s.heap m → (hd.heap_39 w.params).In h₀ → Top qview (looseW qview lse) mean mg mb h₀ → cs.kind = .function → News h₀ L s.heap news → kndOk kind → hdl = none → dp + 5 < recursionLimit → un + 60 < cLine →
    (∀ (st : Addr) (nx : List (Addr × Obj)) h' tk', Fr h₀ L h' m → News h₀ L h' nx → (∀ p ∈ news, p ∈ nx) → (∀ p ∈ nx, p ∈ news ∨ ∀ q ∈ news, q.1 < p.1) → SetIn w nx st kind sv n wish → Q (.ref st) { s with heap := h', toks := tk' }) →
    wpAny (model PySem.Challenge.rw_ok0143_01.row.prog w) (topA hdl dp un gd cn cs L a ccd cl outer) (call (.ref 300) [.str kind u1, .int 60 u2, sv, .int 0 u3, .bool false, .none, .int n u4, .str wish u5]) Q E s := by
  k_fill; intro w mean mg mb dp un gd hdl cn cs a ccd cl outer A₀ base h₀ L m s Q E
  intro kind wish n sv u1 u2 u3 u4 u5 news B F X T hk N hm hh hd1 hu1 hret
  subst hh
  refine' call_cls ?k1 ?k2 ?k3 ?k4 ?k5 ?k6 ?_; (case k1 => k_asm); (case k2 => k_asm); (case k3 => k_asm); (case k4 => k_dflt k_is); (case k5 => k_dflt k_is); (case k6 => k_dflt k_is); intro x' d' h' F' N' l1 l2; (try k_lt l1); (try k_lt2 l2); (try k_sweep); (first | k_dflt ktr_enter | fail "not entered")
  k_steps
  rename_i kF kN Tc kX
  obtain ⟨od, eod, kN⟩ : ∃ od, od = _ ∧ News h₀ L _ ((x', instObj 300 d') :: (d', od) :: news) := ⟨_, rfl, kN⟩
  refine hret x' ((x', instObj 300 d') :: (d', od) :: news) _ _ kF kN (fun p hp => .tail _ (.tail _ hp)) (fun p hp => ?_) ?_
  · rcases List.mem_cons.mp hp with rfl | hp
    · exact .inr fun q hq => Nat.lt_trans (l1 q hq) l2
    rcases List.mem_cons.mp hp with rfl | hp
    · exact .inr fun q hq => l1 q hq
    · exact .inl hp
  · subst eod
    exact SetIn.mk (.head _) (.tail _ (.head _))
end
section
local macro_rules | `(tactic| k_handed) => `(tactic| assumption)
local macro_rules | `(tactic| k_all) => `(tactic| assumption)
local macro_rules | `(tactic| walk_at "assign Tuple") => `(tactic| (k_here; (with_reducible show wpAny _ _ (assign (Expr.Tuple _ _ _) _ (Value.ref _)) _ _ _); k_dflt (refine' unpackN_ ?F ?N ?T ?h1 ?n ?s ?_; (case F | N => k_asm); (case T => exact News.isTup (by k_asm) (by k_mem)); (case h1 | n | s => exact rfl)); intro h' F' N'; (try dsimp only)))
local macro_rules | `(tactic| walk_at "call ref") => `(tactic| (k_here; (with_reducible show wpAny _ _ (call (Value.ref 203) [Value.str _ _, Value.int _ _]) _ _ _); k_dflt (refine' slot_con _ _ _ _ _ _ _ _ _ _ _ _ _ _ _ _ _ _ _ _ _ _ _ _ _ _ _ ?B ?F ?X ?T ?hk ?N ?a1 ?a2 ?a3 ?d1 ?u1 ?_; (case B | F | X | T => k_asm); (case hk => first | exact rfl | assumption); (case N => k_asm); (case a1 => assumption); (case a2 | a3 => omega); (case d1 => ktr_room); (case u1 => ktr_units); k_whole; intro t' h' tk' F' N'; (try k_sweep))))
-- part Made
section
theorem zfill_Made : ∀ w : World, (hd.heap_39 w.params, PySem.Challenge.rw_ok0143_01.row.prog) = (hd.heap_39 w.params, PySem.Challenge.rw_ok0143_01.row.prog) := by
  k_fill
  w_top off
  intro w
  rfl
theorem made_con : ∀ (w : World) (mean : ExcName → Option Value) (mg mb : Str → Option Value) (dp un : Nat) (gd : Option (List Code)) (hdl : Option Value) (cn : Str) (cs : Scope) (a : Addr) (ccd : Value) (cl : List (Str × Addr)) (outer : List Env) (A₀ : Around) (base h₀ : Heap) (L : Addr) (m : Str → Option Value) (s : Shared) (Q E : Value → Shared → Prop) (pic st : Addr) (prec n : Int) (pds : List Pd) (kind wish : Str) (sv : Value) (smp : Option (List (Int × Int))) (news : List (Addr × Obj)),
    Below A₀ base outer h₀ → Fr h₀ L s.heap m → (hd.heap_39 w.params).In h₀ → Top qview (looseW qview lse) mean mg mb h₀ → cs.kind = .function → News h₀ L s.heap news → PicIn w news pic prec pds → SetIn w news st kind sv n wish → SmpIn news sv smp → kndOk kind → mdlOk wish → 1 ≤ pds.length → pds.length ≤ 5 → (∀ pd ∈ pds, PdOk pd) → (psOf smp pds.length).length ≤ 6 → hdl = none → dp + 9 < recursionLimit → un + 120 < cLine →
    (frameOk kind prec smp pds.length → ∀ (f clA : Addr) (pd : Pd) (vs : List Value) (k : Nat) (nx : List (Addr × Obj)) h' tk', pds[0]? = some pd → Fr h₀ L h' m → News h₀ L h' nx → (∀ p ∈ news, p ∈ nx) → FrameAt w nx f clA kind prec pd.H pd.W n vs k → CompsIn w nx 1 vs (cpsFrom wish 0 (psOf smp pds.length)) → Q (.ref f) { s with heap := h', toks := tk' }) →
    (¬ frameOk kind prec smp pds.length → ErrC base h₀ L m (envX cn cs L a ccd cl :: outer) news s E) →
    wpAny (model PySem.Challenge.rw_ok0143_01.row.prog w) (topA hdl dp un gd cn cs L a ccd cl outer) (call (.ref 208) [.ref pic, .ref st]) Q E s := by
  k_fill; intro w mean mg mb dp un gd hdl cn cs a ccd cl outer A₀ base h₀ L m s Q E
  intro pic st prec n pds kind wish sv smp news B F X T hk N hpic hset hsmp hkn hmd hm1 hm2 hpd hps hh hd1 hu1 hret herr
  obtain ⟨dP, pl, vsP, kP, τP, hp, hpD, hpl, hplanes⟩ := hpic
  obtain ⟨dS, τS, hs, hsD⟩ := hset
  have hvl := hplanes.length
  have hsv := smp_handed hsmp
  subst hh
  refine wpAny_call ?_
  (first | k_dflt ktr_enter | fail "not entered")
  rename_i g1 L1 h1 FG F1 N1 B1 X1 T1
  iterate 21 (first | (k_unfold; (try dsimp only)) | (k_end; wrow_close) | walk1 | (dsimp only; walk1) | (leave1; try dsimp only))
  rename_i tkA n1 en1 hA hB FA NA
  refine join_at FA (PySem.Str.ofString "sampling") (fun v nx => ∃ sl vs ps k, v = .ref sl ∧ (sl, W.listOf vs.toArray k) ∈ nx ∧ PairsIn nx vs ps ∧ ps = psOf smp pds.length ∧ ∀ p ∈ news, p ∈ nx) ?br ?rest
  case br =>
    cases smp with
    | none =>
      have hsn : sv = .none := hsmp
      subst hsn
      iterate 9 (first | (k_unfold; (try dsimp only)) | (k_end; wrow_close) | walk1 | (dsimp only; walk1) | (leave1; try dsimp only))
      refine Assign_ListComp_J (by k_asm) rfl (by with_unfolding_all rfl) rfl (by with_unfolding_all rfl) (by decide) rfl (by decide) rfl ?_
      k_steps
      rename_i hq tkq tq uq vq hrq Fq Nq kpq
      refine src_range (fun i ys nx => (∀ p ∈ news, p ∈ nx) ∧ PairsIn nx ys (List.replicate i (1, 1))) rfl hrq (n := pds.length) (by omega) (by omega) Fq Nq ⟨fun p hp => by first | exact hp | exact .tail _ hp, .nil⟩ ?step ?fin
      case step =>
        intro i t ys nx I oI C oC D m₂ h tk E' hi hl hJ hNs hm F N off ne
        obtain ⟨hJ1, hJ2⟩ := hJ
        refine elt_gen fun R' hR => ?_
        k_steps
        rename_i tkz tup hz Fz Nz lz
        obtain ⟨ot, eot, Nz⟩ : ∃ ot, ot = _ ∧ News g1 L1 hz ((tup, ot) :: _) := ⟨_, rfl, Nz⟩
        refine hR _ _ ⟨_, _, (tup, ot) :: nx, rfl, Fz, fun p hp => Nz p ?_, ⟨⟨neN (by dsimp only; omega), neN (by dsimp only; omega), neN (by dsimp only; omega)⟩, off⟩, fun p hp => .tail _ (hJ1 p hp), ?_⟩
        · simp only [List.mem_cons] at hp ⊢
          rcases hp with h | h | h | h | h <;> simp only [h, eq_self, true_or, or_true]
        · subst eot
          rw [List.replicate_succ']
          refine PairsIn.append (PairsIn.one (p := ((1 : Int), (1 : Int))) ?_) (hJ2.mono fun p hp => .tail _ hp)
          exact ⟨tup, _, _, rfl, .head _⟩
      case fin =>
        intro ys nx D h tk hl hJ F N o
        intro h1 tk1 F1 k1
        clear Fq Nq
        k_steps
        refine ⟨rfl, .ref D, h1, _, (D, W.listOf ys.toArray ys.length) :: nx, rfl, F1, fun p hp => ⟨k1 _ _ (N p hp).2.1 (N p hp).1, (N p hp).2⟩, D, ys, _, ys.length, rfl, .head _, hJ.2.mono fun p hp => .tail _ hp, rfl, fun p hp => .tail _ (hJ.1 p hp)⟩
    | some ps =>
      obtain ⟨lS, vsS, kS, rfl, hlS, hpS⟩ := hsmp
      k_steps
      rename Fr g1 L1 _ _ => FZ
      rename News g1 L1 _ news => NZ
      exact ⟨rfl, .ref lS, _, _, news, rfl, Fr.same FZ (fun y => by by_cases e : y = PySem.Str.ofString "sampling" <;> simp only [e, if_true, if_false]), NZ, lS, vsS, ps, kS, rfl, hlS, hpS, rfl, fun p hp => hp⟩
  case rest =>
    intro v h' tk' nx F N hP
    obtain ⟨sl, vsS, ps, kS, rfl, hsl, hpr, hpe, hsub⟩ := hP
    have hvs := hpr.length
    have hps' : vsS.length ≤ 6 := by rw [hvs, hpe]; exact hps
    have hp' := hsub _ hp
    have hpD' := hsub _ hpD
    have hpl' := hsub _ hpl
    have hs' := hsub _ hs
    have hsD' := hsub _ hsD
    have hplanes' := hplanes.mono hsub
    clear FA NA hp hpD hpl hs hsD hplanes
    k_steps
    · rename_i e1 dx1 t1' h1' tk1' Fe Ne oe
      refine leave_raiseX B1 Fe Ne oe fun h' R U => herr (fun q => ?_) _ _ _ _ (R.less hsub) FG U
      have := q.2.1
      rw [← hpe] at this
      omega
    rename_i tkA n2 en2 enn tkB clA hA l1 hB FB NB hC tkC tr ur vr hr FC NC kpC
    refine turns_J (x := PySem.Str.ofString "place") [PySem.Str.ofString "across", PySem.Str.ofString "down"] (fun i nw => ∃ vsC kk tl, nw = (clA, W.listOf vsC.toArray kk) :: tl ∧ vsC.length = i ∧ (∀ p ∈ nx, p ∈ tl) ∧ OwnOff tl [clA] ∧ CompsIn w tl 1 vsC (cpsFrom wish 0 (ps.take i)))
      rfl hr (n := pds.length) (by omega) (by omega) FC (nx := (clA, W.listOf [].toArray 0) :: nx) NC (fun p hp => hp) ⟨[], 0, nx, rfl, rfl, fun _ h => h, fun p hp b hb => by rw [List.mem_singleton.mp hb]; exact Nat.ne_of_lt (l1 p hp), .nil⟩ (fun _ _ => rfl) ?turn ?done
    case turn =>
      intro i t u h tk I oI nw hi hJ hI F N
      obtain ⟨vsC, kk, tl, rfl, hvc, hst, hoff, hci⟩ := hJ
      obtain ⟨i1, hI⟩ := off_cons hI
      have hsl' := hst _ hsl
      have hsD2 := hst _ hsD'
      have hs2 := hst _ hs'
      have hpr2 := hpr.mono hst
      clear FC NC FB NB hr
      refine turn_gen fun R' hR => ?_
      k_steps
      rename_i hI0 hx Fx Nx v1 hv1
      obtain ⟨pr, hp1, tpA, a1, a2, rfl, htp⟩ := hpr2.get hv1
      have hp1 : ps[i]? = some pr := hp1
      k_steps
      rename_i x9 d9 h69 l1a l2a g9 L9 h59 B9 X9 T9 tk9 h49 h39 h29 h19 F19 N19 Tc9 kX9 hz Fz Nz
      obtain ⟨od, eod, Nz⟩ : ∃ od, od = _ ∧ News g1 L1 hz ((x9, instObj 102 d9) :: (d9, od) :: _) := ⟨_, rfl, Nz⟩
      have ep : vsC.toArray.push (Value.ref x9) = (vsC ++ [Value.ref x9]).toArray := by simp
      rw [ep] at Nz
      have at1 : AllLt d9 tl := l1a.2.2
      refine hR .next _ ⟨_, _, _, (clA, W.listOf (vsC ++ [Value.ref x9]).toArray (kk + 1)) :: (x9, instObj 102 d9) :: (d9, od) :: tl, rfl, Fz, fun p hp => Nz p ?_, fun p hp => ?_, fun y hy hs => ?_, vsC ++ [Value.ref x9], kk + 1, _, rfl, by rw [List.length_append, hvc]; rfl, fun p hp => .tail _ (.tail _ (hst p hp)), fun p hp b hb => ?_, ?_⟩
      · simp only [List.mem_cons] at hp ⊢
        rcases hp with h | h | h | h | h <;> simp only [h, eq_self, true_or, or_true]
      · simp only [List.mem_cons] at hp
        rcases hp with h | h | h | h
        · rw [h]; exact i1
        · rw [h]; refine neN ?_; dsimp only; omega
        · rw [h]; refine neN ?_; dsimp only; omega
        · exact hI p h
      · have q1 : y ≠ PySem.Str.ofString "across" := fun q => by subst q; exact absurd hs (by decide)
        have q2 : y ≠ PySem.Str.ofString "down" := fun q => by subst q; exact absurd hs (by decide)
        simp only [if_neg q1, if_neg q2, if_neg hy, hs, Bool.false_eq_true, if_false]
      · rw [List.mem_singleton.mp hb]
        rcases List.mem_cons.mp hp with rfl | hp
        · refine neN ?_; dsimp only; omega
        rcases List.mem_cons.mp hp with rfl | hp
        · refine neN ?_; dsimp only; omega
        · exact hoff p hp clA (by simp)
      · have hl9 : (ps.take i).length = i := by rw [List.length_take]; omega
        rw [List.take_add_one, hp1]
        show CompsIn w _ 1 _ (cpsFrom wish 0 (ps.take i ++ [pr]))
        rw [cpsFrom_snoc, hl9, Nat.zero_add]
        refine (hci.mono fun p hp => .tail _ (.tail _ hp)).snoc ?_
        subst eod
        rw [show (1 : Int) + (vsC.length : Int) = (i : Int) + 1 by omega]
        exact CompObj.mk (.head _) (.tail _ (.head _))
    case done =>
      intro u h tk nw hJ F N
      obtain ⟨vsC, kk, tl, rfl, hvc, hst, hoff, hci⟩ := hJ
      clear FC NC FB NB hr
      have hpl2 := hst _ hpl'
      have hp2 := hst _ hp'
      have hpD2 := hst _ hpD'
      have hsD2 := hst _ hsD'
      have hs2 := hst _ hs'
      have hplanes2 := hplanes'.mono hst
      k_steps
      rename Value => v1
      rename vsP[_]? = some _ => hv1
      obtain ⟨pd, hpd0, pA, dA, vr, τA, rfl, hpA, hdA, hRA⟩ := hplanes2.get hv1
      k_steps
      rename_i x9 d9 h69 l1a l2a g9 L9 h59 B9 X9 T9 tk9 ha1 ha2 ha3 ha4 ha5 ha6 F19 N19 Tc9 kX9 hz Fz Nz
      obtain ⟨od, eod, Nz⟩ : ∃ od, od = _ ∧ News g1 L1 hz ((x9, instObj 168 d9) :: (d9, od) :: _) := ⟨_, rfl, Nz⟩
      have hlen : ps.length = pds.length := by omega
      have htk : ps.take pds.length = ps := by rw [← hlen, List.take_length]
      rw [htk] at hci
      have hfa : FrameAt w ((x9, instObj 168 d9) :: (d9, od) :: (clA, W.listOf vsC.toArray kk) :: tl) x9 clA kind prec pd.H pd.W n vsC kk := by
        subst eod
        exact FrameAt.mk (.head _) (.tail _ (.head _)) (.tail _ (.tail _ (.head _)))
      have hcm := hci.mono (news' := (x9, instObj 168 d9) :: (d9, od) :: (clA, W.listOf vsC.toArray kk) :: tl) fun p hp => .tail _ (.tail _ (.tail _ hp))
      have hsub2 : ∀ p ∈ news, p ∈ (x9, instObj 168 d9) :: (d9, od) :: (clA, W.listOf vsC.toArray kk) :: tl := fun p hp => .tail _ (.tail _ (.tail _ (hst _ (hsub p hp))))
      obtain ⟨w1, w2, w3, w4, _⟩ := hpd pd (List.mem_of_getElem? hpd0)
      clear hplanes2 hplanes'
      refine chkf_con _ _ _ _ _ _ _ _ _ _ _ _ _ _ _ _ _ _ _ _ _ _ _ _ _ _ _ _ _ _ _ _ _ B1 Fz X1 T1 rfl Nz hfa hcm hkn w1 (by omega) w3 (by omega) (by rw [cpsFrom_len, hlen]; exact hm1) (by rw [cpsFrom_len, hlen]; exact hm2) (cpsFrom_q _ _ _) rfl (by ktr_room) (by ktr_units) ?ok ?err
      case ok =>
        intro hp1 hp2 h9 tk9' F9 N9
        clear Fz Nz F N
        k_steps
        rename_i kF kN Tc kX
        exact hret ⟨hp1, by rw [← hpe]; exact hlen, fun p hp => (cpsFrom_ok wish 0 ps).mp hp2 p (by rw [hpe]; exact hp)⟩ x9 clA pd vsC kk _ _ _ hpd0 kF kN hsub2 hfa (by rw [← hpe]; exact hcm)
      case err =>
        intro hbad e h9 tk9' g2 R Fg U
        exact leave_onX B1 Fg R U fun h' R' U' => herr (fun q => hbad ⟨q.1, (cpsFrom_ok wish 0 ps).mpr fun p hp => q.2.2 p (by rw [← hpe]; exact hp)⟩) _ _ _ _ (R'.less hsub2) FG U'
end
section
local macro_rules | `(tactic| walk_at "exec Assign cons ListComp") => `(tactic| k_dflt (refine' Assign_ListComp_J ?F ?e0 ?c0 ?c00 ?c1 ?c2 ?c3 ?c4 ?c5 ?_; (case F => k_asm); (case e0 => exact rfl); (case c0 => with_unfolding_all rfl); (case c00 => exact rfl); (case c1 => with_unfolding_all rfl); (case c2 => decide); (case c3 => exact rfl); (case c4 => decide); (case c5 => exact rfl)))
local macro_rules | `(tactic| walk_at "eval ListComp") => `(tactic| k_dflt (refine' ListComp_J ?F ?c1 ?c2 ?c3 ?c4 ?c5 ?_; (case F => k_asm); (case c1 => with_unfolding_all rfl); (case c2 => decide); (case c3 => exact rfl); (case c4 => decide); (case c5 => exact rfl)))
-- part Samp
section
theorem zfill_Samp : ∀ w : World, (hd.heap_39 w.params, PySem.Challenge.rw_ok0143_01.row.prog) = (hd.heap_39 w.params, PySem.Challenge.rw_ok0143_01.row.prog) := by
  k_fill
  w_top off
  intro w
  rfl
def SampJ (w : World) (src : Addr) (rest : List (Addr × Obj)) (i : Nat) (ys : List Value) (nx : List (Addr × Obj)) : Prop :=
  ∃ (a b : Int) (ta tb : Tok) (k : Nat) (tl : List (Addr × Obj)) (ps : List (Int × Int)), nx = (src, W.listOf #[.int a ta, .int b tb] k) :: tl ∧ 0 ≤ a ∧ 0 ≤ b ∧ b < 2147483647 ∧ ps.length = i ∧ (∀ p ∈ rest, p ∈ tl) ∧ OwnOff tl [src] ∧ PairsIn tl ys ps
theorem PairsIn.dropLast {news : List (Addr × Obj)} : ∀ {vs : List Value} {ps : List (Int × Int)}, PairsIn news vs ps → PairsIn news vs.dropLast ps.dropLast
  | _, _, .nil => .nil
  | _, _, .cons a .nil => .nil
  | _, _, .cons a (.cons b r) => .cons a (PairsIn.dropLast (.cons b r))
theorem PairsIn.set {news : List (Addr × Obj)} {v : Value} {p : Int × Int} (x : PairObj news v p) : ∀ {vs : List Value} {ps : List (Int × Int)}, PairsIn news vs ps → ∀ k, PairsIn news (vs.set k v) (ps.set k p)
  | _, _, .nil, _ => .nil
  | _, _, .cons _ r, 0 => .cons x r
  | _, _, .cons a r, k + 1 => .cons a (PairsIn.set x r k)
section
variable {prog : Program} {w : World} {A : Around} {E : Value → Shared → Prop} {s : Shared} {h₀ : Heap} {L D : Addr} {m : Str → Option Value} {news news' : List (Addr × Obj)} {n : Nat} {us : List Value}
theorem pop_any {Q : Value → Shared → Prop} (F : Fr h₀ L s.heap m) (N : News h₀ L s.heap news) (U : Upd D (W.listOf us.toArray n) (W.listOf us.dropLast.toArray (n + 1)) news news') (hne : 0 < us.length) (hz : us.length ≤ 100)
    (h : ∀ y h', Fr h₀ L h' m → News h₀ L h' news' → Q y { s with heap := h' }) : wpAny (model prog w) A (call (.builtin "list.pop") [.ref D]) Q E s := by
  have hn : us ≠ [] := fun q => by subst q; cases hne
  have e := kpa_last (us.getLast hn) us.dropLast
  rw [List.dropLast_concat_getLast] at e
  exact kl_pop F N (p := us.dropLast) (y := us.getLast hn) (by simpa using e) U (by rw [sizeLine_eq]; simp; omega) fun h' F' N' => h _ h' F' N'
theorem set_last {t : Tok} {v : Value} {Q : Unit → Shared → Prop} (F : Fr h₀ L s.heap m) (N : News h₀ L s.heap news) (U : Upd D (W.listOf us.toArray n) (W.listOf (us.set (us.length - 1) v).toArray n) news news') (hne : 0 < us.length)
    (h : ∀ h', Fr h₀ L h' m → News h₀ L h' news' → Q () { s with heap := h' }) : wpAny (model prog w) A (setItem (.ref D) (.int (-1) t) v) Q E s := by
  obtain ⟨pre, post, rfl, rfl, a, b⟩ := U.split
  have z := N (D, W.listOf us.toArray n) (List.mem_append.mpr (.inr (.head _)))
  refine ki_setBack z.1 (by decide) (by simp; omega) (by decide) (h _ (F.change (Heap.SameBut.update ..) z.2.1 z.2.2) (ki_turn _ N a b ?_ ?_))
  · show us.toArray.setIfInBounds (-1 + (us.toArray.size : Int)).toNat v = _
    rw [List.size_toArray, show (-1 + (us.length : Int)).toNat = us.length - 1 by omega]
    simp
  · simp
end
local macro_rules | `(tactic| walk_at "call builtin:list.pop") => `(tactic| (k_here; k_dflt (refine' pop_any (us := _) ?F ?N ?U ?l ?z ?_; (case F | N => k_asm); (case U => k_upd); (case l | z => omega)); (intro y' h' F' N'; (try dsimp only))))
local macro_rules | `(tactic| walk_at "setItem ref int") => `(tactic| (k_here; k_dflt (refine' set_last (us := _) ?F ?N ?U ?l ?_; (case F | N => k_asm); (case U => k_upd); (case l => omega)); (intro h' F' N'; (try dsimp only))))
theorem samp_con : ∀ (w : World) (mean : ExcName → Option Value) (mg mb : Str → Option Value) (dp un : Nat) (gd : Option (List Code)) (hdl : Option Value) (cn : Str) (cs : Scope) (a : Addr) (ccd : Value) (cl : List (Str × Addr)) (outer : List Env) (A₀ : Around) (base h₀ : Heap) (L : Addr) (m : Str → Option Value) (s : Shared) (Q E : Value → Shared → Prop) (src : Addr) (x y : Int) (tx ty tm : Tok) (n many : Nat) (rest : List (Addr × Obj)),
    Below A₀ base outer h₀ → Fr h₀ L s.heap m → (hd.heap_39 w.params).In h₀ → Top qview (looseW qview lse) mean mg mb h₀ → cs.kind = .function → News h₀ L s.heap ((src, W.listOf #[.int x tx, .int y ty] n) :: rest) → OwnOff rest [src] → hdl = none →
    0 ≤ x → 0 ≤ y → y < 2147483647 → 1 ≤ many → many ≤ 5 → dp + 5 < recursionLimit → un + 60 < cLine →
    (∀ (v : Value) (smp : Option (List (Int × Int))) (x' y' : Int) (tx' ty' : Tok) (n' : Nat) (rest' : List (Addr × Obj)) h' tk', (psOf smp many).length ≤ 6 → 0 ≤ x' → 0 ≤ y' → y' < 2147483647 → Fr h₀ L h' m →
      News h₀ L h' ((src, W.listOf #[.int x' tx', .int y' ty'] n') :: rest') → OwnOff rest' [src] → (∀ p ∈ rest, p ∈ rest') → SmpIn rest' v smp → Q v { s with heap := h', toks := tk' }) →
    wpAny (model PySem.Challenge.rw_ok0143_01.row.prog w) (topA hdl dp un gd cn cs L a ccd cl outer) (call (.ref 335) [.ref src, .int many tm]) Q E s := by
  k_fill; intro w mean mg mb dp un gd hdl cn cs a ccd cl outer A₀ base h₀ L m s Q E
  intro src x y tx ty tm n many rest B F X T hk N hoff hh hx hy hy2 hm1 hm2 hd1 hu1 hret
  subst hh
  refine wpAny_call ?_
  (first | k_dflt ktr_enter | fail "not entered")
  k_steps
  · rename_i g1 L1 hA tkA FG B1 X1 T1 l1a o1 d1 v0 tv0 xa ya txa tya na ha tka b1 b2 b3 b4 b5 Fa Na of1 hv0 kF kN Tc kX
    exact hret .none none xa ya txa tya na ((L1 + 1, o1) :: rest) _ _ (by show (List.replicate many _).length ≤ 6; rw [List.length_replicate]; omega) b3 b4 b5 kF kN of1 (fun p hp => .tail _ hp) rfl
  rename_i g1 L1 hA tkA FG B1 X1 T1 l1a o1 d1 v0 tv0 xa ya txa tya na ha tka b1 b2 b3 b4 b5 Fa Na of1 hv0 hC tkC tr ur vr hr FC NC kpC
  refine src_range (SampJ w src ((L1 + 1, o1) :: rest)) rfl hr rfl (by omega) FC NC ⟨xa, ya, txa, tya, na, _, [], rfl, b3, b4, b5, rfl, fun _ h => h, of1, .nil⟩ ?step ?fin
  case step =>
    intro i t ys nx I oI C oC D m₂ h tk E' hi hl hJ hNs hm F N off ne
    obtain ⟨a, b, ta, tb, k, tl, ps, rfl, ha', hb', hb2', hpl, hst, hof, hps⟩ := hJ
    have hmc : (L1 + 1, o1) ∈ tl := hst _ (.head _)
    obtain ⟨⟨f1, f2, f3⟩, offt⟩ := off
    have hts : ∀ p ∈ tl, p.1 ≠ src := fun p hp => hof p hp src (by simp)
    clear FC NC Fa Na
    refine elt_gen fun R' hR => ?_
    k_steps
    rename_i xb yb txb tyb nb hq tkq b1 b2 b3 b4 b5 o9 tup hz Fz Nz lz
    obtain ⟨ot, eot, Nz⟩ : ∃ ot, ot = _ ∧ News g1 L1 hz ((tup, ot) :: (src, W.listOf #[.int xb txb, .int yb tyb] nb) :: (I, oI) :: (C, oC) :: (D, PyProof.Rows.LCg.lst ys) :: tl) := ⟨_, rfl, Nz⟩
    obtain ⟨pq, hpq⟩ : ∃ pq : Int × Int, PairObj ((tup, ot) :: tl) (.ref tup) pq := by subst eot; exact ⟨(_, _), tup, _, _, rfl, .head _⟩
    refine hR _ _ ?_
    show EndE _ _ _ _ _ _ _ _ _ _ _ _ _
    refine ⟨_, _, (src, W.listOf #[.int xb txb, .int yb tyb] nb) :: (tup, ot) :: tl, rfl, Fz, fun p hp => Nz p ?_, ⟨⟨f1, f2, f3⟩, ⟨neN (by dsimp only; omega), neN (by dsimp only; omega), neN (by dsimp only; omega)⟩, offt⟩, xb, yb, txb, tyb, nb, (tup, ot) :: tl, ps ++ [pq], rfl, b3, b4, b5, by rw [List.length_append, hpl]; rfl, fun p hp => .tail _ (hst p hp), fun p hp b hb => ?_, PairsIn.append (PairsIn.one hpq) (hps.mono fun p hp => .tail _ hp)⟩
    · simp only [List.mem_cons] at hp ⊢
      rcases hp with h | h | h | h | h | h <;> simp only [h, eq_self, true_or, or_true]
    · rw [List.mem_singleton.mp hb]
      rcases List.mem_cons.mp hp with rfl | hp
      · refine neN ?_; dsimp only; omega
      · exact hts p hp
  case fin =>
    intro ys nx D h tk hl hJ F N o
    obtain ⟨a, b, ta, tb, k, tl, ps, rfl, ha', hb', hb2', hpl, hst, hof, hps⟩ := hJ
    intro h1 tk1 F1 k1
    have oel := off1_mem o
    have N1 : News g1 L1 h1 ((src, W.listOf #[.int a ta, .int b tb] k) :: (D, W.listOf ys.toArray ys.length) :: tl) := fun p hp => by
      have hp' : p ∈ (D, PyProof.Rows.LCg.lst ys) :: (src, W.listOf #[.int a ta, .int b tb] k) :: tl := by
        rcases List.mem_cons.mp hp with rfl | hp
        · exact .tail _ (.head _)
        rcases List.mem_cons.mp hp with rfl | hp
        · exact .head _
        · exact .tail _ (.tail _ hp)
      exact ⟨k1 _ _ (N p hp').2.1 (N p hp').1, (N p hp').2⟩
    have hsD : @Ne Nat src D := oel _ (.head _)
    have htD : ∀ p ∈ tl, p.1 ≠ D := fun p hp => oel p (.tail _ hp)
    have hof2 : OwnOff ((D, W.listOf ys.toArray ys.length) :: tl) [src] := fun p hp b hb => by
      rw [List.mem_singleton.mp hb]
      rcases List.mem_cons.mp hp with rfl | hp
      · exact Ne.symm hsD
      · exact hof p hp src (by simp)
    have hmc : (L1 + 1, o1) ∈ tl := hst _ (.head _)
    have hyl := hps.length
    clear FC NC Fa Na F N o oel k1
    k_steps
    · rename_i xb yb txb tyb nb hq tkq b1 b2 b3 b4 b5 o9 hh2 tk2 a0 tk3 tup h19 lz hz Fz Nz kF kN Tc kX
      obtain ⟨ot, eot, kN⟩ : ∃ ot, ot = _ ∧ News h₀ L hz ((tup, ot) :: (src, W.listOf #[.int xb txb, .int yb tyb] nb) :: (D, W.listOf (ys.toArray.push (Value.ref tup)) (ys.length + 1)) :: tl) := ⟨_, rfl, kN⟩
      rw [show ys.toArray.push (Value.ref tup) = (ys ++ [Value.ref tup]).toArray by simp] at kN
      refine hret (.ref D) (some (ps ++ [(1, 1)])) xb yb txb tyb nb ((D, W.listOf (ys ++ [Value.ref tup]).toArray (ys.length + 1)) :: (tup, ot) :: tl) _ _ (by show (ps ++ [(1, 1)]).length ≤ 6; rw [List.length_append, hpl]; show many + 1 ≤ 6; omega) b3 b4 b5 kF (fun p hp => kN p ?_) (fun p hp b hb => ?_) (fun p hp => .tail _ (.tail _ (hst p (.tail _ hp)))) ⟨D, _, _, rfl, .head _, PairsIn.append (PairsIn.one (p := ((1 : Int), (1 : Int))) ?_) (hps.mono fun p hp => .tail _ (.tail _ hp))⟩
      · simp only [List.mem_cons] at hp ⊢
        rcases hp with h | h | h | h <;> simp only [h, eq_self, true_or, or_true]
      · rw [List.mem_singleton.mp hb]
        rcases List.mem_cons.mp hp with rfl | hp
        · exact Ne.symm hsD
        rcases List.mem_cons.mp hp with rfl | hp
        · refine neN ?_; dsimp only; omega
        · exact hof p hp src (by simp)
      · subst eot
        exact ⟨tup, _, _, rfl, .tail _ (.head _)⟩
    · rename_i xb yb txb tyb nb hq tkq b1 b2 b3 b4 b5 o9 h19 F19 N19 tk1 a1 tk2 a2 y9 hz Fz Nz kF kN Tc kX
      refine hret (.ref D) (some ps.dropLast) xb yb txb tyb nb ((D, W.listOf ys.dropLast.toArray (ys.length + 1)) :: tl) _ _ (by show ps.dropLast.length ≤ 6; rw [List.length_dropLast]; omega) b3 b4 b5 kF kN (fun p hp b hb => ?_) (fun p hp => .tail _ (hst p (.tail _ hp))) ⟨D, _, _, rfl, .head _, (hps.mono fun p hp => .tail _ hp).dropLast⟩
      rw [List.mem_singleton.mp hb]
      rcases List.mem_cons.mp hp with rfl | hp
      · exact Ne.symm hsD
      · exact hof p hp src (by simp)
    · rename_i v9 xb yb txb tyb nb h19 tk9 m9 b3 b4 b5 F9 N9 o9 hz Fz Nz kF kN Tc kX
      obtain ⟨rl, erl, kN⟩ : ∃ rl, rl = _ ∧ News h₀ L hz ((src, W.listOf #[.int xb txb, .int yb tyb] nb) :: rl) := ⟨_, rfl, kN⟩
      obtain ⟨pq, hpq⟩ : ∃ pq : Int × Int, PairObj rl v9 pq := by
        subst erl
        simp only [List.mem_cons, List.not_mem_nil, or_false] at m9
        rcases m9 with rfl | rfl | rfl | rfl <;> exact ⟨(_, _), _, _, _, rfl, by k_dflt k_mem⟩
      have htl : ∀ p ∈ tl, p ∈ rl := fun p hp => by subst erl; simp only [List.mem_cons, hp, or_true]
      have hDm : (D, W.listOf (ys.set (ys.length - 1) v9).toArray ys.length) ∈ rl := by subst erl; simp only [List.mem_cons, eq_self, true_or, or_true]
      refine hret (.ref D) (some (ps.set (ys.length - 1) pq)) xb yb txb tyb nb rl _ _ (by show (ps.set _ _).length ≤ 6; rw [List.length_set]; omega) b3 b4 b5 kF kN (fun p hp b hb => ?_) (fun p hp => htl p (hst p (.tail _ hp))) ⟨D, _, _, rfl, hDm, PairsIn.set hpq (hps.mono htl) _⟩
      rw [List.mem_singleton.mp hb]
      subst erl
      simp only [List.mem_cons] at hp
      rcases hp with h | h | h | h | h | h | h
      all_goals first
        | exact hof p h src (by simp)
        | (rw [h]; exact Ne.symm hsD)
        | (rw [h]; exact o9 _ (by simp only [List.mem_cons, eq_self, true_or, or_true]) src (by simp))
    · rename_i xb yb txb tyb nb hq tkq b1 b2 b3 b4 b5 o9 hz Fz Nz tk3 a1 tk4 a2 tk5 a3 kF kN Tc kX
      refine hret (.ref D) (some ps) xb yb txb tyb nb ((D, W.listOf ys.toArray ys.length) :: tl) _ _ (by show ps.length ≤ 6; omega) b3 b4 b5 kF kN (fun p hp b hb => ?_) (fun p hp => .tail _ (hst p (.tail _ hp))) ⟨D, _, _, rfl, .head _, hps.mono fun p hp => .tail _ hp⟩
      rw [List.mem_singleton.mp hb]
      rcases List.mem_cons.mp hp with rfl | hp
      · exact Ne.symm hsD
      · exact hof p hp src (by simp)
end
-- part Shown
section
theorem zfill_Shown : ∀ w : World, (hd.heap_39 w.params, PySem.Challenge.rw_ok0143_01.row.prog) = (hd.heap_39 w.params, PySem.Challenge.rw_ok0143_01.row.prog) := by
  k_fill
  w_top off
  intro w
  rfl
def shownPl (pd : Pd) : Dat := .list [.int pd.W, .int pd.H, pd.R]
noncomputable def shownOf (prec : Int) (pds : List Pd) : Dat := .list [.str (PySem.Str.ofString "raw"), .int prec, .list (pds.map shownPl)]
theorem shown_con : ∀ (w : World) (mean : ExcName → Option Value) (mg mb : Str → Option Value) (dp un : Nat) (gd : Option (List Code)) (hdl : Option Value) (cn : Str) (cs : Scope) (a : Addr) (ccd : Value) (cl : List (Str × Addr)) (outer : List Env) (A₀ : Around) (base h₀ : Heap) (L : Addr) (m : Str → Option Value) (s : Shared) (Q E : Value → Shared → Prop) (pic : Addr) (prec : Int) (pds : List Pd) (news : List (Addr × Obj)),
    Below A₀ base outer h₀ → Fr h₀ L s.heap m → (hd.heap_39 w.params).In h₀ → Top qview (looseW qview lse) mean mg mb h₀ → cs.kind = .function → News h₀ L s.heap news → PicIn w news pic prec pds → HandIn hdl news → pds.length ≤ 5 → dp + 4 < recursionLimit → un + 40 < cLine →
    (∀ (D : Addr) (nx : List (Addr × Obj)) h' tk', Fr h₀ L h' m → News h₀ L h' nx → (∀ p ∈ news, p ∈ nx) → DatIn nx (.ref D) (shownOf prec pds) → Q (.ref D) { s with heap := h', toks := tk' }) →
    wpAny (model PySem.Challenge.rw_ok0143_01.row.prog w) (topA hdl dp un gd cn cs L a ccd cl outer) (call (.ref 345) [.ref pic]) Q E s := by
  k_fill; intro w mean mg mb dp un gd hdl cn cs a ccd cl outer A₀ base h₀ L m s Q E
  intro pic prec pds news B F X T hk N hpic hhd hm2 hd1 hu1 hret
  obtain ⟨dP, pl, vsP, kP, τP, hp, hpD, hpl, hplanes⟩ := hpic
  have hvl := hplanes.length
  refine wpAny_call ?_
  (first | k_dflt ktr_enter | fail "not entered")
  rename_i g1 L1 h1 FG F1 N1 B1 X1 T1
  k_steps
  refine src_list (its := vsP) (k := kP) (fun i ys nx => (∀ p ∈ news, p ∈ nx) ∧ DatAll nx ys ((pds.take i).map shownPl)) (by omega) F1 N1 ⟨fun p hp => hp, .nil⟩ (fun _ _ _ q => q.1 _ hpl) ?hand ?hhr ?step ?fin
  case hand =>
    intro b hb
    change b ∈ handAt hdl at hb
    cases hdl with
    | none => cases hb
    | some v =>
      obtain ⟨e, oe, vs, rfl, a1, a2, a3⟩ := hhd
      obtain rfl := List.mem_singleton.mp hb
      exact ⟨oe, vs, rfl, a2, a3, fun i ys nw q => q.1 _ a1⟩
  case hhr =>
    intro v hv
    change hdl = some v at hv
    subst hv
    obtain ⟨e, oe, vs, rfl, a1, a2, a3⟩ := hhd
    exact ⟨e, rfl⟩
  case step =>
    intro i ys nx v I oI C oC D m₂ h tk E' hi hl hJ hv hNs hm F N off ne
    obtain ⟨hJ1, hJ2⟩ := hJ
    obtain ⟨pd, hpd0, pA, dA, vr, τA, rfl, hpA, hdA, hRA⟩ := hplanes.get hv
    have hpA' := hJ1 _ hpA
    have hdA' := hJ1 _ hdA
    refine elt_gen fun R' hR => ?_
    k_steps
    rename_i lA hz Fz Nz lz
    refine hR _ _ ⟨_, _, (lA, W.listOf #[.int pd.W (τA 1), .int pd.H (τA 3), vr] 0) :: nx, rfl, Fz, fun p hp => Nz p ?_, ⟨⟨neN (by dsimp only; omega), neN (by dsimp only; omega), neN (by dsimp only; omega)⟩, off⟩, fun p hp => .tail _ (hJ1 p hp), ?_⟩
    · simp only [List.mem_cons] at hp ⊢
      rcases hp with h | h | h | h | h <;> simp only [h, eq_self, true_or, or_true]
    · rw [List.take_add_one, hpd0]
      show DatAll _ _ ((pds.take i ++ [pd]).map shownPl)
      rw [List.map_append]
      exact (hJ2.mono fun p hp => .tail _ hp).append (.one (.list (.head _) (.cons (.int _ _) (.cons (.int _ _) (.cons (hRA.mono fun p hp => .tail _ (hJ1 p hp)) .nil)))))
  case fin =>
    intro ys nx D h tk hl hJ F N o
    obtain ⟨hJ1, hJ2⟩ := hJ
    k_steps
    rename_i lA hz Fz Nz lz kF kN Tc kX
    rw [hvl, List.take_length] at hJ2
    exact hret lA _ _ _ kF kN (fun p hp => .tail _ (.tail _ (hJ1 p hp))) (.list (.head _) (.cons (.str _ _) (.cons (.int _ _) (.cons (.list (.tail _ (.head _)) (hJ2.mono fun p hp => .tail _ (.tail _ hp))) .nil))))
end
-- part Right
section
theorem zfill_Right : ∀ w : World, (hd.heap_39 w.params, PySem.Challenge.rw_ok0143_01.row.prog) = (hd.heap_39 w.params, PySem.Challenge.rw_ok0143_01.row.prog) := by
  k_fill
  w_top off
  intro w
  rfl
local macro_rules | `(tactic| walk_at "compareOp Eq ref ref") => `(tactic| (k_here; k_dflt (refine' dat_same ?N ?D1 ?D2 ?ok ?u ?_; (case N => k_asm); (case D1 | D2 | ok => assumption); (case u => refine Nat.lt_of_le_of_lt (m := _ + 200) (Nat.add_le_add_left (show 3 + 64 ≤ 200 by decide) _) (by assumption))); k_whole))
theorem mdl_len {x : Str} (h : mdlOk x) : x.length ≤ sizeLine := by
  rw [sizeLine_eq]
  rcases h with rfl | rfl | rfl | rfl | rfl | rfl <;> decide +kernel
theorem mdl_y {x : Str} (h : mdlOk x) : (Txt.slice x none (some 3) == PySem.Str.ofString "ycc") = true ↔ (x = PySem.Str.ofString "ycc" ∨ x = PySem.Str.ofString "ycck") := by
  rcases h with rfl | rfl | rfl | rfl | rfl | rfl <;> decide +kernel
theorem slot_a {x : Str} {i : Int} (h : mdlOk x) (e : (Txt.slice x none (some 3) == PySem.Str.ofString "ycc") = true) (h0 : 0 < i) : (if decide (i < 3) = true then (1 : Int) else 0) = slotOf x i := by
  have := (mdl_y h).mp e
  unfold slotOf
  by_cases q : i < 3
  · rw [if_pos (by simpa using q), if_pos ⟨this, by omega⟩]
  · rw [if_neg (by simpa using q), if_neg (fun z => by have := z.2; omega)]
theorem slot_b {x : Str} {i : Int} (h0 : ¬ 0 < i) : (if decide (0 < i) = true then (1 : Int) else 0) = slotOf x i := by
  unfold slotOf
  rw [if_neg (by simpa using h0), if_neg (fun z => by have := z.2; omega)]
theorem slot_c {x : Str} {i : Int} (h : mdlOk x) (e : (Txt.slice x none (some 3) == PySem.Str.ofString "ycc") = false) : (if (Txt.slice x none (some 3) == PySem.Str.ofString "ycc") = true then (1 : Int) else 0) = slotOf x i := by
  unfold slotOf
  rw [if_neg (by rw [e]; decide), if_neg (fun z => by have := (mdl_y h).mpr z.1; rw [e] at this; cases this)]
local macro_rules | `(tactic| walk_at "subscriptTail Name Slice str ref") => `(tactic| ((with_reducible rename Fr _ _ _ _ => F'); (with_reducible rename News _ _ _ _ => N'); (k_dflt (refine slice_strN_ns (hsz := ?hsz) (s := ⟨_, _, _, _, _⟩) F' N' ?_; (case hsz => exact mdl_len (by assumption)))); clear F' N'; intro _ _ _ F' N'))
set_option maxHeartbeats 1000000 in
theorem right_con : ∀ (w : World) (mean : ExcName → Option Value) (mg mb : Str → Option Value) (dp un : Nat) (gd : Option (List Code)) (hdl : Option Value) (cn : Str) (cs : Scope) (a : Addr) (ccd : Value) (cl : List (Str × Addr)) (outer : List Env) (A₀ : Around) (base h₀ : Heap) (L : Addr) (m : Str → Option Value) (s : Shared) (Q E : Value → Shared → Prop) (f clA pic st : Addr) (prec n : Int) (pds : List Pd) (pd : Pd) (kind wish : Str) (sv kv : Value) (smp : Option (List (Int × Int))) (vs : List Value) (k : Nat) (news : List (Addr × Obj)),
    Below A₀ base outer h₀ → Fr h₀ L s.heap m → (hd.heap_39 w.params).In h₀ → Top qview (looseW qview lse) mean mg mb h₀ → cs.kind = .function → News h₀ L s.heap news → FrameAt w news f clA kind prec pd.H pd.W n vs k → CompsIn w news 1 vs (cpsFrom wish 0 (psOf smp pds.length)) → PicIn w news pic prec pds → pds[0]? = some pd → SetIn w news st kind sv n wish → SmpIn news kv smp → kndOk kind → mdlOk wish → 1 ≤ pds.length → pds.length ≤ 5 → (psOf smp pds.length).length = pds.length → hdl = none → dp + 5 < recursionLimit → un + 200 < cLine →
    (∀ (nx : List (Addr × Obj)) h' tk', Fr h₀ L h' m → News h₀ L h' nx → (∀ p ∈ news, p ∈ nx) → Q (.bool true) { s with heap := h', toks := tk' }) →
    wpAny (model PySem.Challenge.rw_ok0143_01.row.prog w) (topA hdl dp un gd cn cs L a ccd cl outer) (call (.ref 350) [.ref f, .ref pic, .ref st, kv]) Q E s := by
  k_fill; intro w mean mg mb dp un gd hdl cn cs a ccd cl outer A₀ base h₀ L m s Q E
  intro f clA pic st prec n pds pd kind wish sv kv smp vs k news B F X T hk N hfr hcp hpic hpd0 hset hsmp hkn hmd hm1 hm2 hps hh hd1 hu1 hret
  obtain ⟨dP, pl, vsP, kP, τP, hp, hpD, hpl, hplanes⟩ := hpic
  obtain ⟨dS, τS, hs, hsD⟩ := hset
  obtain ⟨dF, τF, hf, hfD, hcl⟩ := hfr
  have hvl := hplanes.length
  have hkv : handedIn kv = true := smp_handed hsmp
  subst hh
  refine wpAny_call ?_
  (first | k_dflt ktr_enter | fail "not entered")
  k_steps
  rename Value => v1
  rename vsP[_]? = some _ => hv1
  obtain ⟨pd', hpd', pA, dA, vr, τA, rfl, hpA, hdA, hRA⟩ := hplanes.get hv1
  obtain rfl : pd = pd' := Option.some.inj (hpd0.symm.trans hpd')
  k_steps
  rename_i D2 h2 F2 N2 lD2
  have hks : PyData.strOk kind = true := knd_strOk hkn
  refine dat_diff (d := .tuple [.str kind, .int prec, .int pd.H, .int pd.W, .int n]) N2 (.tuple (vs := [_, _, _, _, _]) (.tail _ (.head _)) (.cons (.str _ _) (.cons (.int _ _) (.cons (.int _ _) (.cons (.int _ _) (.cons (.int _ _) .nil))))))
    (.tuple (vs := [_, _, _, _, _]) (.head _) (.cons (.str _ _) (.cons (.int _ _) (.cons (.int _ _) (.cons (.int _ _) (.cons (.int _ _) .nil)))))) (by simp [kqdOk, hks]) (by show un + 3 + 64 < cLine; omega) ?_
  k_steps
  rename_i gR LR hR3 tkR FGR BR XR TR lR1 oc dc hR2 D1 hR1 lR2 hR tkR2
  have N3 : News gR LR h2 ((LR + 1, oc) :: news) := fun p hp => N2 p (.tail _ (.tail _ hp))
  have hsubc : ∀ p ∈ news, p ∈ (LR + 1, oc) :: news := fun p hp => .tail _ hp
  clear N2 lD2 lR2
  refine src_list (its := vs) (k := k) (fun i ys nw => (∀ p ∈ (LR + 1, oc) :: news, p ∈ nw) ∧ DatAll nw ys ((rowsD 0 (cpsFrom wish 0 (psOf smp pds.length))).take i)) (by rw [hcp.length, cpsFrom_len, hps]; omega) F2 N3 ⟨fun p hp => hp, .nil⟩ (fun _ _ _ q => q.1 _ (.tail _ hcl)) (fun b hb => (nomatch hb)) (fun v hv => (nomatch hv)) ?step1 ?fin1
  case step1 =>
    intro i ys nw v I oI C oC D m₂ h tk E' hi hl hJ hv hNs hm F N off ne
    obtain ⟨hJ1, hJ2⟩ := hJ
    obtain ⟨c, hc, cA, cD, τC, rfl, hcA, hcD⟩ := hcp.get hv
    refine elt_gen fun R' hR => ?_
    have hcA' := hJ1 _ (.tail _ hcA)
    have hcD' := hJ1 _ (.tail _ hcD)
    k_steps
    rename_i DA hA FA NA lA
    obtain ⟨ot, eot, NA⟩ : ∃ ot, ot = _ ∧ News gR LR hA ((DA, ot) :: _) := ⟨_, rfl, NA⟩
    refine hR _ _ ⟨_, _, (DA, ot) :: nw, rfl, FA, fun p hp => NA p ?_, ⟨⟨neN (by dsimp only; omega), neN (by dsimp only; omega), neN (by dsimp only; omega)⟩, off⟩, fun p hp => .tail _ (hJ1 p hp), ?_⟩
    · simp only [List.mem_cons] at hp ⊢
      rcases hp with h | h | h | h | h <;> simp only [h, eq_self, true_or, or_true]
    · rw [take_snoc (rowsD_get 0 _ i c hc), Nat.zero_add]
      refine (hJ2.mono fun p hp => .tail _ hp).append (.one ?_)
      subst eot
      refine .tuple (vs := [_, _, _, _]) (.head _) (.cons ?_ (.cons (.int _ _) (.cons (.int _ _) (.cons (.int _ _) .nil))))
      rw [Int.add_comm (i : Int) 1]
      exact .int _ _
  case fin1 =>
    intro ys1 nx1 DT h tk hl1 hJ F N o1
    intro h1 tk1 F1 k1
    obtain ⟨hJ1, hJ2⟩ := hJ
    have oel := off1_mem o1
    have N1 : News gR LR h1 ((DT, PyProof.Rows.LCg.lst ys1) :: nx1) := fun p hp => ⟨k1 _ _ (N p hp).2.1 (N p hp).1, (N p hp).2⟩
    clear F2 N3 F N k1
    have sub1 : ∀ p ∈ news, p ∈ nx1 := fun p hp => hJ1 p (.tail _ hp)
    have hp1 := sub1 _ hp
    have hpD1 := sub1 _ hpD
    have hpl1 := sub1 _ hpl
    k_steps
    rename_i lU hU2 lU1 hU FU NU n1 en1 hV tkV tr ur vr' hr FV NV kpV
    refine turns_J (x := PySem.Str.ofString "place") [PySem.Str.ofString "across", PySem.Str.ofString "down"] (fun i nw => ∃ vsD kk tl, nw = (lU, W.listOf vsD.toArray kk) :: tl ∧ vsD.length = i ∧ (∀ p ∈ (DT, PyProof.Rows.LCg.lst ys1) :: nx1, p ∈ tl) ∧ OwnOff tl [lU] ∧ DatAll tl vsD ((rowsD 0 (cpsFrom wish 0 (psOf smp pds.length))).take i))
      rfl hr (n := pds.length) (by omega) (by omega) FV (nx := (lU, W.listOf [].toArray 0) :: (DT, PyProof.Rows.LCg.lst ys1) :: nx1) NV (fun p hp => hp) ⟨[], 0, _, rfl, rfl, fun _ h => h, fun p hp b hb => by
        rw [List.mem_singleton.mp hb]
        rcases List.mem_cons.mp hp with rfl | hp
        · exact Nat.ne_of_lt lU1.1
        · exact Nat.ne_of_lt (ktn_ltOf lU1.2 p hp), .nil⟩ (fun _ _ => rfl) ?turn ?done
    case turn =>
      intro i t u h tk I oI nw hi hJ hI F N
      obtain ⟨vsD, kk, tl, rfl, hvd, hst, hoff, hda⟩ := hJ
      obtain ⟨i1, hI⟩ := off_cons hI
      clear FU NU FV NV hr kpV
      refine turn_gen fun R' hR => ?_
      iterate 4 (first | (k_unfold; (try dsimp only)) | (k_end; wrow_close) | walk1 | (dsimp only; walk1) | (leave1; try dsimp only))
      rename Fr gR LR _ _ => FA
      rename News gR LR _ _ => NA
      refine cut2_at (by exact FA) (PySem.Str.ofString "across") (PySem.Str.ofString "down") (fun v1 v2 nw => ∃ (pr : Int × Int) (a1 a2 : Tok), (psOf smp pds.length)[i]? = some pr ∧ v1 = .int pr.1 a1 ∧ v2 = .int pr.2 a2 ∧ nw = (I, oI) :: (lU, W.listOf vsD.toArray kk) :: tl) ?br ?rest
      case br =>
        cases smp with
        | none =>
          have hkv : kv = .none := hsmp
          subst hkv
          k_steps
          rename_i DB hB3 hB2 hB1 hB FB NB
          exact ⟨rfl, _, _, _, _, _, rfl, FB, fun p hp => NB p (.tail _ hp), (1, 1), _, _, by show (List.replicate pds.length _)[i]? = _; rw [List.getElem?_replicate_of_lt hi], rfl, rfl, rfl⟩
        | some ps =>
          obtain ⟨lK, vsK, kK, rfl, hlK, hpK⟩ := hsmp
          have hlK' := hst _ (.tail _ (sub1 _ hlK))
          have hpl := hpK.length
          have hps2 : ps.length = pds.length := hps
          k_steps
          rename_i v9 hv9
          obtain ⟨pr, hpr, tpA, a1, a2, rfl, htp⟩ := hpK.get hv9
          have hpr : ps[i]? = some pr := hpr
          have htp' := hst _ (.tail _ (sub1 _ htp))
          k_steps
          rename_i hB2 hB1 hB FB NB
          exact ⟨rfl, _, _, _, _, _, rfl, FB, NB, pr, _, _, hpr, rfl, rfl, rfl⟩
      case rest =>
        intro v1 v2 h' tk' nw' F' N' hP
        obtain ⟨pr, a1, a2, hpr, rfl, rfl, rfl⟩ := hP
        clear FA NA
        have hs' := hst _ (.tail _ (sub1 _ hs))
        have hsD' := hst _ (.tail _ (sub1 _ hsD))
        have hoc' := hst _ (.tail _ (hJ1 _ (.head _)))
        have fin : ∀ (hA1 : Heap) (tkA : Nat) (DA : Addr) (a0 az : Tok) (mA m0 : Str → Option Value) (s1 : Shared), Fr gR LR hA1 mA → (∀ y, y ≠ PySem.Str.ofString "place" → [PySem.Str.ofString "across", PySem.Str.ofString "down"].contains y = false → mA y = m0 y) →
            News gR LR hA1 ((DA, tupO [.int ((i : Int) + 1) a0, .int pr.1 a1, .int pr.2 a2, .int (slotOf wish i) az]) :: (I, oI) :: (lU, W.listOf (vsD.toArray.push (Value.ref DA)) (kk + 1)) :: tl) → (@LT.lt Nat _ I DA ∧ @LT.lt Nat _ lU DA ∧ AllLt DA tl) →
            EndJ gR LR (PySem.Str.ofString "place") [PySem.Str.ofString "across", PySem.Str.ofString "down"] m0 I oI (fun nw => ∃ vsD kk tl, nw = (lU, W.listOf vsD.toArray kk) :: tl ∧ vsD.length = i + 1 ∧ (∀ p ∈ (DT, PyProof.Rows.LCg.lst ys1) :: nx1, p ∈ tl) ∧ OwnOff tl [lU] ∧ DatAll tl vsD ((rowsD 0 (cpsFrom wish 0 (psOf smp pds.length))).take (i + 1))) s1 { s1 with heap := hA1, toks := tkA } := by
          intro hA1 tkA DA a0 az mA m0 s1 FA hm0 NA lA
          obtain ⟨ot, eot, NA⟩ : ∃ ot, ot = tupO [.int ((i : Int) + 1) a0, .int pr.1 a1, .int pr.2 a2, .int (slotOf wish i) az] ∧ News gR LR hA1 ((DA, ot) :: (I, oI) :: (lU, W.listOf (vsD.toArray.push (Value.ref DA)) (kk + 1)) :: tl) := ⟨_, rfl, NA⟩
          rw [show vsD.toArray.push (Value.ref DA) = (vsD ++ [Value.ref DA]).toArray by simp] at NA
          have at1 : AllLt DA tl := lA.2.2
          refine ⟨_, _, _, (lU, W.listOf (vsD ++ [Value.ref DA]).toArray (kk + 1)) :: (DA, ot) :: tl, rfl, FA, fun p hp => NA p ?_, fun p hp => ?_, hm0, _, _, _, rfl, by rw [List.length_append, hvd]; rfl, fun p hp => .tail _ (hst p hp), fun p hp b hb => ?_, ?_⟩
          · simp only [List.mem_cons] at hp ⊢
            rcases hp with h | h | h | h <;> simp only [h, eq_self, true_or, or_true]
          · rcases List.mem_cons.mp hp with rfl | hp
            · exact i1
            rcases List.mem_cons.mp hp with rfl | hp
            · exact neN (by dsimp only; omega)
            · exact hI p hp
          · rw [List.mem_singleton.mp hb]
            rcases List.mem_cons.mp hp with rfl | hp
            · exact neN (by dsimp only; omega)
            · exact hoff p hp lU (by simp)
          · have q := rowsD_get 0 _ i _ (cpsFrom_get wish 0 _ i pr hpr)
            rw [Nat.zero_add] at q
            rw [take_snoc q]
            subst eot
            exact (hda.mono fun p hp => .tail _ hp).append (.one (.tuple (vs := [_, _, _, _]) (.head _) (.cons (.int _ _) (.cons (.int _ _) (.cons (.int _ _) (.cons (.int _ _) .nil))))))
        have nm : ∀ (v1 v2 v3 : Option Value) (m0 : Str → Option Value) (y : Str), y ≠ PySem.Str.ofString "place" → [PySem.Str.ofString "across", PySem.Str.ofString "down"].contains y = false → (if y = PySem.Str.ofString "down" then v1 else if y = PySem.Str.ofString "across" then v2 else if y = PySem.Str.ofString "place" then v3 else if y = PySem.Str.ofString "place" then u y else if [PySem.Str.ofString "across", PySem.Str.ofString "down"].contains y = true then u y else m0 y) = m0 y := by
          intro v1 v2 v3 m0 y hy hs
          have q1 : y ≠ PySem.Str.ofString "across" := fun q => by subst q; exact absurd hs (by decide)
          have q2 : y ≠ PySem.Str.ofString "down" := fun q => by subst q; exact absurd hs (by decide)
          simp only [if_neg q1, if_neg q2, if_neg hy, hs, Bool.false_eq_true, if_false]
        k_steps
        · rename_i hA uA kA e1 e2 DA hA2 lA hA1 FA NA
          rw [slot_a hmd e1 e2] at NA
          exact hR .next _ (fin _ _ _ _ _ _ _ _ FA (nm _ _ _ _) NA lA)
        · rename_i hA uA kA e1 e2 DA hA2 lA hA1 FA NA
          rw [slot_b (x := wish) e2] at NA
          exact hR .next _ (fin _ _ _ _ _ _ _ _ FA (nm _ _ _ _) NA lA)
        · rename_i hA uA kA e1 DA hA2 lA hA1 FA NA
          rw [slot_c (i := (i : Int)) hmd e1] at NA
          exact hR .next _ (fin _ _ _ _ _ _ _ _ FA (nm _ _ _ _) NA lA)
    case done =>
      intro u h tk nw hJ F N
      obtain ⟨vsD, kk, tl, rfl, hvd, hst, hoff, hda⟩ := hJ
      have N9 : News gR LR h ((lU, W.listOf vsD.toArray kk) :: tl) := N
      clear FU NU FV NV hr kpV N
      have hcl2 : (cpsFrom wish 0 (psOf smp pds.length)).length = pds.length := by rw [cpsFrom_len, hps]
      have hvl2 : vs.length = pds.length := by rw [hcp.length, hcl2]
      have tkL : (rowsD 0 (cpsFrom wish 0 (psOf smp pds.length))).take pds.length = rowsD 0 (cpsFrom wish 0 (psOf smp pds.length)) := List.take_of_length_le (by rw [rowsD_len, hcl2]; exact Nat.le_refl _)
      rw [tkL] at hda
      rw [hvl2, tkL] at hJ2
      have hDTm := hst _ (.head _)
      have hs' := hst _ (.tail _ (sub1 _ hs))
      have hsD' := hst _ (.tail _ (sub1 _ hsD))
      have hoc' := hst _ (.tail _ (hJ1 _ (.head _)))
      obtain ⟨dd, edd⟩ : ∃ dd, dd = Dat.list (rowsD 0 (cpsFrom wish 0 (psOf smp pds.length))) := ⟨_, rfl⟩
      have dt : DatIn ((lU, W.listOf vsD.toArray kk) :: tl) (.ref DT) dd := by rw [edd]; exact .list (vs := ys1) (n := ys1.length) (.tail _ hDTm) (hJ2.mono fun p hp => .tail _ (hst p (.tail _ hp)))
      have du : DatIn ((lU, W.listOf vsD.toArray kk) :: tl) (.ref lU) dd := by rw [edd]; exact .list (vs := vsD) (n := kk) (.head _) (hda.mono fun p hp => .tail _ hp)
      have dok : kqdOk 8 dd = true := by rw [edd]; simp only [kqdOk, List.all_eq_true]; exact fun d hd => rowsD_ok 0 _ d hd
      k_steps
      rename_i n2 en2 hW t2' u2' v2' hr2 FW NW kpW
      obtain ⟨cq, ecq⟩ : ∃ cq : List Dat, cq = (cpsFrom wish 0 (psOf smp pds.length)).map fun c => Dat.int c.q := ⟨_, rfl⟩
      have hcq : ∀ (i : Nat) (c : Cp), (cpsFrom wish 0 (psOf smp pds.length))[i]? = some c → cq[i]? = some (.int c.q) := fun i c h => by rw [ecq, List.getElem?_map, h]; rfl
      have hcql : cq.length = pds.length := by rw [ecq, List.length_map, hcl2]
      refine src_range (fun i ys nw => (∀ p ∈ (lU, W.listOf vsD.toArray kk) :: tl, p ∈ nw) ∧ DatAll nw ys (cq.take i)) rfl hr2 (n := pds.length) (by omega) (by omega) FW NW ⟨fun p hp => hp, .nil⟩ ?step2 ?fin2
      case step2 =>
        intro i t ys nw I oI C oC D m₂ h tk E' hi hl hJ hNs hm F N off ne
        obtain ⟨hJ3, hJ4⟩ := hJ
        have hs3 := hJ3 _ (.tail _ hs')
        have hsD3 := hJ3 _ (.tail _ hsD')
        have hoc3 := hJ3 _ (.tail _ hoc')
        obtain ⟨pr, hpr⟩ : ∃ pr, (psOf smp pds.length)[i]? = some pr := ⟨(psOf smp pds.length)[i]'(by omega), by simp⟩
        have hq := hcq i _ (cpsFrom_get wish 0 _ i pr hpr)
        rw [Nat.zero_add] at hq
        clear FW NW hr2 kpW
        refine elt_gen fun R' hR => ?_
        k_steps
        rename_i cE t9 hz Fz Nz
        exact hR _ _ ⟨_, _, nw, rfl, Fz, Nz, off, hJ3, by rw [take_snoc hq]; exact hJ4.append (.one (.int _ _))⟩
      case fin2 =>
        intro ys2 nx2 D2 h tk hl hJ F N o2
        obtain ⟨hJ3, hJ4⟩ := hJ
        have oe2 := off1_mem o2
        clear FW NW hr2 kpW
        have hU2 := hJ3 _ (.head _)
        rw [List.take_of_length_le (by rw [hcql]; exact Nat.le_refl _)] at hJ4
        k_steps
        refine src_list (its := vsD) (k := kk) (fun i ys nw => (∀ p ∈ (D2, W.listOf ys2.toArray ys2.length) :: nx2, p ∈ nw) ∧ DatAll nw ys (cq.take i)) (by rw [hvd]; omega) F N ⟨fun p hp => hp, .nil⟩ (fun _ _ _ q => q.1 _ (.tail _ hU2)) (fun b hb => (nomatch hb)) (fun v hv => (nomatch hv)) ?step3 ?fin3
        case step3 =>
          intro i ys nw v I oI C oC D m₂ h tk E' hi hl hJ hv hNs hm F N off ne
          obtain ⟨hJ5, hJ6⟩ := hJ
          obtain ⟨c, hc⟩ : ∃ c, (cpsFrom wish 0 (psOf smp pds.length))[i]? = some c := ⟨(cpsFrom wish 0 (psOf smp pds.length))[i]'(by omega), by simp⟩
          obtain ⟨aR, r1, r2, r3, r4, rn, rfl, haR⟩ := row_open (dat_get hda hv (rowsD_get 0 _ i c hc))
          have haR' := hJ5 _ (.tail _ (hJ3 _ (.tail _ haR)))
          have hq := hcq i c hc
          refine elt_gen fun R' hR => ?_
          k_steps
          exact hR _ _ ⟨_, _, nw, rfl, F, N, off, hJ5, by rw [take_snoc hq]; exact hJ6.append (.one (.int _ _))⟩
        case fin3 =>
          intro ys3 nx3 D3 h tk hl hJ F N o3
          obtain ⟨hJ5, hJ6⟩ := hJ
          rw [List.take_of_length_le (by rw [hcql, hvd]; exact Nat.le_refl _)] at hJ6
          obtain ⟨de, ede⟩ : ∃ de, de = Dat.list cq := ⟨_, rfl⟩
          have dv : DatIn ((D3, PyProof.Rows.LCg.lst ys3) :: nx3) (.ref D2) de := by rw [ede]; exact .list (vs := ys2) (n := ys2.length) (.tail _ (hJ5 _ (.head _))) (hJ4.mono fun p hp => .tail _ (hJ5 p (.tail _ hp)))
          have dw : DatIn ((D3, PyProof.Rows.LCg.lst ys3) :: nx3) (.ref D3) de := by rw [ede]; exact .list (vs := ys3) (n := ys3.length) (.head _) (hJ6.mono fun p hp => .tail _ hp)
          have dqk : kqdOk 8 de = true := by
            rw [ede, ecq]
            simp only [kqdOk, List.all_eq_true]
            intro d hd
            obtain ⟨c, _, rfl⟩ := List.mem_map.mp hd
            rfl
          k_steps
          rename_i kF kN Tc kX
          exact hret _ _ _ kF kN fun p hp => .tail _ (hJ5 _ (.tail _ (hJ3 _ (.tail _ (hst _ (.tail _ (sub1 _ hp)))))))
end
end
-- part Use
section
/-- a mark: the walk stops here -/
def Stop (P : Prop) : Prop := P
theorem menu_knd {v : Value} {a b c d e : Tok} (h : v ∈ [Value.str (PySem.Str.ofString "baseline") a, .str (PySem.Str.ofString "extended") b, .str (PySem.Str.ofString "progressive") c, .str (PySem.Str.ofString "arith") d, .str (PySem.Str.ofString "arith progressive") e]) : ∃ x t, v = .str x t ∧ kndOk x := by
  simp only [List.mem_cons, List.not_mem_nil, or_false] at h
  rcases h with rfl | rfl | rfl | rfl | rfl
  · exact ⟨_, _, rfl, .inl rfl⟩
  · exact ⟨_, _, rfl, .inr (.inl rfl)⟩
  · exact ⟨_, _, rfl, .inr (.inr (.inl rfl))⟩
  · exact ⟨_, _, rfl, .inr (.inr (.inr (.inl rfl)))⟩
  · exact ⟨_, _, rfl, .inr (.inr (.inr (.inr rfl)))⟩
theorem menu_mdl {v : Value} {a b c d e f : Tok} (h : v ∈ [Value.str (PySem.Str.ofString "ycc") a, .str (PySem.Str.ofString "rgb") b, .str (PySem.Str.ofString "ycck") c, .str (PySem.Str.ofString "cmyk") d, .str (PySem.Str.ofString "grey") e, .str (PySem.Str.ofString "raw") f]) : ∃ x t, v = .str x t ∧ mdlOk x := by
  simp only [List.mem_cons, List.not_mem_nil, or_false] at h
  rcases h with rfl | rfl | rfl | rfl | rfl | rfl
  · exact ⟨_, _, rfl, .inl rfl⟩
  · exact ⟨_, _, rfl, .inr (.inl rfl)⟩
  · exact ⟨_, _, rfl, .inr (.inr (.inl rfl))⟩
  · exact ⟨_, _, rfl, .inr (.inr (.inr (.inl rfl)))⟩
  · exact ⟨_, _, rfl, .inr (.inr (.inr (.inr (.inl rfl))))⟩
  · exact ⟨_, _, rfl, .inr (.inr (.inr (.inr (.inr rfl))))⟩
theorem menu_n {v : Value} {a b c : Tok} (h : v ∈ [Value.int 2 a, .int 4 b, .int 8 c]) : ∃ k t, v = .int k t := by
  simp only [List.mem_cons, List.not_mem_nil, or_false] at h
  rcases h with rfl | rfl | rfl <;> exact ⟨_, _, rfl⟩
theorem samp_use : ∀ (w : World) (mean : ExcName → Option Value) (mg mb : Str → Option Value) (dp un : Nat) (gd : Option (List Code)) (hdl : Option Value) (cn : Str) (cs : Scope) (a : Addr) (ccd : Value) (cl : List (Str × Addr)) (outer : List Env) (A₀ : Around) (base h₀ : Heap) (L : Addr) (m : Str → Option Value) (s : Shared) (Q E : Value → Shared → Prop) (src : Addr) (x y z : Int) (tx ty tm : Tok) (n many : Nat) (rest : List (Addr × Obj)), z = (many : Int) →
    Below A₀ base outer h₀ → Fr h₀ L s.heap m → (hd.heap_39 w.params).In h₀ → Top qview (looseW qview lse) mean mg mb h₀ → cs.kind = .function → News h₀ L s.heap ((src, W.listOf #[.int x tx, .int y ty] n) :: rest) → OwnOff rest [src] → hdl = none →
    0 ≤ x → 0 ≤ y → y < 2147483647 → 1 ≤ many → many ≤ 5 → dp + 5 < recursionLimit → un + 60 < cLine →
    (∀ (v : Value) (smp : Option (List (Int × Int))) (x' y' : Int) (tx' ty' : Tok) (n' : Nat) (rest' : List (Addr × Obj)) h' tk', (psOf smp many).length ≤ 6 → 0 ≤ x' → 0 ≤ y' → y' < 2147483647 → Fr h₀ L h' m →
      News h₀ L h' ((src, W.listOf #[.int x' tx', .int y' ty'] n') :: rest') → OwnOff rest' [src] → (∀ p ∈ rest, p ∈ rest') → SmpIn rest' v smp → Q v { s with heap := h', toks := tk' }) →
    wpAny (model PySem.Challenge.rw_ok0143_01.row.prog w) (topA hdl dp un gd cn cs L a ccd cl outer) (call (.ref 335) [.ref src, .int z tm]) Q E s := by
  intro w mean mg mb dp un gd hdl cn cs a ccd cl outer A₀ base h₀ L m s Q E src x y z tx ty tm n many rest hz
  subst hz
  exact samp_con w mean mg mb dp un gd hdl cn cs a ccd cl outer A₀ base h₀ L m s Q E src x y tx ty tm n many rest
theorem let_use : ∀ (w : World) (mean : ExcName → Option Value) (mg mb : Str → Option Value) (dp un : Nat) (gd : Option (List Code)) (hdl : Option Value) (cn : Str) (cs : Scope) (a : Addr) (ccd : Value) (cl : List (Str × Addr)) (outer : List Env) (A₀ : Around) (base h₀ : Heap) (L : Addr) (m : Str → Option Value) (s : Shared) (Q E : Value → Shared → Prop) (kind : Str) (prec z : Int) (many : Nat) (kv : Value) (smp : Option (List (Int × Int))) (tk1 tp tm : Tok) (news : List (Addr × Obj)), z = (many : Int) →
    Below A₀ base outer h₀ → Fr h₀ L s.heap m → (hd.heap_39 w.params).In h₀ → Top qview (looseW qview lse) mean mg mb h₀ → cs.kind = .function → News h₀ L s.heap news → SmpIn news kv smp → HandIn hdl news → kndOk kind → 1 ≤ many → many ≤ 5 → (psOf smp many).length ≤ 6 → dp + 4 < recursionLimit → un + 200 < cLine →
    (∀ (b : Bool) (nx : List (Addr × Obj)) h' tk', (b = true ↔ frameOk kind prec smp many) → Fr h₀ L h' m → News h₀ L h' nx → (∀ p ∈ news, p ∈ nx) → Q (.bool b) { s with heap := h', toks := tk' }) →
    wpAny (model PySem.Challenge.rw_ok0143_01.row.prog w) (topA hdl dp un gd cn cs L a ccd cl outer) (call (.ref 340) [.str kind tk1, .int prec tp, kv, .int z tm]) Q E s := by
  intro w mean mg mb dp un gd hdl cn cs a ccd cl outer A₀ base h₀ L m s Q E kind prec z many kv smp tk1 tp tm news hz
  subst hz
  exact let_con w mean mg mb dp un gd hdl cn cs a ccd cl outer A₀ base h₀ L m s Q E kind prec many kv smp tk1 tp tm news
end
-- part Rep
section
/-- a datum that repr shows in few signs -/
structure Nice (n B : Nat) (d : PyData) : Prop where
  s : d.showable = true
  hd : d.hasDict = false
  dp : d.depth ≤ n
  ls : d.leavesShort 13 = true
  bk : d.bulk ≤ B
theorem Nice.up {n B n' B' : Nat} {d : PyData} (x : Nice n B d) (h : n ≤ n') (h2 : B ≤ B') : Nice n' B' d := ⟨x.s, x.hd, Nat.le_trans x.dp h, x.ls, Nat.le_trans x.bk h2⟩
theorem nice_all {n B : Nat} : ∀ xs : List PyData, (∀ d ∈ xs, Nice n B d) → PyData.showableAll xs = true ∧ PyData.hasDictAll xs = false ∧ PyData.depthAll xs ≤ n ∧ PyData.leavesShortAll 13 xs = true ∧ PyData.bulkAll xs ≤ xs.length * (B + 1)
  | [], _ => by simp [PyData.showableAll, PyData.hasDictAll, PyData.depthAll, PyData.leavesShortAll, PyData.bulkAll]
  | d :: xs, h => by
    obtain ⟨a1, a2, a3, a4, a5⟩ := nice_all xs fun x hx => h x (.tail _ hx)
    have x := h d (.head _)
    refine ⟨?_, ?_, ?_, ?_, ?_⟩
    · simp only [PyData.showableAll, x.s, a1, Bool.and_self]
    · simp only [PyData.hasDictAll, x.hd, a2, Bool.or_self]
    · simp only [PyData.depthAll]; exact Nat.max_le.mpr ⟨x.dp, a3⟩
    · simp only [PyData.leavesShortAll, x.ls, a4, Bool.and_self]
    · simp only [PyData.bulkAll, List.length_cons, Nat.add_mul, Nat.one_mul]; have := x.bk; omega
theorem nice_list {n B C : Nat} {xs : List PyData} (h : ∀ d ∈ xs, Nice n B d) (hc : xs.length * (B + 1) ≤ C) : Nice (n + 1) C (.list xs) := by
  obtain ⟨a1, a2, a3, a4, a5⟩ := nice_all xs h
  refine ⟨?_, ?_, ?_, ?_, ?_⟩
  · simpa only [PyData.showable] using a1
  · simpa only [PyData.hasDict] using a2
  · simp only [PyData.depth]; omega
  · simpa only [PyData.leavesShort] using a4
  · simp only [PyData.bulk]; omega
theorem nice_int {k : Int} (h1 : -1000 ≤ k) (h2 : k ≤ 1000) : Nice 0 0 (.int k) := by
  refine ⟨?_, by simp [PyData.hasDict], by simp [PyData.depth], ?_, by simp [PyData.bulk]⟩
  · simp only [PyData.showable, decide_eq_true_eq]
    exact shown (N := 2 ^ 1920) (by omega) (by omega) (Int.le_refl _)
  · simp only [PyData.leavesShort, decide_eq_true_eq]
    exact PyData.shown_int_le2 (by omega) (by omega)
theorem kqdPs_map (ds : List Dat) : kqdPs ds = ds.map kqdP := by
  induction ds with
  | nil => simp [kqdPs]
  | cons d ds ih => simp [kqdPs, ih]
theorem nice_row {d : Dat} (h : RowOk d) : Nice 1 4 (kqdP d) := by
  obtain ⟨es, rfl, hl, he⟩ := h
  rw [kqdP, kqdPs_map]
  refine nice_list (n := 0) (B := 0) (fun x hx => ?_) (by rw [List.length_map]; omega)
  obtain ⟨e, hm, rfl⟩ := List.mem_map.mp hx
  obtain ⟨k, rfl, a, b⟩ := he e hm
  rw [kqdP]
  exact nice_int (by omega) (by omega)
theorem nice_rows {d : Dat} (h : RowsOk d) : Nice 2 15 (kqdP d) := by
  obtain ⟨es, rfl, hl, he⟩ := h
  rw [kqdP, kqdPs_map]
  refine nice_list (n := 1) (B := 4) (fun x hx => ?_) (by rw [List.length_map]; omega)
  obtain ⟨e, hm, rfl⟩ := List.mem_map.mp hx
  exact nice_row (he e hm)
theorem nice_plane {pd : Pd} (h : PdOk pd) : Nice 3 48 (kqdP (shownPl pd)) := by
  unfold shownPl
  rw [kqdP, kqdPs_map]
  refine nice_list (n := 2) (B := 15) (fun x hx => ?_) (Nat.le_refl _)
  simp only [List.map_cons, List.map_nil, List.mem_cons, List.not_mem_nil, or_false] at hx
  obtain ⟨h1, h2, h3, h4, h5⟩ := h
  rcases hx with rfl | rfl | rfl
  · rw [kqdP]; exact (nice_int (by omega) (by omega)).up (by decide) (by decide)
  · rw [kqdP]; exact (nice_int (by omega) (by omega)).up (by decide) (by decide)
  · exact nice_rows h5
theorem nice_shown {prec : Int} {pds : List Pd} (hp : prec = 7 ∨ prec = 8 ∨ prec = 12 ∨ prec = 16) (hl : pds.length ≤ 5) (h : ∀ pd ∈ pds, PdOk pd) : Nice 5 738 (kqdP (shownOf prec pds)) := by
  unfold shownOf
  rw [kqdP, kqdPs_map]
  refine nice_list (n := 4) (B := 245) (fun x hx => ?_) (Nat.le_refl _)
  simp only [List.map_cons, List.map_nil, List.mem_cons, List.not_mem_nil, or_false] at hx
  rcases hx with rfl | rfl | rfl
  · rw [kqdP]
    refine ⟨by simp [PyData.showable], by simp [PyData.hasDict], by simp [PyData.depth], ?_, ?_⟩
    · simp only [PyData.leavesShort]; decide +kernel
    · simp only [PyData.bulk]; decide +kernel
  · rw [kqdP]; exact (nice_int (by omega) (by omega)).up (by decide) (by decide)
  · rw [kqdP, kqdPs_map]
    refine nice_list (n := 3) (B := 48) (fun x hx => ?_) (by rw [List.length_map, List.length_map]; omega)
    obtain ⟨e, hm, rfl⟩ := List.mem_map.mp hx
    obtain ⟨pd, hm2, rfl⟩ := List.mem_map.mp hm
    exact nice_plane (h pd hm2)
theorem ok_row {d : Dat} (h : RowOk d) : kqdOk 5 d = true := by
  obtain ⟨es, rfl, hl, he⟩ := h
  simp only [kqdOk, List.all_eq_true]
  intro e hm
  obtain ⟨k, rfl, _⟩ := he e hm
  rfl
theorem ok_rows {d : Dat} (h : RowsOk d) : kqdOk 6 d = true := by
  obtain ⟨es, rfl, hl, he⟩ := h
  simp only [kqdOk, List.all_eq_true]
  exact fun e hm => ok_row (he e hm)
theorem ok_shown {prec : Int} {pds : List Pd} (h : ∀ pd ∈ pds, PdOk pd) : kqdOk 9 (shownOf prec pds) = true := by
  have q : PyData.strOk (PySem.Str.ofString "raw") = true := by decide +kernel
  have r : ∀ e ∈ pds, kqdOk 6 e.R = true := fun e hm => ok_rows (h e hm).2.2.2.2
  unfold shownOf shownPl
  simp only [kqdOk, List.all_cons, List.all_nil, q, Bool.and_true, Bool.true_and, List.all_map, List.all_eq_true, Function.comp]
  exact r
section
variable {prog : Program} {w : World} {A : Around} {E : Value → Shared → Prop} {s : Shared} {h₀ : Heap} {L a : Addr} {m : Str → Option Value} {news : List (Addr × Obj)} {d : Dat} {Q : Value → Shared → Prop}
theorem repr_dat (F : Fr h₀ L s.heap m) (N : News h₀ L s.heap news) (D : DatIn news (.ref a) d) (hok : kqdOk 9 d = true) (hn : Nice 5 738 (kqdP d)) (hg : A.guards = some []) (hu : A.units + 6 < cLine)
    (h : ∀ h' u tk, Fr h₀ L h' m → News h₀ L h' news → Q (.str (kqdP d).shown u) { s with heap := h', toks := tk }) : wpAny (model prog w) A (call (.builtin "repr") [.ref a]) Q E s := by
  obtain ⟨as, r⟩ := kqd_in N 9 D hok
  exact repr_HN F N r hn.hd hn.s hg (by have := hn.dp; omega) h (PyData.shown_fits_bulk (B := 13) (by decide) (by decide) hn.ls (Nat.le_trans hn.bk (by decide)))
end
end
-- part Law
section
theorem zfill_Law : ∀ w : World, (hd.heap_39 w.params, PySem.Challenge.rw_ok0143_01.row.prog) = (hd.heap_39 w.params, PySem.Challenge.rw_ok0143_01.row.prog) := by
  k_fill
  w_top off
  intro w
  rfl
local macro_rules | `(tactic| walk_at "call ref") => `(tactic| (k_here; (with_reducible first | show wpAny _ _ (call (Value.ref 311) _) _ _ _ | show wpAny _ _ (call (Value.ref 330) _) _ _ _ | show wpAny _ _ (call (Value.ref 335) _) _ _ _ | show wpAny _ _ (call (Value.ref 300) _) _ _ _ | show wpAny _ _ (call (Value.ref 345) _) _ _ _ | show wpAny _ _ (call (Value.ref 340) _) _ _ _ | show wpAny _ _ (call (Value.ref 350) _) _ _ _ | show wpAny _ _ (call (Value.ref 208) _) _ _ _); k_dflt (change Stop _)))
local macro_rules | `(tactic| walk_at "MENU") => `(tactic| first | ((rename _ ∈ [Value.str _ _, Value.str _ _, Value.str _ _, Value.str _ _, Value.str _ _] => menu'); obtain ⟨k', t', ek', q1'⟩ := menu_knd menu'; subst ek'; clear menu') | ((rename _ ∈ [Value.str _ _, Value.str _ _, Value.str _ _, Value.str _ _, Value.str _ _, Value.str _ _] => menu'); obtain ⟨k', t', ek', q1'⟩ := menu_mdl menu'; subst ek'; clear menu') | ((rename _ ∈ [Value.int _ _, Value.int _ _, Value.int _ _] => menu'); obtain ⟨k', t', ek'⟩ := menu_n menu'; subst ek'; clear menu') | skip)
local macro_rules | `(tactic| walk_at "call builtin:repr") => `(tactic| (k_here; (with_reducible show wpAny _ _ (call (Value.builtin _) [Value.ref _]) _ _ _); k_dflt (refine' repr_dat ?F ?N ?D ?ok ?hn ?hg ?hu ?_; (case F | N => k_asm); (case D | ok | hn => assumption); (case hg => exact rfl); (case hu => ktr_units)); k_whole; intro h' u' tk' F' N'; (try k_sweep)))
theorem small_size {vs : List Value} (h : vs.length ≤ 6) : vs.toArray.size ≤ sizeLine := by
  rw [List.size_toArray, sizeLine_eq]; omega
local macro_rules | `(tactic| walk_at "call type:list") => `(tactic| (k_here; k_dflt (refine' list_copyK ?F ?N ?l ?_ ?z; (case F | N => k_asm); (case l => exact isList_mem (by k_asm) (by assumption)); (case z => exact small_size (by assumption))); k_whole; intro D' c' h' F' N' l1; (try k_lt l1); (try k_sweep)))
def smpD : Option (List (Int × Int)) → Dat
  | none => .none
  | some ps => .list (ps.map fun p => .tuple [.int p.1, .int p.2])
theorem smp_dat {news : List (Addr × Obj)} {sv : Value} : ∀ {o : Option (List (Int × Int))}, SmpIn news sv o → DatIn news sv (smpD o)
  | none, h => by rw [show sv = .none from h]; exact .none
  | some ps, ⟨l, vs, k, e, hm, hp⟩ => by rw [e]; exact .list hm (pairs_dat hp)
theorem smpD_ok : ∀ o : Option (List (Int × Int)), kqdOk 8 (smpD o) = true
  | none => rfl
  | some ps => by
    simp only [smpD, kqdOk, List.all_eq_true]
    intro d hd
    obtain ⟨p, _, rfl⟩ := List.mem_map.mp hd
    rfl
local macro_rules | `(tactic| walk_at "compareOp NotEq") => `(tactic| (k_here; k_dflt (refine' dat_diff ?N ?D1 ?D2 ?ok ?hu ?_; (case N => k_asm); (case D1 | D2 | ok => assumption); (case hu => ktr_units)); k_whole))
theorem bne_same {x : Str} (h : (x != x) = true) : False := by
  rw [bne_self_eq_false] at h; cases h
theorem stored_ne {l : List Str} {y : Str} (h : l.contains y = false) : ∀ x ∈ l, y ≠ x := by
  rintro x hx rfl
  rw [List.contains_iff_mem.mpr hx] at h
  cases h
theorem law_t : PySem.Challenge.rw_ok0143_01.Holds := hd (by
  k_go0
  (all_goals try k_fold)
  (try dsimp only)
  k_steps
  rename_i hV tkV tr ur vr hr FV NV kpV
  rename World => w
  refine turns_J (x := PySem.Str.ofString "k") [PySem.Str.ofString "source", PySem.Str.ofString "picture", PySem.Str.ofString "many", PySem.Str.ofString "samplings", PySem.Str.ofString "kind", PySem.Str.ofString "wish", PySem.Str.ofString "n", PySem.Str.ofString "settings", PySem.Str.ofString "ahead", PySem.Str.ofString "kept", PySem.Str.ofString "frame"]
    (fun _ nx => nx = []) rfl hr (n := 2) rfl (by decide) FV (nx := []) NV (fun p hp => hp) rfl (fun _ _ => rfl) ?turn ?done
  case turn =>
    intro i t u h tk I oI nx hi hJ hI F N
    subst hJ
    have hkk : (i : Int) = 0 ∨ (i : Int) = 1 := by omega
    clear FV NV hr kpV
    refine turn_gen fun R' hR => ?_
    (try dsimp only)
    k_steps
    unfold Stop
    k_dflt (refine' pool_con _ _ _ _ _ _ _ _ _ _ _ _ _ _ _ _ _ _ _ _ _ _ _ _ _ _ _ _ ?B ?F ?X ?T ?hk ?N ?hL ?hI ?hlen ?hkk ?hh ?d1 ?u1 ?_; (case B | F | X | T => k_asm); (case hk => first | exact rfl | assumption); (case N => k_asm); (case hL | hI | hlen | hkk => assumption); (case hh => exact rfl); (case d1 => ktr_room); (case u1 => ktr_units); k_whole)
    intro src x1 y1 tx1 ty1 n1 h1 tk1 p1 p2 p3 F1 N1 hsrc
    have ho1 : OwnOff [(I, oI)] [src] := fun p hp b hb => by rw [List.mem_singleton.mp hb]; exact hsrc p hp
    (try clear F); (try clear N)
    (try dsimp only)
    k_steps
    unfold Stop
    k_dflt (refine' pic_con _ _ _ _ _ _ _ _ _ _ _ _ _ _ _ _ _ _ _ _ _ _ _ _ _ _ _ _ _ ?B ?F ?X ?T ?hk ?N ?ho ?hh ?x1 ?x2 ?x3 ?d1 ?u1 ?_; (case B | F | X | T => k_asm); (case hk => first | exact rfl | assumption); (case N => k_asm); (case ho => assumption); (case hh => exact rfl); (case x1 | x2 | x3 => assumption); (case d1 => ktr_room); (case u1 => ktr_units); k_whole)
    intro pic prec pds x2 y2 tx2 ty2 n2 r2 h2 tk2 hprec m1 m2 hpd p4 p5 p6 F2 N2 ho2 hs2 hpic
    (try clear F1); (try clear N1)
    obtain ⟨dP, pl, vsP, kP, τP, hp, hpD, hpl, hplanes⟩ := id hpic
    have hvl := hplanes.length
    have m1v : 1 ≤ vsP.length := by omega
    have m2v : vsP.length ≤ 5 := by omega
    (try dsimp only)
    k_steps
    unfold Stop
    k_dflt (refine' samp_use _ _ _ _ _ _ _ _ _ _ _ _ _ _ _ _ _ _ _ _ _ _ _ _ _ _ _ _ _ _ _ _ ?ez ?B ?F ?X ?T ?hk ?N ?ho ?hh ?x1 ?x2 ?x3 ?m1 ?m2 ?d1 ?u1 ?_; (case ez => assumption); (case B | F | X | T => k_asm); (case hk => first | exact rfl | assumption); (case N => k_asm); (case ho => assumption); (case hh => exact rfl); (case x1 | x2 | x3 | m1 | m2 => assumption); (case d1 => ktr_room); (case u1 => ktr_units); k_whole)
    intro sv smp x3 y3 tx3 ty3 n3 r3 h3 tk3 hps p7 p8 p9 F3 N3 ho3 hs3 hsmp
    (try clear F2); (try clear N2)
    have hsv : handedIn sv = true := smp_handed hsmp
    have hts3 : ∀ p ∈ r3, p.1 ≠ src := fun p hp => ho3 p hp src (by simp)
    (try dsimp only)
    k_steps
    unfold Stop
    k_dflt (refine' set_con _ _ _ _ _ _ _ _ _ _ _ _ _ _ _ _ _ _ _ _ _ _ _ _ _ _ _ _ _ _ _ _ ?B ?F ?X ?T ?hk ?N ?hm ?hh ?d1 ?u1 ?_; (case B | F | X | T => k_asm); (case hk => first | exact rfl | assumption); (case N => k_asm); (case hm => assumption); (case hh => exact rfl); (case d1 => ktr_room); (case u1 => ktr_units); k_whole)
    intro st r4 h4 tk4 F4 N4 hs4 hx4 hset
    clear hx4 hts3; (try clear F3); (try clear N3)
    have hs34 : ∀ p ∈ r3, p ∈ r4 := fun p hp => hs4 p (by simp only [List.mem_cons, hp, or_true])
    have hpic4 : PicIn _ r4 pic prec pds := hpic.mono fun p hp => hs34 p (hs3 p hp)
    have hsmp4 : SmpIn r4 sv smp := hsmp.mono hs34
    rename kndOk _ => hkn
    rename mdlOk _ => hmd
    have hnice := nice_shown hprec m2 hpd
    have hok9 := ok_shown (prec := prec) hpd
    iterate 3 (first | (k_unfold; (try dsimp only)) | (k_end; wrow_close) | walk1 | (dsimp only; walk1) | (leave1; try dsimp only))
    rename Fr _ _ _ _ => FA
    rename News _ _ _ _ => NA
    refine cut2_at (by exact FA) (PySem.Str.ofString "kept") (PySem.Str.ofString "ahead") (fun v1 v2 nw => (∀ p ∈ r4, p ∈ nw) ∧ SmpIn nw v1 smp ∧ ∃ u, v2 = .str (kqdP (shownOf prec pds)).shown u) ?br ?rest
    case br =>
      (try dsimp only)
      k_steps
      unfold Stop
      k_dflt (refine' shown_con _ _ _ _ _ _ _ _ _ _ _ _ _ _ _ _ _ _ _ _ _ _ _ _ _ _ ?B ?F ?X ?T ?hk ?N ?hp ?hd ?m2 ?d1 ?u1 ?_; (case B | F | X | T => k_asm); (case hk => first | exact rfl | assumption); (case N => k_asm); (case hp => assumption); (case hd => first | exact trivial | assumption); (case m2 => assumption); (case d1 => ktr_room); (case u1 => ktr_units); k_whole)
      intro D5 r5 h5 tk5 F5 N5 hs5 hD5
      have hsmp5 := hsmp4.mono hs5
      (try clear FA); (try clear NA)
      cases smp with
      | none =>
        have hsn : sv = .none := hsmp4
        subst hsn
        (try dsimp only)
        k_steps
        rename Fr _ _ _ _ => FB
        rename News _ _ _ _ => NB
        exact ⟨rfl, _, _, _, _, _, rfl, FB, NB, fun p hp => .tail _ (hs5 p hp), rfl, _, rfl⟩
      | some ps =>
        obtain ⟨lS, vsS, kS, rfl, hlS, hpS⟩ := id hsmp5
        have hlv : vsS.length ≤ 6 := by rw [hpS.length]; exact hps
        (try dsimp only)
        k_steps
        rename Fr _ _ _ _ => FB
        rename News _ _ _ _ => NB
        refine ⟨rfl, _, _, _, _, _, rfl, FB, NB, fun p hp => .tail _ (.tail _ (hs5 p hp)), ⟨_, vsS, _, rfl, .tail _ (.head _), hpS.mono fun p hp => .tail _ (.tail _ hp)⟩, _, rfl⟩
    case rest =>
      intro v1 v2 h6 tk6 r6 F6 N6 hP
      obtain ⟨hs6, hsmp6, u6, rfl⟩ := hP
      (try clear FA); (try clear NA); (try clear F4); (try clear N4)
      have hpic6 := hpic4.mono hs6
      have hset6 := hset.mono hs6
      have hsmp6s := hsmp4.mono hs6
      have hkv : handedIn v1 = true := smp_handed hsmp6
      have hpsP : (psOf smp pds.length).length ≤ 6 := by rw [← hvl]; exact hps
      have hp6 := hs6 _ (hs34 _ (hs3 _ hp))
      have hpD6 := hs6 _ (hs34 _ (hs3 _ hpD))
      have hsok := smpD_ok smp
      (try dsimp only)
      k_steps
      unfold Stop
      k_dflt (refine' made_con _ _ _ _ _ _ _ _ _ _ _ _ _ _ _ _ _ _ _ _ _ _ _ _ _ _ _ _ _ _ _ _ ?B ?F ?X ?T ?hk ?N ?hp ?hst ?hs ?kn ?md ?m1 ?m2 ?pd ?ps ?hh ?d1 ?u1 ?_ ?_; (case B | F | X | T => k_asm); (case hk => first | exact rfl | assumption); (case N => k_asm); (case hp | hst | hs | kn | md | m1 | m2 | pd | ps => assumption); (case hh => exact rfl); (case d1 => ktr_room); (case u1 => ktr_units))
      · intro hfo f clA pd vs k r7 h7 tk7 hpd0 F7 N7 hs7 hfr hci
        (try clear F6); (try clear N6)
        have hp7 := hs7 _ hp6
        have hpD7 := hs7 _ hpD6
        have hsmp7 := hsmp6.mono hs7
        (try dsimp only)
        k_steps
        unfold Stop
        k_dflt (refine' let_use _ _ _ _ _ _ _ _ _ _ _ _ _ _ _ _ _ _ _ _ _ _ _ _ _ _ _ _ _ _ _ _ ?ez ?B ?F ?X ?T ?hk ?N ?hs ?hd ?kn ?m1 ?m2 ?ps ?d1 ?u1 ?_; (case ez => assumption); (case B | F | X | T => k_asm); (case hk => first | exact rfl | assumption); (case N => k_asm); (case hs => assumption); (case hd => first | exact trivial | assumption); (case kn | m1 | m2 | ps => assumption); (case d1 => ktr_room); (case u1 => ktr_units); k_whole)
        intro b r8 h8 tk8 hb F8 N8 hs8
        (try clear F7); (try clear N7)
        rw [hvl] at hb
        obtain rfl : b = true := hb.mpr hfo
        have hpq := hfo.2.1
        have hfr8 := FrameAt.mono hs8 hfr
        have hci8 := CompsIn.mono hs8 hci
        have hs68 : ∀ p ∈ r6, p ∈ r8 := fun p hp => hs8 p (hs7 p hp)
        have hpic8 := hpic6.mono hs68
        have hset8 := hset6.mono hs68
        have hsmp8 := hsmp7.mono hs8
        (try dsimp only)
        k_steps
        unfold Stop
        k_dflt (refine' right_con _ _ _ _ _ _ _ _ _ _ _ _ _ _ _ _ _ _ _ _ _ _ _ _ _ _ _ _ _ _ _ _ _ _ _ _ _ _ ?B ?F ?X ?T ?hk ?N ?hf ?hc ?hp ?h0 ?hst ?hs ?kn ?md ?m1 ?m2 ?ps ?hh ?d1 ?u1 ?_; (case B | F | X | T => k_asm); (case hk => first | exact rfl | assumption); (case N => k_asm); (case hf | hc | hp | h0 | hst | hs | kn | md | m1 | m2 | ps => assumption); (case hh => exact rfl); (case d1 => ktr_room); (case u1 => ktr_units); k_whole)
        intro r9 h9 tk9 F9 N9 hs9
        (try clear F8); (try clear N8)
        have hpic9 := hpic8.mono hs9
        (try dsimp only)
        k_steps
        unfold Stop
        k_dflt (refine' shown_con _ _ _ _ _ _ _ _ _ _ _ _ _ _ _ _ _ _ _ _ _ _ _ _ _ _ ?B ?F ?X ?T ?hk ?N ?hp ?hd ?m2 ?d1 ?u1 ?_; (case B | F | X | T => k_asm); (case hk => first | exact rfl | assumption); (case N => k_asm); (case hp => assumption); (case hd => first | exact trivial | assumption); (case m2 => assumption); (case d1 => ktr_room); (case u1 => ktr_units); k_whole)
        intro D10 r10 h10 tk10 F10 N10 hs10 hD10
        (try clear F9); (try clear N9)
        have hs610 : ∀ p ∈ r6, p ∈ r10 := fun p hp => hs10 p (hs9 p (hs68 p hp))
        obtain ⟨dS, τS, hS10, hSD10⟩ := hset6.mono hs610
        have hd1 := smp_dat (hsmp6s.mono hs610)
        have hd2 := smp_dat (hsmp6.mono hs610)
        have hI10 : (I, oI) ∈ r10 := hs610 _ (hs6 _ (hs34 _ (hs3 _ (hs2 _ (.head _)))))
        (try dsimp only)
        k_steps
        · exact absurd (by assumption) bne_same
        · rename Fr _ _ _ _ => FZ
          rename News _ _ _ _ => NZ
          exact hR _ _ ⟨_, _, _, [], rfl, FZ, fun p hp => by rw [List.mem_singleton.mp hp]; exact NZ _ hI10, fun _ h => (nomatch h), fun y hy hs => (if_neg (stored_ne hs _ (.tail _ (.tail _ (.tail _ (.tail _ (.tail _ (.tail _ (.tail _ (.tail _ (.tail _ (.tail _ (.head _))))))))))))).trans ((if_neg (stored_ne hs _ (.tail _ (.tail _ (.tail _ (.tail _ (.tail _ (.tail _ (.tail _ (.tail _ (.head _))))))))))).trans ((if_neg (stored_ne hs _ (.tail _ (.tail _ (.tail _ (.tail _ (.tail _ (.tail _ (.tail _ (.tail _ (.tail _ (.head _)))))))))))).trans ((if_neg (stored_ne hs _ (.tail _ (.tail _ (.tail _ (.tail _ (.tail _ (.tail _ (.tail _ (.head _)))))))))).trans ((if_neg (stored_ne hs _ (.tail _ (.tail _ (.tail _ (.tail _ (.tail _ (.head _)))))))).trans ((if_neg (stored_ne hs _ (.tail _ (.tail _ (.tail _ (.tail _ (.tail _ (.tail _ (.head _))))))))).trans ((if_neg (stored_ne hs _ (.tail _ (.tail _ (.tail _ (.tail _ (.head _))))))).trans ((if_neg (stored_ne hs _ (.tail _ (.tail _ (.tail _ (.head _)))))).trans ((if_neg (stored_ne hs _ (.tail _ (.tail _ (.head _))))).trans ((if_neg (stored_ne hs _ (.tail _ (.head _)))).trans ((if_neg (stored_ne hs _ (.head _))).trans ((if_neg hy).trans ((if_neg hy).trans ((if_neg (by rw [hs]; decide)).trans (rfl)))))))))))))), rfl⟩
      · intro hbad e h7 tk7 g2 R Fg U
        (try clear F6); (try clear N6)
        have exn : nsIn (hd.heap_39 w.params) mainGlobals (PySem.Str.ofString "FrameError") = some (some (.ref 51)) := by k_dflt k_is
        rename Below _ _ _ _ => K9
        rename Top _ _ _ _ _ _ => T9
        refine caught_X K9 Fg U R (by assumption) (topRead_of T9) exn fun h8 oe vse F8 N8 hcls hdt h2n hne => ?_
        clear R U Fg exn
        have hhd : HandIn (some (.ref e)) ((e, oe) :: r6) := ⟨e, oe, vse, rfl, .head _, hdt, h2n⟩
        have hsmp8 : SmpIn ((e, oe) :: r6) v1 smp := hsmp6.mono fun p hp => .tail _ hp
        (try dsimp only)
        k_steps
        unfold Stop
        k_dflt (refine' let_use _ _ _ _ _ _ _ _ _ _ _ _ _ _ _ _ _ _ _ _ _ _ _ _ _ _ _ _ _ _ _ _ ?ez ?B ?F ?X ?T ?hk ?N ?hs ?hd ?kn ?m1 ?m2 ?ps ?d1 ?u1 ?_; (case ez => assumption); (case B | F | X | T => k_asm); (case hk => first | exact rfl | assumption); (case N => k_asm); (case hs => assumption); (case hd => first | exact trivial | assumption); (case kn | m1 | m2 | ps => assumption); (case d1 => ktr_room); (case u1 => ktr_units); k_whole)
        intro b r9 h9 tk9 hb F9 N9 hs9
        (try clear F8); (try clear N8)
        rw [hvl] at hb
        obtain rfl : b = false := by
          cases b with
          | false => rfl
          | true => exact absurd (hb.mp rfl) hbad
        have hpic9 := hpic6.mono fun p hp => hs9 p (.tail _ hp)
        have hhd9 := hhd.mono hs9
        (try dsimp only)
        k_steps
        unfold Stop
        k_dflt (refine' shown_con _ _ _ _ _ _ _ _ _ _ _ _ _ _ _ _ _ _ _ _ _ _ _ _ _ _ ?B ?F ?X ?T ?hk ?N ?hp ?hd ?m2 ?d1 ?u1 ?_; (case B | F | X | T => k_asm); (case hk => first | exact rfl | assumption); (case N => k_asm); (case hp => assumption); (case hd => first | exact trivial | assumption); (case m2 => assumption); (case d1 => ktr_room); (case u1 => ktr_units); k_whole)
        intro D10 r10 h10 tk10 F10 N10 hs10 hD10
        (try clear F9); (try clear N9)
        have hs610 : ∀ p ∈ r6, p ∈ r10 := fun p hp => hs10 p (hs9 p (.tail _ hp))
        obtain ⟨dS, τS, hS10, hSD10⟩ := hset6.mono hs610
        have hd1 := smp_dat (hsmp6s.mono hs610)
        have hd2 := smp_dat (hsmp6.mono hs610)
        have hI10 : (I, oI) ∈ r10 := hs610 _ (hs6 _ (hs34 _ (hs3 _ (hs2 _ (.head _)))))
        (try dsimp only)
        k_steps
        · exact absurd (by assumption) bne_same
        · rename Fr _ _ _ _ => FZ
          rename News _ _ _ _ => NZ
          exact hR _ _ ⟨_, _, _, [], rfl, FZ, fun p hp => by rw [List.mem_singleton.mp hp]; exact NZ _ hI10, fun _ h => (nomatch h), fun y hy hs => (if_neg (stored_ne hs _ (.tail _ (.tail _ (.tail _ (.tail _ (.tail _ (.tail _ (.tail _ (.tail _ (.head _))))))))))).trans ((if_neg (stored_ne hs _ (.tail _ (.tail _ (.tail _ (.tail _ (.tail _ (.tail _ (.tail _ (.tail _ (.tail _ (.head _)))))))))))).trans ((if_neg (stored_ne hs _ (.tail _ (.tail _ (.tail _ (.tail _ (.tail _ (.tail _ (.tail _ (.head _)))))))))).trans ((if_neg (stored_ne hs _ (.tail _ (.tail _ (.tail _ (.tail _ (.tail _ (.head _)))))))).trans ((if_neg (stored_ne hs _ (.tail _ (.tail _ (.tail _ (.tail _ (.tail _ (.tail _ (.head _))))))))).trans ((if_neg (stored_ne hs _ (.tail _ (.tail _ (.tail _ (.tail _ (.head _))))))).trans ((if_neg (stored_ne hs _ (.tail _ (.tail _ (.tail _ (.head _)))))).trans ((if_neg (stored_ne hs _ (.tail _ (.tail _ (.head _))))).trans ((if_neg (stored_ne hs _ (.tail _ (.head _)))).trans ((if_neg (stored_ne hs _ (.head _))).trans ((if_neg hy).trans ((if_neg hy).trans ((if_neg (by rw [hs]; decide)).trans (rfl))))))))))))), rfl⟩
  case done =>
    intro u h tk nx hJ F N
    subst hJ
    clear FV NV hr kpV
    (try dsimp only)
    k_steps
    all_goals trace_state
  )
end
end
end
end
end
end Mine
theorem PySem.Challenge.cw_ok0143_01_holds : PySem.Challenge.rw_ok0143_01.Holds := by
  exact Mine.law_t
