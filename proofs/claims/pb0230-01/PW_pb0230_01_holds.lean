import PyProof.Rows.All
import Wide.All
import OpenK.AllK
import Wide.FinOn
import PySem.Challenge.RW_pb0230_01
section
open PySem PySem.W PyProof.Rows
set_option Elab.async false
set_option maxRecDepth 100000
set_option maxHeartbeats 20000000
namespace Mine
section
variable {tb : String → Option Builtin} {p : Program} {w : World} {n₀ : Nat} {ann : Option Value} {env : Env} {q : Pos}
theorem seg_end {n N : Nat} {s s' r : Shared} {l : List Stmt} {c c' : Code} {pos p' : Pos} (h : segRun tb p w n₀ ann 1 n s (piecesOf l env c pos [topFrame q]) = some (.next, s', c', p'))
    (k : topRun tb p w n₀ ann N s' ⟨doneF .next, c', p', [topFrame q]⟩ = some r) : topRun tb p w n₀ ann (n + N) s (restOf l env c pos [topFrame q]) = some r := by
  obtain ⟨a, ha, hN⟩ := seg_top (res := id) (K' := doneF) (H' := leaveH env) (B := [topFrame q]) rfl n s (piecesOf l env c pos [topFrame q]) (restOf l env c pos [topFrame q]) _ _ _ _ ⟨rfl, rfl, .inl ⟨rfl, rfl, _, rfl, rfl⟩⟩ h
  obtain rfl : a = .next := ha
  exact hN N r k
theorem fin_end (s : Shared) (c : Code) (pos : Pos) : topRun treeTable p w n₀ ann 2 s ⟨doneF .next, c, pos, [topFrame q]⟩ = some s := by
  obtain ⟨h, g, d, k, os⟩ := s
  kernel_rfl
end
/-- the head by one run over a tree, from the boot on -/
theorem left_of_tree {p v : Program} {loose : List Str} {Xt : Shared → Bool} {α : Type} {Yf : Shared → α} {Ya : World → α} {N : Nat} {g0 : Bool} {m₀ n0 n1 nR nb ka kb : Nat} {ann : Option Value} {Ha : Params → Heap} {Tb : Params → BT}
    {env : Env} {pos0 pos1 q : Pos}
    (hop : opening p = plainProg p.main.scope.names) (hN : Nat.ble 600 N = true) (hf : ∀ s, fenceModules? p s = some s)
    (size : ∀ w : World, ((boot_heap w.params).isNs mainGlobals && (#[] : Array GenState).size == 0, (boot_heap w.params).objs.size, (boot_heap w.params).nsMap mainGlobals "__annotations__") = (true, m₀, ann))
    (pre : ∀ (w : World) (os : OsState), topGo treeTable p w m₀ ann n0 ⟨boot_heap w.params, #[], boot_drawn, boot_toks, os⟩ (topStub p) = some (⟨Ha w.params, #[], {}, ka, os⟩, ⟨denote treeTable (.body (behindTheImports p) env), .body (behindTheImports p) env, pos0, [topFrame q]⟩))
    (block : ∀ (w : World) (os : OsState), segRun treeTable p w m₀ ann 1 n1 ⟨Ha w.params, #[], {}, ka, os⟩ (blockOf (behindTheImports p) env (.body (behindTheImports p) env) pos0 [topFrame q]) = some (.next, SharedT.abs ⟨Tb w.params, nb, {}, #[], {}, kb, os⟩, .body (behindTheImports p) env, pos1))
    (le : Nat.ble (n0 + (n1 + (nR + 2))) N = true)
    (run : ∀ (w : World) (os : OsState), (segRunT treeTable p w m₀ ann 1 nR ⟨Tb w.params, nb, {}, #[], {}, kb, os⟩ (piecesOf (behindTheImports p) env (.body (behindTheImports p) env) pos1 [topFrame q])).map (fun r => (r.1,
      (staticsOk (importedModules p.main.body) (boot_heap w.params) r.2.1.abs.heap && namesBound p r.2.1.abs.heap && gensDone r.2.1.abs && laidKept (boot_heap w.params) r.2.1.abs.heap),
      openSeen v loose (importedModules p.main.body) Xt g0 r.2.1.abs, Yf r.2.1.abs)) = some (.next, true, openGood v loose, Ya w)) : LeftO p v loose Xt Yf Ya N g0 := fun w => by
  obtain ⟨⟨h, gs, d, k, os⟩, e, e'⟩ := Option.map_eq_some_iff.mp (boot_open hop hN hf w)
  obtain ⟨rfl, rfl, rfl, rfl⟩ : h = boot_heap w.params ∧ gs = #[] ∧ d = boot_drawn ∧ k = boot_toks := by simpa using e'
  obtain ⟨z1, z2, z3⟩ : _ ∧ _ ∧ _ := by simpa only [Prod.mk.injEq] using size w
  obtain ⟨⟨f, sT, c', p'⟩, hr, hG⟩ := Option.map_eq_some_iff.mp (run w os)
  obtain ⟨hf1, l1, l2, l3⟩ : _ ∧ _ ∧ _ ∧ _ := by simpa only [Prod.mk.injEq] using hG
  subst hf1
  have r := go_top (pre w os) (piece_block (block w os) (seg_end (segRun_of hr) (fin_end _ _ _)))
  have r := topRun_mono (N - (n0 + (n1 + (nR + 2)))) _ _ _ _ r
  rw [show n0 + (n1 + (nR + 2)) + (N - (n0 + (n1 + (nR + 2)))) = N by have := Nat.le_of_ble_eq_true le; omega] at r
  have t : topFrom treeTable p w N ⟨boot_heap w.params, #[], boot_drawn, boot_toks, os⟩ = some sT.abs := by
    unfold topFrom
    dsimp only
    rw [z1, z2, z3, r]
    show (match staticsOk (importedModules p.main.body) (boot_heap w.params) sT.abs.heap && namesBound p sT.abs.heap && gensDone sT.abs && laidKept (boot_heap w.params) sT.abs.heap with | true => some sT.abs | false => none) = _
    rw [l1]
  unfold openEnds
  rw [e]
  show (topFrom treeTable p w N _).map _ = _
  rw [t]
  exact congrArg some (Prod.ext l2 l3)
-- what stands behind the top's first steps
def hdEnv : Env := { scope := PySem.Challenge.rw_pb0230_01.row.toRowW.1.main.scope, locals := mainNs, globals := mainNs, cells := [], code := .ref 13, frame := some 14 }
def hdO1 : Obj := { cls := .type "tuple", data := .seq #[] }
def hdO2 : Obj := { cls := .none, data := .fields #[] }
def hdO3 : Obj := { cls := .type "code", data := .fields #[.str (Str.ofString "<module>") 182, .str (Str.ofString "<module>") 183, .str (Str.ofString "/claim/cut.py") 184, .int 1 0, .int 0 0, .int 0 0, .int 0 0, .int 0 0, .ref 11, .bool false, .int 181 0, .ref 12, .none, .none, .none, .none, .int 185 0, .int 1 0, .str (Str.ofString "/claim/cut.py") 186] }
def hdO4 : Obj := { cls := .type "frame", slots := #[some (.ref 13), some (.ref 3), some (.ref 3), none, some (.str (Str.ofString "__main__") 164), none, some (.ref 0)] }
noncomputable def hdHeap (P : Params) : Heap := { objs := #[boot_o_0 P, boot_o_1 P, boot_o_2 P, boot_o_3 P, boot_o_4 P, boot_o_5 P, boot_o_6 P, boot_o_7 P, boot_o_8 P, boot_o_9 P, boot_o_10 P, hdO1, hdO2, hdO3, hdO4] }
noncomputable def hdTree (P : Params) : BT :=
  .node (boot_o_0 P) (.node (boot_o_1 P) (.node (boot_o_3 P) (.node (boot_o_7 P) .nil .nil) (.node hdO1 .nil .nil)) (.node (boot_o_5 P) (.node (boot_o_9 P) .nil .nil) (.node hdO3 .nil .nil)))
    (.node (boot_o_2 P) (.node (boot_o_4 P) (.node (boot_o_8 P) .nil .nil) (.node hdO2 .nil .nil)) (.node (boot_o_6 P) (.node (boot_o_10 P) .nil .nil) (.node hdO4 .nil .nil)))
theorem aside {L C P : Prop} (h : P) (hl : L) (hc : C) : P := h
noncomputable def hd : {T : Prop // T → PySem.Challenge.rw_pb0230_01.Holds} := by
  apply Subtype.mk
  case property =>
    intro walk
    w_on; o_law
    apply aside
    case h =>
      k_head
      w_witness2
    case hc => exact walk
    case hl =>
      exact left_of_tree (m₀ := 11) (ann := some (.ref 6)) (n0 := 12) (n1 := 1) (nR := 1423) (ka := 187) (kb := 187) (nb := 15) (Ha := hdHeap) (Tb := hdTree) (env := hdEnv) (pos0 := ⟨0, 0, 0, 0⟩) (pos1 := ⟨0, 0, 0, 0⟩) (q := ⟨0, 0, 0, 0⟩)
        (by kernel_rfl) (by kernel_rfl) (fun _ => by kernel_rfl) (fun w => by kernel_rfl) (fun w os => by kernel_rfl) (fun w os => by kernel_rfl) (by kernel_rfl) (fun w os => by rw [PySem.W.Fast.te10110043849684766642, PySem.W.Fast.te14364793385576792824]; kernel_rfl)
end Mine
namespace Mine
theorem top_off : True := by
  w_top off
  exact trivial
end Mine
end
section
open PySem PySem.W PySem.Calls PyProof.Rows
set_option Elab.async false
set_option maxRecDepth 100000
namespace Mine





/-- the ground under a call -/
structure Gd (w : World) (mean : ExcName → Option Value) (mg mb : Str → Option Value) (h₀ : Heap) : Prop where
  X : (Mine.hd.heap_39 w.params).In h₀
  T : Top Mine.hd.view_39 (looseW Mine.hd.view_39 [Str.ofString "LedgerError"]) mean mg mb h₀

theorem Gd.keeps {w : World} {mean : ExcName → Option Value} {mg mb : Str → Option Value} {h₀ h : Heap} (G : Gd w mean mg mb h₀) (k : ∀ b o, h₀.get? b = some o → h.get? b = some o) : Gd w mean mg mb h :=
  ⟨G.X.keeps k, G.T.keeps k⟩

section
variable {w : World} {A : Around} {s : Shared} {mean : ExcName → Option Value} {mg mb : Str → Option Value} {h₀ : Heap}
theorem enterW {R : Result → Shared → Prop} {name qual : Str} {params : Arguments} {body : List Stmt} {scope : Scope} {dV kV doc pm cdv ct oc : Value} {an od : Option Addr} {osl : Array (Option Value)} {f : Addr} {args : Args} {binds : List (Str × Value)}
    (news : List (Addr × Obj)) (G : Gd w mean mg mb h₀) (st : ∀ b o, h₀.get? b = some o → s.heap.get? b = some o) (hN : ∀ p ∈ news, s.heap.get? p.1 = some p.2 ∧ h₀.get? p.1 = none)
    (ho : (Mine.hd.heap_39 w.params).lookup f = some ⟨oc, od, .func (fnOf name qual params body scope dV kV doc pm an cdv ct), osl⟩) (hcd : codeIn (Mine.hd.heap_39 w.params) cdv qual = true) (hroom : A.depth < recursionLimit)
    (hbind : BindsTo s (fnOf name qual params body scope dV kV doc pm an cdv ct) args binds) (hloc : ∀ y ∈ binds, scope.names.lookup y.1 = some .local)
    (h : ∀ g L' h₁, (∀ b o, s.heap.get? b = some o → b ∉ news.map (·.1) → g.get? b = some o) → (∀ b o, g.get? b = some o → s.heap.get? b = some o) → Fr g L' h₁ (fun y => binds.reverse.lookup y) → News g L' h₁ news → (∀ b o, h₀.get? b = some o → g.get? b = some o) → (Mine.hd.heap_39 w.params).In g → Top Mine.hd.view_39 (looseW Mine.hd.view_39 [Str.ofString "LedgerError"]) mean mg mb g →
      wpAny (model PySem.Challenge.pw_pb0230_01 w) (A.deeper (envOf qual scope L' f cdv)) (execs body (envOf qual scope L' f cdv))
        (fun fl s' => R (.ok (.ret (match fl with | .ret v => v | _ => .none))) s') (fun _ _ => False) { s with heap := h₁, toks := s.toks + binds.length })
    (hco : scope.isCoroutine = false) (hgen : scope.isGenerator = false) (hk : scope.kind = .function)
    (hcell : ∀ x ∈ scope.names, x.2 ≠ .cell) : codeAny (model PySem.Challenge.pw_pb0230_01 w) A (.call (.ref f) args) R s := by
  have nm : ∀ b o, h₀.get? b = some o → b ∉ news.map (·.1) := fun b o e q => by
    obtain ⟨p, hp, rfl⟩ := List.mem_map.mp q
    rw [(hN p hp).2] at e; cases e
  have sg : ∀ b o, s.heap.get? b = some o → b ∉ news.map (·.1) → (hideAll s.heap (news.map (·.1))).get? b = some o := fun b o e n => hideAll_get _ e n
  have hg : ∀ b o, h₀.get? b = some o → (hideAll s.heap (news.map (·.1))).get? b = some o := fun b o e => sg b o (st b o e) (nm b o e)
  have hlim : s.heap.NoLimit := G.T.nolimit.keeps st
  refine codeAny_call_def (fd := fnOf name qual params body scope dV kV doc pm an cdv ct) (body := body) (binds := binds) hroom ((G.X.keeps st) _ _ ho) rfl hlim (codeRec_of (G.X.keeps st) hcd) rfl hbind hcell hloc (fun h₁ hns hk₁ => ?_) hco hgen hk
  refine wpAny_mono (h _ s.heap.objs.size h₁ sg (fun b o e => of_hideAll _ e) ⟨hns, fun b o e => hk₁ b o (of_hideAll _ e), Nat.le_of_eq (hideAll_size _ _)⟩
    (fun p hp => ⟨hk₁ _ _ (hN p hp).1, Nat.ne_of_lt (Heap.lt_size (hN p hp).1), hideAll_none _ (List.mem_map_of_mem hp)⟩) hg (G.X.keeps hg) (G.T.keeps hg)) (fun _ _ x => x) fun _ _ y => y.elim
end

/-- the caller's side: what a call that kept all else leaves of frame and ledger -/
theorem fr_keeps {h₀ h h' : Heap} {L : Addr} {m : Str → Option Value} (F : Fr h₀ L h m) (k : ∀ b o, h.get? b = some o → h'.get? b = some o) : Fr h₀ L h' m :=
  ⟨F.ns.keeps k, fun b o e => k _ _ (F.keep b o e), F.above⟩
theorem news_keeps {h₀ h h' : Heap} {L : Addr} {news : List (Addr × Obj)} (N : News h₀ L h news) (k : ∀ b o, h.get? b = some o → h'.get? b = some o) : News h₀ L h' news :=
  fun p hp => ⟨k _ _ (N p hp).1, (N p hp).2⟩
theorem dpt {A : Around} {env : Env} {n k : Nat} (h : A.depth + n < 1000) (hk : k + 2 ≤ n := by decide) : (A.deeper env).depth + k < 1000 := by
  simp only [depth_deeper]; omega
theorem unt {A : Around} {env : Env} {n k : Nat} (h : A.units + n < 9900) (hk : k + 20 ≤ n := by decide) : (A.deeper env).units + k < 9900 := by
  simp only [units_deeper]; omega
/-- a place where the walk shall stand -/
def Stop (p : Prop) : Prop := p
theorem Stop.mk {p : Prop} (h : Stop p) : p := h
theorem keep0 {s : Shared} {g h' : Heap} {L : Addr} {m : Str → Option Value} (hsg : ∀ b o, s.heap.get? b = some o → b ∉ ([] : List (Addr × Obj)).map (·.1) → g.get? b = some o) (F : Fr g L h' m) : ∀ b o, s.heap.get? b = some o → h'.get? b = some o :=
  fun b o e => F.keep b o (hsg b o e (by simp))
theorem none_of_size {h : Heap} {a : Addr} (ha : h.objs.size ≤ a) : h.get? a = none := by
  cases q : h.get? a with
  | none => rfl
  | some o => exact absurd (Heap.lt_size q) (Nat.not_lt.mpr ha)
theorem none_before {h h' : Heap} (k : ∀ b o, h.get? b = some o → h'.get? b = some o) {a : Addr} (ha : h'.get? a = none) : h.get? a = none := by
  cases q : h.get? a with
  | none => rfl
  | some o => rw [k a o q] at ha; cases ha
theorem ne_of_none {h : Heap} {a b : Addr} {o : Obj} (ha : h.get? a = none) (hb : h.get? b = some o) : @Ne Nat a b := by
  rintro rfl; rw [hb] at ha; cases ha
/-- frame and ledger behind a call that turned only the objects W -/
theorem fr_keepsW {h₀ h h' : Heap} {L : Addr} {m : Str → Option Value} {W : List Addr} (F : Fr h₀ L h m) (hW : ∀ b ∈ W, b ≠ L ∧ h₀.get? b = none) (k : ∀ b o, h.get? b = some o → b ∉ W → h'.get? b = some o) : Fr h₀ L h' m := by
  obtain ⟨oL, a1, a2, hL, a3⟩ := F.ns
  exact ⟨⟨oL, a1, a2, k _ _ hL (fun q => (hW _ q).1 rfl), a3⟩, fun b o e => k b o (F.keep b o e) (fun q => by rw [(hW _ q).2] at e; cases e), F.above⟩
end Mine
end
section
open PySem PySem.W PySem.Calls PyProof.Rows
set_option Elab.async false
set_option maxRecDepth 100000
namespace Mine
def cutL (l : List UInt8) (a b : Nat) : List UInt8 := (l.drop a).take (b - a)
theorem cutL_length_le (l : List UInt8) (a b : Nat) : (cutL l a b).length ≤ l.length := by
  unfold cutL; rw [List.length_take, List.length_drop]; omega
theorem picked_cut {l : List UInt8} {lo hi : Int} (h0 : 0 ≤ lo) (h1 : 0 ≤ hi) : KBy.picked l.toArray (some lo) (some hi) = (cutL l lo.toNat hi.toNat).toArray := by
  rw [KBc.picked_eq]
  obtain ⟨a, rfl⟩ := Int.eq_ofNat_of_zero_le h0
  obtain ⟨b, rfl⟩ := Int.eq_ofNat_of_zero_le h1
  simp only [Option.elim, clipAt_nat, List.size_toArray, Int.toNat_natCast]
  unfold cutL
  congr 1
  show List.take (min b l.length - min a l.length) (List.drop (min a l.length) l) = _
  by_cases ha : a ≤ l.length
  · rw [Nat.min_eq_left ha]
    by_cases hb : b ≤ l.length
    · rw [Nat.min_eq_left hb]
    · rw [Nat.min_eq_right (by omega), List.take_of_length_le (by simp), List.take_of_length_le (by simp; omega)]
  · rw [Nat.min_eq_right (a := a) (by omega), List.drop_eq_nil_of_le (by omega), List.drop_eq_nil_of_le (by omega)]; simp
theorem picked_to {l : List UInt8} {hi : Int} (h1 : 0 ≤ hi) : KBy.picked l.toArray none (some hi) = (l.take hi.toNat).toArray := by
  rw [KBc.picked_eq]
  obtain ⟨b, rfl⟩ := Int.eq_ofNat_of_zero_le h1
  simp only [Option.elim, clipAt_nat, List.size_toArray, Int.toNat_natCast, List.drop_zero, Nat.sub_zero]
  congr 1
  show List.take (min b l.length) l = _
  by_cases hb : b ≤ l.length
  · rw [Nat.min_eq_left hb]
  · rw [Nat.min_eq_right (by omega), List.take_of_length_le (by simp), List.take_of_length_le (by omega)]
theorem picked_from {l : List UInt8} {lo : Int} (h0 : 0 ≤ lo) : KBy.picked l.toArray (some lo) none = (l.drop lo.toNat).toArray := by
  rw [KBc.picked_eq]
  obtain ⟨a, rfl⟩ := Int.eq_ofNat_of_zero_le h0
  simp only [Option.elim, clipAt_nat, List.size_toArray, Int.toNat_natCast]
  congr 1
  show List.take (l.length - min a l.length) (List.drop (min a l.length) l) = _
  by_cases ha : a ≤ l.length
  · rw [Nat.min_eq_left ha, List.take_of_length_le (by simp)]
  · rw [Nat.min_eq_right (by omega), List.drop_eq_nil_of_le (by omega), List.drop_eq_nil_of_le (by omega)]; simp

section
variable {w : World} {A : Around} {E : Value → Shared → Prop} {s : Shared} {value slice : PySem.Expr} {l : List UInt8} {t : Tok} {h₀ : Heap} {L : Addr} {m : PySem.Str → Option Value} {news : List (Addr × Obj)} {lo hi : Int} {tl th : Tok} {Q : Value → Shared → Prop}
theorem slice_B (hF : Fr h₀ L s.heap m) (hN : News h₀ L s.heap news) (hz : l.length ≤ 16777216) (h0 : 0 ≤ lo) (h1 : 0 ≤ hi)
    (h : ∀ h' t' k, Fr h₀ L h' m → News h₀ L h' news → Q (.bytes (cutL l lo.toNat hi.toNat).toArray t') { s with heap := h', toks := k })
    (hs : subscripted slice false (.bytes l.toArray t) (.ref s.heap.objs.size) = operate [.ref s.heap.objs.size, .bytes l.toArray t] (getItem (.bytes l.toArray t) (.ref s.heap.objs.size)) := by with_unfolding_all rfl)
    (ht : ∀ r, letTemporaryGo value (.bytes l.toArray t) r = pure () := by intro _; with_unfolding_all rfl) :
    wpAny (model PySem.Challenge.pw_pb0230_01 w) A (subscriptTail value slice (.bytes l.toArray t) (.ref s.heap.objs.size)) Q E { s with heap := s.heap.push { cls := .type "slice", data := .fields #[.int lo tl, .int hi th, .none] } } :=
  KBc.slice_K hF hN (ks := KBw.bInts l.toArray) rfl (.int lo tl) (.int hi th) (by rw [KBw.ints_length, List.size_toArray]; exact hz)
    (fun h' t' k F N _ => by rw [picked_cut h0 h1]; exact h h' t' k F N) hs ht
theorem sliceTo_B (hF : Fr h₀ L s.heap m) (hN : News h₀ L s.heap news) (hz : l.length ≤ 16777216) (h1 : 0 ≤ hi)
    (h : ∀ h' t' k, Fr h₀ L h' m → News h₀ L h' news → Q (.bytes (l.take hi.toNat).toArray t') { s with heap := h', toks := k })
    (hs : subscripted slice false (.bytes l.toArray t) (.ref s.heap.objs.size) = operate [.ref s.heap.objs.size, .bytes l.toArray t] (getItem (.bytes l.toArray t) (.ref s.heap.objs.size)) := by with_unfolding_all rfl)
    (ht : ∀ r, letTemporaryGo value (.bytes l.toArray t) r = pure () := by intro _; with_unfolding_all rfl) :
    wpAny (model PySem.Challenge.pw_pb0230_01 w) A (subscriptTail value slice (.bytes l.toArray t) (.ref s.heap.objs.size)) Q E { s with heap := s.heap.push { cls := .type "slice", data := .fields #[.none, .int hi th, .none] } } :=
  KBc.slice_K hF hN (ks := KBw.bInts l.toArray) rfl .none (.int hi th) (by rw [KBw.ints_length, List.size_toArray]; exact hz)
    (fun h' t' k F N _ => by rw [picked_to h1]; exact h h' t' k F N) hs ht
theorem sliceFrom_B (hF : Fr h₀ L s.heap m) (hN : News h₀ L s.heap news) (hz : l.length ≤ 16777216) (h0 : 0 ≤ lo)
    (h : ∀ h' t' k, Fr h₀ L h' m → News h₀ L h' news → Q (.bytes (l.drop lo.toNat).toArray t') { s with heap := h', toks := k })
    (hs : subscripted slice false (.bytes l.toArray t) (.ref s.heap.objs.size) = operate [.ref s.heap.objs.size, .bytes l.toArray t] (getItem (.bytes l.toArray t) (.ref s.heap.objs.size)) := by with_unfolding_all rfl)
    (ht : ∀ r, letTemporaryGo value (.bytes l.toArray t) r = pure () := by intro _; with_unfolding_all rfl) :
    wpAny (model PySem.Challenge.pw_pb0230_01 w) A (subscriptTail value slice (.bytes l.toArray t) (.ref s.heap.objs.size)) Q E { s with heap := s.heap.push { cls := .type "slice", data := .fields #[.int lo tl, .none, .none] } } :=
  KBc.slice_K hF hN (ks := KBw.bInts l.toArray) rfl (.int lo tl) .none (by rw [KBw.ints_length, List.size_toArray]; exact hz)
    (fun h' t' k F N _ => by rw [picked_from h0]; exact h h' t' k F N) hs ht
end
end Mine
end
section
open PySem PySem.W PySem.Calls PyProof.Rows
set_option Elab.async false
set_option maxRecDepth 100000
namespace Mine
section
variable {prog : Program} {w : World} {A : Around} {E : Value → Shared → Prop} {s : Shared} {env : Env} {h₀ : Heap} {x : Str} {body : List Stmt} {Q : Flow → Shared → Prop}
def TurnPost (h₀ : Heap) (L : Addr) (P : (Str → Option Value) → Prop) (nn : List (Addr × Obj)) (s : Shared) (Q : Flow → Shared → Prop) (f : Flow) (s₂ : Shared) : Prop :=
  match f with
  | .ret v => Q (.ret v) s₂
  | .brk => Q .next s₂
  | _ => ∃ h' tk m', s₂ = { s with heap := h', toks := tk } ∧ Fr h₀ L h' m' ∧ News h₀ L h' nn ∧ P m'
theorem rangeLoop {r : Addr} {a₀ b₀ : Int} {t₀ u₀ v₀ : Tok} {n : Nat} {m₀ : Str → Option Value} {news : List (Addr × Obj)} (P : Nat → (Str → Option Value) → Prop)
    (hh : A.handled = none) (hr : IsRange s.heap r a₀ b₀ 1 t₀ u₀ v₀) (ha : -1000000 ≤ a₀) (ha' : a₀ ≤ 1000000) (hb : -1000000 ≤ b₀) (hb' : b₀ ≤ 1000000) (hn : (b₀ - a₀).toNat = n) (F : Fr h₀ env.locals s.heap m₀) (N : News h₀ env.locals s.heap news) (h0 : P 0 m₀)
    (turn : ∀ (i : Nat) t m₁ h tk own, i < n → P i m₁ → Fr h₀ env.locals h (fun y => if y = x then some (.int (a₀ + (i : Int)) t) else m₁ y) → News h₀ env.locals h (news ++ own) →
      wpAny (model prog w) A (execs body env) (TurnPost h₀ env.locals (P (i + 1)) (news ++ own) s Q) E { s with heap := h, toks := tk })
    (done : ∀ m₁ h tk, P n m₁ → Fr h₀ env.locals h m₁ → News h₀ env.locals h news → Q .next { s with heap := h, toks := tk }) :
    wpAny (model prog w) A (pyIter (.ref r)) (fun it s₂ => LoopAtV prog w A h₀ env x body Q E it s₂) E s := by
  refine kpr_invN (n := n) (fun i m nx => nx = news ∧ P i m) hh hr (small_one (by omega) (by omega) (by omega) (by omega)) (by rw [rangeSize_nat, hn]) F N ⟨rfl, h0⟩ ?_ ?_
  · rintro i k t m₁ nx h tk own hk hoff ⟨rfl, hP⟩ F₁ N₁
    have hi : i < n := by
      have := (List.getElem?_eq_some_iff.mp hk).1
      rwa [rangeKs_length] at this
    have e : k = a₀ + (i : Int) := by
      simp [rangeKs, hi] at hk; exact hk.symm
    subst e
    refine wpAny_mono (turn i t m₁ h tk own hi hP F₁ N₁) (fun f s₂ q => ?_) fun _ _ e => e
    have fin : (∃ h' tk m', s₂ = { s with heap := h', toks := tk } ∧ Fr h₀ env.locals h' m' ∧ News h₀ env.locals h' (nx ++ own) ∧ P (i + 1) m') →
        InvEndN h₀ env.locals (fun m nx_1 => nx_1 = nx ∧ P (i + 1) m) own (nx.map (·.1)) { s with heap := h, toks := tk } s₂ := by
      rintro ⟨h', tk', m', rfl, F', N', hP'⟩
      exact ⟨h', tk', m', nx ++ own, nx, rfl, F', N', fun p hp => List.mem_append.mpr (.inl hp), fun p hp => List.mem_append.mpr (.inr hp), rfl, rfl, hP'⟩
    cases f with
    | ret v => exact q
    | brk => exact q
    | next => exact fin q
    | cont => exact fin q
  · rintro m₁ nx h tk ⟨rfl, hP⟩ F₁ N₁
    rw [rangeKs_length] at hP
    exact done m₁ h tk hP F₁ N₁
/-- a loop over a range that stores nothing but its own name -/
theorem rangeLoop0 {r : Addr} {a₀ b₀ : Int} {t₀ u₀ v₀ : Tok} {n : Nat} {m₀ : Str → Option Value} {news : List (Addr × Obj)} (P : Nat → Prop)
    (hh : A.handled = none) (hr : IsRange s.heap r a₀ b₀ 1 t₀ u₀ v₀) (ha : -1000000 ≤ a₀) (ha' : a₀ ≤ 1000000) (hb : -1000000 ≤ b₀) (hb' : b₀ ≤ 1000000) (hn : (b₀ - a₀).toNat = n) (F : Fr h₀ env.locals s.heap m₀) (N : News h₀ env.locals s.heap news) (h0 : P 0)
    (turn : ∀ (i : Nat) t h tk own, i < n → P i → Fr h₀ env.locals h (fun y => if y = x then some (.int (a₀ + (i : Int)) t) else m₀ y) → News h₀ env.locals h (news ++ own) →
      wpAny (model prog w) A (execs body env) (TurnPost h₀ env.locals (fun m => (∀ y, y ≠ x → m y = m₀ y) ∧ P (i + 1)) (news ++ own) s Q) E { s with heap := h, toks := tk })
    (done : ∀ u h tk, P n → Fr h₀ env.locals h (fun y => if y = x then u else m₀ y) → News h₀ env.locals h news → Q .next { s with heap := h, toks := tk }) :
    wpAny (model prog w) A (pyIter (.ref r)) (fun it s₂ => LoopAtV prog w A h₀ env x body Q E it s₂) E s := by
  have ext : ∀ (v : Option Value) (m : Str → Option Value), (∀ y, y ≠ x → m y = m₀ y) → (fun y => if y = x then v else m y) = fun y => if y = x then v else m₀ y := fun v m hm => by
    funext y
    by_cases hy : y = x
    · simp [hy]
    · simp [hy, hm y hy]
  refine rangeLoop (n := n) (fun i m => (∀ y, y ≠ x → m y = m₀ y) ∧ P i) hh hr ha ha' hb hb' hn F N ⟨fun _ _ => rfl, h0⟩ ?_ ?_
  · rintro i t m₁ h tk own hi ⟨hm, hP⟩ F₁ N₁
    rw [ext _ _ hm] at F₁
    exact turn i t h tk own hi hP F₁ N₁
  · rintro m₁ h tk ⟨hm, hP⟩ F₁ N₁
    refine done (m₁ x) h tk hP ?_ N₁
    have : (fun y => if y = x then m₁ x else m₀ y) = m₁ := by
      funext y
      by_cases hy : y = x
      · simp [hy]
      · simp [hy, hm y hy]
    rw [this]; exact F₁
end
/-- the first place where x lies in o -/
def lies (o x : List UInt8) (i : Nat) : Bool := cutL o i (i + x.length) == x
def firstL (o x : List UInt8) : Option Nat := (List.range o.length).find? (lies o x)
def firstI (o x : List UInt8) : Int := match firstL o x with | some i => i | none => -1
theorem firstI_some {o x : List UInt8} {i : Nat} (hi : i < o.length) (h : lies o x i = true) (hj : ∀ j, j < i → lies o x j = false) : firstI o x = i := by
  have : firstL o x = some i := by
    unfold firstL
    rw [List.find?_range_eq_some]
    exact ⟨h, List.mem_range.mpr hi, fun j hj' => by simp [hj j hj']⟩
  unfold firstI; rw [this]
theorem firstI_none {o x : List UInt8} (hj : ∀ j, j < o.length → lies o x j = false) : firstI o x = -1 := by
  have : firstL o x = none := by
    unfold firstL
    rw [List.find?_eq_none]
    intro i hi; simp [hj i (List.mem_range.mp hi)]
  unfold firstI; rw [this]
end Mine
end
section
open PySem PySem.W PySem.Calls PyProof.Rows
set_option Elab.async false
set_option maxRecDepth 100000
namespace Mine
inductive Kd where
  | all | lead | chars
deriving DecidableEq
@[reducible] def Kd.s : Kd → Str
  | .all => Str.ofString "ALL"
  | .lead => Str.ofString "LEADING"
  | .chars => Str.ofString "CHARACTERS"
/-- a seeker's state -/
structure Sk where
  kd : Kd
  want : List UInt8
  b : Nat
  e : Nat
  lead : Option Nat
@[reducible] def wantV (kd : Kd) (want : List UInt8) (t : Tok) : Value := match kd with
  | .chars => .none
  | _ => .bytes want.toArray t
@[reducible] def leadV (l : Option Nat) (t : Tok) : Value := match l with
  | none => .none
  | some k => .int (k : Int) t
def Sk.width (σ : Sk) : Nat := if σ.kd = .chars then 1 else σ.want.length
noncomputable abbrev skDict (P : Params) (t : Nat → Tok) (σ : Sk) : Obj :=
  dictOf [⟨PyData.keyHash P (Str.ofString "kind"), .str (Str.ofString "kind") (t 0), .str σ.kd.s (t 6)⟩,
    ⟨PyData.keyHash P (Str.ofString "wanted"), .str (Str.ofString "wanted") (t 1), wantV σ.kd σ.want (t 7)⟩,
    ⟨PyData.keyHash P (Str.ofString "begin"), .str (Str.ofString "begin") (t 2), .int (σ.b : Int) (t 8)⟩,
    ⟨PyData.keyHash P (Str.ofString "end"), .str (Str.ofString "end") (t 3), .int (σ.e : Int) (t 9)⟩,
    ⟨PyData.keyHash P (Str.ofString "lead"), .str (Str.ofString "lead") (t 4), leadV σ.lead (t 10)⟩,
    ⟨PyData.keyHash P (Str.ofString "is_done"), .str (Str.ofString "is_done") (t 5), .bool false⟩] 6
noncomputable abbrev skObjs (P : Params) (x dx : Addr) (t : Nat → Tok) (σ : Sk) : List (Addr × Obj) := [(x, instObj 135 dx), (dx, skDict P t σ)]
/-- nothing that stood was turned -/
theorem keep2 {s : Shared} {g h' h₀ : Heap} {L : Addr} {m : Str → Option Value} {news : List (Addr × Obj)} (hN : ∀ p ∈ news, s.heap.get? p.1 = some p.2 ∧ h₀.get? p.1 = none)
    (hsg : ∀ b o, s.heap.get? b = some o → b ∉ news.map (·.1) → g.get? b = some o) (F : Fr g L h' m) (N : News g L h' news) : ∀ b o, s.heap.get? b = some o → h'.get? b = some o :=
  fun b o e => by
    by_cases hb : b ∈ news.map (·.1)
    · obtain ⟨p, hp, rfl⟩ := List.mem_map.mp hb
      have := (hN p hp).1
      rw [this] at e; cases e
      exact (N p hp).1
    · exact F.keep b o (hsg b o e hb)
end Mine
namespace Mine
def Sk.reach (σ : Sk) (at_ : Nat) : Sk := if σ.lead = none ∧ σ.b ≤ at_ ∧ at_ < σ.e then { σ with lead := some at_ } else σ
def Sk.fit (σ : Sk) (o : List UInt8) (at_ : Nat) : Bool :=
  if at_ < σ.b ∨ σ.e < at_ + σ.width then false
  else if σ.kd = .chars then true
  else if σ.kd = .lead ∧ σ.lead ≠ some at_ then false
  else lies o σ.want at_
def Sk.took (σ : Sk) (at_ : Nat) : Sk := { σ with lead := some (at_ + σ.width) }
/-- one object was turned -/
theorem keepBut {s : Shared} {g h' h₀ : Heap} {L d : Addr} {m : Str → Option Value} {news news' : List (Addr × Obj)} (hN : ∀ p ∈ news, s.heap.get? p.1 = some p.2 ∧ h₀.get? p.1 = none)
    (hsg : ∀ b o, s.heap.get? b = some o → b ∉ news.map (·.1) → g.get? b = some o) (F : Fr g L h' m) (N : News g L h' news') (hs : ∀ p ∈ news, p.1 ≠ d → p ∈ news') : ∀ b o, s.heap.get? b = some o → b ≠ d → h'.get? b = some o :=
  fun b o e hd => by
    by_cases hb : b ∈ news.map (·.1)
    · obtain ⟨p, hp, rfl⟩ := List.mem_map.mp hb
      have := (hN p hp).1
      rw [this] at e; cases e
      exact (N p (hs p hp hd)).1
    · exact F.keep b o (hsg b o e hb)
end Mine
namespace Mine
theorem kd_chars {kd : Kd} (h : (kd.s == Str.ofString "CHARACTERS") = true) : kd = .chars := by revert h; cases kd <;> decide
theorem kd_lead {kd : Kd} (h : (kd.s == Str.ofString "LEADING") = true) : kd = .lead := by revert h; cases kd <;> decide
theorem kd_all {kd : Kd} (h : (kd.s == Str.ofString "CHARACTERS") = false) (h' : (kd.s == Str.ofString "LEADING") = false) : kd = .all := by revert h h'; cases kd <;> decide
end Mine
namespace Mine
theorem sk_of {P : Params} {x dx : Addr} {h' : Heap} {kd : Kd} {want : List UInt8} {b e : Nat} {lead : Option Nat} {a0 a1 a2 a3 a4 a5 a6 a7 a8 a9 a10 : Tok}
    (H : ∀ p ∈ [(x, instObj 135 dx), (dx, dictOf [⟨PyData.keyHash P (Str.ofString "kind"), .str (Str.ofString "kind") a0, .str kd.s a6⟩,
    ⟨PyData.keyHash P (Str.ofString "wanted"), .str (Str.ofString "wanted") a1, wantV kd want a7⟩,
    ⟨PyData.keyHash P (Str.ofString "begin"), .str (Str.ofString "begin") a2, .int (b : Int) a8⟩,
    ⟨PyData.keyHash P (Str.ofString "end"), .str (Str.ofString "end") a3, .int (e : Int) a9⟩,
    ⟨PyData.keyHash P (Str.ofString "lead"), .str (Str.ofString "lead") a4, leadV lead a10⟩,
    ⟨PyData.keyHash P (Str.ofString "is_done"), .str (Str.ofString "is_done") a5, .bool false⟩] 6)], h'.get? p.1 = some p.2) :
    ∃ t, ∀ p ∈ skObjs P x dx t ⟨kd, want, b, e, lead⟩, h'.get? p.1 = some p.2 :=
  ⟨fun i => [a0, a1, a2, a3, a4, a5, a6, a7, a8, a9, a10].getD i 0, H⟩
end Mine
end
section
open PySem PySem.W PySem.Calls PyProof.Rows
set_option Elab.async false
set_option maxRecDepth 100000
set_option linter.all false
namespace Mine
section
variable {prog : Program} {w : World} {A : Around} {E : Value → Shared → Prop} {s : Shared} {env : Env} {h₀ : Heap} {body : List Stmt} {Q : Flow → Shared → Prop}
def TPost (h₀ : Heap) (L : Addr) (J : (Str → Option Value) → List (Addr × Obj) → Prop) (own : List (Addr × Obj)) (adr : List Addr) (s : Shared) (Q : Flow → Shared → Prop) (f : Flow) (s₂ : Shared) : Prop :=
  match f with
  | .ret v => Q (.ret v) s₂
  | .brk => Q .next s₂
  | _ => ∃ h' tk m' nx', s₂ = { s with heap := h', toks := tk } ∧ Fr h₀ L h' m' ∧ News h₀ L h' (own ++ nx') ∧ nx'.map (·.1) = adr ∧ J m' nx'
theorem enumLoop {elts : List Expr} {k : Nat} {pos : Pos} {l : Addr} {vs : List Value} {m₀ : Str → Option Value} {news : List (Addr × Obj)} (J : Nat → (Str → Option Value) → List (Addr × Obj) → Prop)
    (hh : A.handled = none) (hl : s.heap.IsList l vs.toArray) (hlL : l ≠ env.locals) (hln : ∀ p ∈ news, p.1 ≠ l) (F : Fr h₀ env.locals s.heap m₀) (N : News h₀ env.locals s.heap news) (h0 : J 0 m₀ news)
    (turn : ∀ (i : Nat) x T t m₁ nx h tk own, vs[i]? = some x → IsTup h T #[.int (i : Int) t, x] → nx.map (·.1) = news.map (·.1) → J i m₁ nx → (∀ p ∈ own, ∀ q ∈ nx, p.1 ≠ q.1) → Fr h₀ env.locals h m₁ → News h₀ env.locals h (own ++ nx) →
      wpAny (model prog w) A (assign (.Tuple elts k pos) env (.ref T)) (fun _ s₃ => wpAny (model prog w) A (execs body env) (TPost h₀ env.locals (J (i + 1)) own (news.map (·.1)) s Q) E s₃) E { s with heap := h, toks := tk })
    (done : ∀ h tk m nx, nx.map (·.1) = news.map (·.1) → J vs.length m nx → Fr h₀ env.locals h m → News h₀ env.locals h nx → Q .next { s with heap := h, toks := tk }) :
    wpAny (model prog w) A (call (.type "enumerate") [.ref l]) (fun xv s₁ => wpAny (model prog w) A (pyIter xv) (fun it s₂ => TurnsAt prog w A h₀ env (.Tuple elts k pos) body Q E it s₂) E s₁) E s := by
  have hlt : l < s.heap.objs.size := by obtain ⟨o, ho, _⟩ := hl; exact Heap.lt_size ho
  have hLs : env.locals < s.heap.objs.size := F.ns.lt
  have e1 : ∀ a : Addr, a < s.heap.objs.size → a ≠ s.heap.objs.size := fun a h => Nat.ne_of_lt h
  have e2 : ∀ a : Addr, a < s.heap.objs.size → a ≠ s.heap.objs.size + 1 := fun a h => Nat.ne_of_lt (Nat.lt_succ_of_lt h)
  have fresh : ∀ a, s.heap.objs.size ≤ a → h₀.get? a = none := fun a ha => by
    cases q : h₀.get? a with
    | none => rfl
    | some o => exact absurd (Heap.lt_size (F.keep a o q)) (Nat.not_lt.mpr ha)
  refine call_enumerate_list hl fun h' hE hI hsz hk => ?_
  refine wpAny_pyIter_enum hE ?_
  refine ⟨s.heap.objs.size + 1, [s.heap.objs.size + 1, s.heap.objs.size, l], [s.heap.objs.size + 1, s.heap.objs.size], vs.toArray.size, _, _, _, m₀, news, fun i m nx => nx.map (·.1) = news.map (·.1) ∧ J i m nx, rfl,
    KTurns.ofWalksU (WalksT.enumerate hh (s.heap.objs.size + 1) s.heap.objs.size l (Nat.succ_ne_self _) (e2 l hlt) (e1 l hlt) vs.toArray).toU, ?_, ?_, ?_, ⟨⟨_, hE⟩, hI, hl.at fun o x => hk _ o x⟩, fr_keeps F hk, news_keeps N hk, ⟨rfl, h0⟩, ?_, ?_⟩
  · intro hm
    simp only [List.mem_cons, List.not_mem_nil, or_false] at hm
    rcases hm with q | q | q
    · exact e2 _ hLs q
    · exact e1 _ hLs q
    · exact hlL q.symm
  · intro b hb
    simp only [List.mem_cons, List.not_mem_nil, or_false] at hb
    rcases hb with rfl | rfl
    · exact fresh _ (Nat.le_succ _)
    · exact fresh _ (Nat.le_refl _)
  · intro p hp hb
    have := Heap.lt_size (N p hp).1
    simp only [List.mem_cons, List.not_mem_nil, or_false] at hb
    rcases hb with q | q
    · exact e2 _ this q
    · exact e1 _ this q
  · rintro i v m₁ nx h₁ tk₁ own hi ⟨T, vals, rfl, ⟨t, x, hx, rfl⟩, hT⟩ ⟨ha, hJ⟩ hoff hown _ _ _ F₁ N₁
    have hap : ∀ p ∈ own, ∀ q ∈ nx, p.1 ≠ q.1 := by
      intro p hp q hq e
      have h1 := hown p hp
      simp only [List.mem_cons, List.not_mem_nil, or_false] at h1
      have h2 := hoff q hq
      simp only [List.mem_cons, List.not_mem_nil, or_false, not_or] at h2
      rcases h1 with r | r | r
      · exact h2.1 (e.symm.trans r)
      · exact h2.2 (e.symm.trans r)
      · have : q.1 ∈ news.map (·.1) := ha ▸ List.mem_map_of_mem hq
        obtain ⟨p', hp', e'⟩ := List.mem_map.mp this
        exact hln p' hp' (e'.trans (e.symm.trans r))
    refine wpAny_mono (turn i x T t m₁ nx h₁ tk₁ own (by simpa using hx) hT ha hJ hap F₁ N₁) (fun _ s₃ h₃ => wpAny_mono h₃ (fun f s₄ q => ?_) fun _ _ e => e) fun _ _ e => e
    have fin : (∃ h' tk m' nx', s₄ = { s with heap := h', toks := tk } ∧ Fr h₀ env.locals h' m' ∧ News h₀ env.locals h' (own ++ nx') ∧ nx'.map (·.1) = news.map (·.1) ∧ J (i + 1) m' nx') →
        LoopStepU h₀ env.locals [s.heap.objs.size + 1, s.heap.objs.size] own (fun m nx => nx.map (·.1) = news.map (·.1) ∧ J (i + 1) m nx) { s with heap := h₁, toks := tk₁ } .next s₄ := by
      rintro ⟨h', tk, m', nx', rfl, F', N', ha', hJ'⟩
      refine ⟨rfl, h', tk, m', nx', rfl, F', N', fun p hp => ?_, ha', hJ'⟩
      have : p.1 ∈ news.map (·.1) := ha' ▸ List.mem_map_of_mem hp
      obtain ⟨p', hp', e'⟩ := List.mem_map.mp this
      have h3 := Heap.lt_size (N p' hp').1
      simp only [List.mem_cons, List.not_mem_nil, or_false, not_or]
      rw [← e']
      exact ⟨e2 _ h3, e1 _ h3⟩
    cases f with
    | ret v => exact q
    | brk => exact q
    | next => exact fin q
    | cont => exact fin q
  · rintro h' tk m' nx F' N' _ ⟨ha, hJ⟩
    exact done h' tk m' nx ha (by simpa using hJ) F' N'

/-- a loop with a tuple for its target over a list that stands -/
theorem listLoopT {target : Expr} {l : Addr} {vs : List Value} {m₀ : Str → Option Value} {news : List (Addr × Obj)} (J : Nat → (Str → Option Value) → List (Addr × Obj) → Prop)
    (hh : A.handled = none) (hl : s.heap.IsList l vs.toArray) (hlL : l ≠ env.locals) (hln : ∀ p ∈ news, p.1 ≠ l) (F : Fr h₀ env.locals s.heap m₀) (N : News h₀ env.locals s.heap news) (h0 : J 0 m₀ news)
    (turn : ∀ (i : Nat) v m₁ nx h tk own, vs[i]? = some v → nx.map (·.1) = news.map (·.1) → J i m₁ nx → (∀ p ∈ own, ∀ q ∈ nx, p.1 ≠ q.1) → Fr h₀ env.locals h m₁ → News h₀ env.locals h (own ++ nx) →
      wpAny (model prog w) A (assign target env v) (fun _ s₃ => wpAny (model prog w) A (execs body env) (TPost h₀ env.locals (J (i + 1)) own (news.map (·.1)) s Q) E s₃) E { s with heap := h, toks := tk })
    (done : ∀ h tk m nx, nx.map (·.1) = news.map (·.1) → J vs.length m nx → Fr h₀ env.locals h m → News h₀ env.locals h nx → Q .next { s with heap := h, toks := tk }) :
    wpAny (model prog w) A (pyIter (.ref l)) (fun it s₂ => TurnsAt prog w A h₀ env target body Q E it s₂) E s := by
  have hlt : l < s.heap.objs.size := by obtain ⟨o, ho, _⟩ := hl; exact Heap.lt_size ho
  have hLs : env.locals < s.heap.objs.size := F.ns.lt
  have e1 : ∀ a : Addr, a < s.heap.objs.size → a ≠ s.heap.objs.size := fun a h => Nat.ne_of_lt h
  have fresh : ∀ a, s.heap.objs.size ≤ a → h₀.get? a = none := fun a ha => by
    cases q : h₀.get? a with
    | none => rfl
    | some o => exact absurd (Heap.lt_size (F.keep a o q)) (Nat.not_lt.mpr ha)
  have hk : ∀ b o, s.heap.get? b = some o → (s.heap.push { cls := .type "list_iterator", data := .fields #[.ref l, .int 0 0] }).get? b = some o := fun b o e => Heap.get?_push_of_some _ e
  refine wpAny_pyIter_list hl ?_
  refine ⟨s.heap.objs.size, [s.heap.objs.size, l], [s.heap.objs.size], vs.toArray.size, _, _, _, m₀, news, fun i m nx => nx.map (·.1) = news.map (·.1) ∧ J i m nx, rfl,
    KTurns.ofWalks (Walks.list (prog := prog) (w := w) hh s.heap.objs.size l (e1 l hlt) vs.toArray) (fun i v s' Q' E' st hQ' => letGo_listiter st.1 hQ'), ?_, ?_, ?_, ⟨⟨_, Heap.get?_push_size _ rfl, rfl, rfl⟩, hl.at fun o e => hk _ o e⟩, fr_keeps F hk, news_keeps N hk, ⟨rfl, h0⟩, ?_, ?_⟩
  · intro hm
    simp only [List.mem_cons, List.not_mem_nil, or_false] at hm
    rcases hm with q | q
    · exact e1 _ hLs q
    · exact hlL q.symm
  · intro b hb
    rw [List.mem_singleton.mp hb]
    exact fresh _ (Nat.le_refl _)
  · intro p hp hb
    exact e1 _ (Heap.lt_size (N p hp).1) (List.mem_singleton.mp hb)
  · rintro i v m₁ nx h₁ tk₁ own hi hP ⟨ha, hJ⟩ hoff hown _ _ _ F₁ N₁
    have hap : ∀ p ∈ own, ∀ q ∈ nx, p.1 ≠ q.1 := by
      intro p hp q hq e
      have h1 := hown p hp
      simp only [List.mem_cons, List.not_mem_nil, or_false] at h1
      have h2 := hoff q hq
      simp only [List.mem_cons, List.not_mem_nil, or_false] at h2
      rcases h1 with r | r
      · exact h2 (e.symm.trans r)
      · have : q.1 ∈ news.map (·.1) := ha ▸ List.mem_map_of_mem hq
        obtain ⟨p', hp', e'⟩ := List.mem_map.mp this
        exact hln p' hp' (e'.trans (e.symm.trans r))
    refine wpAny_mono (turn i v m₁ nx h₁ tk₁ own (by simpa using hP) ha hJ hap F₁ N₁) (fun _ s₃ h₃ => wpAny_mono h₃ (fun f s₄ q => ?_) fun _ _ e => e) fun _ _ e => e
    have fin : (∃ h' tk m' nx', s₄ = { s with heap := h', toks := tk } ∧ Fr h₀ env.locals h' m' ∧ News h₀ env.locals h' (own ++ nx') ∧ nx'.map (·.1) = news.map (·.1) ∧ J (i + 1) m' nx') →
        LoopStepU h₀ env.locals [s.heap.objs.size] own (fun m nx => nx.map (·.1) = news.map (·.1) ∧ J (i + 1) m nx) { s with heap := h₁, toks := tk₁ } .next s₄ := by
      rintro ⟨h', tk, m', nx', rfl, F', N', ha', hJ'⟩
      refine ⟨rfl, h', tk, m', nx', rfl, F', N', fun p hp => ?_, ha', hJ'⟩
      have : p.1 ∈ news.map (·.1) := ha' ▸ List.mem_map_of_mem hp
      obtain ⟨p', hp', e'⟩ := List.mem_map.mp this
      have h3 := Heap.lt_size (N p' hp').1
      simp only [List.mem_cons, List.not_mem_nil, or_false]
      rw [← e']
      exact e1 _ h3
    cases f with
    | ret v => exact q
    | brk => exact q
    | next => exact fin q
    | cont => exact fin q
  · rintro h' tk m' nx F' N' _ ⟨ha, hJ⟩
    exact done h' tk m' nx ha (by simpa using hJ) F' N'
end
/-- a map said by some of its names, the others as they stand -/
def canon : List (Str × Value) → (Str → Option Value) → Str → Option Value
  | [], u => u
  | p :: r, u => fun y => if y = p.1 then some p.2 else canon r u y
theorem canon_eq {m : Str → Option Value} : ∀ {ps : List (Str × Value)}, (∀ p ∈ ps, m p.1 = some p.2) → canon ps m = m
  | [], _ => rfl
  | p :: r, h => by
    funext y
    unfold canon
    by_cases e : y = p.1
    · rw [if_pos e, e]; exact (h p (.head _)).symm
    · rw [if_neg e, canon_eq fun q hq => h q (.tail _ hq)]
theorem fr_canon {h₀ h : Heap} {L : Addr} {m : Str → Option Value} (F : Fr h₀ L h m) (ps : List (Str × Value)) (hp : ∀ p ∈ ps, m p.1 = some p.2) : Fr h₀ L h (canon ps m) := by
  rw [canon_eq hp]; exact F
end Mine
end
section
open PySem PySem.W PySem.Calls PyProof.Rows
set_option Elab.async false
set_option maxRecDepth 100000
set_option linter.all false
namespace Mine
def upd {α : Type} (f : Nat → α) (i : Nat) (v : α) : Nat → α := fun j => if j = i then v else f j
noncomputable def led (P : Params) (n : Nat) (x d : Nat → Addr) (t : Nat → Nat → Tok) (σ : Nat → Sk) : List (Addr × Obj) := (List.range n).flatMap fun j => skObjs P (x j) (d j) (t j) (σ j)
section
variable {P : Params} {n : Nat} {x d : Nat → Addr} {t : Nat → Nat → Tok} {σ : Nat → Sk}
theorem mem_led {p : Addr × Obj} : p ∈ led P n x d t σ ↔ ∃ j, j < n ∧ p ∈ skObjs P (x j) (d j) (t j) (σ j) := by
  unfold led
  rw [List.mem_flatMap]
  constructor
  · rintro ⟨j, hj, hp⟩; exact ⟨j, List.mem_range.mp hj, hp⟩
  · rintro ⟨j, hj, hp⟩; exact ⟨j, List.mem_range.mpr hj, hp⟩
theorem led_addr {t' : Nat → Nat → Tok} {σ' : Nat → Sk} : (led P n x d t σ).map (·.1) = (led P n x d t' σ').map (·.1) := by
  unfold led
  rw [List.map_flatMap, List.map_flatMap]
  rfl
theorem mem_led_addr {p : Addr × Obj} (h : p ∈ led P n x d t σ) : ∃ j, j < n ∧ (p.1 = x j ∨ p.1 = d j) := by
  obtain ⟨j, hj, hp⟩ := mem_led.mp h
  rcases List.mem_cons.mp hp with rfl | hp
  · exact ⟨j, hj, .inl rfl⟩
  · rcases List.mem_cons.mp hp with rfl | hp
    · exact ⟨j, hj, .inr rfl⟩
    · cases hp
/-- the seekers' objects lie apart -/
structure Apart (n : Nat) (x d : Nat → Addr) : Prop where
  dx : ∀ i j, i < n → j < n → @Ne Nat (d i) (x j)
  dd : ∀ i j, i < n → j < n → i ≠ j → @Ne Nat (d i) (d j)
/-- one seeker was turned -/
theorem has_led {h h' : Heap} {i : Nat} {t' : Nat → Tok} {σ' : Sk} (ap : Apart n x d) (hi : i < n) (H : ∀ p ∈ led P n x d t σ, h.get? p.1 = some p.2)
    (k : ∀ b o, h.get? b = some o → b ≠ d i → h'.get? b = some o) (new : ∀ p ∈ skObjs P (x i) (d i) t' σ', h'.get? p.1 = some p.2) :
    ∀ p ∈ led P n x d (upd t i t') (upd σ i σ'), h'.get? p.1 = some p.2 := by
  intro p hp
  obtain ⟨j, hj, hp⟩ := mem_led.mp hp
  unfold upd at hp
  by_cases e : j = i
  · subst e; simp only [if_true] at hp; exact new p hp
  · simp only [if_neg e] at hp
    refine k _ _ (H p (mem_led.mpr ⟨j, hj, hp⟩)) ?_
    rcases List.mem_cons.mp hp with rfl | hp
    · exact fun q => ap.dx i j hi hj q.symm
    · rcases List.mem_cons.mp hp with rfl | hp
      · exact fun q => ap.dd i j hi hj (fun q => e q.symm) q.symm
      · cases hp
theorem news_led {g h h' : Heap} {L : Addr} {own R : List (Addr × Obj)} {i : Nat} {t' : Nat → Tok} {σ' : Sk} (N : News g L h (own ++ (led P n x d t σ ++ R))) (ap : Apart n x d) (hi : i < n)
    (ho : ∀ p ∈ own, p.1 ≠ d i) (hR : ∀ p ∈ R, p.1 ≠ d i)
    (k : ∀ b o, h.get? b = some o → b ≠ d i → h'.get? b = some o) (new : ∀ p ∈ skObjs P (x i) (d i) t' σ', h'.get? p.1 = some p.2) :
    News g L h' (own ++ (led P n x d (upd t i t') (upd σ i σ') ++ R)) := by
  intro p hp
  rcases List.mem_append.mp hp with hp | hp
  · have := N p (List.mem_append.mpr (.inl hp)); exact ⟨k _ _ this.1 (ho p hp), this.2⟩
  rcases List.mem_append.mp hp with hp | hp
  · refine ⟨has_led ap hi (fun q hq => (N q (List.mem_append.mpr (.inr (List.mem_append.mpr (.inl hq))))).1) k new p hp, ?_⟩
    have ha : p.1 ∈ (led P n x d t σ).map (·.1) := by rw [led_addr (t' := upd t i t') (σ' := upd σ i σ')]; exact List.mem_map_of_mem hp
    obtain ⟨q, hq, e⟩ := List.mem_map.mp ha
    have := (N q (List.mem_append.mpr (.inr (List.mem_append.mpr (.inl hq))))).2
    rw [← e]; exact this
  · have := N p (List.mem_append.mpr (.inr (List.mem_append.mpr (.inr hp)))); exact ⟨k _ _ this.1 (hR p hp), this.2⟩
theorem fr_led {g h h' : Heap} {L : Addr} {m : Str → Option Value} {i : Nat} {own R : List (Addr × Obj)} (F : Fr g L h m) (N : News g L h (own ++ (led P n x d t σ ++ R))) (hi : i < n)
    (k : ∀ b o, h.get? b = some o → b ≠ d i → h'.get? b = some o) : Fr g L h' m := by
  have hm : (d i, skDict P (t i) (σ i)) ∈ own ++ (led P n x d t σ ++ R) := List.mem_append.mpr (.inr (List.mem_append.mpr (.inl (mem_led.mpr ⟨i, hi, .tail _ (.head _)⟩))))
  refine fr_keepsW (W := [d i]) F (fun b hb => ?_) fun b o e hb => k b o e (fun q => hb (by simp [q]))
  rw [List.mem_singleton.mp hb]
  exact (N _ hm).2
end
/-- which seeker takes the place, the others having been reached -/
def takerTo (o : List UInt8) (σ : Nat → Sk) (k i : Nat) : Option Nat := (List.range i).find? fun j => ((σ j).reach k).fit o k
def reachTo (σ : Nat → Sk) (k i : Nat) : Nat → Sk := fun j => if j < i then (σ j).reach k else σ j
theorem reachTo_zero (σ : Nat → Sk) (k : Nat) : reachTo σ k 0 = σ := by funext j; simp [reachTo]
theorem reachTo_succ (σ : Nat → Sk) (k i : Nat) : upd (reachTo σ k i) i ((σ i).reach k) = reachTo σ k (i + 1) := by
  funext j
  unfold upd reachTo
  by_cases e : j = i
  · subst e; simp
  · simp only [if_neg e]
    by_cases h : j < i
    · rw [if_pos h, if_pos (by omega)]
    · rw [if_neg h, if_neg (by omega)]
theorem reachTo_at (σ : Nat → Sk) (k i : Nat) : reachTo σ k i i = σ i := by simp [reachTo]
theorem takerTo_succ (o : List UInt8) (σ : Nat → Sk) (k i : Nat) : takerTo o σ k (i + 1) = match takerTo o σ k i with | some j => some j | none => if ((σ i).reach k).fit o k then some i else none := by
  unfold takerTo
  rw [List.range_succ, List.find?_append]
  cases (List.range i).find? _ with
  | some j => rfl
  | none =>
    simp only [Option.none_or, List.find?_cons, List.find?_nil]
    cases ((σ i).reach k).fit o k <;> rfl
theorem takerTo_lt {o : List UInt8} {σ : Nat → Sk} {k i j : Nat} (h : takerTo o σ k i = some j) : j < i := by
  unfold takerTo at h
  exact List.mem_range.mp (List.mem_of_find?_eq_some h)
/-- the walk: a place that none takes, or a seeker's block -/
def trace (o : List UInt8) (n : Nat) (σ : Nat → Sk) (k : Nat) : List (Option Nat) :=
  if k < o.length then
    match takerTo o σ k n with
    | none => none :: trace o n (reachTo σ k n) (k + 1)
    | some i => some i :: trace o n (upd (reachTo σ k n) i (((σ i).reach k).took k)) (k + max 1 (σ i).width)
  else []
termination_by o.length - k
def foundOf (wd : Nat → Nat) : Nat → List (Option Nat) → List (Nat × Nat)
  | _, [] => []
  | k, none :: r => foundOf wd (k + 1) r
  | k, some i :: r => (k, i) :: foundOf wd (k + wd i) r
inductive All2 {α β : Type} (R : α → β → Prop) : List α → List β → Prop
  | nil : All2 R [] []
  | cons {a b as bs} : R a b → All2 R as bs → All2 R (a :: as) (b :: bs)
theorem All2.snoc {α β : Type} {R : α → β → Prop} {as : List α} {bs : List β} {a : α} {b : β} (h : All2 R as bs) (r : R a b) : All2 R (as ++ [a]) (bs ++ [b]) := by
  induction h with
  | nil => exact .cons r .nil
  | cons r' _ ih => exact .cons r' ih
theorem All2.imp {α β : Type} {R R' : α → β → Prop} {as : List α} {bs : List β} (h : All2 R as bs) (f : ∀ a b, R a b → R' a b) : All2 R' as bs := by
  induction h with
  | nil => exact .nil
  | cons r' _ ih => exact .cons (f _ _ r') ih
theorem All2.length {α β : Type} {R : α → β → Prop} {as : List α} {bs : List β} (h : All2 R as bs) : as.length = bs.length := by
  induction h with
  | nil => rfl
  | cons _ _ ih => simp [ih]
theorem All2.get {α β : Type} {R : α → β → Prop} {as : List α} {bs : List β} (h : All2 R as bs) {i : Nat} {a : α} (e : as[i]? = some a) : ∃ b, bs[i]? = some b ∧ R a b := by
  induction h generalizing i with
  | nil => simp at e
  | cons r _ ih =>
    cases i with
    | zero => simp at e; subst e; exact ⟨_, rfl, r⟩
    | succ i => simpa using ih (by simpa using e)
abbrev tupObj (vs : Array Value) : Obj := { cls := .type "tuple", data := .seq vs }
/-- the list of finds and its tuples -/
def Finds (fa : Addr) (fl : List (Nat × Nat)) (R : List (Addr × Obj)) : Prop :=
  ∃ (items : List Value) (ep : Nat) (Ts : List (Addr × Obj)), R = (fa, W.listOf items.toArray ep) :: Ts ∧ (∀ p ∈ Ts, @Ne Nat p.1 fa) ∧
    All2 (fun v (q : Nat × Nat) => ∃ T t1 t2, v = .ref T ∧ (T, tupObj #[.int (q.1 : Int) t1, .int (q.2 : Int) t2]) ∈ Ts) items fl
end Mine
namespace Mine
def SameK (σ σ' : Nat → Sk) : Prop := ∀ j, (σ' j).kd = (σ j).kd ∧ (σ' j).want = (σ j).want ∧ (σ' j).b = (σ j).b ∧ (σ' j).e = (σ j).e
theorem SameK.refl (σ : Nat → Sk) : SameK σ σ := fun _ => ⟨rfl, rfl, rfl, rfl⟩
theorem SameK.trans {σ σ' σ'' : Nat → Sk} (h : SameK σ σ') (h' : SameK σ' σ'') : SameK σ σ'' := fun j =>
  ⟨(h' j).1.trans (h j).1, (h' j).2.1.trans (h j).2.1, (h' j).2.2.1.trans (h j).2.2.1, (h' j).2.2.2.trans (h j).2.2.2⟩
theorem SameK.width {σ σ' : Nat → Sk} (h : SameK σ σ') (j : Nat) : (σ' j).width = (σ j).width := by
  unfold Sk.width; rw [(h j).1, (h j).2.1]
theorem reach_same (σ : Sk) (k : Nat) : (σ.reach k).kd = σ.kd ∧ (σ.reach k).want = σ.want ∧ (σ.reach k).b = σ.b ∧ (σ.reach k).e = σ.e := by
  unfold Sk.reach; split <;> exact ⟨rfl, rfl, rfl, rfl⟩
theorem SameK.reachTo (σ : Nat → Sk) (k i : Nat) : SameK σ (reachTo σ k i) := fun j => by
  unfold Mine.reachTo
  split
  · exact reach_same _ _
  · exact ⟨rfl, rfl, rfl, rfl⟩
theorem SameK.upd_took {σ : Nat → Sk} {i k : Nat} : SameK σ (upd σ i ((σ i).took k)) := fun j => by
  unfold upd
  by_cases e : j = i
  · subst e; rw [if_pos rfl]; exact ⟨rfl, rfl, rfl, rfl⟩
  · rw [if_neg e]; exact ⟨rfl, rfl, rfl, rfl⟩
/-- the state of fits_in's while -/
def FitJ (P : Params) (o : List UInt8) (n : Nat) (x d : Nat → Addr) (σ : Nat → Sk) (sl fa : Addr) (t0 : Tok) (ν : Nat) (m : Str → Option Value) (nx : List (Addr × Obj)) : Prop :=
  ∃ (k : Nat) (tk1 : Tok) (σ' : Nat → Sk) (t' : Nat → Nat → Tok) (R : List (Addr × Obj)) (fl : List (Nat × Nat)),
    nx = led P n x d t' σ' ++ R ∧ m (Str.ofString "at") = some (.int (k : Int) tk1) ∧ m (Str.ofString "octets") = some (.bytes o.toArray t0) ∧ m (Str.ofString "seekers") = some (.ref sl) ∧ m (Str.ofString "found") = some (.ref fa) ∧
    Finds fa fl R ∧ (∀ p ∈ R, ∀ j, j < n → @Ne Nat p.1 (d j) ∧ @Ne Nat p.1 (x j)) ∧ fl ++ foundOf (fun j => (σ j).width) k (trace o n σ' k) = foundOf (fun j => (σ j).width) 0 (trace o n σ 0) ∧ SameK σ σ' ∧ k ≤ o.length ∧ ν = o.length - k ∧ fl.length ≤ k
end Mine
namespace Mine
/-- the state of the loop over the seekers -/
def InJ (P : Params) (o : List UInt8) (n : Nat) (x d : Nat → Addr) (σ : Nat → Sk) (sl fa : Addr) (t0 tk1 : Tok) (k : Nat) (R : List (Addr × Obj)) (i : Nat) (m : Str → Option Value) (nx : List (Addr × Obj)) : Prop :=
  ∃ (t' : Nat → Nat → Tok) (tk : Tok),
    nx = led P n x d t' (reachTo σ k i) ++ R ∧ m (Str.ofString "at") = some (.int (k : Int) tk1) ∧ m (Str.ofString "octets") = some (.bytes o.toArray t0) ∧ m (Str.ofString "seekers") = some (.ref sl) ∧ m (Str.ofString "found") = some (.ref fa) ∧
    m (Str.ofString "taker") = some (leadV (takerTo o σ k i) tk)
theorem mem_mid {α : Type} {a : α} {own l R : List α} (h : a ∈ l) : a ∈ own ++ (l ++ R) := List.mem_append.mpr (.inr (List.mem_append.mpr (.inl h)))
end Mine
namespace Mine
section
variable {w : World} {A : Around} {E : Value → Shared → Prop} {s : Shared} {g : Heap} {L : Addr} {m : Str → Option Value}
theorem item_sl {value slice : PySem.Expr} {sl : Addr} {vs : List Value} {i : Nat} {u : Tok} {v : Value} {Q : Value → Shared → Prop} (F : Fr g L s.heap m) (hS : g.IsList sl vs.toArray) (hx : vs[i]? = some v) (hi : i < 100000) (h : Q v s)
    (hs : subscripted slice false (.ref sl) (.int (i : Int) u) = operate [.ref sl, .int (i : Int) u] (getItem (.ref sl) (.int (i : Int) u)) := by with_unfolding_all rfl) :
    wpAny (model PySem.Challenge.pw_pb0230_01 w) A (subscriptTail value slice (.ref sl) (.int (i : Int) u)) Q E s :=
  have hL : s.heap.IsList sl vs.toArray := hS.at fun o e => F.keep _ o e
  tail_any hL.typeIs slot_list_getitem.lookup (wpAny_getItem_list hL (by omega) (by omega) (by simpa using hx) h) hs
end
end Mine
namespace Mine
theorem fit_bound {σ : Sk} {o : List UInt8} {k : Nat} (h : σ.fit o k = true) : σ.b ≤ k ∧ k + σ.width ≤ σ.e := by
  unfold Sk.fit at h
  split at h
  · cases h
  · rename_i hc; omega
theorem takerTo_fit {o : List UInt8} {σ : Nat → Sk} {k i j : Nat} (h : takerTo o σ k i = some j) : ((σ j).reach k).fit o k = true := by
  unfold takerTo at h
  exact List.find?_some (p := fun j => ((σ j).reach k).fit o k) h
end Mine
end
section
open PySem PySem.W PySem.Calls PyProof.Rows
set_option Elab.async false
set_option maxRecDepth 100000
set_option linter.all false
namespace Mine
open PyProof.Rows.LCg (NsObj ns_obj lst lst_snoc)
section
variable {prog : Program} {w : World} {A : Around} {E : Value → Shared → Prop} {R : Result → Shared → Prop} {s : Shared} {env : Env}
abbrev Tests (ifs : List Expr) (env : Env) : Sem Bool := forIn ifs true fun c r => if r = true then do let ok ← isTrue c env (eval c env); pure (ForInStep.yield ok) else pure (ForInStep.yield r)
abbrev noE : Value → Shared → Prop := fun _ _ => False
theorem wpAny_noE {α : Type} {M : Model} {t : Sem α} {Q : α → Shared → Prop} {E' : Value → Shared → Prop} (h : wpAny M A t Q noE s) : wpAny M A t Q E' s := wpAny_mono h (fun _ _ x => x) fun _ _ x => x.elim
theorem compLoop_gen {elt target iter : Expr} {ifs : List Expr} {scope : Scope} {pos : Pos} {it acc : Value} (I : Nat → Shared → Prop)
    (turn : ∀ n s, I n s → wpAny (model prog w) A (pyNext it) (fun r s₁ => match r with
      | none => R (.ok .next) s₁
      | some v => wpAny (model prog w) A (letOwnedTupleGo target it v) (fun _ s₁' => wpAny (model prog w) A (assign target env v) (fun _ s₂ =>
          wpAny (model prog w) A (Tests ifs env) (fun ok s₃ => if ok = true then wpAny (model prog w) A (eval elt env) (fun x s₄ =>
              wpAny (model prog w) A (call (.builtin "list.append") [acc, x]) (fun _ s₅ => ∃ m, m < n ∧ I m s₅) noE s₄) noE s₃ else ∃ m, m < n ∧ I m s₃) noE s₂) noE s₁') noE s₁) noE s)
    (n : Nat) (h : I n s) : codeAny (model prog w) A (.compLoop (.ListComp elt [⟨target, iter, ifs, 0⟩] scope pos) 0 it acc env) R s := by
  refine codeAny_loop rfl I (fun n s hI => ?_) n h
  show wpAny _ A ((compTurn (.ListComp elt [⟨target, iter, ifs, 0⟩] scope pos) 0 it acc env).onRaise (fun x => do noteFrame x env; theTreesLotGoes x)) _ _ s
  refine wpAny_noted ?_
  rw [compTurn_list]
  refine wpAny_bind (wpAny_standAt (wpAny_bind (wpAny_mono (turn n s hI) (fun r s₁ h₁ => ?_) fun _ _ h' => h'.elim)))
  cases r with
  | none => exact wpAny_pure h₁
  | some v =>
    refine wpAny_bind (wpAny_mono h₁ (fun _ s₁' h₁' => ?_) fun _ _ h' => h'.elim)
    refine wpAny_bind (wpAny_mono h₁' (fun _ s₂ h₂ => wpAny_bind (wpAny_mono h₂ (fun ok s₃ h₃ => ?_) fun _ _ h' => h'.elim)) fun _ _ h' => h'.elim)
    cases ok with
    | false => exact wpAny_pure ⟨rfl, h₃⟩
    | true =>
      exact wpAny_bind (wpAny_bind (wpAny_mono h₃ (fun x s₄ h₄ => wpAny_bind (wpAny_mono h₄ (fun _ s₅ h₅ => wpAny_pure (wpAny_pure ⟨rfl, h₅⟩)) fun _ _ h' => h'.elim)) fun _ _ h' => h'.elim))

/-- a turn's end: what was made of the ledger -/
def CEnd (g : Heap) (C D : Addr) (own : List (Addr × Obj)) (ys : List Value) (s : Shared) (J : List (Addr × Obj) → Prop) (s₅ : Shared) : Prop :=
  ∃ h' tk m' nx', s₅ = { s with heap := h', toks := tk } ∧ Fr g C h' m' ∧ News g C h' ((D, lst ys) :: (own ++ nx')) ∧ (∀ p ∈ (D, lst ys) :: own, ∀ q ∈ nx', @Ne Nat p.1 q.1) ∧ J nx'

/-- what a comprehension asks of its iterator and its turns -/
def CompAt (prog : Program) (w : World) (A : Around) (env : Env) (elt target : Expr) (ifs : List Expr) (scope : Scope) (cl : List (Str × Addr)) (X : Addr → Prop) (K : List Addr → List (Addr × Obj) → Addr → List Value → List (Addr × Obj) → Heap → Nat → Prop) (it : Value) (s₂ : Shared) : Prop :=
  ∃ (I : Addr) (fp wr : List Addr) (n : Nat) (P Md : Nat → Value → Heap → Prop) (St : Nat → Heap → Prop) (news0 : List (Addr × Obj)) (J : Nat → List Value → List (Addr × Obj) → Prop),
    it = .ref I ∧ KTurns prog w A target I fp wr n P Md St ∧ n ≤ sizeLine ∧ St 0 s₂.heap ∧ (∀ b ∈ fp, b ∉ wr → ∃ o, s₂.heap.get? b = some o) ∧ (∀ i h, St i h → ∀ b ∈ wr, ∃ o, h.get? b = some o) ∧
    (∀ p ∈ news0, s₂.heap.get? p.1 = some p.2 ∧ p.1 ∉ fp) ∧ J 0 [] news0 ∧ (∀ b, X b → b ∉ wr ∧ b ∉ news0.map (·.1) ∧ ∃ o, s₂.heap.get? b = some o) ∧
    (∀ (s' : Shared) (Q' : Value → Shared → Prop) (E' : Value → Shared → Prop), St 0 s'.heap → Q' (.ref I) s' → wpAny (model prog w) A (pyIter (.ref I)) Q' E' s') ∧
    ∀ g C D, (∀ b o, s₂.heap.get? b = some o → b ∉ wr → b ∉ news0.map (·.1) → g.get? b = some o) → (∀ b o, g.get? b = some o → s₂.heap.get? b = some o) → (∀ b, b ∈ wr ∨ b ∈ news0.map (·.1) → g.get? b = none) → s₂.heap.get? C = none → s₂.heap.get? D = none → @Ne Nat C D →
      (∀ i v ys nx h tk m own, i < n → P i v h → J i ys nx → (∀ p ∈ (D, lst ys) :: own, ∀ q ∈ nx, @Ne Nat p.1 q.1) → Fr g C h m → News g C h ((D, lst ys) :: (own ++ nx)) →
        wpAny (model prog w) A (assign target (compEnvC scope cl C env) v) (fun _ s₃ => wpAny (model prog w) A (Tests ifs (compEnvC scope cl C env)) (fun ok s₄ =>
          if ok = true then wpAny (model prog w) A (eval elt (compEnvC scope cl C env)) (fun y s₅ => CEnd g C D own ys s₂ (J (i + 1) (ys ++ [y])) s₅) noE s₄ else CEnd g C D own ys s₂ (J (i + 1) ys) s₄) noE s₃) noE { s₂ with heap := h, toks := tk }) ∧
      ∀ ys nx h tk, J n ys nx → (∀ b o, s₂.heap.get? b = some o → b ∉ wr → b ∉ news0.map (·.1) → ¬ X b → h.get? b = some o) → (∀ p ∈ nx, h.get? p.1 = some p.2 ∧ g.get? p.1 = none ∧ @Ne Nat p.1 D ∧ p.1 ∉ wr ∧ (s₂.heap.get? p.1 = none ∨ p.1 ∈ news0.map (·.1))) → h.get? D = some (lst ys) → K wr news0 D ys nx h tk

theorem block_S {elt target iter : Expr} {ifs : List Expr} {scope : Scope} {cl : List (Str × Addr)} {pos : Pos} {s₂ : Shared} {it : Value} {X : Addr → Prop} {K : List Addr → List (Addr × Obj) → Addr → List Value → List (Addr × Obj) → Heap → Nat → Prop} {RR : Value → Addr → Result → Shared → Prop}
    (hcell : ∀ y ∈ scope.names, y.2 ≠ .cell) (hkind : scope.kind = .function) (H : CompAt prog w A env elt target ifs scope cl X K it s₂)
    (hRR : ∀ wr news0 D C h tk m' ys nx, s₂.heap.get? D = none → s₂.heap.get? C = none → h.Ns C m' → (∀ b o, X b → s₂.heap.get? b = some o → h.get? b = some o) → (∀ h' tk', (∀ b o, b ≠ C → ¬ X b → h.get? b = some o → h'.get? b = some o) → K wr news0 D ys nx h' tk') → RR (.ref D) C (.ok .next) { s₂ with heap := h, toks := tk }) :
    wpAny (model prog w) A (newList []) (fun acc s₃ => wpAny (model prog w) A (newFunctionEnv scope env.globals cl [] env.qual none .none (some env)) (fun cenv s₄ =>
      codeAny (model prog w) A (.compStart (.ListComp elt [⟨target, iter, ifs, 0⟩] scope pos) 0 it acc { cenv with scope := relabel scope env }) (RR acc cenv.locals) s₄) E s₃) E s₂ := by
  obtain ⟨I, fp, wr, n, P, Md, St, news0, J, rfl, W, hsz, hst, hfp, hob, hn0, hJ0, hX, hself, H⟩ := H
  refine wpAny_newObj_type (wpAny_newFunctionEnv hcell (by intro y hy; simp at hy) (fun h₁ hns₁ hsb₁ => ?_) hkind)
  dsimp only at hns₁ hsb₁ ⊢
  generalize hH2 : s₂.heap.push { cls := .type "list", dict := none, data := .seq ([] : List Value).toArray } = H2 at hns₁ hsb₁ ⊢
  have hC : H2.objs.size = s₂.heap.objs.size + 1 := by rw [← hH2, Heap.size_push]
  have hDC : s₂.heap.objs.size ≠ H2.objs.size := by rw [hC]; exact Nat.ne_of_lt (Nat.lt_succ_self _)
  have below : ∀ b, b < s₂.heap.objs.size → b ≠ H2.objs.size ∧ b ≠ s₂.heap.objs.size := fun b hb => ⟨by rw [hC]; exact Nat.ne_of_lt (Nat.lt_succ_of_lt hb), Nat.ne_of_lt hb⟩
  have hfpl : ∀ b ∈ fp, b < s₂.heap.objs.size := fun b hb => by
    by_cases hw : b ∈ wr
    · obtain ⟨o, ho⟩ := hob _ _ hst b hw; exact Heap.lt_size ho
    · obtain ⟨o, ho⟩ := hfp b hb hw; exact Heap.lt_size ho
  have hDf : s₂.heap.objs.size ∉ fp := fun hm => Nat.lt_irrefl _ (hfpl _ hm)
  have hCf : H2.objs.size ∉ fp := fun hm => by have := hfpl _ hm; rw [hC] at this; exact Nat.lt_irrefl _ (Nat.lt_of_succ_lt this)
  have hDw : s₂.heap.objs.size ∉ wr := fun hm => hDf (W.sub _ hm)
  have hCw : H2.objs.size ∉ wr := fun hm => hCf (W.sub _ hm)
  have old : ∀ b o, s₂.heap.get? b = some o → h₁.get? b = some o := fun b o e => hsb₁.extBut b o (below b (Heap.lt_size e)).1 (Heap.get?_push_of_some _ (hH2 ▸ Heap.get?_push_of_some _ e))
  have hacc : h₁.get? s₂.heap.objs.size = some (lst []) := hsb₁.extBut _ _ hDC (Heap.get?_push_of_some _ (hH2 ▸ Heap.get?_push_size _ rfl))
  have hst₁ : St 0 h₁ := W.frame _ _ _ hst fun b _ o e => old b o e
  have fresh : ∀ a, s₂.heap.objs.size ≤ a → s₂.heap.get? a = none := fun a ha => none_of_size ha
  generalize hg : hideAll s₂.heap (wr ++ news0.map (·.1)) = g
  have hg1 : ∀ b o, s₂.heap.get? b = some o → b ∉ wr → b ∉ news0.map (·.1) → g.get? b = some o := fun b o e h1 h2 => by
    rw [← hg]; exact hideAll_get _ e (fun hm => (List.mem_append.mp hm).elim h1 h2)
  have hg2 : ∀ b o, g.get? b = some o → s₂.heap.get? b = some o := fun b o e => by rw [← hg] at e; exact of_hideAll _ e
  have hg3 : ∀ b, b ∈ wr ∨ b ∈ news0.map (·.1) → g.get? b = none := fun b hb => by rw [← hg]; exact hideAll_none _ (List.mem_append.mpr hb)
  have gN : ∀ b, s₂.heap.get? b = none → g.get? b = none := fun b hb => none_before hg2 hb
  have gCD := H g H2.objs.size s₂.heap.objs.size hg1 hg2 hg3 (fresh _ (by rw [hC]; exact Nat.le_succ _)) (fresh _ (Nat.le_refl _)) (Ne.symm hDC)
  obtain ⟨hturn, hdone⟩ := gCD
  have hD0 : g.get? s₂.heap.objs.size = none := gN _ (fresh _ (Nat.le_refl _))
  have hC0 : g.get? H2.objs.size = none := gN _ (fresh _ (by rw [hC]; exact Nat.le_succ _))
  have hgs : g.objs.size ≤ H2.objs.size := by rw [← hg, hideAll_size, hC]; exact Nat.le_succ _
  have newOf : ∀ b, g.get? b = none → b ∉ wr → s₂.heap.get? b = none ∨ b ∈ news0.map (·.1) := fun b hb hw => by
    cases q : s₂.heap.get? b with
    | none => exact .inl rfl
    | some o =>
      by_cases hm : b ∈ news0.map (·.1)
      · exact .inr hm
      · have := hg1 b o q hw hm; rw [hb] at this; cases this
  have loop : ∀ s₃ : Shared, s₃ = { s₂ with heap := h₁, toks := s₂.toks + ([] : List (Str × Value)).length } →
      codeAny (model prog w) A (.compLoop (.ListComp elt [⟨target, iter, ifs, 0⟩] scope pos) 0 (.ref I) (.ref s₂.heap.objs.size) (compEnvC scope cl H2.objs.size env))
        (RR (.ref s₂.heap.objs.size) H2.objs.size) s₃ := by
    rintro s₃ rfl
    refine compLoop_gen
      (fun k s' => ∃ h' tk i ys m' nx, s' = { s₂ with heap := h', toks := tk } ∧ i ≤ n ∧ k = n + 1 - i ∧ ys.length ≤ i ∧ St i h' ∧ Fr g H2.objs.size h' m' ∧ News g H2.objs.size h' ((s₂.heap.objs.size, lst ys) :: nx) ∧
        (∀ q ∈ nx, @Ne Nat q.1 s₂.heap.objs.size ∧ q.1 ∉ wr) ∧ J i ys nx) ?_ (n + 1)
      ⟨h₁, _, 0, [], _, news0, rfl, Nat.zero_le _, rfl, Nat.le_refl _, hst₁, ⟨hns₁, fun b o e => old b o (hg2 b o e), hgs⟩, fun p hp => ?_, fun q hq => ⟨(below _ (Heap.lt_size (hn0 q hq).1)).2, fun hm => (hn0 q hq).2 (W.sub _ hm)⟩, hJ0⟩
    · rintro k s' ⟨h', tk, i, ys, m', nx, rfl, hi, rfl, hyl, hst', F', N', off', hJ'⟩
      by_cases hlt : i < n
      · refine W.item i _ _ _ hlt hst' fun v h₂ tk₂ hMd hk₂ => ?_
        refine W.go i v _ _ _ hMd fun h₃ hP hst₃ hk₃ => ?_
        have hk : ∀ b o, b ∉ wr → h'.get? b = some o → h₃.get? b = some o := fun b o hb e => hk₃ b o hb (hk₂ b o hb e)
        have F₃ : Fr g H2.objs.size h₃ m' := ⟨F'.ns.at' fun o e => hk _ o hCw e, fun b o e => hk b o (fun hb => by rw [hg3 b (.inl hb)] at e; cases e) (F'.keep b o e), F'.above⟩
        have N₃ : News g H2.objs.size h₃ ((s₂.heap.objs.size, lst ys) :: nx) := fun p hp => by
          refine ⟨hk _ _ ?_ (N' p hp).1, (N' p hp).2⟩
          rcases List.mem_cons.mp hp with rfl | hp
          · exact hDw
          · exact (off' p hp).2
        have Nown : News g H2.objs.size h₃ (PyProof.Rows.ownOf g wr h₃) := news_ownOf hCw
        have hownfp : ∀ p ∈ PyProof.Rows.ownOf g wr h₃, p.1 ∈ wr := ownOf_sub
        have hap : ∀ p ∈ (s₂.heap.objs.size, lst ys) :: PyProof.Rows.ownOf g wr h₃, ∀ q ∈ nx, @Ne Nat p.1 q.1 := by
          intro p hp q hq
          rcases List.mem_cons.mp hp with rfl | hp
          · exact Ne.symm (off' q hq).1
          · exact fun e => (off' q hq).2 (e ▸ hownfp p hp)
        have fin : ∀ zs h₅ tk₅ m₅ nx₅ (o₅ : Heap), Fr g H2.objs.size h₅ m₅ → News g H2.objs.size h₅ ((s₂.heap.objs.size, lst ys) :: (PyProof.Rows.ownOf g wr h₃ ++ nx₅)) → (∀ p ∈ (s₂.heap.objs.size, lst ys) :: PyProof.Rows.ownOf g wr h₃, ∀ q ∈ nx₅, @Ne Nat p.1 q.1) → J (i + 1) zs nx₅ → zs.length ≤ i + 1 →
            Heap.SameBut s₂.heap.objs.size h₅ o₅ → o₅.get? s₂.heap.objs.size = some (lst zs) →
            ∃ m, m < n + 1 - i ∧ ∃ h' tk i ys m' nx, ({ s₂ with heap := o₅, toks := tk₅ } : Shared) = { s₂ with heap := h', toks := tk } ∧ i ≤ n ∧ m = n + 1 - i ∧ ys.length ≤ i ∧ St i h' ∧ Fr g H2.objs.size h' m' ∧ News g H2.objs.size h' ((s₂.heap.objs.size, lst ys) :: nx) ∧
              (∀ q ∈ nx, @Ne Nat q.1 s₂.heap.objs.size ∧ q.1 ∉ wr) ∧ J i ys nx := by
          intro zs h₅ tk₅ m₅ nx₅ o₅ F₅ N₅ ap₅ hJ₅ hzl hsb hz
          have inFp : ∀ b ∈ fp, ∀ o, h₃.get? b = some o → h₅.get? b = some o := fun b hb o e => by
            by_cases hw : b ∈ wr
            · exact (N₅ (b, o) (.tail _ (List.mem_append_left _ (mem_ownOf hw (hg3 b (.inl hw)) e)))).1
            · obtain ⟨o₀, ho₀⟩ := hfp b hb hw
              have hnm : b ∉ news0.map (·.1) := fun hm => by
                obtain ⟨p, hp, e'⟩ := List.mem_map.mp hm
                exact (hn0 p hp).2 (e' ▸ hb)
              have hn := hg1 b o₀ ho₀ hw hnm
              have h1 := F₃.keep b o₀ hn
              rw [e] at h1; cases h1
              exact F₅.keep b _ hn
          have offWr : ∀ q ∈ nx₅, q.1 ∉ wr := fun q hq hw => by
            obtain ⟨ow, how⟩ := hob _ _ hst₃ _ hw
            exact ap₅ (q.1, ow) (.tail _ (mem_ownOf hw (hg3 _ (.inl hw)) how)) q hq rfl
          have offD : ∀ q ∈ nx₅, @Ne Nat q.1 s₂.heap.objs.size := fun q hq => Ne.symm (ap₅ _ (.head _) q hq)
          refine ⟨n + 1 - (i + 1), by omega, o₅, tk₅, i + 1, zs, m₅, nx₅, rfl, hlt, rfl, hzl, W.frame _ _ _ (W.frame _ _ _ hst₃ inFp) (fun b hb o e => hsb.extBut b o (fun q => hDf (q ▸ hb)) e), F₅.change hsb hDC hD0, fun p hp => ?_, fun q hq => ⟨offD q hq, offWr q hq⟩, hJ₅⟩
          rcases List.mem_cons.mp hp with rfl | hp
          · exact ⟨hz, hDC, hD0⟩
          · have := N₅ p (.tail _ (List.mem_append_right _ hp))
            exact ⟨hsb.extBut _ _ (offD p hp) this.1, this.2⟩
        refine wpAny_mono (hturn i v ys nx h₃ tk₂ m' (PyProof.Rows.ownOf g wr h₃) hlt hP hJ' hap F₃ (fun p hp => ?_)) (fun _ s₃ q₃ => wpAny_mono q₃ (fun ok s₄ q₄ => ?_) fun _ _ e => e) fun _ _ e => e
        · rcases List.mem_cons.mp hp with rfl | hp
          · exact N₃ _ (.head _)
          · rcases List.mem_append.mp hp with hp | hp
            · exact Nown p hp
            · exact N₃ p (.tail _ hp)
        · cases ok with
          | false =>
            simp only [Bool.false_eq_true, if_false] at q₄ ⊢
            obtain ⟨h₅, tk₅, m₅, nx₅, rfl, F₅, N₅, ap₅, hJ₅⟩ := q₄
            exact fin ys h₅ tk₅ m₅ nx₅ h₅ F₅ N₅ ap₅ hJ₅ (by omega) (.refl ..) (N₅ _ (.head _)).1
          | true =>
            simp only [if_true] at q₄ ⊢
            refine wpAny_mono q₄ (fun y s₅ q₅ => ?_) fun _ _ e => e
            obtain ⟨h₅, tk₅, m₅, nx₅, rfl, F₅, N₅, ap₅, hJ₅⟩ := q₅
            refine append_at (hsz := by rw [List.size_toArray]; omega) (N₅ _ (.head _)).1 fun h₆ hs₆ hD₆ => ?_
            exact fin (ys ++ [y]) h₅ tk₅ m₅ nx₅ h₆ F₅ N₅ ap₅ hJ₅ (by rw [List.length_append, List.length_singleton]; omega) hs₆ (hD₆.trans (congrArg some (lst_snoc ys y)))
      · obtain rfl : i = n := Nat.le_antisymm hi (Nat.not_lt.mp hlt)
        refine W.done _ _ _ hst' fun h₂ tk₂ hk₂ => ?_
        have upX : ∀ b o, X b → s₂.heap.get? b = some o → h₂.get? b = some o := fun b o hx e =>
          hk₂ b o (hX b hx).1 (F'.keep b o (hg1 b o e (hX b hx).1 (hX b hx).2.1))
        refine hRR wr news0 _ _ h₂ tk₂ m' ys nx (fresh _ (Nat.le_refl _)) (fresh _ (by rw [hC]; exact Nat.le_succ _)) (F'.ns.at' fun o e => hk₂ _ o hCw e) upX fun h₃ tk₃ hs₃ => ?_
        have up : ∀ b o, b ∉ wr → b ≠ H2.objs.size → ¬ X b → h'.get? b = some o → h₃.get? b = some o := fun b o h1 h2 h3 e => hs₃ b o h2 h3 (hk₂ b o h1 e)
        have nX : ∀ b, g.get? b = none → ¬ X b := fun b hb hx => by
          obtain ⟨h1, h2, o, ho⟩ := hX b hx
          have := hg1 b o ho h1 h2; rw [hb] at this; cases this
        refine hdone ys nx h₃ tk₃ hJ' (fun b o e h1 h2 h3 => up b o h1 (below b (Heap.lt_size e)).1 h3 (F'.keep b o (hg1 b o e h1 h2))) (fun p hp => ?_) (up _ _ hDw hDC (nX _ hD0) (N' _ (.head _)).1)
        have h1 := N' p (.tail _ hp)
        exact ⟨up _ _ (off' p hp).2 h1.2.1 (nX _ h1.2.2) h1.1, h1.2.2, (off' p hp).1, (off' p hp).2, newOf _ h1.2.2 (off' p hp).2⟩
    · rcases List.mem_cons.mp hp with rfl | hp
      · exact ⟨hacc, hDC, hD0⟩
      · have h1 := hn0 p hp
        exact ⟨old _ _ h1.1, (below _ (Heap.lt_size h1.1)).1, hg3 _ (.inr (List.mem_map_of_mem hp))⟩
  exact codeAny_compStart_list (loop _ rfl) (hself _ _ _ hst₁ (loop _ rfl))

theorem ListComp_S {elt target iter : Expr} {ifs : List Expr} {scope : Scope} {cl : List (Str × Addr)} {pos : Pos} {Q : Value → Shared → Prop}
    (hclos : closureFor scope env = pure cl) (hcell : ∀ y ∈ scope.names, y.2 ≠ .cell) (hkind : scope.kind = .function)
    (hnames : ∀ y ∈ scope.names, y.2 = .local → scope.names.lookup y.1 = some .local)
    (h : wpAny (model prog w) A (eval iter env) (fun xv s₁ => wpAny (model prog w) A (pyIter xv) (fun it s₂ =>
      CompAt prog w A env elt target ifs scope cl (fun _ => False) (fun wr news0 D ys nx h tk => s₂.heap.get? D = none → Q (.ref D) { s₂ with heap := h, toks := tk }) it s₂) E s₁) E s)
    (hs : ∀ x, foldedSetIterable iter env x = pure x := by intro _; rfl) :
    wpAny (model prog w) A (eval (.ListComp elt [⟨target, iter, ifs, 0⟩] scope pos) env) Q E s := by
  rw [eval_ListComp]
  refine wpAny_comprehension_free (use := none) rfl hs hclos hkind hnames (wpAny_mono h (fun xv s₁ h₁ => wpAny_mono h₁ (fun it s₂ h₂ => ?_) fun _ _ e => e) fun _ _ e => e)
  refine block_S hcell hkind h₂ ?_
  intro wr news0 D C h tk m' ys nx hD hC hn _ fin
  exact ⟨m', hn, fun h' hs' => fin h' tk (fun b o hb _ e => hs'.extBut b o hb e) hD⟩

/-- the store of a name: one object (the frame's dict, or the name's cell) is turned -/
def Stores (prog : Program) (w : World) (A : Around) (env : Env) (y : Str) (S : Addr) (Z0 : Obj → Prop) (ZO : Value → Obj → Prop) : Prop :=
  ∀ (s' : Shared) v (Q' : Unit → Shared → Prop) (E' : Value → Shared → Prop), (∃ o, s'.heap.get? S = some o ∧ Z0 o) →
    (∀ h' tk o, Heap.SameBut S s'.heap h' → h'.get? S = some o → ZO v o → Q' () { s' with heap := h', toks := tk }) → wpAny (model prog w) A (storeName env y v) Q' E' s'
theorem stores_local {y : Str} {m : Str → Option Value} (hy : env.kindOf y = some .local) (hp : (env.scope.kind == .class || (env.scope.kind == .module && env.locals != env.globals)) = false) :
    Stores prog w A env y env.locals (fun o => NsObj o m) (fun v o => NsObj o (fun z => if z = y then some v else m z)) := by
  intro s' v Q' E' ⟨o, ho, hm⟩ k
  refine wpAny_storeName_local hy (hm.ns ho) (fun h' hn hs => ?_) hp
  obtain ⟨o', ho', hm'⟩ := ns_obj hn
  exact k h' _ o' hs ho' hm'
theorem stores_cell {y : Str} {c : Addr} (hk : env.scope.kind = .function) (hx : env.kindOf y = some .cell) (hc : env.cells.lookup y = some c) :
    Stores prog w A env y c (fun o => ∃ v, o.data = .cell v) (fun v o => o.data = .cell (some v)) := by
  intro s' v Q' E' ⟨o, ho, v0, hd⟩ k
  refine wpAny_storeName_cell hk hx hc ⟨o, ho, hd⟩ fun h' hv hs => ?_
  obtain ⟨o', ho', hd'⟩ := hv
  exact k h' _ o' hs ho' hd'

theorem Assign_ListComp_S {elt target iter : Expr} {ifs : List Expr} {y : Str} {py : Pos} {scope : Scope} {cl : List (Str × Addr)} {pos spos : Pos} {Q : Flow → Shared → Prop} {S : Addr} {Z0 : Obj → Prop} {ZO : Value → Obj → Prop}
    (hsw : swapsWith (.ListComp elt [⟨target, iter, ifs, 0⟩] scope pos) (some (.Name y py)) spos.line env = pure true)
    (hclos : closureFor scope env = pure cl) (hcell : ∀ z ∈ scope.names, z.2 ≠ .cell) (hkind : scope.kind = .function)
    (hnames : ∀ z ∈ scope.names, z.2 = .local → scope.names.lookup z.1 = some .local) (hst : Stores prog w A env y S Z0 ZO)
    (h : wpAny (model prog w) A (eval iter env) (fun xv s₁ => wpAny (model prog w) A (pyIter xv) (fun it s₂ => (∃ o, s₂.heap.get? S = some o ∧ Z0 o) ∧
      CompAt prog w A env elt target ifs scope cl (fun b => b = S) (fun wr news0 D ys nx h tk => s₂.heap.get? D = none → ∀ o, h.get? S = some o → ZO (.ref D) o → Q .next { s₂ with heap := h, toks := tk }) it s₂) E s₁) E s)
    (hs : ∀ x, foldedSetIterable iter env x = pure x := by intro _; rfl) :
    wpAny (model prog w) A (exec (.Assign [.Name y py] (.ListComp elt [⟨target, iter, ifs, 0⟩] scope pos) spos) env) Q E s := by
  rw [exec_Assign_Name_used _ _ _ _ hsw]
  refine wpAny_bind (wpAny_standAt (wpAny_bind ?_))
  show wpAny _ A (do let _ ← comprehension (.ListComp elt [⟨target, iter, ifs, 0⟩] scope pos) scope env _ (newList []) false (eval iter env) (some (assign (.Name y py) env))) _ _ s
  refine wpAny_bind (wpAny_mono (wpAny_comprehension_free (use := some (assign (.Name y py) env)) (Q := fun _ s' => Q .next s') rfl hs hclos hkind hnames
    (wpAny_mono h (fun xv s₁ h₁ => wpAny_mono h₁ (fun it s₂ h₂ => ?_) fun _ _ e => e) fun _ _ e => e)) (fun _ s' hq => wpAny_pure (wpAny_pure hq)) fun _ _ e => e)
  obtain ⟨⟨oS, hoS, hZ⟩, H⟩ := h₂
  refine block_S hcell hkind H ?_
  intro wr news0 D C h tk m' ys nx hD hC hn hX fin
  show wpAny _ A (assign (.Name y py) env (.ref D)) _ _ _
  have hSC : S ≠ C := by rintro rfl; rw [hC] at hoS; cases hoS
  refine wpAny_assign_Name (hst _ _ _ _ ⟨oS, hX S oS rfl hoS, hZ⟩ fun h₂ tk₂ o hs₂ ho hzo => ?_)
  refine ⟨m', hn.sameBut hs₂ (Ne.symm hSC), fun h₃ hs₃ => ?_⟩
  exact fin h₃ tk₂ (fun b ob hb hx e => hs₃.extBut b ob hb (hs₂.extBut b ob hx e)) hD o (hs₃.extBut _ _ hSC ho) hzo
end

section
variable {w : World} {M : Model} {A : Around} {E : Value → Shared → Prop} {s : Shared} {g : Heap} {C : Addr} {m mg mb : Str → Option Value} {scope : Scope} {cl : List (Str × Addr)} {env : Env} {x : Str} {pos : Pos} {v : Value} {Q : Value → Shared → Prop} {p : Program} {loose : List Str} {K : Frag}
theorem nameL_C (F : Fr g C s.heap m) (hv : m x = some v) (h : Q v s)
    (hk : (compEnvC scope cl C env).scope.kind = .function) (hx : (compEnvC scope cl C env).kindOf x = some .local) (hd : (x == ("__debug__" : Str)) = false := by decide) :
    wpAny M A (eval (.Name x pos) (compEnvC scope cl C env)) Q E s := wpAny_Name (wpAny_loadName_local hk hx F.ns hv h) hd
theorem nameF_C {c : Addr} {o : Obj} (F : Fr g C s.heap m) (hc : cl.lookup x = some c) (ho : g.get? c = some o) (hd : o.data = .cell (some v)) (h : Q v s)
    (hk : (compEnvC scope cl C env).scope.kind = .function) (hx : (compEnvC scope cl C env).kindOf x = some .free) (hb : (x == ("__debug__" : Str)) = false := by decide) (hn : (x == ("__classdict__" : Str)) = false := by decide) :
    wpAny M A (eval (.Name x pos) (compEnvC scope cl C env)) Q E s := wpAny_Name (wpAny_loadName_free hk hx hc ⟨o, F.keep _ _ ho, hd⟩ h hn) hb
theorem nameC_C {c : Addr} {o : Obj} (F : Fr g C s.heap m) (hc : cl.lookup x = some c) (ho : g.get? c = some o) (hd : o.data = .cell (some v)) (h : Q v s)
    (hk : (compEnvC scope cl C env).scope.kind = .function) (hx : (compEnvC scope cl C env).kindOf x = some .cell) (hb : (x == ("__debug__" : Str)) = false := by decide) :
    wpAny M A (eval (.Name x pos) (compEnvC scope cl C env)) Q E s := wpAny_Name (wpAny_loadName_cell hk hx hc ⟨o, F.keep _ _ ho, hd⟩ h) hb
theorem nameG_C (F : Fr g C s.heap m) (X : K.In g) (T : TopRead p loose mg mb g) (e : nsIn K mainGlobals x = some (some v)) (h : Q v s) (hgl : env.globals = mainGlobals)
    (hk : (compEnvC scope cl C env).scope.kind = .function) (hx : (compEnvC scope cl C env).kindOf x = some .globalImplicit) (hd : (x == ("__debug__" : Str)) = false := by decide) :
    wpAny M A (eval (.Name x pos) (compEnvC scope cl C env)) Q E s := Name_function_global hk hx (loadGlobal_global (env := compEnvC scope cl C env) (by show s.heap.Ns env.globals _; rw [hgl]; exact T.g.keeps F.keep) (mg_of X T.g e) h) hd
theorem nameB_C (F : Fr g C s.heap m) (X : K.In g) (T : TopRead p loose mg mb g) (e : nsIn K mainGlobals x = some none) (hv : bootBuiltins x = some v) (hn : x ≠ "__name__") (h : Q v s) (hgl : env.globals = mainGlobals) (hbl : env.builtins = builtinsNs)
    (hk : (compEnvC scope cl C env).scope.kind = .function) (hx : (compEnvC scope cl C env).kindOf x = some .globalImplicit) (hd : (x == ("__debug__" : Str)) = false := by decide) :
    wpAny M A (eval (.Name x pos) (compEnvC scope cl C env)) Q E s :=
  Name_function_global hk hx (loadGlobal_builtin (env := compEnvC scope cl C env) (by show s.heap.Ns env.globals _; rw [hgl]; exact T.g.keeps F.keep) (mg_none_of X T.g e) (by show s.heap.Ns env.builtins _; rw [hbl]; exact T.b.keeps F.keep) ((T.builtins x hn).trans hv) h) hd
theorem storeL_C {news : List (Addr × Obj)} {Q : Unit → Shared → Prop} (F : Fr g C s.heap m) (N : News g C s.heap news)
    (h : ∀ h', Fr g C h' (fun y => if y = x then some v else m y) → News g C h' news → Q () { s with heap := h', toks := s.toks + 1 })
    (hk : (compEnvC scope cl C env).scope.kind = .function) (hx : (compEnvC scope cl C env).kindOf x = some .local) : wpAny M A (storeName (compEnvC scope cl C env) x v) Q E s :=
  wpAny_storeName_local hx F.ns (fun h' hn hs => h h' (F.set hn hs) (N.set hs)) (by rw [hk]; rfl)
end
end Mine
end
section
open PySem PySem.W PySem.Calls PyProof.Rows
set_option Elab.async false
set_option maxRecDepth 100000
set_option linter.all false
namespace Mine
section
variable {w : World} {A : Around} {s : Shared} {mean : ExcName → Option Value} {mg mb : Str → Option Value} {h₀ : Heap}
theorem enterC {R : Result → Shared → Prop} {name qual : Str} {params : Arguments} {body : List Stmt} {scope : Scope} {dV kV doc pm cdv ct oc : Value} {an od : Option Addr} {osl : Array (Option Value)} {f : Addr} {args : Args} {binds : List (Str × Value)}
    (news : List (Addr × Obj)) (G : Gd w mean mg mb h₀) (st : ∀ b o, h₀.get? b = some o → s.heap.get? b = some o) (hN : ∀ p ∈ news, s.heap.get? p.1 = some p.2 ∧ h₀.get? p.1 = none)
    (ho : (Mine.hd.heap_39 w.params).lookup f = some ⟨oc, od, .func (fnOf name qual params body scope dV kV doc pm an cdv ct), osl⟩) (hcd : codeIn (Mine.hd.heap_39 w.params) cdv qual = true) (hroom : A.depth < recursionLimit)
    (hbind : BindsTo s (fnOf name qual params body scope dV kV doc pm an cdv ct) args binds) (hkind : (binds.all fun y => scope.names.lookup y.1 == some .local || scope.names.lookup y.1 == some .cell) = true)
    (hnd : ((cellsFrom 0 scope.names []).map (·.1)).Nodup)
    (h : ∀ g L' h₁ tk cells, (∀ b o, s.heap.get? b = some o → b ∉ news.map (·.1) → g.get? b = some o) → (∀ b o, g.get? b = some o → s.heap.get? b = some o) → Fr g L' h₁ (bindL (envOfC qual scope L' f cdv).kindOf binds fun _ => none) → News g L' h₁ (cells ++ news) →
      CellsAre (bindC (envOfC qual scope L' f cdv).kindOf binds fun _ => none) (cellsFrom (L' + 1) scope.names []) cells → (∀ b o, h₀.get? b = some o → g.get? b = some o) → (Mine.hd.heap_39 w.params).In g → Top Mine.hd.view_39 (looseW Mine.hd.view_39 [Str.ofString "LedgerError"]) mean mg mb g → (∀ b o, s.heap.get? b = some o → @LT.lt Nat _ b L') →
      wpAny (model PySem.Challenge.pw_pb0230_01 w) (A.deeper (envOfC qual scope L' f cdv)) (execs body (envOfC qual scope L' f cdv))
        (fun fl s' => R (.ok (.ret (match fl with | .ret v => v | _ => .none))) s') (fun _ _ => False) { s with heap := h₁, toks := tk })
    (hco : scope.isCoroutine = false) (hgen : scope.isGenerator = false) (hk : scope.kind = .function) : codeAny (model PySem.Challenge.pw_pb0230_01 w) A (.call (.ref f) args) R s := by
  have nm : ∀ b o, h₀.get? b = some o → b ∉ news.map (·.1) := fun b o e q => by
    obtain ⟨p, hp, rfl⟩ := List.mem_map.mp q
    rw [(hN p hp).2] at e; cases e
  have sg : ∀ b o, s.heap.get? b = some o → b ∉ news.map (·.1) → (hideAll s.heap (news.map (·.1))).get? b = some o := fun b o e n => hideAll_get _ e n
  have hg : ∀ b o, h₀.get? b = some o → (hideAll s.heap (news.map (·.1))).get? b = some o := fun b o e => sg b o (st b o e) (nm b o e)
  have hlim : s.heap.NoLimit := G.T.nolimit.keeps st
  refine codeAny_call_function hroom ((G.X.keeps st) _ _ ho) rfl hco hgen rfl (codeRec_of (G.X.keeps st) hcd) (hbind _ _ _ _ ?_)
  refine wpAny_newFunctionEnv_cells hk (kindsX hkind _) fun env' he s' x => ?_
  subst he
  refine ⟨hlim.keeps x.toInCall.keep, codeAny_func ?_⟩
  obtain ⟨h₁, tk, rfl, _⟩ := x.done
  have hk₁ := x.toInCall.keep
  obtain ⟨cells, NC, Y⟩ := Cl.news (h₀ := s.heap) (Nat.le_refl _) fun n c hm => ⟨x.cell n c (lookup_of_mem_nodup (cellsFrom_names scope.names 0 (s.heap.objs.size + 1) [] [] rfl ▸ hnd) hm), x.above n c hm⟩
  refine wpAny_mono (h _ s.heap.objs.size h₁ tk cells sg (fun b o e => of_hideAll _ e) ⟨x.toInCall.ns, fun b o e => hk₁ b o (of_hideAll _ e), Nat.le_of_eq (hideAll_size _ _)⟩ (fun p hp => ?_) Y hg (G.X.keeps hg) (G.T.keeps hg) (fun b o e => Heap.lt_size e)) (fun _ _ x => x) fun _ _ y => y.elim
  rcases List.mem_append.mp hp with hp | hp
  · refine ⟨(NC p hp).1, (NC p hp).2.1, ?_⟩
    cases q : (hideAll s.heap (news.map (·.1))).get? p.1 with
    | none => rfl
    | some o => have := of_hideAll _ q; rw [(NC p hp).2.2] at this; cases this
  · exact ⟨hk₁ _ _ (hN p hp).1, Nat.ne_of_lt (Heap.lt_size (hN p hp).1), hideAll_none _ (List.mem_map_of_mem hp)⟩
end
end Mine
end
section
open PySem PySem.W PySem.Calls PyProof.Rows
set_option Elab.async false
set_option maxRecDepth 100000
set_option linter.all false
namespace Mine
/-- a row: kind, wanted, before, after -/
structure Rw where
  kd : Kd
  want : List UInt8
  bef : Option (List UInt8)
  aft : Option (List UInt8)
def rw0 : Rw := ⟨.chars, [], none, none⟩
def okB (a : Option (List UInt8)) : Prop := ∀ l, a = some l → 0 < l.length ∧ l.length ≤ 10
structure Rw.ok (r : Rw) : Prop where
  pos : r.kd ≠ .chars → 0 < r.want.length
  le : r.want.length ≤ 10
  nil : r.kd = .chars → r.want = []
  bef : okB r.bef
  aft : okB r.aft
@[reducible] def optV (a : Option (List UInt8)) (t : Tok) : Value := match a with
  | none => .none
  | some a => .bytes a.toArray t
def beginOf (o : List UInt8) (a : Option (List UInt8)) : Nat := match a with
  | none => 0
  | some a => match firstL o a with
    | none => o.length
    | some i => i + a.length
def endOf (o : List UInt8) (b : Option (List UInt8)) : Nat := match b with
  | none => o.length
  | some b => match firstL o b with
    | none => o.length
    | some i => i
theorem firstL_lt {o x : List UInt8} {i : Nat} (h : firstL o x = some i) : i < o.length := by
  unfold firstL at h
  exact List.mem_range.mp (List.mem_of_find?_eq_some h)
theorem beginOf_le {o : List UInt8} {a : Option (List UInt8)} (ha : okB a) : beginOf o a ≤ o.length + 10 := by
  unfold beginOf
  split
  · omega
  · rename_i a' 
    have := ha a' rfl
    split
    · omega
    · rename_i i h; have := firstL_lt h; omega
theorem endOf_le {o : List UInt8} {a : Option (List UInt8)} : endOf o a ≤ o.length := by
  unfold endOf
  split
  · omega
  · split
    · omega
    · rename_i i h; have := firstL_lt h; omega
def Sk.of (o : List UInt8) (kd : Kd) (want : List UInt8) (bef aft : Option (List UInt8)) : Sk := ⟨kd, want, beginOf o aft, endOf o bef, none⟩
def Sk.ofR (o : List UInt8) (r : Rw) : Sk := Sk.of o r.kd r.want r.bef r.aft
def skOf (o : List UInt8) (rs : List Rw) (j : Nat) : Sk := Sk.ofR o (rs.getD j rw0)
abbrev rowObj (r : Rw) (t1 t2 t3 t4 : Tok) : Obj := tupObj #[.str r.kd.s t1, wantV r.kd r.want t2, optV r.bef t3, optV r.aft t4]
/-- a list of rows stands at rl -/
def RowsAt (h : Heap) (rl : Addr) (rs : List Rw) : Prop :=
  ∃ items ep, h.get? rl = some (W.listOf items.toArray ep) ∧ All2 (fun v r => ∃ T t1 t2 t3 t4, v = Value.ref T ∧ h.get? T = some (rowObj r t1 t2 t3 t4)) items rs
theorem RowsAt.keep {h h' : Heap} {rl : Addr} {rs : List Rw} (H : RowsAt h rl rs) (k : ∀ b o, h.get? b = some o → h'.get? b = some o) : RowsAt h' rl rs := by
  obtain ⟨items, ep, h1, h2⟩ := H
  exact ⟨items, ep, k _ _ h1, h2.imp fun v r ⟨T, t1, t2, t3, t4, e, q⟩ => ⟨T, t1, t2, t3, t4, e, k _ _ q⟩⟩
section
variable {P : Params} {n : Nat} {x d : Nat → Addr} {t : Nat → Nat → Tok} {σ : Nat → Sk}
theorem led_congr {x' d' : Nat → Addr} {t' : Nat → Nat → Tok} {σ' : Nat → Sk} (h : ∀ j, j < n → x j = x' j ∧ d j = d' j ∧ t j = t' j ∧ σ j = σ' j) : led P n x d t σ = led P n x' d' t' σ' := by
  unfold led
  have : ∀ l : List Nat, (∀ j ∈ l, j < n) → (l.flatMap fun j => skObjs P (x j) (d j) (t j) (σ j)) = l.flatMap fun j => skObjs P (x' j) (d' j) (t' j) (σ' j) := by
    intro l
    induction l with
    | nil => intro _; rfl
    | cons a l ih =>
      intro hl
      obtain ⟨h1, h2, h3, h4⟩ := h a (hl a (.head _))
      rw [List.flatMap_cons, List.flatMap_cons, ih fun j hj => hl j (.tail _ hj), h1, h2, h3, h4]
  exact this _ fun j hj => List.mem_range.mp hj
theorem led_succ {a b : Addr} {u : Nat → Tok} : led P (n + 1) (upd x n a) (upd d n b) (upd t n u) σ = led P n x d t σ ++ skObjs P a b u (σ n) := by
  unfold led
  rw [List.range_succ, List.flatMap_append]
  congr 1
  · have := led_congr (P := P) (n := n) (x := upd x n a) (d := upd d n b) (t := upd t n u) (σ := σ) (x' := x) (d' := d) (t' := t) (σ' := σ) (fun j hj => by
      have : j ≠ n := Nat.ne_of_lt hj
      simp [upd, this])
    exact this
  · simp [upd]
theorem Apart.succ {a b : Addr} (ap : Apart n x d) (hba : @Ne Nat b a) (hx : ∀ j, j < n → @Ne Nat (d j) a ∧ @Ne Nat b (x j) ∧ @Ne Nat b (d j)) : Apart (n + 1) (upd x n a) (upd d n b) := by
  refine ⟨fun i j hi hj => ?_, fun i j hi hj hij => ?_⟩
  · unfold upd
    by_cases h1 : i = n <;> by_cases h2 : j = n
    · subst h1; subst h2; simpa using hba
    · subst h1; simp only [if_true, if_neg h2]; exact (hx j (by omega)).2.1
    · subst h2; simp only [if_true, if_neg h1]; exact (hx i (by omega)).1
    · simp only [if_neg h1, if_neg h2]; exact ap.dx i j (by omega) (by omega)
  · unfold upd
    by_cases h1 : i = n <;> by_cases h2 : j = n
    · omega
    · subst h1; simp only [if_true, if_neg h2]; exact (hx j (by omega)).2.2
    · subst h2; simp only [if_true, if_neg h1]; exact Ne.symm (hx i (by omega)).2.2
    · simp only [if_neg h1, if_neg h2]; exact ap.dd i j (by omega) (by omega) hij
end
end Mine
end
section
open PySem PySem.W PySem.Calls PyProof.Rows
set_option Elab.async false
set_option maxRecDepth 100000
set_option linter.all false
namespace Mine
open PyProof.Rows.LCg (NsObj ns_obj lst lst_snoc)
section
variable {prog : Program} {w : World} {A : Around} {E : Value → Shared → Prop} {s : Shared} {env : Env} {elt target : Expr} {ifs : List Expr} {scope : Scope} {cl : List (Str × Addr)} {X : Addr → Prop} {K : Addr → List Value → List (Addr × Obj) → Heap → Nat → Prop}
/-- what is asked of a comprehension's turns, said over the state ahead of it -/
def CompUse (prog : Program) (w : World) (A : Around) (env : Env) (elt target : Expr) (ifs : List Expr) (scope : Scope) (cl : List (Str × Addr)) (X : Addr → Prop) (n : Nat) (P : Nat → Value → Prop) (news0 : List (Addr × Obj)) (J : Nat → List Value → List (Addr × Obj) → Prop)
    (K : Addr → List Value → List (Addr × Obj) → Heap → Nat → Prop) (s : Shared) : Prop :=
  n ≤ sizeLine ∧ (∀ p ∈ news0, s.heap.get? p.1 = some p.2) ∧ J 0 [] news0 ∧ (∀ b, X b → b ∉ news0.map (·.1) ∧ ∃ o, s.heap.get? b = some o) ∧
    ∀ g C D, (∀ b o, s.heap.get? b = some o → b ∉ news0.map (·.1) → g.get? b = some o) → (∀ b o, g.get? b = some o → s.heap.get? b = some o) → (∀ b ∈ news0.map (·.1), g.get? b = none) → s.heap.get? C = none → s.heap.get? D = none → @Ne Nat C D →
      (∀ i v ys nx h tk m own, i < n → P i v → J i ys nx → (∀ p ∈ (D, lst ys) :: own, ∀ q ∈ nx, @Ne Nat p.1 q.1) → Fr g C h m → News g C h ((D, lst ys) :: (own ++ nx)) →
        wpAny (model prog w) A (assign target (compEnvC scope cl C env) v) (fun _ s₃ => wpAny (model prog w) A (Tests ifs (compEnvC scope cl C env)) (fun ok s₄ =>
          if ok = true then wpAny (model prog w) A (eval elt (compEnvC scope cl C env)) (fun y s₅ => CEnd g C D own ys s (J (i + 1) (ys ++ [y])) s₅) noE s₄ else CEnd g C D own ys s (J (i + 1) ys) s₄) noE s₃) noE { s with heap := h, toks := tk }) ∧
      ∀ ys nx h tk, J n ys nx → (∀ b o, s.heap.get? b = some o → b ∉ news0.map (·.1) → ¬ X b → h.get? b = some o) → (∀ p ∈ nx, h.get? p.1 = some p.2 ∧ g.get? p.1 = none ∧ @Ne Nat p.1 D ∧ (s.heap.get? p.1 = none ∨ p.1 ∈ news0.map (·.1))) → h.get? D = some (lst ys) → K D ys nx h tk

theorem comp_core {I : Addr} {oI : Obj} {fp : List Addr} {n : Nat} {P : Nat → Value → Prop} {Md : Nat → Value → Heap → Prop} {St : Nat → Heap → Prop} {news0 : List (Addr × Obj)} {J : Nat → List Value → List (Addr × Obj) → Prop} {h₂ : Heap} {P' : Nat → Value → Heap → Prop}
    (hI : I = s.heap.objs.size) (h2 : h₂ = s.heap.push oI) (W : KTurns prog w A target I fp [I] n P' Md St) (hP : ∀ i v h, P' i v h → P i v) (hst : St 0 h₂) (hfp : ∀ b ∈ fp, b ≠ I → ∃ o, s.heap.get? b = some o ∧ b ∉ news0.map (·.1)) (hfree : oI.isFreed = false)
    (hob : ∀ i h, St i h → ∃ o, h.get? I = some o)
    (hself : ∀ (s' : Shared) (Q' : Value → Shared → Prop) (E' : Value → Shared → Prop), St 0 s'.heap → Q' (.ref I) s' → wpAny (model prog w) A (pyIter (.ref I)) Q' E' s')
    (U : CompUse prog w A env elt target ifs scope cl X n P news0 J K s) :
    CompAt prog w A env elt target ifs scope cl X (fun wr news0 D ys nx h tk => h₂.get? D = none → K D ys nx h tk) (.ref I) { s with heap := h₂ } := by
  obtain ⟨hsz, hn0, hJ0, hX, H⟩ := U
  have up : ∀ b o, s.heap.get? b = some o → h₂.get? b = some o := fun b o e => by rw [h2]; exact Heap.get?_push_of_some _ e
  have hIn : s.heap.get? I = none := by rw [hI]; exact none_of_size (Nat.le_refl _)
  have dn : ∀ b o, h₂.get? b = some o → b ≠ I → s.heap.get? b = some o := fun b o e hb => by
    rw [h2, Heap.get?_push_ne _ _ _ (fun q => hb (q.trans hI.symm))] at e; exact e
  refine ⟨I, fp, [I], n, P', Md, St, news0, J, rfl, W, hsz, hst, fun b hb hw => ?_, fun i h st b hb => ?_, fun p hp => ⟨up _ _ (hn0 p hp), fun hm => ?_⟩, hJ0, fun b hb => ?_, hself, ?_⟩
  · obtain ⟨o, ho, _⟩ := hfp b hb (fun q => hw (List.mem_singleton.mpr q))
    exact ⟨o, up _ _ ho⟩
  · rw [List.mem_singleton.mp hb]; exact hob i h st
  · by_cases e : p.1 = I
    · have := hn0 p hp; rw [e, hIn] at this; cases this
    · obtain ⟨o, _, ho⟩ := hfp _ hm e
      exact ho (List.mem_map_of_mem hp)
  · obtain ⟨h1, o, ho⟩ := hX b hb
    exact ⟨fun hm => (by rw [List.mem_singleton.mp hm, hIn] at ho; cases ho), h1, o, up _ _ ho⟩
  · intro g C D hg1 hg2 hg3 hC hD hCD
    have hC' : s.heap.get? C = none := none_before up hC
    have hD' : s.heap.get? D = none := none_before up hD
    have hsg : ∀ b o, s.heap.get? b = some o → b ∉ news0.map (·.1) → g.get? b = some o := fun b o e hb => hg1 b o (up b o e) (fun hm => (by rw [List.mem_singleton.mp hm, hIn] at e; cases e)) hb
    obtain ⟨a, b⟩ := H g C D hsg
      (fun b o e => dn b o (hg2 b o e) (fun q => by rw [q, hg3 I (.inl (.head _))] at e; cases e)) (fun b hb => hg3 b (.inr hb)) hC' hD' hCD
    refine ⟨fun i v ys nx h tk m own hi hp hJ ap F N => a i v ys nx h tk m own hi (hP _ _ _ hp) hJ ap F N, fun ys nx h tk hJ k1 k2 k3 _ => ?_⟩
    refine b ys nx h tk hJ (fun b o e h1 h2' => k1 b o (up b o e) (fun hm => (by rw [List.mem_singleton.mp hm, hIn] at e; cases e)) h1 h2') (fun p hp => ?_) k3
    obtain ⟨q1, q2, q3, q4, q5⟩ := k2 p hp
    exact ⟨q1, q2, q3, q5.imp (fun q => none_before up q) id⟩

theorem comp_list {l : Addr} {vs : List Value} {news0 : List (Addr × Obj)} {J : Nat → List Value → List (Addr × Obj) → Prop} {Z : Value → Shared → Prop} (hh : A.handled = none) (hl : s.heap.IsList l vs.toArray) (hln : l ∉ news0.map (·.1))
    (U : CompUse prog w A env elt target ifs scope cl X vs.length (fun i v => vs[i]? = some v) news0 J K s)
    (hz : ∀ it h₂, (∀ b o, s.heap.get? b = some o → h₂.get? b = some o) → CompAt prog w A env elt target ifs scope cl X (fun wr news0 D ys nx h tk => h₂.get? D = none → K D ys nx h tk) it { s with heap := h₂ } → Z it { s with heap := h₂ }) :
    wpAny (model prog w) A (pyIter (.ref l)) Z E s := by
  have hlt : l < s.heap.objs.size := by obtain ⟨o, ho, _⟩ := hl; exact Heap.lt_size ho
  refine wpAny_pyIter_list hl (hz _ _ (fun b o e => Heap.get?_push_of_some _ e) ?_)
  have W := KTurns.ofWalks (target := target) (Walks.list (prog := prog) (w := w) hh s.heap.objs.size l (Nat.ne_of_lt hlt) vs.toArray) (fun i v s' Q' E' st hQ' => letGo_listiter st.1 hQ')
  have e : vs.toArray.size = vs.length := List.size_toArray ..
  rw [e] at W
  refine comp_core (P := fun i v => vs[i]? = some v) rfl rfl W (fun i v h hp => by simpa using hp) ⟨⟨_, Heap.get?_push_size _ rfl, rfl, rfl⟩, hl.at fun o e => Heap.get?_push_of_some _ e⟩ (fun b hb hne => ?_) rfl (fun i h st => ?_) (fun s' Q' E' st hQ => wpAny_pyIter_listiter st.1 hQ) U
  · rcases List.mem_cons.mp hb with q | hb
    · exact absurd q hne
    · rw [List.mem_singleton.mp hb]
      obtain ⟨o, ho, _⟩ := hl
      exact ⟨o, ho, hln⟩
  · obtain ⟨o, ho, _⟩ := st.1; exact ⟨o, ho⟩

theorem comp_range {r : Addr} {a b : Int} {t u v : Tok} {n : Nat} {x : Str} {px : Pos} {news0 : List (Addr × Obj)} {J : Nat → List Value → List (Addr × Obj) → Prop} {Z : Value → Shared → Prop} (hh : A.handled = none) (hr : IsRange s.heap r a b 1 t u v)
    (ha : -1000000 ≤ a) (ha' : a ≤ 1000000) (hb : -1000000 ≤ b) (hb' : b ≤ 1000000) (hn : (b - a).toNat = n)
    (U : CompUse prog w A env elt (.Name x px) ifs scope cl X n (fun i v => ∃ t, v = .int (a + (i : Int)) t) news0 J K s)
    (hz : ∀ it h₂, (∀ b o, s.heap.get? b = some o → h₂.get? b = some o) → CompAt prog w A env elt (.Name x px) ifs scope cl X (fun wr news0 D ys nx h tk => h₂.get? D = none → K D ys nx h tk) it { s with heap := h₂ } → Z it { s with heap := h₂ }) :
    wpAny (model prog w) A (pyIter (.ref r)) Z E s := by
  refine wpAny_pyIter_range hr (small_one (by omega) (by omega) (by omega) (by omega)) (hz _ _ (fun b o e => Heap.get?_push_of_some _ e) ?_)
  have W := KTurns.ofWalks (target := .Name x px) (LCg.range_walks (prog := prog) (w := w) (I := s.heap.objs.size) hh a n) (fun i v s' Q' E' st hQ' => wpAny_of_eq rfl hQ')
  refine comp_core (P := fun i v => ∃ t, v = .int (a + (i : Int)) t) rfl rfl W (fun i v h hp => hp) ?_ (fun b hb hne => absurd (List.mem_singleton.mp hb) hne) rfl (fun i h st => ⟨_, st⟩) (fun s' Q' E' st hQ => (LCg.range_walks (prog := prog) (w := w) (I := s.heap.objs.size) hh a n).self 0 _ _ _ st hQ) U
  show IsRangeIter _ _ _ _ _
  rw [rangeSize_nat, hn]
  simpa using Heap.get?_push_size _ rfl

theorem comp_bytes {l : List UInt8} {tb : Tok} {x : Str} {px : Pos} {news0 : List (Addr × Obj)} {J : Nat → List Value → List (Addr × Obj) → Prop} {Z : Value → Shared → Prop} (hh : A.handled = none)
    (U : CompUse prog w A env elt (.Name x px) ifs scope cl X l.length (fun i v => ∃ c t, l[i]? = some c ∧ v = .int (c.toNat : Int) t) news0 J K s)
    (hz : ∀ it h₂, (∀ b o, s.heap.get? b = some o → h₂.get? b = some o) → CompAt prog w A env elt (.Name x px) ifs scope cl X (fun wr news0 D ys nx h tk => h₂.get? D = none → K D ys nx h tk) it { s with heap := h₂ } → Z it { s with heap := h₂ }) :
    wpAny (model prog w) A (pyIter (.bytes l.toArray tb)) Z E s := by
  refine KBw.pyIter_bytes (hz _ _ (fun b o e => Heap.get?_push_of_some _ e) ?_)
  have W := KTurns.ofWalks (target := .Name x px) (KBw.walks (prog := prog) (w := w) hh s.heap.objs.size l.toArray tb) (fun i v s' Q' E' st hQ' => wpAny_of_eq rfl hQ')
  have e : l.toArray.size = l.length := List.size_toArray ..
  rw [e] at W
  refine comp_core (P := fun i v => ∃ c t, l[i]? = some c ∧ v = .int (c.toNat : Int) t) rfl rfl W (fun i v h hp => by simpa using hp) ⟨_, Heap.get?_push_size _ rfl, rfl, rfl⟩ (fun b hb hne => absurd (List.mem_singleton.mp hb) hne) rfl (fun i h st => ?_) (fun s' Q' E' st hQ => KBw.pyIter_self st hQ) U
  obtain ⟨o, ho, _⟩ := st; exact ⟨o, ho⟩
end
end Mine
namespace Mine
open PyProof.Rows.LCg (NsObj ns_obj lst lst_snoc)
theorem storesF {prog : Program} {w : World} {A : Around} {env : Env} {h₀ h : Heap} {L : Addr} {m : Str → Option Value} {y : Str} (F : Fr h₀ L h m) (hL : env.locals = L) (hy : env.kindOf y = some .local) (hp : (env.scope.kind == .class || (env.scope.kind == .module && env.locals != env.globals)) = false) :
    Stores prog w A env y L (fun o => NsObj o m) (fun v o => NsObj o (fun z => if z = y then some v else m z)) := by
  subst hL; exact stores_local hy hp
end Mine
end
section
open PySem PySem.W PySem.Calls PyProof.Rows
set_option Elab.async false
set_option maxRecDepth 100000
set_option linter.all false
namespace Mine
open PyProof.Rows.LCg (NsObj ns_obj lst lst_snoc)
section
variable {prog : Program} {w : World} {A : Around} {E : Value → Shared → Prop} {s : Shared} {g : Heap} {L D : Addr} {m : Str → Option Value} {R : List (Addr × Obj)} {vs : List Value} {n : Nat}
/-- the list of counts -/
def cntL (n : Nat) (c : Nat → Nat) (t : Nat → Tok) : List Value := (List.range n).map fun j => Value.int (c j : Int) (t j)
theorem cntL_length {c : Nat → Nat} {t : Nat → Tok} : (cntL n c t).length = n := by simp [cntL]
theorem cntL_get {c : Nat → Nat} {t : Nat → Tok} {j : Nat} (hj : j < n) : (cntL n c t)[j]? = some (.int (c j : Int) (t j)) := by simp [cntL, hj]
theorem cntL_set {c : Nat → Nat} {t : Nat → Tok} {j : Nat} {k : Nat} {u : Tok} (hj : j < n) : (cntL n c t).set j (.int (k : Int) u) = cntL n (upd c j k) (upd t j u) := by
  apply List.ext_getElem?
  intro i
  rw [List.getElem?_set]
  by_cases e : j = i
  · subst e; rw [if_pos rfl, if_pos (by simpa [cntL_length] using hj), cntL_get hj]; simp [upd]
  · rw [if_neg e]
    by_cases hi : i < n
    · rw [cntL_get hi, cntL_get hi]; simp [upd, Ne.symm e]
    · rw [List.getElem?_eq_none (by rw [cntL_length]; omega), List.getElem?_eq_none (by rw [cntL_length]; omega)]
theorem zeros_eq {k : Nat} {u : Tok} {i : Int} (hi : i.toNat = k) : (List.replicate i.toNat [Value.int 0 u]).flatten = cntL k (fun _ => 0) (fun _ => u) := by
  rw [hi]
  unfold cntL
  induction k generalizing i with
  | zero => rfl
  | succ k ih =>
    have := ih (i := (k : Int)) (by omega)
    rw [List.range_succ_eq_map, List.map_cons, List.map_map, List.replicate_succ, List.flatten_cons, this]; rfl
theorem set_at {k : Nat} {t : Tok} {v : Value} {Q : Unit → Shared → Prop} (F : Fr g L s.heap m) (N : News g L s.heap ((D, W.listOf vs.toArray n) :: R)) (hR : ∀ p ∈ R, p.1 ≠ D) (hk : k < vs.length) (hk2 : k < 1000000)
    (h : ∀ h', Fr g L h' m → News g L h' ((D, W.listOf (vs.set k v).toArray n) :: R) → Q () { s with heap := h' }) : wpAny (model prog w) A (setItem (.ref D) (.int (k : Int) t) v) Q E s := by
  have z := N _ (.head _)
  have hs : Heap.SameBut D s.heap (s.heap.update D (Obj.mapSeq (·.setIfInBounds (k : Int).toNat v))) := Heap.SameBut.update ..
  have q := PySem.IsL.update z.1 (·.setIfInBounds (k : Int).toNat v)
  refine ki_setAt z.1 (by omega) (by omega) (by rw [List.size_toArray]; omega) (h _ (F.change hs z.2.1 z.2.2) ?_)
  intro p hp
  rcases List.mem_cons.mp hp with rfl | hp
  · refine ⟨?_, z.2⟩
    rw [q]
    simp [Int.toNat_natCast]
  · have := N p (.tail _ hp)
    exact ⟨(hs.2 _ (hR p hp)).trans this.1, this.2⟩
theorem set_cnt {j : Nat} {c : Nat → Nat} {τ : Nat → Tok} {t u : Tok} {x : Int} {Q : Unit → Shared → Prop} (k : Nat) (F : Fr g L s.heap m) (N : News g L s.heap ((D, W.listOf (cntL n c τ).toArray 0) :: R)) (hR : ∀ p ∈ R, p.1 ≠ D) (hj : j < n) (hn : n < 1000000) (hx : x = (k : Int))
    (h : ∀ h', Fr g L h' m → News g L h' ((D, W.listOf (cntL n (upd c j k) (upd τ j u)).toArray 0) :: R) → Q () { s with heap := h' }) : wpAny (model prog w) A (setItem (.ref D) (.int (j : Int) t) (.int x u)) Q E s := by
  subst hx
  refine set_at F N hR (by rw [cntL_length]; exact hj) (by omega) fun h' F' N' => h h' F' ?_
  rw [cntL_set hj] at N'
  exact N'
theorem news_mid {h : Heap} {a : Addr × Obj} {own R : List (Addr × Obj)} (N : News g L h (a :: (own ++ R))) : News g L h (own ++ a :: R) := fun p hp => N p (by
  rcases List.mem_append.mp hp with hp | hp
  · exact .tail _ (List.mem_append.mpr (.inl hp))
  · rcases List.mem_cons.mp hp with rfl | hp
    · exact .head _
    · exact .tail _ (List.mem_append.mpr (.inr hp)))
theorem news_fst {h : Heap} {a : Addr × Obj} {own R : List (Addr × Obj)} (N : News g L h (own ++ a :: R)) : News g L h (a :: (own ++ R)) := fun p hp => N p (by
  rcases List.mem_cons.mp hp with rfl | hp
  · exact List.mem_append.mpr (.inr (.head _))
  · rcases List.mem_append.mp hp with hp | hp
    · exact List.mem_append.mpr (.inl hp)
    · exact List.mem_append.mpr (.inr (.tail _ hp)))
theorem store_cell {env : Env} {x : Str} {c : Addr} {oc : Obj} {v : Value} {v0 : Option Value} {Q : Unit → Shared → Prop} (F : Fr g L s.heap m) (N : News g L s.heap ((c, oc) :: R)) (hR : ∀ p ∈ R, p.1 ≠ c) (hd : oc.data = .cell v0)
    (hk : env.scope.kind = .function) (hx : env.kindOf x = some .cell) (hc : env.cells.lookup x = some c)
    (h : ∀ h' o' tk, o'.data = .cell (some v) → Fr g L h' m → News g L h' ((c, o') :: R) → Q () { s with heap := h', toks := tk }) : wpAny (model prog w) A (storeName env x v) Q E s := by
  have z := N _ (.head _)
  refine wpAny_storeName_cell hk hx hc ⟨oc, z.1, hd⟩ fun h' hv hs => ?_
  obtain ⟨o', ho', hd'⟩ := hv
  refine h h' o' _ hd' (F.change hs z.2.1 z.2.2) fun p hp => ?_
  rcases List.mem_cons.mp hp with rfl | hp
  · exact ⟨ho', z.2⟩
  · have := N p (.tail _ hp)
    exact ⟨(hs.2 _ (hR p hp)).trans this.1, this.2⟩
theorem sum_L {l : Addr} {ns : List Int} {Q : Value → Shared → Prop} (hh : A.handled = none) (F : Fr g L s.heap m) (N : News g L s.heap R) (hl : s.heap.IsList l vs.toArray) (hi : IntsAre vs ns)
    (h : ∀ h' tk t', Fr g L h' m → News g L h' R → Q (.int ns.sum t') { s with heap := h', toks := tk }) :
    wpAny (model prog w) A (call (.builtin "sum") [.ref l]) Q E s := by
  obtain ⟨xs, hx⟩ := hi.allInts.items
  have hn : numsOf vs.toArray.toList = ns := by rw [show vs.toArray.toList = vs from rfl, hi.numsOf]
  rw [hx] at hl hn
  rw [nums_intItems] at hn
  refine sum_intListG hh hl fun h' tk t' hk => ?_
  have := h h' tk t' (fr_keeps F hk) (news_keeps N hk)
  rw [preSum_eq, List.take_of_length_le (by simp), hn]
  exact this
theorem get_at {value slice : PySem.Expr} {sl : Addr} {i : Nat} {u : Tok} {v : Value} {Q : Value → Shared → Prop} (hL : s.heap.IsList sl vs.toArray) (hx : vs[i]? = some v) (hi : i < 100000) (h : Q v s)
    (hs : subscripted slice false (.ref sl) (.int (i : Int) u) = operate [.ref sl, .int (i : Int) u] (getItem (.ref sl) (.int (i : Int) u)) := by with_unfolding_all rfl) :
    wpAny (model prog w) A (subscriptTail value slice (.ref sl) (.int (i : Int) u)) Q E s :=
  tail_any hL.typeIs slot_list_getitem.lookup (wpAny_getItem_list hL (by omega) (by omega) (by simpa using hx) h) hs
end
section
variable {prog : Program} {w : World} {A : Around} {E : Value → Shared → Prop} {s : Shared} {env : Env} {h₀ : Heap} {body : List Stmt} {Q : Flow → Shared → Prop}
/-- the same, the list may stand in the ledger; nothing is turned -/
theorem enumLoopK {elts : List Expr} {k : Nat} {pos : Pos} {l : Addr} {vs : List Value} {m₀ : Str → Option Value} {news : List (Addr × Obj)} (J : Nat → (Str → Option Value) → List (Addr × Obj) → Prop)
    (hh : A.handled = none) (hl : s.heap.IsList l vs.toArray) (hlL : l ≠ env.locals) (F : Fr h₀ env.locals s.heap m₀) (N : News h₀ env.locals s.heap news) (h0 : J 0 m₀ news)
    (turn : ∀ (i : Nat) x T t m₁ nx h tk own, vs[i]? = some x → IsTup h T #[.int (i : Int) t, x] → nx.map (·.1) = news.map (·.1) → J i m₁ nx → Fr h₀ env.locals h m₁ → News h₀ env.locals h (own ++ nx) →
      wpAny (model prog w) A (assign (.Tuple elts k pos) env (.ref T)) (fun _ s₃ => wpAny (model prog w) A (execs body env) (TPost h₀ env.locals (J (i + 1)) own (news.map (·.1)) s Q) E s₃) E { s with heap := h, toks := tk })
    (done : ∀ h tk m nx, nx.map (·.1) = news.map (·.1) → J vs.length m nx → Fr h₀ env.locals h m → News h₀ env.locals h nx → Q .next { s with heap := h, toks := tk }) :
    wpAny (model prog w) A (call (.type "enumerate") [.ref l]) (fun xv s₁ => wpAny (model prog w) A (pyIter xv) (fun it s₂ => TurnsAt prog w A h₀ env (.Tuple elts k pos) body Q E it s₂) E s₁) E s := by
  have hlt : l < s.heap.objs.size := by obtain ⟨o, ho, _⟩ := hl; exact Heap.lt_size ho
  have hLs : env.locals < s.heap.objs.size := F.ns.lt
  have e1 : ∀ a : Addr, a < s.heap.objs.size → a ≠ s.heap.objs.size := fun a h => Nat.ne_of_lt h
  have e2 : ∀ a : Addr, a < s.heap.objs.size → a ≠ s.heap.objs.size + 1 := fun a h => Nat.ne_of_lt (Nat.lt_succ_of_lt h)
  have fresh : ∀ a, s.heap.objs.size ≤ a → h₀.get? a = none := fun a ha => by
    cases q : h₀.get? a with
    | none => rfl
    | some o => exact absurd (Heap.lt_size (F.keep a o q)) (Nat.not_lt.mpr ha)
  refine call_enumerate_list hl fun h' hE hI hsz hk => ?_
  refine wpAny_pyIter_enum hE ?_
  refine ⟨s.heap.objs.size + 1, [s.heap.objs.size + 1, s.heap.objs.size, l], [s.heap.objs.size + 1, s.heap.objs.size], vs.toArray.size, _, _, _, m₀, news, fun i m nx => nx.map (·.1) = news.map (·.1) ∧ J i m nx, rfl,
    KTurns.ofWalksU (WalksT.enumerate hh (s.heap.objs.size + 1) s.heap.objs.size l (Nat.succ_ne_self _) (e2 l hlt) (e1 l hlt) vs.toArray).toU, ?_, ?_, ?_, ⟨⟨_, hE⟩, hI, hl.at fun o x => hk _ o x⟩, fr_keeps F hk, news_keeps N hk, ⟨rfl, h0⟩, ?_, ?_⟩
  · intro hm
    simp only [List.mem_cons, List.not_mem_nil, or_false] at hm
    rcases hm with q | q | q
    · exact e2 _ hLs q
    · exact e1 _ hLs q
    · exact hlL q.symm
  · intro b hb
    simp only [List.mem_cons, List.not_mem_nil, or_false] at hb
    rcases hb with rfl | rfl
    · exact fresh _ (Nat.le_succ _)
    · exact fresh _ (Nat.le_refl _)
  · intro p hp hb
    have := Heap.lt_size (N p hp).1
    simp only [List.mem_cons, List.not_mem_nil, or_false] at hb
    rcases hb with q | q
    · exact e2 _ this q
    · exact e1 _ this q
  · rintro i v m₁ nx h₁ tk₁ own hi ⟨T, vals, rfl, ⟨t, x, hx, rfl⟩, hT⟩ ⟨ha, hJ⟩ hoff hown _ _ _ F₁ N₁
    refine wpAny_mono (turn i x T t m₁ nx h₁ tk₁ own (by simpa using hx) hT ha hJ F₁ N₁) (fun _ s₃ h₃ => wpAny_mono h₃ (fun f s₄ q => ?_) fun _ _ e => e) fun _ _ e => e
    have fin : (∃ h' tk m' nx', s₄ = { s with heap := h', toks := tk } ∧ Fr h₀ env.locals h' m' ∧ News h₀ env.locals h' (own ++ nx') ∧ nx'.map (·.1) = news.map (·.1) ∧ J (i + 1) m' nx') →
        LoopStepU h₀ env.locals [s.heap.objs.size + 1, s.heap.objs.size] own (fun m nx => nx.map (·.1) = news.map (·.1) ∧ J (i + 1) m nx) { s with heap := h₁, toks := tk₁ } .next s₄ := by
      rintro ⟨h', tk, m', nx', rfl, F', N', ha', hJ'⟩
      refine ⟨rfl, h', tk, m', nx', rfl, F', N', fun p hp => ?_, ha', hJ'⟩
      have : p.1 ∈ news.map (·.1) := ha' ▸ List.mem_map_of_mem hp
      obtain ⟨p', hp', e'⟩ := List.mem_map.mp this
      have h3 := Heap.lt_size (N p' hp').1
      simp only [List.mem_cons, List.not_mem_nil, or_false, not_or]
      rw [← e']
      exact ⟨e2 _ h3, e1 _ h3⟩
    cases f with
    | ret v => exact q
    | brk => exact q
    | next => exact fin q
    | cont => exact fin q
  · rintro h' tk m' nx F' N' _ ⟨ha, hJ⟩
    exact done h' tk m' nx ha (by simpa using hJ) F' N'

end
end Mine
end
section
open PySem PySem.W PySem.Calls PyProof.Rows
set_option Elab.async false
set_option maxRecDepth 100000
set_option linter.all false
namespace Mine
/-- what a walk's trace holds -/
def TrOk (o : List UInt8) (n : Nat) (σ : Nat → Sk) : Nat → List (Option Nat) → Prop
  | k, [] => k = o.length
  | k, none :: r => TrOk o n σ (k + 1) r
  | k, some i :: r => i < n ∧ 0 < (σ i).width ∧ (σ i).b ≤ k ∧ k + (σ i).width ≤ (σ i).e ∧ (σ i).e ≤ o.length ∧ ((σ i).kd ≠ .chars → lies o (σ i).want k = true) ∧ TrOk o n σ (k + (σ i).width) r
theorem TrOk.le {o : List UInt8} {n : Nat} {σ : Nat → Sk} : ∀ {r : List (Option Nat)} {k : Nat}, TrOk o n σ k r → k + r.length ≤ o.length
  | [], k, h => Nat.le_of_eq h
  | none :: r, k, h => by have := TrOk.le (r := r) h; simp only [List.length_cons]; omega
  | some i :: r, k, h => by have := TrOk.le (r := r) h.2.2.2.2.2.2; have := h.2.1; simp only [List.length_cons]; omega
theorem fit_lies {σ : Sk} {o : List UInt8} {k : Nat} (h : σ.fit o k = true) (hk : σ.kd ≠ .chars) : lies o σ.want k = true := by
  unfold Sk.fit at h
  split at h
  · cases h
  · (try rw [if_neg hk] at h)
    split at h
    · cases h
    · exact h
theorem reach_width (σ : Sk) (k : Nat) : (σ.reach k).width = σ.width := by
  unfold Sk.width; rw [(reach_same σ k).1, (reach_same σ k).2.1]
theorem trace_ok {o : List UInt8} {n : Nat} {σ : Nat → Sk} (hσ : ∀ j, j < n → (σ j).e ≤ o.length ∧ 0 < (σ j).width) : ∀ (f k : Nat) (σ' : Nat → Sk), SameK σ σ' → o.length - k ≤ f → k ≤ o.length → TrOk o n σ k (trace o n σ' k)
  | 0, k, σ', hs, hf, hk => by
    rw [trace, if_neg (by omega)]; show k = o.length; omega
  | f + 1, k, σ', hs, hf, hk => by
    rw [trace]
    split
    · rename_i hlt
      split
      · exact trace_ok hσ f (k + 1) _ (hs.trans (SameK.reachTo _ _ _)) (by omega) (by omega)
      · rename_i i hi
        have hin : i < n := by unfold takerTo at hi; exact List.mem_range.mp (List.mem_of_find?_eq_some hi)
        have hfit := takerTo_fit hi
        have hb := fit_bound hfit
        have hr := reach_same (σ' i) k
        have hw : (σ' i).width = (σ i).width := hs.width i
        have hsi := hs i
        rw [reach_width, hr.2.2.1, hr.2.2.2, hsi.2.2.1, hsi.2.2.2, hw] at hb
        obtain ⟨he, hp⟩ := hσ i hin
        refine ⟨hin, hp, hb.1, hb.2, he, fun hk => ?_, ?_⟩
        · have := fit_lies hfit (by rw [hr.1, hsi.1]; exact hk)
          rw [hr.2.1, hsi.2.1] at this; exact this
        · rw [hw, show max 1 (σ i).width = (σ i).width from by omega]
          refine trace_ok hσ f _ _ ?_ (by omega) (by omega)
          have h1 : SameK σ' (reachTo σ' k n) := SameK.reachTo _ _ _
          have h2 : reachTo σ' k n i = (σ' i).reach k := by simp [reachTo, hin]
          rw [← h2]
          exact (hs.trans h1).trans SameK.upd_took
    · show k = o.length; omega
/-- one exchange -/
def putIn (bys : Nat → List UInt8) (wd : Nat → Nat) (o : List UInt8) (q : Nat × Nat) : List UInt8 := o.take q.1 ++ bys q.2 ++ o.drop (q.1 + wd q.2)
def paint (o : List UInt8) (bys : Nat → List UInt8) (wd : Nat → Nat) : Nat → List (Option Nat) → List UInt8
  | _, [] => []
  | k, none :: r => o.getD k 0 :: paint o bys wd (k + 1) r
  | k, some i :: r => bys i ++ paint o bys wd (k + wd i) r
theorem fold_paint {o : List UInt8} {n : Nat} {σ : Nat → Sk} {bys : Nat → List UInt8} (hb : ∀ j, j < n → (bys j).length = (σ j).width) : ∀ (r : List (Option Nat)) (k : Nat) (pre : List UInt8), TrOk o n σ k r → pre.length = k →
    (foundOf (fun j => (σ j).width) k r).foldl (putIn bys (fun j => (σ j).width)) (pre ++ o.drop k) = pre ++ paint o bys (fun j => (σ j).width) k r
  | [], k, pre, h, hp => by
    rw [show k = o.length from h]
    simp [foundOf, paint]
  | none :: r, k, pre, h, hp => by
    have hk := TrOk.le (r := r) h
    have hlt : k < o.length := by omega
    rw [foundOf, paint, List.drop_eq_getElem_cons hlt]
    have := fold_paint hb r (k + 1) (pre ++ [o[k]]) h (by simp [hp])
    rw [List.append_assoc, List.append_assoc] at this
    rw [List.getD_eq_getElem?_getD, List.getElem?_eq_getElem hlt]
    exact this
  | some i :: r, k, pre, h, hp => by
    obtain ⟨hi, _, _, _, _, _, h⟩ := h
    rw [foundOf, paint, List.foldl_cons]
    have e : putIn bys (fun j => (σ j).width) (pre ++ o.drop k) (k, i) = (pre ++ bys i) ++ o.drop (k + (σ i).width) := by
      unfold putIn
      simp only
      rw [List.take_append_of_le_length (by omega), List.take_of_length_le (by omega), List.drop_append, List.drop_eq_nil_of_le (by omega), List.drop_drop, hp]
      simp
    rw [e, fold_paint hb r _ _ h (by rw [List.length_append, hb i hi, hp]), List.append_assoc]
theorem paint_all {o : List UInt8} {n : Nat} {σ : Nat → Sk} {bys : Nat → List UInt8} (hb : ∀ j, j < n → (bys j).length = (σ j).width) {r : List (Option Nat)} (h : TrOk o n σ 0 r) :
    (foundOf (fun j => (σ j).width) 0 r).foldl (putIn bys (fun j => (σ j).width)) o = paint o bys (fun j => (σ j).width) 0 r := by
  simpa using fold_paint hb r 0 [] h rfl
theorem found_length (wd : Nat → Nat) : ∀ (l : List (Option Nat)) (k : Nat), (foundOf wd k l).length ≤ l.length
  | [], _ => Nat.le_refl _
  | none :: l, k => by have := found_length wd l (k + 1); simp only [foundOf, List.length_cons]; omega
  | some i :: l, k => by have := found_length wd l (k + wd i); simp only [foundOf, List.length_cons]; omega
theorem fold_le {bys : Nat → List UInt8} {wd : Nat → Nat} : ∀ (l : List (Nat × Nat)) (o : List UInt8), (∀ q ∈ l, (bys q.2).length ≤ 10) → (l.foldl (putIn bys wd) o).length ≤ o.length + 10 * l.length
  | [], o, _ => by simp
  | q :: l, o, h => by
    have := fold_le (bys := bys) (wd := wd) l (putIn bys wd o q) fun p hp => h p (.tail _ hp)
    have h1 := h q (.head _)
    have h2 : (putIn bys wd o q).length ≤ o.length + 10 := by
      unfold putIn; simp only [List.length_append, List.length_take, List.length_drop]; omega
    rw [List.foldl_cons, List.length_cons]; omega
end Mine
end
section
open PySem PySem.W PySem.Calls PyProof.Rows
set_option Elab.async false
set_option maxRecDepth 100000
set_option linter.all false
namespace Mine
section
variable {o : List UInt8} {n : Nat} {σ : Nat → Sk}
def mkB (σ : Nat → Sk) (j : Nat) : List UInt8 := List.replicate (σ j).width (UInt8.ofNat (j + 1))
abbrev pnt (o : List UInt8) (σ : Nat → Sk) : Nat → List (Option Nat) → List UInt8 := paint o (mkB σ) (fun j => (σ j).width)
theorem ofNat_small {j : Nat} (hj : j < 8) : (UInt8.ofNat (j + 1)).toNat = j + 1 := by
  rw [UInt8.toNat_ofNat']; omega
theorem paint_length : ∀ {r : List (Option Nat)} {k : Nat}, TrOk o n σ k r → k + (pnt o σ k r).length = o.length
  | [], k, h => h
  | none :: r, k, h => by
    have := paint_length (r := r) (k := k + 1) h
    show k + ((pnt o σ (k + 1) r).length + 1) = o.length
    omega
  | some i :: r, k, h => by
    have := paint_length (r := r) h.2.2.2.2.2.2
    show k + (mkB σ i ++ pnt o σ (k + (σ i).width) r).length = o.length
    rw [List.length_append, show (mkB σ i).length = (σ i).width from List.length_replicate]
    omega
theorem paint_get (hn : n ≤ 4) : ∀ {r : List (Option Nat)} {k t : Nat} {c : UInt8}, TrOk o n σ k r → (pnt o σ k r)[t]? = some c → c.toNat ≤ 4 ∨ o[k + t]? = some c
  | [], k, t, c, h, e => by simp [pnt, paint] at e
  | none :: r, k, t, c, h, e => by
    have hk := TrOk.le (r := r) h
    have e' : (o.getD k 0 :: pnt o σ (k + 1) r)[t]? = some c := e
    cases t with
    | zero =>
      right
      rw [List.getElem?_cons_zero, List.getD_eq_getElem?_getD, List.getElem?_eq_getElem (by omega)] at e'
      rw [Nat.add_zero, List.getElem?_eq_getElem (by omega)]
      exact e'
    | succ t =>
      rw [List.getElem?_cons_succ] at e'
      have := paint_get hn (r := r) (k := k + 1) (t := t) h e'
      rwa [show k + (t + 1) = k + 1 + t from by omega]
  | some i :: r, k, t, c, h, e => by
    obtain ⟨hi, _, _, _, _, _, h⟩ := h
    have e' : (mkB σ i ++ pnt o σ (k + (σ i).width) r)[t]? = some c := e
    have hl : (mkB σ i).length = (σ i).width := List.length_replicate
    by_cases ht : t < (σ i).width
    · left
      rw [List.getElem?_append_left (by omega)] at e'
      have := List.eq_of_mem_replicate (List.mem_of_getElem? e')
      rw [this, ofNat_small (by omega)]; omega
    · rw [List.getElem?_append_right (by omega), hl] at e'
      have := paint_get hn (r := r) (t := t - (σ i).width) h e'
      rwa [show k + (σ i).width + (t - (σ i).width) = k + t from by omega] at this
theorem paint_plain (hn : n ≤ 4) (ho : ∀ c ∈ o, 4 < c.toNat) : ∀ {r : List (Option Nat)} {k : Nat}, TrOk o n σ k r → (pnt o σ k r).countP (fun c => decide (4 < c.toNat)) = r.count none
  | [], k, h => rfl
  | none :: r, k, h => by
    have hk := TrOk.le (r := r) h
    have hm : 4 < (o.getD k 0).toNat := by
      rw [List.getD_eq_getElem?_getD, List.getElem?_eq_getElem (by omega)]
      exact ho _ (List.getElem_mem _)
    show (o.getD k 0 :: pnt o σ (k + 1) r).countP _ = _
    rw [List.countP_cons, paint_plain hn ho (r := r) (k := k + 1) h, List.count_cons, if_pos (by simpa using hm)]
    simp
  | some i :: r, k, h => by
    obtain ⟨hi, _, _, _, _, _, h⟩ := h
    show (mkB σ i ++ pnt o σ (k + (σ i).width) r).countP _ = _
    rw [List.countP_append, paint_plain hn ho h, List.count_cons]
    have : (mkB σ i).countP (fun c => decide (4 < c.toNat)) = 0 := by
      rw [List.countP_eq_zero]
      intro c hc
      rw [List.eq_of_mem_replicate hc, ofNat_small (by omega)]
      simp; omega
    rw [this]; simp
/-- the place of the block walk -/
def BlkP (o mk : List UInt8) (n : Nat) (σ : Nat → Sk) (j tot k c : Nat) : Prop :=
  ∃ (i cnt : Nat) (r : List (Option Nat)), mk.drop k = List.replicate cnt (UInt8.ofNat (i + 1)) ++ pnt o σ (k + cnt) r ∧ TrOk o n σ (k + cnt) r ∧ (cnt = 0 ∨ (i ≠ j ∧ i < n)) ∧ c + r.count (some j) = tot
variable {mk : List UInt8} {j tot : Nat}
theorem getD_of_drop {l : List UInt8} {k : Nat} {x : UInt8} {r : List UInt8} (h : l.drop k = x :: r) : l.getD k 0 = x ∧ l.drop (k + 1) = r := by
  have h1 : l[k]? = some x := by
    have := congrArg (fun z => z[0]?) h
    simpa using this
  refine ⟨by rw [List.getD_eq_getElem?_getD, h1]; rfl, ?_⟩
  have := congrArg (List.drop 1) h
  rw [List.drop_drop] at this
  simpa using this
theorem blk_step1 (hn : n ≤ 4) (hj : j < n) {k c : Nat} (h : BlkP o mk n σ j tot k c) (hk : k < o.length) (hne : (mk.getD k 0).toNat ≠ j + 1) : BlkP o mk n σ j tot (k + 1) c := by
  obtain ⟨i, cnt, r, h1, h2, h3, h4⟩ := h
  cases cnt with
  | succ m =>
    rw [List.replicate_succ, List.cons_append] at h1
    obtain ⟨_, h5⟩ := getD_of_drop h1
    refine ⟨i, m, r, ?_, ?_, ?_, h4⟩
    · rw [h5, show k + 1 + m = k + (m + 1) from by omega]
    · rw [show k + 1 + m = k + (m + 1) from by omega]; exact h2
    · rcases h3 with h3 | h3
      · cases h3
      · exact .inr h3
  | zero =>
    rw [Nat.add_zero] at h1 h2
    rw [List.replicate_zero, List.nil_append] at h1
    cases r with
    | nil => exact absurd h2 (Nat.ne_of_lt hk)
    | cons a r =>
      cases a with
      | none =>
        obtain ⟨_, h5⟩ := getD_of_drop (h1.trans rfl)
        exact ⟨0, 0, r, by rw [h5]; rfl, h2, .inl rfl, by rw [List.count_cons] at h4; simpa using h4⟩
      | some i =>
        obtain ⟨hi, hw, _, _, _, _, h6⟩ := h2
        obtain ⟨m, hm⟩ : ∃ m, (σ i).width = m + 1 := ⟨(σ i).width - 1, by omega⟩
        have h7 : mk.drop k = UInt8.ofNat (i + 1) :: (List.replicate m (UInt8.ofNat (i + 1)) ++ pnt o σ (k + (σ i).width) r) := by
          have h0 : mk.drop k = List.replicate (σ i).width (UInt8.ofNat (i + 1)) ++ pnt o σ (k + (σ i).width) r := h1
          rw [h0]
          conv => lhs; lhs; rw [hm, List.replicate_succ]
          rfl
        obtain ⟨h8, h9⟩ := getD_of_drop h7
        have hij : i ≠ j := by
          rintro rfl
          rw [h8, ofNat_small (by omega)] at hne
          exact hne rfl
        refine ⟨i, m, r, ?_, ?_, .inr ⟨hij, hi⟩, ?_⟩
        · rw [h9, show k + 1 + m = k + (σ i).width from by omega]
        · rw [show k + 1 + m = k + (σ i).width from by omega]; exact h6
        · rw [List.count_cons] at h4
          simpa [hij] using h4
theorem blk_step2 (hn : n ≤ 4) (hj : j < n) (ho : ∀ c ∈ o, 4 < c.toNat) {k c : Nat} (h : BlkP o mk n σ j tot k c) (hk : k < o.length) (he : (mk.getD k 0).toNat = j + 1) :
    cutL mk k (k + (σ j).width) = List.replicate (σ j).width (UInt8.ofNat (j + 1)) ∧ ((σ j).kd ≠ .chars → lies o (σ j).want k = true) ∧ (σ j).b ≤ k ∧ k + (σ j).width ≤ (σ j).e ∧ BlkP o mk n σ j tot (k + (σ j).width) (c + 1) := by
  obtain ⟨i, cnt, r, h1, h2, h3, h4⟩ := h
  cases cnt with
  | succ m =>
    rw [List.replicate_succ, List.cons_append] at h1
    obtain ⟨h5, _⟩ := getD_of_drop h1
    rcases h3 with h3 | h3
    · cases h3
    · rw [h5, ofNat_small (by omega)] at he
      exact absurd (by omega) h3.1
  | zero =>
    rw [Nat.add_zero] at h1 h2
    rw [List.replicate_zero, List.nil_append] at h1
    cases r with
    | nil => exact absurd h2 (Nat.ne_of_lt hk)
    | cons a r =>
      cases a with
      | none =>
        obtain ⟨h5, _⟩ := getD_of_drop (h1.trans rfl)
        have hm : 4 < (o.getD k 0).toNat := by
          rw [List.getD_eq_getElem?_getD, List.getElem?_eq_getElem hk]
          exact ho _ (List.getElem_mem _)
        rw [h5] at he
        rw [Nat.add_zero] at he
        omega
      | some i =>
        obtain ⟨hi, hw, hb, hee, _, hl, h6⟩ := h2
        obtain ⟨m, hm⟩ : ∃ m, (σ i).width = m + 1 := ⟨(σ i).width - 1, by omega⟩
        have h0 : mk.drop k = List.replicate (σ i).width (UInt8.ofNat (i + 1)) ++ pnt o σ (k + (σ i).width) r := h1
        have h7 : mk.drop k = UInt8.ofNat (i + 1) :: (List.replicate m (UInt8.ofNat (i + 1)) ++ pnt o σ (k + (σ i).width) r) := by
          rw [h0]
          conv => lhs; lhs; rw [hm, List.replicate_succ]
          rfl
        obtain ⟨h8, _⟩ := getD_of_drop h7
        rw [h8, ofNat_small (by omega)] at he
        obtain rfl : i = j := by omega
        refine ⟨?_, hl, hb, hee, 0, 0, r, ?_, h6, .inl rfl, ?_⟩
        · unfold cutL
          rw [h0, show k + (σ i).width - k = (σ i).width from by omega, List.take_append_of_le_length (by simp), List.take_of_length_le (by simp)]
        · rw [← List.drop_drop, h0, List.drop_append_of_le_length (by simp), List.drop_eq_nil_of_le (by simp)]; rfl
        · rw [List.count_cons] at h4
          simp at h4; omega
theorem blk_end (hl : mk.length = o.length) {c : Nat} (h : BlkP o mk n σ j tot o.length c) : c = tot := by
  obtain ⟨i, cnt, r, h1, h2, h3, h4⟩ := h
  have := h2.le
  have hr : r = [] := List.length_eq_zero_iff.mp (by omega)
  subst hr
  simpa using h4
theorem blk_start {r : List (Option Nat)} (h : TrOk o n σ 0 r) : BlkP o (pnt o σ 0 r) n σ j (r.count (some j)) 0 0 :=
  ⟨0, 0, r, by simp, h, .inl rfl, by simp⟩
end
end Mine
end
section
open PySem PySem.W PySem.Calls PyProof.Rows
set_option Elab.async false
set_option maxRecDepth 100000
set_option linter.all false
namespace Mine
section
variable {o : List UInt8} {n : Nat}
theorem taker_congr {σ σ' : Nat → Sk} (h : ∀ j, j < n → σ' j = σ j) (k : Nat) : takerTo o σ' k n = takerTo o σ k n := by
  unfold takerTo
  have : ∀ l : List Nat, (∀ j ∈ l, j < n) → l.find? (fun j => ((σ' j).reach k).fit o k) = l.find? (fun j => ((σ j).reach k).fit o k) := by
    intro l
    induction l with
    | nil => intro _; rfl
    | cons a l ih =>
      intro hl
      rw [List.find?_cons, List.find?_cons, h a (hl a (.head _)), ih fun j hj => hl j (.tail _ hj)]
  exact this _ fun j hj => List.mem_range.mp hj
theorem taker_lt {σ : Nat → Sk} {k i : Nat} (h : takerTo o σ k n = some i) : i < n := by
  unfold takerTo at h; exact List.mem_range.mp (List.mem_of_find?_eq_some h)
theorem taker_next {σ : Nat → Sk} {k : Nat} : takerTo o σ k (n + 1) = (takerTo o σ k n).or (if ((σ n).reach k).fit o k then some n else none) := by
  unfold takerTo
  rw [List.range_succ, List.find?_append]
  congr 1
  rw [List.find?_cons]
  split <;> simp_all
theorem trace_end {σ : Nat → Sk} {k : Nat} (h : ¬ k < o.length) : trace o n σ k = [] := by rw [trace, if_neg h]
theorem trace_step {σ : Nat → Sk} {k : Nat} (h : k < o.length) : trace o n σ k = match takerTo o σ k n with
    | none => none :: trace o n (reachTo σ k n) (k + 1)
    | some i => some i :: trace o n (upd (reachTo σ k n) i (((σ i).reach k).took k)) (k + max 1 (σ i).width) := by
  rw [trace, if_pos h]
  all_goals (cases takerTo o σ k n <;> rfl)
/-- a row CHARACTERS behind all takes what none took -/
theorem trace_chars {σ0 : Nat → Sk} : ∀ (f k : Nat) (σ σ' : Nat → Sk), o.length - k ≤ f → (∀ j, j < n → σ' j = σ j) → (σ' n).kd = .chars → (σ' n).b = 0 → (σ' n).e = o.length →
    trace o (n + 1) σ' k = (trace o n σ k).map (fun z => match z with | none => some n | some j => some j)
  | 0, k, σ, σ', hf, h, hk, hb, he => by
    rw [trace_end (by omega), trace_end (by omega)]; rfl
  | f + 1, k, σ, σ', hf, h, hk, hb, he => by
    by_cases hlt : k < o.length
    · rw [trace_step (σ := σ') hlt, trace_step (σ := σ) hlt]
      have hr := reach_same (σ' n) k
      have hw : ((σ' n).reach k).width = 1 := by unfold Sk.width; rw [hr.1, hk, if_pos rfl]
      have hw' : (σ' n).width = 1 := by unfold Sk.width; rw [hk, if_pos rfl]
      have hfit : ((σ' n).reach k).fit o k = true := by
        unfold Sk.fit
        rw [hw, hr.2.2.1, hr.2.2.2, hb, he, if_neg (by omega), hr.1, hk, if_pos rfl]
      have hag : ∀ j, j < n → reachTo σ' k (n + 1) j = reachTo σ k n j := fun j hj => by
        unfold reachTo; rw [if_pos (by omega), if_pos hj, h j hj]
      have hn1 : reachTo σ' k (n + 1) n = (σ' n).reach k := by unfold reachTo; rw [if_pos (by omega)]
      rw [taker_next, taker_congr h, hfit, if_pos rfl]
      cases ht : takerTo o σ k n with
      | none =>
        simp only [Option.none_or, List.map_cons, hw', Nat.max_self]
        congr 1
        refine trace_chars (σ0 := σ0) f _ _ _ (by omega) (fun j hj => ?_) ?_ ?_ ?_
        · unfold upd; rw [if_neg (Nat.ne_of_lt hj)]; exact hag j hj
        · unfold upd; rw [if_pos rfl]; exact hr.1.trans hk
        · unfold upd; rw [if_pos rfl]; exact hr.2.2.1.trans hb
        · unfold upd; rw [if_pos rfl]; exact hr.2.2.2.trans he
      | some i =>
        have hi := taker_lt ht
        simp only [Option.some_or, List.map_cons, h i hi]
        congr 1
        have hne : n ≠ i := by omega
        refine trace_chars (σ0 := σ0) f _ _ _ (by omega) (fun j hj => ?_) ?_ ?_ ?_
        · unfold upd
          by_cases e : j = i
          · rw [if_pos e, if_pos e]
          · rw [if_neg e, if_neg e]; exact hag j hj
        · unfold upd; rw [if_neg hne, hn1]; exact hr.1.trans hk
        · unfold upd; rw [if_neg hne, hn1]; exact hr.2.2.1.trans hb
        · unfold upd; rw [if_neg hne, hn1]; exact hr.2.2.2.trans he
    · rw [trace_end hlt, trace_end hlt]; rfl
/-- what ties a row that is said again to its first -/
def Twin (k : Nat) (a b : Sk) : Prop := b.kd = a.kd ∧ b.want = a.want ∧ b.b = a.b ∧ b.e = a.e ∧ (a.kd = .lead → b.lead = a.lead ∨ ∃ p, b.lead = some p ∧ p < k)
theorem Twin.reach {k : Nat} {a b : Sk} (h : Twin k a b) : Twin k (a.reach k) (b.reach k) ∧ ((b.reach k).fit o k = true → (a.reach k).fit o k = true) := by
  obtain ⟨h1, h2, h3, h4, h5⟩ := h
  have ra := reach_same a k
  have rb := reach_same b k
  have hl : a.kd = .lead → (b.reach k).lead = (a.reach k).lead ∨ ∃ p, (b.reach k).lead = some p ∧ p < k := fun hk => by
    rcases h5 hk with e | ⟨p, e, hp⟩
    · left
      unfold Sk.reach
      rw [h3, h4, e]
      split
      · rfl
      · exact e
    · right
      refine ⟨p, ?_, hp⟩
      unfold Sk.reach
      rw [if_neg (by rw [e]; simp)]
      exact e
  refine ⟨⟨by rw [rb.1, ra.1, h1], by rw [rb.2.1, ra.2.1, h2], by rw [rb.2.2.1, ra.2.2.1, h3], by rw [rb.2.2.2, ra.2.2.2, h4], fun hk => hl (ra.1 ▸ hk)⟩, fun hf => ?_⟩
  have hw : (b.reach k).width = (a.reach k).width := by unfold Sk.width; rw [rb.1, ra.1, rb.2.1, ra.2.1, h1, h2]
  unfold Sk.fit at hf ⊢
  rw [hw, rb.1, rb.2.1, rb.2.2.1, rb.2.2.2, h1, h2, h3, h4] at hf
  rw [ra.1, ra.2.1, ra.2.2.1, ra.2.2.2]
  split at hf
  · cases hf
  · rename_i c1
    rw [if_neg c1]
    split at hf
    · rename_i c2; rw [if_pos c2]
    · rename_i c2
      rw [if_neg c2]
      split at hf
      · cases hf
      · rename_i c3
        rw [if_neg ?_]
        · exact hf
        · rintro ⟨c4, c5⟩
          have c6 : (b.reach k).lead = some k := Classical.byContradiction fun q => c3 ⟨c4, q⟩
          rcases hl c4 with e | ⟨p, e, hp⟩
          · exact c5 (e ▸ c6)
          · rw [c6] at e; cases e; exact Nat.lt_irrefl _ hp
theorem Twin.mono {k m : Nat} {a b : Sk} (h : Twin k a b) (hm : k ≤ m) : Twin m a b := by
  obtain ⟨h1, h2, h3, h4, h5⟩ := h
  refine ⟨h1, h2, h3, h4, fun hk => ?_⟩
  rcases h5 hk with e | ⟨p, e, hp⟩
  · exact .inl e
  · exact .inr ⟨p, e, by omega⟩
theorem Twin.took {k m : Nat} {a b : Sk} (h : Twin k a b) (hf : a.fit o k = true) (hm : k < m) : Twin m (a.took k) b := by
  obtain ⟨h1, h2, h3, h4, h5⟩ := h
  refine ⟨h1, h2, h3, h4, fun hk => ?_⟩
  right
  have hk' : a.kd = .lead := hk
  rcases h5 hk' with e | ⟨p, e, hp⟩
  · have : a.lead = some k := by
      unfold Sk.fit at hf
      split at hf
      · cases hf
      · rw [hk'] at hf
        simp at hf
        exact hf.1
    exact ⟨k, e.trans this, hm⟩
  · exact ⟨p, e, by omega⟩
/-- a row said again behind all takes nothing -/
theorem trace_again {d : Nat} (hd : d < n) : ∀ (f k : Nat) (σ σ' : Nat → Sk), o.length - k ≤ f → (∀ j, j < n → σ' j = σ j) → Twin k (σ d) (σ' n) → trace o (n + 1) σ' k = trace o n σ k
  | 0, k, σ, σ', hf, h, ht => by
    rw [trace_end (by omega), trace_end (by omega)]
  | f + 1, k, σ, σ', hf, h, ht => by
    by_cases hlt : k < o.length
    · rw [trace_step (σ := σ') hlt, trace_step (σ := σ) hlt]
      obtain ⟨ht1, ht2⟩ := ht.reach (o := o)
      have hag : ∀ j, j < n → reachTo σ' k (n + 1) j = reachTo σ k n j := fun j hj => by
        unfold reachTo; rw [if_pos (by omega), if_pos hj, h j hj]
      have hn1 : reachTo σ' k (n + 1) n = (σ' n).reach k := by unfold reachTo; rw [if_pos (by omega)]
      have hd1 : reachTo σ k n d = (σ d).reach k := by unfold reachTo; rw [if_pos hd]
      have htk : takerTo o σ' k (n + 1) = takerTo o σ k n := by
        rw [taker_next, taker_congr h]
        cases hc : takerTo o σ k n with
        | some i => rfl
        | none =>
          rw [Option.none_or]
          split
          · rename_i hq
            have := ht2 hq
            unfold takerTo at hc
            rw [List.find?_eq_none] at hc
            exact absurd this (hc d (List.mem_range.mpr hd))
          · rfl
      rw [htk]
      cases hc : takerTo o σ k n with
      | none =>
        simp only
        congr 1
        exact trace_again hd f _ _ _ (by omega) hag (by rw [hn1, hd1]; exact ht1.mono (Nat.le_succ _))
      | some i =>
        have hi := taker_lt hc
        simp only [h i hi]
        congr 1
        have hne : n ≠ i := by omega
        refine trace_again hd f _ _ _ (by omega) (fun j hj => ?_) ?_
        · unfold upd
          by_cases e : j = i
          · rw [if_pos e, if_pos e]
          · rw [if_neg e, if_neg e]; exact hag j hj
        · have e1 : upd (reachTo σ' k (n + 1)) i (((σ i).reach k).took k) n = (σ' n).reach k := by unfold upd; rw [if_neg hne, hn1]
          rw [e1]
          unfold upd
          by_cases e : d = i
          · rw [if_pos e]
            subst e
            exact ht1.took (takerTo_fit hc) (by omega)
          · rw [if_neg e, hd1]; exact ht1.mono (by omega)
    · rw [trace_end hlt, trace_end hlt]
/-- the sum over the rows -/
def sumW (n : Nat) (σ : Nat → Sk) (r : List (Option Nat)) : Nat := ((List.range n).map fun j => r.count (some j) * (σ j).width).sum
theorem sum_bump (n : Nat) (f : Nat → Nat) (i c : Nat) : ((List.range n).map fun j => f j + if j = i then c else 0).sum = ((List.range n).map f).sum + if i < n then c else 0 := by
  induction n with
  | zero => rfl
  | succ n ih =>
    rw [List.range_succ, List.map_append, List.map_append, List.sum_append_nat, List.sum_append_nat, ih]
    simp only [List.map_cons, List.map_nil, List.sum_cons, List.sum_nil, Nat.add_zero]
    by_cases h1 : n = i
    · subst h1; rw [if_pos rfl, if_neg (Nat.lt_irrefl _), if_pos (Nat.lt_succ_self _)]; omega
    · rw [if_neg h1]
      by_cases h2 : i < n
      · rw [if_pos h2, if_pos (by omega)]; omega
      · rw [if_neg h2, if_neg (by omega)]; omega
theorem trace_sum {σ : Nat → Sk} : ∀ {r : List (Option Nat)} {k : Nat}, TrOk o n σ k r → k + (r.count none + sumW n σ r) = o.length
  | [], k, h => by
    have : sumW n σ [] = 0 := by
      unfold sumW
      have : ∀ l : List Nat, (l.map fun j => ([] : List (Option Nat)).count (some j) * (σ j).width).sum = 0 := fun l => by
        induction l with
        | nil => rfl
        | cons a l ih => rw [List.map_cons, List.sum_cons, ih]; simp
      exact this _
    rw [this]
    have h' : k = o.length := h
    simpa using h'
  | none :: r, k, h => by
    have := trace_sum (r := r) (k := k + 1) h
    have e : sumW n σ (none :: r) = sumW n σ r := by
      unfold sumW
      simp [List.count_cons]
    rw [e, List.count_cons]
    simp
    omega
  | some i :: r, k, h => by
    obtain ⟨hi, _, _, _, _, _, h⟩ := h
    have := trace_sum h
    have e : sumW n σ (some i :: r) = sumW n σ r + (σ i).width := by
      unfold sumW
      have := sum_bump n (fun j => r.count (some j) * (σ j).width) i (σ i).width
      rw [if_pos hi] at this
      rw [← this]
      congr 1
      refine List.map_congr_left fun j _ => ?_
      rw [List.count_cons]
      by_cases e : j = i
      · subst e; simp [Nat.add_mul]
      · simp [e, Ne.symm e]
    rw [e, List.count_cons]; simp; omega
end
end Mine
end
section
open PySem PySem.W PySem.Calls PyProof.Rows
set_option Elab.async false
set_option maxRecDepth 100000
set_option linter.all false
namespace Mine
def traceF (o : List UInt8) (n : Nat) : Nat → (Nat → Sk) → Nat → List (Option Nat)
  | 0, _, _ => []
  | f + 1, σ, k => if k < o.length then (match takerTo o σ k n with
      | none => none :: traceF o n f (reachTo σ k n) (k + 1)
      | some i => some i :: traceF o n f (upd (reachTo σ k n) i (((σ i).reach k).took k)) (k + max 1 (σ i).width)) else []
theorem trace_F {o : List UInt8} {n : Nat} : ∀ (f : Nat) (σ : Nat → Sk) (k : Nat), o.length - k ≤ f → trace o n σ k = traceF o n f σ k
  | 0, σ, k, h => by rw [trace_end (by omega)]; rfl
  | f + 1, σ, k, h => by
    unfold traceF
    by_cases hk : k < o.length
    · rw [trace_step hk, if_pos hk]
      cases takerTo o σ k n with
      | none => exact congrArg _ (trace_F f _ _ (by omega))
      | some i => exact congrArg _ (trace_F f _ _ (by omega))
    · rw [trace_end hk, if_neg hk]
/-- the counts, as a list -/
def cntsOf (o : List UInt8) (rs : List Rw) : List Int := (List.range rs.length).map fun j => (((trace o rs.length (skOf o rs) 0).count (some j) : Nat) : Int)
def cntsF (o : List UInt8) (rs : List Rw) : List Int := (List.range rs.length).map fun j => (((traceF o rs.length o.length (skOf o rs) 0).count (some j) : Nat) : Int)
theorem cnts_F (o : List UInt8) (rs : List Rw) : cntsOf o rs = cntsF o rs := by
  unfold cntsOf cntsF; rw [trace_F o.length _ _ (by omega)]
theorem cnt_ints {n : Nat} {c : Nat → Nat} {t : Nat → Tok} : IntsAre (cntL n c t) ((List.range n).map fun j => ((c j : Nat) : Int)) := by
  unfold cntL
  induction List.range n with
  | nil => exact .nil
  | cons a l ih => exact .cons _ _ ih
theorem wr1 : cntsOf [65, 65, 65] [⟨.all, [65, 65], none, none⟩] = [1] := by rw [cnts_F]; decide +kernel
theorem wr2 : cntsOf [65, 66, 65, 66] [⟨.lead, [65, 66], none, none⟩, ⟨.all, [66], none, none⟩] = [2, 0] := by rw [cnts_F]; decide +kernel
theorem wr3 : cntsOf [67, 65, 66, 65, 66] [⟨.lead, [65, 66], none, none⟩, ⟨.chars, [], some [66], some [67]⟩] = [0, 1] := by rw [cnts_F]; decide +kernel
theorem wr4 : cntsOf [67, 65, 66, 65, 66] [⟨.lead, [65, 66], none, some [67]⟩, ⟨.chars, [], none, none⟩] = [2, 1] := by rw [cnts_F]; decide +kernel
theorem wr5 : cntsOf [66, 65, 66, 65, 67] [⟨.all, [66, 65, 66], none, none⟩, ⟨.all, [65], some [67], some [66]⟩, ⟨.chars, [], none, none⟩] = [1, 1, 1] := by rw [cnts_F]; decide +kernel
end Mine
end
section
open PySem PySem.W PySem.Calls PyProof.Rows
set_option Elab.async false
set_option maxRecDepth 100000
set_option linter.all false
namespace Mine
open PyProof.Rows.LCg (NsObj ns_obj lst lst_snoc)
/-- a row of the written list -/
def WrAt (h : Heap) (v : Value) (o : List UInt8) (rs : List Rw) (cs : List Int) : Prop :=
  ∃ (T lr lc : Addr) (t : Tok) (vs : List Value), v = .ref T ∧ h.get? T = some (tupObj #[.bytes o.toArray t, .ref lr, .ref lc]) ∧ RowsAt h lr rs ∧ h.IsList lc vs.toArray ∧ IntsAre vs cs
def Has (h : Heap) (N : List (Addr × Obj)) : Prop := ∀ p ∈ N, h.get? p.1 = some p.2
section
variable {M : Model} {A : Around} {env : Env}
/-- what a written value comes to: new objects N, and X of it wherever they stand -/
structure Ev (M : Model) (A : Around) (env : Env) (e : PySem.Expr) (X : Value → Heap → Prop) : Prop where
  go : ∀ (s : Shared) (Q E : Value → Shared → Prop), (∀ h' tk v N, (∀ b o, s.heap.get? b = some o → h'.get? b = some o) → (∀ p ∈ N, h'.get? p.1 = some p.2 ∧ s.heap.get? p.1 = none) → (∀ h, Has h N → X v h) → Q v { s with heap := h', toks := tk }) → wpAny M A (eval e env) Q E s
structure EvL (M : Model) (A : Around) (env : Env) (es : List PySem.Expr) (X : List Value → Heap → Prop) : Prop where
  go : ∀ (pos : Pos) (s : Shared) (Q : List Value → Shared → Prop) (E : Value → Shared → Prop), (∀ h' tk vs N, vs.length = es.length → (∀ b o, s.heap.get? b = some o → h'.get? b = some o) → (∀ p ∈ N, h'.get? p.1 = some p.2 ∧ s.heap.get? p.1 = none) → (∀ h, Has h N → X vs h) → Q vs { s with heap := h', toks := tk }) → wpAny M A (spliced (backTo pos (starEach es env))) Q E s
theorem Ev.imp {e : PySem.Expr} {X Y : Value → Heap → Prop} (H : Ev M A env e X) (f : ∀ v h, X v h → Y v h) : Ev M A env e Y :=
  ⟨fun s Q E k => H.go s Q E fun h' tk v N a b c => k h' tk v N a b fun h hh => f _ _ (c h hh)⟩
theorem ev_none {k : Nat} {pos : Pos} : Ev M A env (.Constant .none k pos) (fun v _ => v = .none) := ⟨fun s Q E h =>
  Constant_none (h s.heap s.toks _ [] (fun _ _ e => e) (fun _ h => nomatch h) fun _ _ => rfl)⟩
theorem ev_int {i : Int} {k : Nat} {pos : Pos} : Ev M A env (.Constant (.int i) k pos) (fun v _ => ∃ t, v = .int i t) := ⟨fun s Q E h =>
  wpAny_Constant_int (h s.heap _ _ [] (fun _ _ e => e) (fun _ h => nomatch h) fun _ _ => ⟨_, rfl⟩)⟩
theorem ev_str {x : Str} {k : Nat} {pos : Pos} : Ev M A env (.Constant (.str x) k pos) (fun v _ => ∃ t, v = .str x t) := ⟨fun s Q E h =>
  wpAny_Constant_str (h s.heap _ _ [] (fun _ _ e => e) (fun _ h => nomatch h) fun _ _ => ⟨_, rfl⟩)⟩
theorem ev_bytes {x : List UInt8} {k : Nat} {pos : Pos} : Ev M A env (.Constant (.bytes x) k pos) (fun v _ => ∃ t, v = .bytes x.toArray t) := ⟨fun s Q E h =>
  Constant_bytes (h s.heap _ _ [] (fun _ _ e => e) (fun _ h => nomatch h) fun _ _ => ⟨_, rfl⟩)⟩
theorem star_tup {a : List PySem.Expr} {b : Nat} {c : Pos} {es : List PySem.Expr} : starEach (.Tuple a b c :: es) env = (false, eval (.Tuple a b c) env) :: starEach es env := rfl
theorem evL_nil : EvL M A env [] (fun vs _ => vs = []) := ⟨fun pos s Q E h =>
  spliced_none (h s.heap s.toks [] [] rfl (fun _ _ e => e) (fun _ h => nomatch h) fun _ _ => rfl)⟩
theorem evL_cons {e : PySem.Expr} {es : List PySem.Expr} {X : Value → Heap → Prop} {XL : List Value → Heap → Prop} (H : Ev M A env e X) (HL : EvL M A env es XL) (he : starEach (e :: es) env = (false, eval e env) :: starEach es env := by rfl) :
    EvL M A env (e :: es) (fun vs h => ∃ v r, vs = v :: r ∧ X v h ∧ XL r h) := ⟨fun pos s Q E k =>
  spliced_more (H.go s _ E fun h1 tk1 v N1 a1 b1 c1 => HL.go pos _ _ E fun h2 tk2 vs N2 hl a2 b2 c2 =>
    k h2 tk2 (v :: vs) (N1 ++ N2) (by simp [hl]) (fun b o e => a2 b o (a1 b o e)) (fun p hp => by
      rcases List.mem_append.mp hp with hp | hp
      · exact ⟨a2 _ _ (b1 p hp).1, (b1 p hp).2⟩
      · exact ⟨(b2 p hp).1, none_before a1 (b2 p hp).2⟩)
      fun h hh => ⟨v, vs, rfl, c1 h fun p hp => hh p (List.mem_append.mpr (.inl hp)), c2 h fun p hp => hh p (List.mem_append.mpr (.inr hp))⟩) he⟩
theorem ev_seq {h₁ : Heap} {o : Obj} {N : List (Addr × Obj)} (X : Heap → Prop) (hX : ∀ h, Has h N → X h) :
    ∀ h, Has h ((h₁.objs.size, o) :: N) → h.get? h₁.objs.size = some o ∧ X h := fun h hh => ⟨hh _ (.head _), hX h fun p hp => hh p (.tail _ hp)⟩
theorem ev_tuple {es : List PySem.Expr} {k : Nat} {pos : Pos} {XL : List Value → Heap → Prop} (HL : EvL M A env es XL) (hz : es.length ≤ 100 := by decide) :
    Ev M A env (.Tuple es k pos) (fun v h => ∃ T vs, v = .ref T ∧ h.get? T = some (tupObj vs.toArray) ∧ XL vs h) := ⟨fun s Q E kk =>
  Tuple_ (HL.go _ _ _ E fun h1 tk1 vs N1 hl a1 b1 c1 => wpAny_newTuple (kk _ tk1 _ ((h1.objs.size, tupObj vs.toArray) :: N1) (fun b o e => Heap.get?_push_of_some _ (a1 b o e)) (fun p hp => by
      rcases List.mem_cons.mp hp with rfl | hp
      · exact ⟨Heap.get?_push_size _ rfl, none_before a1 (none_of_size (Nat.le_refl _))⟩
      · exact ⟨Heap.get?_push_of_some _ (b1 p hp).1, (b1 p hp).2⟩)
      fun h hh => ⟨_, vs, rfl, (ev_seq (fun h => XL vs h) c1 h hh)⟩) (by rw [sizeLine_eq]; omega))⟩
theorem ev_list {es : List PySem.Expr} {pos : Pos} {XL : List Value → Heap → Prop} (HL : EvL M A env es XL) (hz : es.length ≤ 100 := by decide) :
    Ev M A env (.List es pos) (fun v h => ∃ T vs, v = .ref T ∧ h.get? T = some (W.listOf vs.toArray 0) ∧ XL vs h) := ⟨fun s Q E kk =>
  List_ (HL.go _ _ _ E fun h1 tk1 vs N1 hl a1 b1 c1 => wpAny_newList (kk _ tk1 _ ((h1.objs.size, W.listOf vs.toArray 0) :: N1) (fun b o e => Heap.get?_push_of_some _ (a1 b o e)) (fun p hp => by
      rcases List.mem_cons.mp hp with rfl | hp
      · exact ⟨Heap.get?_push_size _ rfl, none_before a1 (none_of_size (Nat.le_refl _))⟩
      · exact ⟨Heap.get?_push_of_some _ (b1 p hp).1, (b1 p hp).2⟩)
      fun h hh => ⟨_, vs, rfl, (ev_seq (fun h => XL vs h) c1 h hh)⟩) (by rw [sizeLine_eq]; omega))⟩
/-- an option of bytes -/
theorem ev_optN {k : Nat} {pos : Pos} : Ev M A env (.Constant .none k pos) (fun v _ => ∃ t, v = optV none t) := ev_none.imp fun v h e => ⟨0, e⟩
theorem ev_optS {l : List UInt8} {k : Nat} {pos : Pos} : Ev M A env (.Constant (.bytes l) k pos) (fun v _ => ∃ t, v = optV (some l) t) := ev_bytes
/-- a row -/
def RowV (r : Rw) (v : Value) (h : Heap) : Prop := ∃ T t1 t2 t3 t4, v = Value.ref T ∧ h.get? T = some (rowObj r t1 t2 t3 t4)
theorem ev_rowW {kd : Kd} {want : List UInt8} {bef aft : Option (List UInt8)} {y : Str} {eb ea : PySem.Expr} {k1 k2 k3 : Nat} {p1 p2 p3 : Pos} (hB : Ev M A env eb (fun v _ => ∃ t, v = optV bef t)) (hA : Ev M A env ea (fun v _ => ∃ t, v = optV aft t))
    (hb : ∀ r, starEach (eb :: r) env = (false, eval eb env) :: starEach r env) (ha : ∀ r, starEach (ea :: r) env = (false, eval ea env) :: starEach r env)
    (hy : y = kd.s := by rfl) (hk : kd ≠ .chars := by decide) :
    Ev M A env (.Tuple [.Constant (.str y) k1 p1, .Constant (.bytes want) k2 p2, eb, ea] k3 p3) (RowV ⟨kd, want, bef, aft⟩) := by
  subst hy
  refine (ev_tuple (evL_cons ev_str (evL_cons ev_bytes (evL_cons hB (evL_cons hA evL_nil (ha _)) (hb _)))) (by show 4 ≤ 100; decide)).imp ?_
  rintro v h ⟨T, vs, rfl, hT, v1, r1, rfl, ⟨t1, rfl⟩, v2, r2, rfl, ⟨t2, rfl⟩, v3, r3, rfl, ⟨t3, rfl⟩, v4, r4, rfl, ⟨t4, rfl⟩, rfl⟩
  refine ⟨T, t1, t2, t3, t4, rfl, hT.trans ?_⟩
  cases kd with
  | chars => exact absurd rfl hk
  | all => rfl
  | lead => rfl
theorem ev_rowC {bef aft : Option (List UInt8)} {y : Str} {eb ea : PySem.Expr} {k1 k2 k3 : Nat} {p1 p2 p3 : Pos} (hB : Ev M A env eb (fun v _ => ∃ t, v = optV bef t)) (hA : Ev M A env ea (fun v _ => ∃ t, v = optV aft t))
    (hb : ∀ r, starEach (eb :: r) env = (false, eval eb env) :: starEach r env) (ha : ∀ r, starEach (ea :: r) env = (false, eval ea env) :: starEach r env)
    (hy : y = Kd.chars.s := by rfl) :
    Ev M A env (.Tuple [.Constant (.str y) k1 p1, .Constant .none k2 p2, eb, ea] k3 p3) (RowV ⟨.chars, [], bef, aft⟩) := by
  subst hy
  refine (ev_tuple (evL_cons ev_str (evL_cons ev_none (evL_cons hB (evL_cons hA evL_nil (ha _)) (hb _)))) (by show 4 ≤ 100; decide)).imp ?_
  rintro v h ⟨T, vs, rfl, hT, v1, r1, rfl, ⟨t1, rfl⟩, v2, r2, rfl, rfl, v3, r3, rfl, ⟨t3, rfl⟩, v4, r4, rfl, ⟨t4, rfl⟩, rfl⟩
  exact ⟨T, t1, 0, t3, t4, rfl, hT⟩
def RowsV (rs : List Rw) (vs : List Value) (h : Heap) : Prop := All2 (fun v r => RowV r v h) vs rs
theorem evR_nil : EvL M A env [] (RowsV []) := ⟨fun pos s Q E k => evL_nil.go pos s Q E fun h' tk vs N hl a b c => k h' tk vs N hl a b fun h hh => by rw [c h hh]; exact .nil⟩
theorem evR_cons {r : Rw} {rs : List Rw} {e : PySem.Expr} {es : List PySem.Expr} (H : Ev M A env e (RowV r)) (HL : EvL M A env es (RowsV rs)) (he : starEach (e :: es) env = (false, eval e env) :: starEach es env := by rfl) : EvL M A env (e :: es) (RowsV (r :: rs)) :=
  ⟨fun pos s Q E k => (evL_cons H HL he).go pos s Q E fun h' tk vs N hl a b c => k h' tk vs N hl a b fun h hh => by
    obtain ⟨v, r', rfl, h1, h2⟩ := c h hh
    exact .cons h1 h2⟩
theorem ev_rows {rs : List Rw} {es : List PySem.Expr} {pos : Pos} (HL : EvL M A env es (RowsV rs)) (hz : es.length ≤ 100 := by decide) : Ev M A env (.List es pos) (fun v h => ∃ l, v = .ref l ∧ RowsAt h l rs) :=
  (ev_list HL hz).imp fun v h ⟨T, vs, e, hT, hX⟩ => ⟨T, e, vs, 0, hT, hX⟩
theorem evI_nil : EvL M A env [] (fun vs _ => IntsAre vs []) := ⟨fun pos s Q E k => evL_nil.go pos s Q E fun h' tk vs N hl a b c => k h' tk vs N hl a b fun h hh => by rw [c h hh]; exact .nil⟩
theorem evI_cons {i : Int} {is : List Int} {k : Nat} {p : Pos} {es : List PySem.Expr} (HL : EvL M A env es (fun vs _ => IntsAre vs is)) : EvL M A env (.Constant (.int i) k p :: es) (fun vs _ => IntsAre vs (i :: is)) :=
  ⟨fun pos s Q E kk => (evL_cons ev_int HL (by rfl)).go pos s Q E fun h' tk vs N hl a b c => kk h' tk vs N hl a b fun h hh => by
    obtain ⟨v, r', rfl, ⟨t, rfl⟩, h2⟩ := c h hh
    exact .cons _ _ h2⟩
theorem ev_ints {is : List Int} {es : List PySem.Expr} {pos : Pos} (HL : EvL M A env es (fun vs _ => IntsAre vs is)) (hz : es.length ≤ 100 := by decide) : Ev M A env (.List es pos) (fun v h => ∃ l vs, v = .ref l ∧ h.IsList l (vs : List Value).toArray ∧ IntsAre vs is) :=
  (ev_list HL hz).imp fun v h ⟨T, vs, e, hT, hX⟩ => ⟨T, vs, e, ⟨_, hT, rfl, _, rfl⟩, hX⟩
theorem ev_wr {o : List UInt8} {rs : List Rw} {cs : List Int} {es is : List PySem.Expr} {k1 k2 : Nat} {p1 p2 p3 p4 : Pos} (hR : EvL M A env es (RowsV rs)) (hI : EvL M A env is (fun vs _ => IntsAre vs cs))
    (hz : es.length ≤ 100 := by decide) (hz' : is.length ≤ 100 := by decide) : Ev M A env (.Tuple [.Constant (.bytes o) k1 p1, .List es p2, .List is p3] k2 p4) (fun v h => WrAt h v o rs cs) := by
  refine (ev_tuple (evL_cons ev_bytes (evL_cons (ev_rows hR hz) (evL_cons (ev_ints hI hz') evL_nil (by rfl)) (by rfl)) (by rfl)) (by show 3 ≤ 100; decide)).imp ?_
  rintro v h ⟨T, vs, rfl, hT, v1, r1, rfl, ⟨t1, rfl⟩, v2, r2, rfl, ⟨lr, rfl, hr⟩, v3, r3, rfl, ⟨lc, ws, rfl, hl, hi⟩, rfl⟩
  exact ⟨T, lr, lc, t1, ws, rfl, hT, hr, hl, hi⟩
/-- the use: in a frame with its ledger -/
theorem ev_use {e : PySem.Expr} {X : Value → Heap → Prop} {s : Shared} {g : Heap} {L : Addr} {m : Str → Option Value} {a : Addr × Obj} {R : List (Addr × Obj)} {Q E : Value → Shared → Prop} (H : Ev M A env e X) (F : Fr g L s.heap m) (N : News g L s.heap (a :: R)) (hR : ∀ p ∈ R, @Ne Nat p.1 a.1)
    (h : ∀ h' tk v N1, Fr g L h' m → News g L h' (a :: (N1 ++ R)) → (∀ p ∈ N1 ++ R, @Ne Nat p.1 a.1) → (∀ h, Has h N1 → X v h) → Q v { s with heap := h', toks := tk }) : wpAny M A (eval e env) Q E s := by
  refine H.go s Q E fun h' tk v N1 k1 b1 c1 => h h' tk v N1 (fr_keeps F k1) ?_ ?_ c1
  · intro p hp
    rcases List.mem_cons.mp hp with rfl | hp
    · exact ⟨k1 _ _ (N _ (.head _)).1, (N _ (.head _)).2⟩
    · rcases List.mem_append.mp hp with hp | hp
      · obtain ⟨oL, _, _, hL, _⟩ := F.ns
        exact ⟨(b1 p hp).1, ne_of_none (b1 p hp).2 hL, none_before F.keep (b1 p hp).2⟩
      · have := N p (.tail _ hp)
        exact ⟨k1 _ _ this.1, this.2⟩
  · intro p hp
    rcases List.mem_append.mp hp with hp | hp
    · exact ne_of_none (b1 p hp).2 (N _ (.head _)).1
    · exact hR p hp
theorem evl_use {es : List PySem.Expr} {pos : Pos} {X : List Value → Heap → Prop} {s : Shared} {g : Heap} {L : Addr} {m : Str → Option Value} {R : List (Addr × Obj)} {Q E : Value → Shared → Prop} (H : EvL M A env es X) (hz : es.length ≤ 100) (F : Fr g L s.heap m) (N : News g L s.heap R)
    (h : ∀ h' tk l vs N1, Fr g L h' m → News g L h' ((l, W.listOf (vs : List Value).toArray 0) :: (N1 ++ R)) → (∀ p ∈ N1 ++ R, @Ne Nat p.1 l) → (∀ h, Has h N1 → X vs h) → Q (.ref l) { s with heap := h', toks := tk }) : wpAny M A (eval (.List es pos) env) Q E s := by
  refine List_ (H.go _ _ _ E fun h1 tk1 vs N1 hl k1 b1 c1 => wpAny_newList (h _ tk1 _ vs N1 (fr_keeps (fr_keeps F k1) fun b o e => Heap.get?_push_of_some _ e) ?_ ?_ c1) (by rw [sizeLine_eq]; omega))
  · obtain ⟨oL, _, _, hL, _⟩ := F.ns
    intro p hp
    rcases List.mem_cons.mp hp with rfl | hp
    · exact ⟨Heap.get?_push_size _ rfl, ne_of_none (none_of_size (Nat.le_refl _)) (k1 _ _ hL), none_before F.keep (none_before k1 (none_of_size (Nat.le_refl _)))⟩
    · rcases List.mem_append.mp hp with hp | hp
      · exact ⟨Heap.get?_push_of_some _ (b1 p hp).1, ne_of_none (b1 p hp).2 hL, none_before F.keep (b1 p hp).2⟩
      · have := N p hp
        exact ⟨Heap.get?_push_of_some _ (k1 _ _ this.1), this.2⟩
  · intro p hp
    rcases List.mem_append.mp hp with hp | hp
    · exact Nat.ne_of_lt (Heap.lt_size (b1 p hp).1)
    · exact Nat.ne_of_lt (Heap.lt_size (k1 _ _ (N p hp).1))
end
section
variable {w : World} {prog : Program} {A : Around} {E : Value → Shared → Prop} {s : Shared} {g : Heap} {L : Addr} {m : Str → Option Value} {R : List (Addr × Obj)}
theorem push_snoc (vs : List Value) (y : Value) : vs.toArray.push y = (vs ++ [y]).toArray := by simp
theorem append_L {D : Addr} {vs : List Value} {n : Nat} {y : Value} {Q : Value → Shared → Prop} (F : Fr g L s.heap m) (N : News g L s.heap ((D, W.listOf vs.toArray n) :: R)) (hR : ∀ p ∈ R, @Ne Nat p.1 D) (hz : vs.length ≤ 1000)
    (h : ∀ h', Fr g L h' m → News g L h' ((D, W.listOf (vs ++ [y]).toArray (n + 1)) :: R) → Q .none { s with heap := h' }) : wpAny (model prog w) A (call (.builtin "list.append") [.ref D, y]) Q E s := by
  have z := N _ (.head _)
  refine append_at (hsz := by rw [List.size_toArray, sizeLine_eq]; omega) z.1 fun h₆ hs₆ hD₆ => h h₆ (F.change hs₆ z.2.1 z.2.2) fun p hp => ?_
  rcases List.mem_cons.mp hp with rfl | hp
  · refine ⟨hD₆.trans ?_, z.2⟩
    rw [push_snoc]
  · have := N p (.tail _ hp)
    exact ⟨hs₆.extBut _ _ (hR p hp) this.1, this.2⟩
theorem app_row {env : Env} {pos : Pos} {e : PySem.Expr} {X : Value → Heap → Prop} {D : Addr} {vs : List Value} {n : Nat} {Q : Value → Shared → Prop} (H : Ev (model prog w) A env e X) (he : starEach [e] env = (false, eval e env) :: starEach [] env)
    (F : Fr g L s.heap m) (N : News g L s.heap ((D, W.listOf vs.toArray n) :: R)) (hR : ∀ p ∈ R, @Ne Nat p.1 D) (hz : vs.length ≤ 1000)
    (h : ∀ h' tk v N1, Fr g L h' m → News g L h' ((D, W.listOf (vs ++ [v]).toArray (n + 1)) :: (N1 ++ R)) → (∀ p ∈ N1 ++ R, @Ne Nat p.1 D) → (∀ h, Has h N1 → X v h) → Q .none { s with heap := h', toks := tk }) :
    wpAny (model prog w) A (callWith pos (.builtin "list.append") [.ref D] (backTo pos (starEach [e] env)) []) Q E s := by
  refine callWith_method1 ?_ he rfl
  refine spliced_more ?_ he
  refine ev_use H F N hR fun h1 tk1 v N1 F1 N1' hR1 W1 => ?_
  refine spliced_none ?_
  exact append_L (s := { s with heap := h1, toks := tk1 }) F1 N1' hR1 hz fun h2 F2 N2 => h h2 tk1 v N1 F2 N2 hR1 W1
end
end Mine
end
section
open PySem PySem.W PySem.Calls PyProof.Rows
set_option Elab.async false
set_option maxRecDepth 100000
set_option linter.all false
namespace Mine
section
variable {M : Model} {A : Around} {env : Env}
theorem ev_w1 {k1 k3 k5 k7 k9 k11 k14 k17 : Nat} {p2 p4 p6 p8 p10 p12 p13 p15 p16 p18 : Pos} : Ev M A env (.Tuple [.Constant (.bytes [65, 65, 65]) k11 p12, .List [.Tuple [.Constant (.str (Str.ofString "ALL")) k1 p2, .Constant (.bytes [65, 65]) k3 p4, .Constant .none k5 p6, .Constant .none k7 p8] k9 p10] p13, .List [.Constant (.int 1) k14 p15] p16] k17 p18) (fun v h => WrAt h v [65, 65, 65] [⟨.all, [65, 65], none, none⟩] [1]) := by
  refine ev_wr ?_ ?_ ?_ ?_
  · refine evR_cons ?_ ?_ star_tup
    · exact ev_rowW (kd := .all) ev_optN ev_optN (fun _ => rfl) (fun _ => rfl) (by with_reducible rfl) (by decide)
    exact evR_nil
  · refine evI_cons ?_
    exact evI_nil
  · exact (by decide : 1 ≤ 100)
  · exact (by decide : 1 ≤ 100)
theorem ev_w2 {k19 k21 k23 k25 k27 k29 k31 k33 k35 k37 k39 k42 k44 k47 : Nat} {p20 p22 p24 p26 p28 p30 p32 p34 p36 p38 p40 p41 p43 p45 p46 p48 : Pos} : Ev M A env (.Tuple [.Constant (.bytes [65, 66, 65, 66]) k39 p40, .List [.Tuple [.Constant (.str (Str.ofString "LEADING")) k19 p20, .Constant (.bytes [65, 66]) k21 p22, .Constant .none k23 p24, .Constant .none k25 p26] k27 p28, .Tuple [.Constant (.str (Str.ofString "ALL")) k29 p30, .Constant (.bytes [66]) k31 p32, .Constant .none k33 p34, .Constant .none k35 p36] k37 p38] p41, .List [.Constant (.int 2) k42 p43, .Constant (.int 0) k44 p45] p46] k47 p48) (fun v h => WrAt h v [65, 66, 65, 66] [⟨.lead, [65, 66], none, none⟩, ⟨.all, [66], none, none⟩] [2, 0]) := by
  refine ev_wr ?_ ?_ ?_ ?_
  · refine evR_cons ?_ ?_ star_tup
    · exact ev_rowW (kd := .lead) ev_optN ev_optN (fun _ => rfl) (fun _ => rfl) (by with_reducible rfl) (by decide)
    refine evR_cons ?_ ?_ star_tup
    · exact ev_rowW (kd := .all) ev_optN ev_optN (fun _ => rfl) (fun _ => rfl) (by with_reducible rfl) (by decide)
    exact evR_nil
  · refine evI_cons ?_
    refine evI_cons ?_
    exact evI_nil
  · exact (by decide : 2 ≤ 100)
  · exact (by decide : 2 ≤ 100)
theorem ev_w3 {k49 k51 k53 k55 k57 k59 k61 k63 k65 k67 k69 k72 k74 k77 : Nat} {p50 p52 p54 p56 p58 p60 p62 p64 p66 p68 p70 p71 p73 p75 p76 p78 : Pos} : Ev M A env (.Tuple [.Constant (.bytes [67, 65, 66, 65, 66]) k69 p70, .List [.Tuple [.Constant (.str (Str.ofString "LEADING")) k49 p50, .Constant (.bytes [65, 66]) k51 p52, .Constant .none k53 p54, .Constant .none k55 p56] k57 p58, .Tuple [.Constant (.str (Str.ofString "CHARACTERS")) k59 p60, .Constant .none k61 p62, .Constant (.bytes [66]) k63 p64, .Constant (.bytes [67]) k65 p66] k67 p68] p71, .List [.Constant (.int 0) k72 p73, .Constant (.int 1) k74 p75] p76] k77 p78) (fun v h => WrAt h v [67, 65, 66, 65, 66] [⟨.lead, [65, 66], none, none⟩, ⟨.chars, [], (some [66]), (some [67])⟩] [0, 1]) := by
  refine ev_wr ?_ ?_ ?_ ?_
  · refine evR_cons ?_ ?_ star_tup
    · exact ev_rowW (kd := .lead) ev_optN ev_optN (fun _ => rfl) (fun _ => rfl) (by with_reducible rfl) (by decide)
    refine evR_cons ?_ ?_ star_tup
    · exact ev_rowC ev_optS ev_optS (fun _ => rfl) (fun _ => rfl) (by with_reducible rfl)
    exact evR_nil
  · refine evI_cons ?_
    refine evI_cons ?_
    exact evI_nil
  · exact (by decide : 2 ≤ 100)
  · exact (by decide : 2 ≤ 100)
theorem ev_w4 {k79 k81 k83 k85 k87 k89 k91 k93 k95 k97 k99 k102 k104 k107 : Nat} {p80 p82 p84 p86 p88 p90 p92 p94 p96 p98 p100 p101 p103 p105 p106 p108 : Pos} : Ev M A env (.Tuple [.Constant (.bytes [67, 65, 66, 65, 66]) k99 p100, .List [.Tuple [.Constant (.str (Str.ofString "LEADING")) k79 p80, .Constant (.bytes [65, 66]) k81 p82, .Constant .none k83 p84, .Constant (.bytes [67]) k85 p86] k87 p88, .Tuple [.Constant (.str (Str.ofString "CHARACTERS")) k89 p90, .Constant .none k91 p92, .Constant .none k93 p94, .Constant .none k95 p96] k97 p98] p101, .List [.Constant (.int 2) k102 p103, .Constant (.int 1) k104 p105] p106] k107 p108) (fun v h => WrAt h v [67, 65, 66, 65, 66] [⟨.lead, [65, 66], none, (some [67])⟩, ⟨.chars, [], none, none⟩] [2, 1]) := by
  refine ev_wr ?_ ?_ ?_ ?_
  · refine evR_cons ?_ ?_ star_tup
    · exact ev_rowW (kd := .lead) ev_optN ev_optS (fun _ => rfl) (fun _ => rfl) (by with_reducible rfl) (by decide)
    refine evR_cons ?_ ?_ star_tup
    · exact ev_rowC ev_optN ev_optN (fun _ => rfl) (fun _ => rfl) (by with_reducible rfl)
    exact evR_nil
  · refine evI_cons ?_
    refine evI_cons ?_
    exact evI_nil
  · exact (by decide : 2 ≤ 100)
  · exact (by decide : 2 ≤ 100)
theorem ev_w5 {k109 k111 k113 k115 k117 k119 k121 k123 k125 k127 k129 k131 k133 k135 k137 k139 k142 k144 k146 k149 : Nat} {p110 p112 p114 p116 p118 p120 p122 p124 p126 p128 p130 p132 p134 p136 p138 p140 p141 p143 p145 p147 p148 p150 : Pos} : Ev M A env (.Tuple [.Constant (.bytes [66, 65, 66, 65, 67]) k139 p140, .List [.Tuple [.Constant (.str (Str.ofString "ALL")) k109 p110, .Constant (.bytes [66, 65, 66]) k111 p112, .Constant .none k113 p114, .Constant .none k115 p116] k117 p118, .Tuple [.Constant (.str (Str.ofString "ALL")) k119 p120, .Constant (.bytes [65]) k121 p122, .Constant (.bytes [67]) k123 p124, .Constant (.bytes [66]) k125 p126] k127 p128, .Tuple [.Constant (.str (Str.ofString "CHARACTERS")) k129 p130, .Constant .none k131 p132, .Constant .none k133 p134, .Constant .none k135 p136] k137 p138] p141, .List [.Constant (.int 1) k142 p143, .Constant (.int 1) k144 p145, .Constant (.int 1) k146 p147] p148] k149 p150) (fun v h => WrAt h v [66, 65, 66, 65, 67] [⟨.all, [66, 65, 66], none, none⟩, ⟨.all, [65], (some [67]), (some [66])⟩, ⟨.chars, [], none, none⟩] [1, 1, 1]) := by
  refine ev_wr ?_ ?_ ?_ ?_
  · refine evR_cons ?_ ?_ star_tup
    · exact ev_rowW (kd := .all) ev_optN ev_optN (fun _ => rfl) (fun _ => rfl) (by with_reducible rfl) (by decide)
    refine evR_cons ?_ ?_ star_tup
    · exact ev_rowW (kd := .all) ev_optS ev_optS (fun _ => rfl) (fun _ => rfl) (by with_reducible rfl) (by decide)
    refine evR_cons ?_ ?_ star_tup
    · exact ev_rowC ev_optN ev_optN (fun _ => rfl) (fun _ => rfl) (by with_reducible rfl)
    exact evR_nil
  · refine evI_cons ?_
    refine evI_cons ?_
    refine evI_cons ?_
    exact evI_nil
  · exact (by decide : 3 ≤ 100)
  · exact (by decide : 3 ≤ 100)
end
end Mine
end
section
open PySem PySem.W PySem.Calls PyProof.Rows
namespace Mine
-- own lines for the walk
local macro_rules | `(tactic| walk_at "subscriptTail") => `(tactic| (k_here; (with_reducible show wpAny _ _ (subscriptTail _ (Expr.Slice (some _) (some _) none _) (Value.bytes _ _) (Value.ref _)) _ _ _); (with_reducible rename Fr _ _ _ _ => F'); (with_reducible rename News _ _ _ _ => N'); (refine slice_B (s := ⟨_, _, _, _, _⟩) F' N' (by omega) (by omega) (by omega) ?_); intro h' _ _ F' N'))
local macro_rules | `(tactic| walk_at "exec For Name Call cons nil") => `(tactic| (k_here; (rename Fr _ _ _ _ => lF'); (with_unfolding_all refine' For_invVF lF' ?k1 ?k2 ?_; (case k1 => exact rfl); (case k2 => exact rfl); k_whole)))
local macro_rules | `(tactic| walk_at "pyIter ref") => `(tactic| ((with_reducible show wpAny _ _ (pyIter (Value.ref _)) (fun it s₂ => LoopAtV _ _ _ _ _ _ _ _ _ it s₂) _ _); refine Stop.mk ?_))
-- the entry of a def (no object turned)
local macro_rules | `(tactic| ktr_unf) => `(tactic| (refine wpAny_call ?_; refine' enterW [] (by assumption) (by assumption) (by simp) ?k6 ?k7 ?k8 ?k9 ?kB ?_ ?c2 ?c3 ?c4 ?c5; (case k6 => k_is); (case k7 => k_is); (case k8 => (unfold recursionLimit; omega)); (case k9 => exact BindsTo.of_eq rfl); (case kB => exact locs rfl); (case c2 => exact rfl); (case c3 => exact rfl); (case c4 => exact rfl); (case c5 => decide)))
local macro_rules | `(tactic| walk_at "unpackItems") => `(tactic| (k_here; (refine' unpackItemsN_ ?F ?N ?T ?k1 ?k2 ?_; (case F => k_asm); (case N => k_asm); (case T => first | with_reducible assumption | (refine News.isTup (by k_asm) (by k_mem))); (case k1 => with_unfolding_all assumption); (case k2 => exact rfl)); intro h' F' N'))
local macro_rules | `(tactic| walk_at "assign Tuple") => `(tactic| (k_here; (with_reducible show wpAny _ _ (assign (Expr.Tuple _ _ _) _ (Value.ref _)) _ _ _); (refine' unpackN_ ?F ?N ?T ?k1 ?k2 ?k3 ?_; (case F => k_asm); (case N => k_asm); (case T => first | with_reducible assumption | (refine News.isTup (by k_asm) (by k_mem))); (case k1 => with_unfolding_all assumption); (case k2 => exact rfl); (case k3 => exact rfl)); intro h' F' N'))
-- names in a comprehension's block
local macro_rules | `(tactic| walk_at "eval Name") => `(tactic| (k_here; (with_reducible show wpAny _ _ (eval (Expr.Name _ _) (compEnvC _ _ _ _)) _ _ _); (with_reducible rename Fr _ _ _ _ => F'); k_dflt (first
  | (refine' nameL_C F' ?v ?_ ?a ?b; (case a => rfl); (case b => rfl); (case v => rfl); k_whole)
  | (refine' nameC_C F' ?c ?o ?d ?_ ?a ?b; (case a => rfl); (case b => rfl); (case c => rfl); (case o => k_asm); (case d => k_asm); k_whole)
  | (refine' nameF_C F' ?c ?o ?d ?_ ?a ?b; (case a => rfl); (case b => rfl); (case c => rfl); (case o => k_asm); (case d => k_asm); k_whole)
  | (refine' nameG_C F' ?X ?T ?e ?_ ?g ?a ?b; (case a => rfl); (case b => rfl); (case g => rfl); (case X => k_asm); (case T => k_asm); (case e => k_is); k_whole)
  | (refine' nameB_C F' ?X ?T ?e ?v ?n ?_ ?g ?h ?a ?b; (case a => rfl); (case b => rfl); (case g => rfl); (case h => rfl); (case X => k_asm); (case T => k_asm); (case e => k_is); (case v => boot_fast); (case n => decide); k_whole))))
local macro_rules | `(tactic| walk_at "storeName") => `(tactic| (k_here; (with_reducible show wpAny _ _ (storeName (compEnvC _ _ _ _) _ _) _ _ _); (with_reducible rename Fr _ _ _ _ => F'); (with_reducible rename News _ _ _ _ => N'); k_dflt (refine' storeL_C F' N' ?_ ?a ?b; (case a => rfl); (case b => rfl)); intro h' F' N'))
section
open PySem PySem.W PySem.Calls PyProof.Rows
set_option Elab.async false
set_option maxRecDepth 100000
set_option maxHeartbeats 20000000
set_option pp.deepTerms false
set_option pp.maxSteps 700
set_option linter.all false
local macro_rules | `(tactic| walk_at "exec Assign cons ListComp") => `(tactic| refine Stop.mk ?_)
local macro_rules | `(tactic| walk_at "eval ListComp") => `(tactic| refine Stop.mk ?_)
local macro_rules | `(tactic| walk_at "forIn") => `(tactic| refine wpAny_tests_nil ?_)
local macro_rules | `(tactic| walk_at "pyIter ref") => `(tactic| ((with_reducible show wpAny _ _ (pyIter (Value.ref _)) _ _ _); refine Stop.mk ?_))
section
variable {w : World} {A : Around} {s : Shared} {mean : ExcName → Option Value} {mg mb : Str → Option Value} {h₀ : Heap} {Q E : Value → Shared → Prop}

theorem lies_at_spec {o x : List UInt8} {k : Int} {t1 t2 t3 : Tok} (G : Gd w mean mg mb h₀) (st : ∀ b o, h₀.get? b = some o → s.heap.get? b = some o)
    (hh : A.handled = none) (hd : A.depth + 10 < 1000) (hu : A.units + 100 < 9900) (h0 : 0 ≤ k) (hk : k ≤ 100) (ho : o.length ≤ 100) (hx : x.length ≤ 100)
    (ret : ∀ h' tk, (∀ b o, s.heap.get? b = some o → h'.get? b = some o) → Q (.bool (cutL o k.toNat (k.toNat + x.length) == x)) { s with heap := h', toks := tk }) :
    wpAny (model PySem.Challenge.pw_pb0230_01 w) A (call (.ref 69) [.bytes o.toArray t1, .bytes x.toArray t2, .int k t3]) Q E s := by
  ktr_unf
  intro g L h₁ hsg hgs F N hg X T
  try dsimp only
  try k_fold
  k_steps
  have e : (k + ↑x.toArray.size).toNat = k.toNat + x.length := by rw [List.size_toArray]; omega
  rw [e]
  with_reducible rename Fr _ _ _ _ => F9
  exact ret _ _ (keep0 hsg F9)
end
end
section
open PySem PySem.W PySem.Calls PyProof.Rows
set_option Elab.async false
set_option maxRecDepth 100000
set_option maxHeartbeats 20000000
set_option pp.deepTerms false
set_option pp.maxSteps 700
set_option linter.all false
local macro_rules | `(tactic| walk_at "exec Assign cons ListComp") => `(tactic| refine Stop.mk ?_)
local macro_rules | `(tactic| walk_at "eval ListComp") => `(tactic| refine Stop.mk ?_)
local macro_rules | `(tactic| walk_at "forIn") => `(tactic| refine wpAny_tests_nil ?_)
local macro_rules | `(tactic| walk_at "pyIter ref") => `(tactic| ((with_reducible show wpAny _ _ (pyIter (Value.ref _)) _ _ _); refine Stop.mk ?_))
local macro_rules | `(tactic| walk_at "call ref") => `(tactic| (k_here; (with_reducible show wpAny _ _ (call (Value.ref 69) _) _ _ _); (with_reducible rename Fr _ _ _ _ => F'); (with_reducible rename News _ _ _ _ => N'); (refine lies_at_spec (Gd.mk (by k_asm) (by k_asm)) (Fr.keep F') (by assumption) (by simp only [depth_deeper, depth_in1]; omega) (by simp only [units_deeper, units_in1]; omega) (by omega) (by omega) (by omega) (by omega) ?_); intro h' _ hk'; (have F' := fr_keeps F' hk'); (have N' := news_keeps N' hk')))
section
variable {w : World} {A : Around} {s : Shared} {mean : ExcName → Option Value} {mg mb : Str → Option Value} {h₀ : Heap} {Q E : Value → Shared → Prop}
theorem first_at_spec {o x : List UInt8} {t1 t2 t3 : Tok} (G : Gd w mean mg mb h₀) (st : ∀ b o, h₀.get? b = some o → s.heap.get? b = some o)
    (hh : A.handled = none) (hd : A.depth + 20 < 1000) (hu : A.units + 200 < 9900) (ho : o.length ≤ 100) (hx : x.length ≤ 100) (hx0 : 0 < x.length)
    (ret : ∀ h' tk t, (∀ b o, s.heap.get? b = some o → h'.get? b = some o) → Q (.int (firstI o x) t) { s with heap := h', toks := tk }) :
    wpAny (model PySem.Challenge.pw_pb0230_01 w) A (call (.ref 76) [.bytes o.toArray t1, .bytes x.toArray t2, .int 0 t3]) Q E s := by
  ktr_unf
  intro g L h₁ hsg hgs F N hg X T
  try dsimp only
  try k_fold
  k_steps
  · rename_i hz; simp only [List.size_toArray] at hz; omega
  · unfold Stop
    with_reducible rename Fr _ _ _ _ => F9
    with_reducible rename News _ _ _ _ => N9
    with_reducible rename IsRange _ _ _ _ _ _ _ _ => hr
    simp only [List.size_toArray] at hr
    refine rangeLoop0 (n := o.length) (fun i => ∀ j, j < i → lies o x j = false) hh hr (by omega) (by omega) (by omega) (by omega) (by omega) F9 N9 (by omega) ?_ ?_
    · rintro i t h tk own hi hj F₁ N₁
      try k_fold
      k_steps
      · with_reducible rename Fr _ _ _ _ => F8
        rename_i hl
        rw [show (0 + (i : Int)).toNat = i by omega] at hl
        show Q _ _
        have e : firstI o x = 0 + (i : Int) := by rw [firstI_some hi hl hj]; omega
        rw [← e]
        exact ret _ _ _ (keep0 hsg F8)
      · with_reducible rename Fr _ _ _ _ => F8
        with_reducible rename News _ _ _ _ => N8
        rename_i hl
        rw [show (0 + (i : Int)).toNat = i by omega] at hl
        exact ⟨_, _, _, rfl, F8, N8, fun y hy => if_neg hy, fun j hj' => (Nat.lt_succ_iff_lt_or_eq.mp hj').elim (hj j) fun e => e ▸ hl⟩
    · intro u h tk hj F₁ N₁
      dsimp only
      try k_fold
      k_steps
      with_reducible rename Fr _ _ _ _ => F8
      have e := firstI_none hj
      show Q _ _
      rw [← e]
      exact ret _ _ _ (keep0 hsg F8)
end
end
section
open PySem PySem.W PySem.Calls PyProof.Rows
set_option Elab.async false
set_option maxRecDepth 100000
set_option maxHeartbeats 20000000
set_option pp.deepTerms false
set_option pp.maxSteps 700
set_option linter.all false
local macro_rules | `(tactic| walk_at "exec Assign cons ListComp") => `(tactic| refine Stop.mk ?_)
local macro_rules | `(tactic| walk_at "eval ListComp") => `(tactic| refine Stop.mk ?_)
local macro_rules | `(tactic| walk_at "forIn") => `(tactic| refine wpAny_tests_nil ?_)
local macro_rules | `(tactic| walk_at "pyIter ref") => `(tactic| ((with_reducible show wpAny _ _ (pyIter (Value.ref _)) _ _ _); refine Stop.mk ?_))
section
variable {w : World} {A : Around} {s : Shared} {mean : ExcName → Option Value} {mg mb : Str → Option Value} {h₀ : Heap} {Q E : Value → Shared → Prop} {x dx : Addr} {t : Nat → Tok} {σ : Sk}
theorem width_spec (G : Gd w mean mg mb h₀) (st : ∀ b o, h₀.get? b = some o → s.heap.get? b = some o)
    (hh : A.handled = none) (hd : A.depth + 10 < 1000) (hu : A.units + 100 < 9900) (hN : ∀ p ∈ skObjs w.params x dx t σ, s.heap.get? p.1 = some p.2 ∧ h₀.get? p.1 = none) (hz : σ.want.length ≤ 100)
    (ret : ∀ h' tk t, (∀ b o, s.heap.get? b = some o → h'.get? b = some o) → Q (.int (σ.width : Int) t) { s with heap := h', toks := tk }) :
    wpAny (model PySem.Challenge.pw_pb0230_01 w) A (call (.ref 111) [.ref x]) Q E s := by
  obtain ⟨kd, want, b, e, lead⟩ := σ
  refine wpAny_call ?_
  refine' enterW (skObjs w.params x dx t ⟨kd, want, b, e, lead⟩) G st (hN) ?k6 ?k7 ?k8 ?k9 ?kB ?_ ?c2 ?c3 ?c4 ?c5 (binds := [(Str.ofString "self", .ref x)])
  case k6 => k_is
  case k7 => k_is
  case k8 => (unfold recursionLimit; (try simp only [depth_in1, depth_under_make]); omega)
  case k9 => exact BindsTo.of_eq rfl
  case kB => exact locs rfl
  case c2 => exact rfl
  case c3 => exact rfl
  case c4 => exact rfl
  case c5 => decide
  intro g L h₁ hsg hgs F N hg X T
  try dsimp only
  try k_fold
  unfold skObjs skDict at N
  cases kd
  all_goals dsimp only [Kd.s, wantV] at N
  all_goals simp only [Sk.width, reduceCtorEq, if_true, if_false, Int.natCast_one, ← List.size_toArray] at ret
  all_goals k_steps
  all_goals (with_reducible rename Fr _ _ _ _ => F9; with_reducible rename News _ _ _ _ => N9; show Q _ _; exact ret _ _ _ (keep2 hN hsg F9 N9))

theorem reach_spec {k : Nat} {ta : Tok} (G : Gd w mean mg mb h₀) (st : ∀ b o, h₀.get? b = some o → s.heap.get? b = some o)
    (hh : A.handled = none) (hd : A.depth + 10 < 1000) (hu : A.units + 100 < 9900) (hN : ∀ p ∈ skObjs w.params x dx t σ, s.heap.get? p.1 = some p.2 ∧ h₀.get? p.1 = none) (hne : @Ne Nat dx x) (hk : k ≤ 100) (hb : σ.b ≤ 200) (he : σ.e ≤ 200)
    (ret : ∀ h' tk t', (∀ b o, s.heap.get? b = some o → b ≠ dx → h'.get? b = some o) → (∀ p ∈ skObjs w.params x dx t' (σ.reach k), h'.get? p.1 = some p.2) → Q .none { s with heap := h', toks := tk }) :
    wpAny (model PySem.Challenge.pw_pb0230_01 w) A (call (.ref 118) [.ref x, .int (k : Int) ta]) Q E s := by
  obtain ⟨kd, want, b, e, lead⟩ := σ
  refine wpAny_call ?_
  refine' enterW (skObjs w.params x dx t ⟨kd, want, b, e, lead⟩) G st (hN) ?k6 ?k7 ?k8 ?k9 ?kB ?_ ?c2 ?c3 ?c4 ?c5 (binds := [(Str.ofString "self", .ref x), (Str.ofString "at", .int (k : Int) ta)])
  case k6 => k_is
  case k7 => k_is
  case k8 => (unfold recursionLimit; (try simp only [depth_in1, depth_under_make]); omega)
  case k9 => exact BindsTo.of_eq rfl
  case kB => exact locs rfl
  case c2 => exact rfl
  case c3 => exact rfl
  case c4 => exact rfl
  case c5 => decide
  intro g L h₁ hsg hgs F N hg X T
  try dsimp only
  try k_fold
  dsimp only at hb he
  unfold skObjs skDict at N
  cases lead
  all_goals dsimp only [leadV] at N
  all_goals k_steps
  all_goals show Q _ _
  all_goals try dsimp only
  all_goals (with_reducible rename Fr _ _ _ _ => F9; with_reducible rename News _ _ _ _ => N9)
  · refine ret _ _ (fun i => if i = 10 then ta else t i) (keepBut hN hsg F9 N9 (fun p hp hd => ?_)) ?_
    · rcases List.mem_cons.mp hp with rfl | hp
      · exact .head _
      · rcases List.mem_cons.mp hp with rfl | hp
        · exact absurd rfl hd
        · cases hp
    · rw [show Sk.reach ⟨kd, want, b, e, none⟩ k = ⟨kd, want, b, e, some k⟩ by unfold Sk.reach; rw [if_pos ⟨rfl, by dsimp only; omega, by dsimp only; omega⟩]]
      exact fun p hp => (N9 p hp).1
  · refine ret _ _ t (fun b o e _ => keep2 hN hsg F9 N9 b o e) ?_
    rw [show Sk.reach ⟨kd, want, b, e, none⟩ k = ⟨kd, want, b, e, none⟩ by unfold Sk.reach; rw [if_neg (by dsimp only; omega)]]
    exact fun p hp => (N9 p hp).1
  · refine ret _ _ t (fun b o e _ => keep2 hN hsg F9 N9 b o e) ?_
    rw [show Sk.reach ⟨kd, want, b, e, none⟩ k = ⟨kd, want, b, e, none⟩ by unfold Sk.reach; rw [if_neg (by dsimp only; omega)]]
    exact fun p hp => (N9 p hp).1
  · refine ret _ _ t (fun b o e _ => keep2 hN hsg F9 N9 b o e) ?_
    rw [show ∀ v, Sk.reach ⟨kd, want, b, e, some v⟩ k = ⟨kd, want, b, e, some v⟩ from fun v => by unfold Sk.reach; rw [if_neg (by simp)]]
    exact fun p hp => (N9 p hp).1

local macro_rules | `(tactic| walk_at "call ref") => `(tactic| (k_here; (with_reducible show wpAny _ _ (call (Value.ref 111) _) _ _ _); (with_reducible rename Fr _ _ _ _ => F'); (with_reducible rename News _ _ _ _ => N'); (refine width_spec  (Gd.mk (by k_asm) (by k_asm)) (Fr.keep F') (by assumption) (by simp only [depth_deeper, depth_in1]; omega) (by simp only [units_deeper, units_in1]; omega) (fun p hp => ⟨(N' p hp).1, (N' p hp).2.2⟩) (by omega) ?_); intro h' _ _ hk'; (have F' := fr_keeps F' hk'); (have N' := news_keeps N' hk')))
theorem took_spec {k : Nat} {ta : Tok} (G : Gd w mean mg mb h₀) (st : ∀ b o, h₀.get? b = some o → s.heap.get? b = some o)
    (hh : A.handled = none) (hd : A.depth + 20 < 1000) (hu : A.units + 200 < 9900) (hN : ∀ p ∈ skObjs w.params x dx t σ, s.heap.get? p.1 = some p.2 ∧ h₀.get? p.1 = none) (hne : @Ne Nat dx x) (hk : k ≤ 100) (hb : σ.b ≤ 200) (he : σ.e ≤ 200) (hz : σ.want.length ≤ 100)
    (ret : ∀ h' tk t', (∀ b o, s.heap.get? b = some o → b ≠ dx → h'.get? b = some o) → (∀ p ∈ skObjs w.params x dx t' (σ.took k), h'.get? p.1 = some p.2) → Q .none { s with heap := h', toks := tk }) :
    wpAny (model PySem.Challenge.pw_pb0230_01 w) A (call (.ref 132) [.ref x, .int (k : Int) ta]) Q E s := by
  obtain ⟨kd, want, b, e, lead⟩ := σ
  refine wpAny_call ?_
  refine' enterW (skObjs w.params x dx t ⟨kd, want, b, e, lead⟩) G st (hN) ?k6 ?k7 ?k8 ?k9 ?kB ?_ ?c2 ?c3 ?c4 ?c5 (binds := [(Str.ofString "self", .ref x), (Str.ofString "at", .int (k : Int) ta)])
  case k6 => k_is
  case k7 => k_is
  case k8 => (unfold recursionLimit; (try simp only [depth_in1, depth_under_make]); omega)
  case k9 => exact BindsTo.of_eq rfl
  case kB => exact locs rfl
  case c2 => exact rfl
  case c3 => exact rfl
  case c4 => exact rfl
  case c5 => decide
  intro g L h₁ hsg hgs F N hg X T
  try dsimp only
  try k_fold
  unfold skObjs skDict at N
  dsimp only at hb he hz
  k_steps
  all_goals (with_reducible rename Fr _ _ _ _ => F9; with_reducible rename News _ _ _ _ => N9)
  dsimp only at N9 ⊢
  have hf : (Kd.s kd == Str.ofString "FIRST") = false := by cases kd <;> decide
  rw [hf] at N9
  rename_i _ tk9 _ _ _ _
  refine ret _ _ (fun i => if i = 10 then tk9 else t i) (keepBut hN hsg F9 N9 (fun p hp hd => ?_)) ?_
  · rcases List.mem_cons.mp hp with rfl | hp
    · exact .head _
    · rcases List.mem_cons.mp hp with rfl | hp
      · exact absurd rfl hd
      · cases hp
  · exact fun p hp => (N9 p hp).1

local macro_rules | `(tactic| walk_at "call ref") => `(tactic| (k_here; (with_reducible show wpAny _ _ (call (Value.ref 69) _) _ _ _); (with_reducible rename Fr _ _ _ _ => F'); (with_reducible rename News _ _ _ _ => N'); (refine lies_at_spec (Gd.mk (by k_asm) (by k_asm)) (Fr.keep F') (by assumption) (by simp only [depth_deeper, depth_in1]; omega) (by simp only [units_deeper, units_in1]; omega) (by omega) (by omega) (by omega) (by omega) ?_); intro h' _ hk'; (have F' := fr_keeps F' hk'); (have N' := news_keeps N' hk')))
theorem is_fit_spec {k : Nat} {ta to : Tok} {o : List UInt8} (G : Gd w mean mg mb h₀) (st : ∀ b o, h₀.get? b = some o → s.heap.get? b = some o)
    (hh : A.handled = none) (hd : A.depth + 20 < 1000) (hu : A.units + 200 < 9900) (hN : ∀ p ∈ skObjs w.params x dx t σ, s.heap.get? p.1 = some p.2 ∧ h₀.get? p.1 = none) (hk : k ≤ 100) (ho : o.length ≤ 100) (hb : σ.b ≤ 200) (he : σ.e ≤ 200) (hz : σ.want.length ≤ 100)
    (ret : ∀ h' tk, (∀ b o, s.heap.get? b = some o → h'.get? b = some o) → Q (.bool (σ.fit o k)) { s with heap := h', toks := tk }) :
    wpAny (model PySem.Challenge.pw_pb0230_01 w) A (call (.ref 125) [.ref x, .bytes o.toArray to, .int (k : Int) ta]) Q E s := by
  refine wpAny_call ?_
  refine' enterW (skObjs w.params x dx t σ) G st (hN) ?k6 ?k7 ?k8 ?k9 ?kB ?_ ?c2 ?c3 ?c4 ?c5 (binds := [(Str.ofString "self", .ref x), (Str.ofString "octets", .bytes o.toArray to), (Str.ofString "at", .int (k : Int) ta)])
  case k6 => k_is
  case k7 => k_is
  case k8 => (unfold recursionLimit; (try simp only [depth_in1, depth_under_make]); omega)
  case k9 => exact BindsTo.of_eq rfl
  case kB => exact locs rfl
  case c2 => exact rfl
  case c3 => exact rfl
  case c4 => exact rfl
  case c5 => decide
  intro g L h₁ hsg hgs F N hg X T
  try dsimp only
  try k_fold
  unfold skObjs skDict at N
  k_steps
  · with_reducible rename Fr _ _ _ _ => F9
    with_reducible rename News _ _ _ _ => N9
    have ef : Sk.fit σ o k = false := by unfold Sk.fit; rw [if_pos (.inr (by omega))]
    show Q _ _
    rw [ef] at ret
    exact ret _ _ (keep2 hN hsg F9 N9)
  · with_reducible rename Fr _ _ _ _ => F9
    with_reducible rename News _ _ _ _ => N9
    have hkd : σ.kd = .chars := kd_chars (by assumption)
    have ef : Sk.fit σ o k = true := by
      unfold Sk.fit; rw [if_neg (by omega), if_pos hkd]
    show Q _ _
    rw [ef] at ret
    exact ret _ _ (keep2 hN hsg F9 N9)
  · with_reducible rename News _ _ _ _ => N9
    have hkd : σ.kd = .lead := kd_lead (by assumption)
    rcases hl : σ.lead with _ | l
    · rw [hl, hkd] at N9
      dsimp only [wantV, leadV, Kd.s] at N9
      k_steps
      with_reducible rename Fr _ _ _ _ => F8
      with_reducible rename News _ _ _ _ => N8
      have ef : Sk.fit σ o k = false := by
        unfold Sk.fit; rw [if_neg (by omega), if_neg (by rw [hkd]; decide), if_pos ⟨hkd, by rw [hl]; simp⟩]
      show Q _ _
      rw [ef] at ret
      exact ret _ _ (keep2 hN hsg F8 (by unfold skObjs skDict; rw [hl, hkd]; exact N8))
    · rw [hl, hkd] at N9
      dsimp only [wantV, leadV, Kd.s] at N9
      k_steps
      all_goals (with_reducible rename Fr _ _ _ _ => F8; with_reducible rename News _ _ _ _ => N8)
      · have ef : Sk.fit σ o k = false := by
          unfold Sk.fit; rw [if_neg (by omega), if_neg (by rw [hkd]; decide), if_pos ⟨hkd, by rw [hl]; simp; omega⟩]
        show Q _ _
        rw [ef] at ret
        exact ret _ _ (keep2 hN hsg F8 (by unfold skObjs skDict; rw [hl, hkd]; exact N8))
      · have ef : Sk.fit σ o k = (cutL o (k : Int).toNat ((k : Int).toNat + σ.want.length) == σ.want) := by
          unfold Sk.fit; rw [if_neg (by omega), if_neg (by rw [hkd]; decide), if_neg (by rw [hl]; simp; omega)]; rfl
        show Q _ _
        rw [ef] at ret
        exact ret _ _ (keep2 hN hsg F8 (by unfold skObjs skDict; rw [hl, hkd]; exact N8))
  · with_reducible rename News _ _ _ _ => N9
    have hkd : σ.kd = .all := kd_all (by assumption) (by assumption)
    rw [hkd] at N9
    dsimp only [wantV, Kd.s] at N9
    k_steps
    all_goals (with_reducible rename Fr _ _ _ _ => F8; with_reducible rename News _ _ _ _ => N8)
    have ef : Sk.fit σ o k = (cutL o (k : Int).toNat ((k : Int).toNat + σ.want.length) == σ.want) := by
      unfold Sk.fit; rw [if_neg (by omega), if_neg (by rw [hkd]; decide), if_neg (by rw [hkd]; simp)]; rfl
    show Q _ _
    rw [ef] at ret
    exact ret _ _ (keep2 hN hsg F8 (by unfold skObjs skDict; rw [hkd]; exact N8))
  · with_reducible rename Fr _ _ _ _ => F9
    with_reducible rename News _ _ _ _ => N9
    have ef : Sk.fit σ o k = false := by unfold Sk.fit; rw [if_pos (.inl (by omega))]
    show Q _ _
    rw [ef] at ret
    exact ret _ _ (keep2 hN hsg F9 N9)
end
end
section
open PySem PySem.W PySem.Calls PyProof.Rows
set_option Elab.async false
set_option maxRecDepth 100000
set_option maxHeartbeats 20000000
set_option pp.deepTerms false
set_option pp.maxSteps 700
set_option linter.all false
local macro_rules | `(tactic| walk_at "exec Assign cons ListComp") => `(tactic| refine Stop.mk ?_)
local macro_rules | `(tactic| walk_at "eval ListComp") => `(tactic| refine Stop.mk ?_)
local macro_rules | `(tactic| walk_at "forIn") => `(tactic| refine wpAny_tests_nil ?_)
local macro_rules | `(tactic| walk_at "pyIter ref") => `(tactic| ((with_reducible show wpAny _ _ (pyIter (Value.ref _)) _ _ _); refine Stop.mk ?_))
local macro_rules | `(tactic| walk_at "call ref") => `(tactic| (k_here; (with_reducible show wpAny _ _ (call (Value.ref 76) _) _ _ _); (with_reducible rename Fr _ _ _ _ => F'); (with_reducible rename News _ _ _ _ => N'); (refine first_at_spec  (Gd.mk (by k_asm) (by k_asm)) (Fr.keep F') (by assumption) (by simp only [depth_deeper, depth_in1]; omega) (by simp only [units_deeper, units_in1]; omega) (by omega) (by omega) (by omega) ?_); intro h' _ _ hk'; (have F' := fr_keeps F' hk'); (have N' := news_keeps N' hk')))
section
variable {w : World} {A : Around} {s : Shared} {mean : ExcName → Option Value} {mg mb : Str → Option Value} {h₀ : Heap} {Q E : Value → Shared → Prop}
theorem stretch_begin_spec {o : List UInt8} {a : Option (List UInt8)} {t1 t2 : Tok} (G : Gd w mean mg mb h₀) (st : ∀ b o, h₀.get? b = some o → s.heap.get? b = some o)
    (hh : A.handled = none) (hd : A.depth + 30 < 1000) (hu : A.units + 300 < 9900) (ho : o.length ≤ 100) (hx : okB a)
    (ret : ∀ h' tk t, (∀ b o, s.heap.get? b = some o → h'.get? b = some o) → Q (.int (beginOf o a : Int) t) { s with heap := h', toks := tk }) :
    wpAny (model PySem.Challenge.pw_pb0230_01 w) A (call (.ref 83) [.bytes o.toArray t1, optV a t2]) Q E s := by
  refine wpAny_call ?_
  refine' enterW ([]) G st ((by simp)) ?k6 ?k7 ?k8 ?k9 ?kB ?_ ?c2 ?c3 ?c4 ?c5 (binds := [(Str.ofString "octets", .bytes o.toArray t1), (Str.ofString "after", optV a t2)])
  case k6 => k_is
  case k7 => k_is
  case k8 => (unfold recursionLimit; (try simp only [depth_in1, depth_under_make]); omega)
  case k9 => exact BindsTo.of_eq rfl
  case kB => exact locs rfl
  case c2 => exact rfl
  case c3 => exact rfl
  case c4 => exact rfl
  case c5 => decide
  intro g L h₁ hsg hgs F N hg X T
  try dsimp only
  try k_fold
  rcases a with _ | a
  · dsimp only [optV] at F
    k_steps
    with_reducible rename Fr _ _ _ _ => F9
    show Q _ _
    exact ret _ _ _ (keep0 hsg F9)
  · have hx' := hx a rfl
    dsimp only [optV] at F
    k_steps
    all_goals (with_reducible rename Fr _ _ _ _ => F9)
    · have e : (beginOf o (some a) : Int) = (o.toArray.size : Int) := by
        unfold beginOf
        have : firstI o a < 0 := by assumption
        unfold firstI at this
        split at this
        · omega
        · rename_i h; simp only [h]; rfl
      show Q _ _
      rw [e] at ret
      exact ret _ _ _ (keep0 hsg F9)
    · have e : (beginOf o (some a) : Int) = firstI o a + (a.toArray.size : Int) := by
        unfold beginOf
        have : ¬ firstI o a < 0 := by assumption
        unfold firstI at this ⊢
        split at this
        · rename_i i h; simp only [h]; rw [List.size_toArray]; omega
        · omega
      show Q _ _
      rw [e] at ret
      exact ret _ _ _ (keep0 hsg F9)
theorem stretch_end_spec {o : List UInt8} {a : Option (List UInt8)} {t1 t2 : Tok} (G : Gd w mean mg mb h₀) (st : ∀ b o, h₀.get? b = some o → s.heap.get? b = some o)
    (hh : A.handled = none) (hd : A.depth + 30 < 1000) (hu : A.units + 300 < 9900) (ho : o.length ≤ 100) (hx : okB a)
    (ret : ∀ h' tk t, (∀ b o, s.heap.get? b = some o → h'.get? b = some o) → Q (.int (endOf o a : Int) t) { s with heap := h', toks := tk }) :
    wpAny (model PySem.Challenge.pw_pb0230_01 w) A (call (.ref 90) [.bytes o.toArray t1, optV a t2]) Q E s := by
  refine wpAny_call ?_
  refine' enterW ([]) G st ((by simp)) ?k6 ?k7 ?k8 ?k9 ?kB ?_ ?c2 ?c3 ?c4 ?c5 (binds := [(Str.ofString "octets", .bytes o.toArray t1), (Str.ofString "before", optV a t2)])
  case k6 => k_is
  case k7 => k_is
  case k8 => (unfold recursionLimit; (try simp only [depth_in1, depth_under_make]); omega)
  case k9 => exact BindsTo.of_eq rfl
  case kB => exact locs rfl
  case c2 => exact rfl
  case c3 => exact rfl
  case c4 => exact rfl
  case c5 => decide
  intro g L h₁ hsg hgs F N hg X T
  try dsimp only
  try k_fold
  rcases a with _ | a
  · dsimp only [optV] at F
    k_steps
    with_reducible rename Fr _ _ _ _ => F9
    show Q _ _
    exact ret _ _ _ (keep0 hsg F9)
  · have hx' := hx a rfl
    dsimp only [optV] at F
    k_steps
    all_goals (with_reducible rename Fr _ _ _ _ => F9)
    · have e : (endOf o (some a) : Int) = (o.toArray.size : Int) := by
        unfold endOf
        have : firstI o a < 0 := by assumption
        unfold firstI at this
        split at this
        · omega
        · rename_i h; simp only [h]; rfl
      show Q _ _
      rw [e] at ret
      exact ret _ _ _ (keep0 hsg F9)
    · have e : (endOf o (some a) : Int) = firstI o a := by
        unfold endOf
        have : ¬ firstI o a < 0 := by assumption
        unfold firstI at this ⊢
        split at this
        · rename_i i h; simp only [h]
        · omega
      show Q _ _
      rw [e] at ret
      exact ret _ _ _ (keep0 hsg F9)
end
end
section
open PySem PySem.W PySem.Calls PyProof.Rows
set_option Elab.async false
set_option maxRecDepth 100000
set_option maxHeartbeats 20000000
set_option pp.deepTerms false
set_option pp.maxSteps 700
set_option linter.all false
local macro_rules | `(tactic| walk_at "exec Assign cons ListComp") => `(tactic| refine Stop.mk ?_)
local macro_rules | `(tactic| walk_at "eval ListComp") => `(tactic| refine Stop.mk ?_)
local macro_rules | `(tactic| walk_at "forIn") => `(tactic| refine wpAny_tests_nil ?_)
local macro_rules | `(tactic| walk_at "pyIter ref") => `(tactic| ((with_reducible show wpAny _ _ (pyIter (Value.ref _)) _ _ _); refine Stop.mk ?_))
section
variable {w : World} {A : Around} {s : Shared} {mean : ExcName → Option Value} {mg mb : Str → Option Value} {h₀ : Heap} {Q E : Value → Shared → Prop}
theorem new_seeker_spec {kd : Kd} {want : List UInt8} {b e : Nat} {t1 t2 t3 t4 : Tok} (G : Gd w mean mg mb h₀) (st0 : ∀ b o, h₀.get? b = some o → s.heap.get? b = some o)
    (hh : A.handled = none) (hd : A.depth + 20 < 1000) (hu : A.units + 200 < 9900)
    (ret : ∀ x dx h' tk t, (∀ b o, s.heap.get? b = some o → h'.get? b = some o) → (∀ p ∈ skObjs w.params x dx t ⟨kd, want, b, e, none⟩, h'.get? p.1 = some p.2) → s.heap.get? x = none → s.heap.get? dx = none → @LT.lt Nat _ dx x → Q (.ref x) { s with heap := h', toks := tk }) :
    wpAny (model PySem.Challenge.pw_pb0230_01 w) A (call (.ref 135) [.str kd.s t1, wantV kd want t2, .int (b : Int) t3, .int (e : Int) t4]) Q E s := by
  obtain ⟨hh', gg, dd, tt, oo⟩ := s
  dsimp only at st0 ret
  have X0 : (Mine.hd.heap_39 w.params).In hh' := G.X.keeps st0
  have hm : makesIn (Mine.hd.heap_39 w.params) 135 = true := by k_is
  have hi : findIn (Mine.hd.heap_39 w.params) (.ref 135) "__init__" = some (some (.ref 104)) := by k_is
  have hf : typeIn (Mine.hd.heap_39 w.params) (.ref 104) = some (.type "function") := by k_is
  refine wpAny_call ?_
  refine make_core (makes_of X0 hm) (looks_findIn X0 hi) (fun self => bind_fn X0 self hf) (.inl rfl) ?_
  have hpush : ∀ b o, hh'.get? b = some o → ((hh'.push emptyDict).push (instObj 135 hh'.objs.size)).get? b = some o := fun b o e => Heap.get?_push_of_some _ (Heap.get?_push_of_some _ e)
  have st : ∀ b o, h₀.get? b = some o → ((hh'.push emptyDict).push (instObj 135 hh'.objs.size)).get? b = some o := fun b o e => hpush b o (st0 b o e)
  have fresh : ∀ a, hh'.objs.size ≤ a → h₀.get? a = none := fun a ha => by
    cases q : h₀.get? a with
    | none => rfl
    | some o => exact absurd (Heap.lt_size (st0 a o q)) (Nat.not_lt.mpr ha)
  have hN : ∀ p ∈ [((hh'.objs.size + 1 : Addr), instObj 135 hh'.objs.size), ((hh'.objs.size : Addr), dictOf [] 0)], (Shared.mk ((hh'.push emptyDict).push (instObj 135 hh'.objs.size)) gg dd tt oo).heap.get? p.1 = some p.2 ∧ h₀.get? p.1 = none := by
    intro p hp
    rcases List.mem_cons.mp hp with rfl | hp
    · refine ⟨?_, fresh _ (Nat.le_succ _)⟩
      have := Heap.get?_push_size (hh'.push emptyDict) (o := instObj 135 hh'.objs.size) rfl
      rw [Heap.size_push] at this
      exact this
    · rcases List.mem_cons.mp hp with rfl | hp
      · exact ⟨Heap.get?_push_of_some _ (Heap.get?_push_size _ rfl), fresh _ (Nat.le_refl _)⟩
      · cases hp
  have hne : @LT.lt Nat _ hh'.objs.size (hh'.objs.size + 1) := Nat.lt_succ_self _
  refine' enterW (_) G st (hN) ?k6 ?k7 ?k8 ?k9 ?kB ?_ ?c2 ?c3 ?c4 ?c5 (binds := [(Str.ofString "self", .ref (hh'.objs.size + 1)), (Str.ofString "kind", .str kd.s t1), (Str.ofString "wanted", wantV kd want t2), (Str.ofString "begin", .int (b : Int) t3), (Str.ofString "end", .int (e : Int) t4)])
  case k6 => k_is
  case k7 => k_is
  case k8 => (unfold recursionLimit; (try simp only [depth_in1, depth_under_make]); omega)
  case k9 => exact BindsTo.of_eq rfl
  case kB => exact locs rfl
  case c2 => exact rfl
  case c3 => exact rfl
  case c4 => exact rfl
  case c5 => decide
  intro g L h₁ hsg hgs F N hg X T
  try dsimp only
  try k_fold
  k_steps
  with_reducible rename Fr _ _ _ _ => F9
  with_reducible rename News _ _ _ _ => N9
  refine ⟨rfl, ?_⟩
  show Q _ _
  obtain ⟨t, ht⟩ := sk_of (P := w.params) (x := hh'.objs.size + 1) (dx := hh'.objs.size) (kd := kd) (want := want) (b := b) (e := e) (lead := none) (a10 := 0) (fun p hp => (N9 p hp).1)
  refine ret _ _ _ _ t (fun b o q => ?_) ht (none_of_size (Nat.le_succ _)) (none_of_size (Nat.le_refl _)) hne
  have hb := Heap.lt_size q
  exact F9.keep b o (hsg b o (hpush b o q) (by simp only [List.map_cons, List.map_nil, List.mem_cons, List.not_mem_nil, or_false]; rintro (rfl | rfl) <;> exact absurd hb (by simp)))
end
end
section
open PySem PySem.W PySem.Calls PyProof.Rows
set_option Elab.async false
set_option maxRecDepth 100000
set_option maxHeartbeats 20000000
set_option pp.deepTerms false
set_option pp.maxSteps 700
set_option linter.all false
local macro_rules | `(tactic| walk_at "exec Assign cons ListComp") => `(tactic| refine Stop.mk ?_)
local macro_rules | `(tactic| walk_at "eval ListComp") => `(tactic| refine Stop.mk ?_)
local macro_rules | `(tactic| walk_at "forIn") => `(tactic| refine wpAny_tests_nil ?_)
local macro_rules | `(tactic| walk_at "pyIter ref") => `(tactic| ((with_reducible show wpAny _ _ (pyIter (Value.ref _)) _ _ _); refine Stop.mk ?_))
local macro_rules | `(tactic| walk_at "call ref") => `(tactic| (k_here; (with_reducible show wpAny _ _ (call (Value.ref 83) _) _ _ _); (with_reducible rename Fr _ _ _ _ => F'); (with_reducible rename News _ _ _ _ => N'); (refine stretch_begin_spec  (Gd.mk (by k_asm) (by k_asm)) (Fr.keep F') (by assumption) (by simp only [depth_deeper, depth_in1]; omega) (by simp only [units_deeper, units_in1]; omega) (by omega) (by assumption) ?_); intro h' _ _ hk'; (have F' := fr_keeps F' hk'); (have N' := news_keeps N' hk')))
local macro_rules | `(tactic| walk_at "call ref") => `(tactic| (k_here; (with_reducible show wpAny _ _ (call (Value.ref 90) _) _ _ _); (with_reducible rename Fr _ _ _ _ => F'); (with_reducible rename News _ _ _ _ => N'); (refine stretch_end_spec  (Gd.mk (by k_asm) (by k_asm)) (Fr.keep F') (by assumption) (by simp only [depth_deeper, depth_in1]; omega) (by simp only [units_deeper, units_in1]; omega) (by omega) (by assumption) ?_); intro h' _ _ hk'; (have F' := fr_keeps F' hk'); (have N' := news_keeps N' hk')))
section
variable {w : World} {A : Around} {s : Shared} {mean : ExcName → Option Value} {mg mb : Str → Option Value} {h₀ : Heap} {Q E : Value → Shared → Prop}
theorem seeker_of_spec {o : List UInt8} {kd : Kd} {want : List UInt8} {bef aft : Option (List UInt8)} {t0 t1 t2 t3 t4 : Tok} (G : Gd w mean mg mb h₀) (st : ∀ b o, h₀.get? b = some o → s.heap.get? b = some o)
    (hh : A.handled = none) (hd : A.depth + 40 < 1000) (hu : A.units + 400 < 9900) (ho : o.length ≤ 100) (hw : kd ≠ .chars → 0 < want.length) (hw' : want.length ≤ 100) (hb : okB bef) (ha : okB aft)
    (ret : ∀ x dx h' tk t, (∀ b o, s.heap.get? b = some o → h'.get? b = some o) → (∀ p ∈ skObjs w.params x dx t (Sk.of o kd want bef aft), h'.get? p.1 = some p.2) → s.heap.get? x = none → s.heap.get? dx = none → @LT.lt Nat _ dx x → Q (.ref x) { s with heap := h', toks := tk }) :
    wpAny (model PySem.Challenge.pw_pb0230_01 w) A (call (.ref 146) [.bytes o.toArray t0, .str kd.s t1, wantV kd want t2, optV bef t3, optV aft t4]) Q E s := by
  refine wpAny_call ?_
  refine' enterW ([]) G st ((by simp)) ?k6 ?k7 ?k8 ?k9 ?kB ?_ ?c2 ?c3 ?c4 ?c5 (binds := [(Str.ofString "octets", .bytes o.toArray t0), (Str.ofString "kind", .str kd.s t1), (Str.ofString "wanted", wantV kd want t2), (Str.ofString "before", optV bef t3), (Str.ofString "after", optV aft t4)])
  case k6 => k_is
  case k7 => k_is
  case k8 => (unfold recursionLimit; (try simp only [depth_in1, depth_under_make]); omega)
  case k9 => exact BindsTo.of_eq rfl
  case kB => exact locs rfl
  case c2 => exact rfl
  case c3 => exact rfl
  case c4 => exact rfl
  case c5 => decide
  intro g L h₁ hsg hgs F N hg X T
  try dsimp only
  try k_fold
  cases kd
  all_goals dsimp only [Kd.s, wantV] at F
  all_goals k_steps
  · have := hw (by decide)
    have : (want.toArray.size : Int) = 0 := by assumption
    rw [List.size_toArray] at this
    omega
  · with_reducible rename Fr _ _ _ _ => F9
    refine new_seeker_spec (kd := .all) (want := want) (Gd.mk X T) (Fr.keep F9) (by assumption) (dpt (by assumption)) (unt (by assumption)) ?_
    intro x dx h' tk t hk hp hx hdx hl
    have F8 := fr_keeps F9 hk
    show Q _ _
    exact ret x dx h' _ t (keep0 hsg F8) hp (none_before (keep0 hsg F9) hx) (none_before (keep0 hsg F9) hdx) hl
  · have := hw (by decide)
    have : (want.toArray.size : Int) = 0 := by assumption
    rw [List.size_toArray] at this
    omega
  · with_reducible rename Fr _ _ _ _ => F9
    refine new_seeker_spec (kd := .lead) (want := want) (Gd.mk X T) (Fr.keep F9) (by assumption) (dpt (by assumption)) (unt (by assumption)) ?_
    intro x dx h' tk t hk hp hx hdx hl
    have F8 := fr_keeps F9 hk
    show Q _ _
    exact ret x dx h' _ t (keep0 hsg F8) hp (none_before (keep0 hsg F9) hx) (none_before (keep0 hsg F9) hdx) hl
  · with_reducible rename Fr _ _ _ _ => F9
    refine new_seeker_spec (kd := .chars) (want := want) (t2 := 0) (Gd.mk X T) (Fr.keep F9) (by assumption) (dpt (by assumption)) (unt (by assumption)) ?_
    intro x dx h' tk t hk hp hx hdx hl
    have F8 := fr_keeps F9 hk
    show Q _ _
    exact ret x dx h' _ t (keep0 hsg F8) hp (none_before (keep0 hsg F9) hx) (none_before (keep0 hsg F9) hdx) hl
end
end
section
open PySem PySem.W PySem.Calls PyProof.Rows
set_option Elab.async false
set_option maxRecDepth 100000
set_option maxHeartbeats 20000000
set_option pp.deepTerms false
set_option pp.maxSteps 700
set_option linter.all false
local macro_rules | `(tactic| walk_at "exec Assign cons ListComp") => `(tactic| refine Stop.mk ?_)
local macro_rules | `(tactic| walk_at "eval ListComp") => `(tactic| refine Stop.mk ?_)
local macro_rules | `(tactic| walk_at "forIn") => `(tactic| refine wpAny_tests_nil ?_)
local macro_rules | `(tactic| walk_at "pyIter ref") => `(tactic| ((with_reducible show wpAny _ _ (pyIter (Value.ref _)) _ _ _); refine Stop.mk ?_))
local macro_rules | `(tactic| walk_at "exec While Compare cons nil") => `(tactic| refine Stop.mk ?_)
local macro_rules | `(tactic| walk_at "exec For Tuple Call cons nil") => `(tactic| (k_here; (rename Fr _ _ _ _ => lF'); (with_unfolding_all refine' For_turns lF' ?_; k_whole)))
local macro_rules | `(tactic| walk_at "call type:enumerate") => `(tactic| refine Stop.mk ?_)
local macro_rules | `(tactic| walk_at "call ref") => `(tactic| ((with_reducible show wpAny _ _ (call (Value.ref 118) _) _ _ _); refine Stop.mk ?_))
local macro_rules | `(tactic| walk_at "call ref") => `(tactic| ((with_reducible show wpAny _ _ (call (Value.ref 125) _) _ _ _); refine Stop.mk ?_))
local macro_rules | `(tactic| walk_at "call ref") => `(tactic| ((with_reducible show wpAny _ _ (call (Value.ref 132) _) _ _ _); refine Stop.mk ?_))
local macro_rules | `(tactic| walk_at "call ref") => `(tactic| ((with_reducible show wpAny _ _ (call (Value.ref 111) _) _ _ _); refine Stop.mk ?_))
local macro_rules | `(tactic| walk_at "call builtin:list.append") => `(tactic| refine Stop.mk ?_)
local macro_rules | `(tactic| walk_at "subscriptTail Name Name ref int") => `(tactic| (k_here; (with_reducible rename Fr _ _ _ _ => F'); refine item_sl F' (by assumption) (by assumption) (by omega) ?_))
section
variable {w : World} {A : Around} {s : Shared} {mean : ExcName → Option Value} {mg mb : Str → Option Value} {h₀ : Heap} {Q E : Value → Shared → Prop}
theorem fits_in_spec {o : List UInt8} {n : Nat} {x d : Nat → Addr} {t : Nat → Nat → Tok} {σ : Nat → Sk} {sl : Addr} {t0 : Tok} (G : Gd w mean mg mb h₀) (st : ∀ b o, h₀.get? b = some o → s.heap.get? b = some o)
    (hh : A.handled = none) (hd : A.depth + 40 < 1000) (hu : A.units + 400 < 9900) (ho : o.length ≤ 50) (hn : n ≤ 8)
    (hN : ∀ p ∈ led w.params n x d t σ, s.heap.get? p.1 = some p.2 ∧ h₀.get? p.1 = none) (ap : Apart n x d) (hS : s.heap.IsList sl ((List.range n).map fun j => Value.ref (x j)).toArray)
    (hσ : ∀ j, j < n → (σ j).b ≤ 100 ∧ (σ j).e ≤ o.length ∧ (σ j).want.length ≤ 10 ∧ 0 < (σ j).width)
    (ret : ∀ fa h' tk t' σ' R, (∀ b o, s.heap.get? b = some o → (∀ j, j < n → b ≠ d j) → h'.get? b = some o) → (∀ p ∈ led w.params n x d t' σ', h'.get? p.1 = some p.2) → SameK σ σ' →
      (∀ p ∈ R, h'.get? p.1 = some p.2 ∧ s.heap.get? p.1 = none) → Finds fa (foundOf (fun j => (σ j).width) 0 (trace o n σ 0)) R → Q (.ref fa) { s with heap := h', toks := tk }) :
    wpAny (model PySem.Challenge.pw_pb0230_01 w) A (call (.ref 153) [.bytes o.toArray t0, .ref sl]) Q E s := by
  refine wpAny_call ?_
  refine' enterW (led w.params n x d t σ) G st (hN) ?k6 ?k7 ?k8 ?k9 ?kB ?_ ?c2 ?c3 ?c4 ?c5 (binds := [(Str.ofString "octets", .bytes o.toArray t0), (Str.ofString "seekers", .ref sl)])
  case k6 => k_is
  case k7 => k_is
  case k8 => (unfold recursionLimit; (try simp only [depth_in1, depth_under_make]); omega)
  case k9 => exact BindsTo.of_eq rfl
  case kB => exact locs rfl
  case c2 => exact rfl
  case c3 => exact rfl
  case c4 => exact rfl
  case c5 => decide
  intro g L h₁ hsg hgs F N hg X T
  try dsimp only
  try k_fold
  have hSg : g.IsList sl ((List.range n).map fun j => Value.ref (x j)).toArray := by
    obtain ⟨oS, hoS, hc, hr⟩ := hS
    refine ⟨oS, hsg _ _ hoS (fun q => ?_), hc, hr⟩
    obtain ⟨p, hp, rfl⟩ := List.mem_map.mp q
    have h1 := (hN p hp).1
    rw [hoS] at h1
    obtain ⟨j, hj, hp⟩ := mem_led.mp hp
    rcases List.mem_cons.mp hp with rfl | hp
    · cases h1; cases hc
    · rcases List.mem_cons.mp hp with rfl | hp
      · cases h1; exact absurd (Value.type.inj hc) (by decide)
      · cases hp
  k_steps
  unfold Stop
  with_reducible rename Fr _ _ _ _ => F9
  with_reducible rename News _ _ _ _ => N9
  rename_i fa _ hfa' _ _ _ _ _ _
  refine While_inv2 (FitJ w.params o n x d σ sl fa t0) (n₀ := o.length) (news := led w.params n x d t σ ++ [(fa, W.listOf #[] 0)]) F9 (fun p hp => N9 p ?_) ?_ ?_
  · rcases List.mem_append.mp hp with hp | hp
    · exact .tail _ (.tail _ hp)
    · exact .tail _ (List.mem_cons.mpr (.inl (List.mem_singleton.mp hp)))
  · refine ⟨0, _, σ, t, _, [], rfl, rfl, rfl, rfl, rfl, ⟨[], 0, [], rfl, (fun _ h => nomatch h), .nil⟩, ?_, rfl, SameK.refl σ, Nat.zero_le _, rfl, Nat.zero_le _⟩
    intro p hp j hj
    rw [List.mem_singleton.mp hp]
    have h1 := hfa' _ (mem_led.mpr ⟨j, hj, .head _⟩)
    have h2 := hfa' _ (mem_led.mpr ⟨j, hj, .tail _ (.head _)⟩)
    exact ⟨Nat.ne_of_gt h2, Nat.ne_of_gt h1⟩
  · rintro ν m₁ nx h tk F₁ N₁ ⟨k, tk1, σ', t', R, fl, rfl, ha, hoc, hse, hfo, hFi, hRd, htr, hsame, hk, rfl, hfl⟩
    have F₂ := fr_canon F₁ [(Str.ofString "at", .int (k : Int) tk1), (Str.ofString "octets", .bytes o.toArray t0), (Str.ofString "seekers", .ref sl), (Str.ofString "found", .ref fa)] (by
      intro p hp
      simp only [List.mem_cons, List.not_mem_nil, or_false] at hp
      rcases hp with rfl | rfl | rfl | rfl <;> assumption)
    clear F₁ ha hoc hse hfo
    try k_fold
    k_steps
    · unfold Stop
      with_reducible rename Fr _ _ _ _ => F3
      with_reducible rename News _ _ _ _ => N3
      have hslg : ∃ oS, g.get? sl = some oS := let ⟨oS, hoS, _⟩ := hSg; ⟨oS, hoS⟩
      obtain ⟨oS, hoS⟩ := hslg
      have hslL : sl ≠ L := Nat.ne_of_lt (Nat.lt_of_lt_of_le (Heap.lt_size hoS) F3.above)
      have hsln : ∀ p ∈ led w.params n x d t' σ' ++ R, p.1 ≠ sl := fun p hp e => by have := (N3 p hp).2.2; rw [e, hoS] at this; cases this
      refine enumLoop (l := sl) (vs := (List.range n).map fun j => Value.ref (x j)) (InJ w.params o n x d σ' sl fa t0 tk1 k R) (by with_unfolding_all assumption) (hSg.at fun o e => F3.keep _ o e) hslL hsln F3 N3 ⟨t', 0, by rw [reachTo_zero], rfl, rfl, rfl, rfl, rfl⟩ ?_ ?_
      · rintro i xv TT tt m₂ nx h2 tk2 own hx hT hadr ⟨t2, tk3, rfl, ha, hoc, hse, hfo, hta⟩ hap F4 N4
        have hi : i < n := by
          have := (List.getElem?_eq_some_iff.mp hx).1
          simpa using this
        have hxe : xv = .ref (x i) := by simp [hi] at hx; exact hx.symm
        subst hxe
        have hmem : ∀ p ∈ skObjs w.params (x i) (d i) (t2 i) (σ' i), p ∈ own ++ (led w.params n x d t2 (reachTo σ' k i) ++ R) := fun p hp => mem_mid (mem_led.mpr ⟨i, hi, by rw [reachTo_at]; exact hp⟩)
        have hm1 := hmem _ (.head _)
        have hm2 := hmem _ (.tail _ (.head _))
        have hod : ∀ p ∈ own, p.1 ≠ d i := fun p hp e => hap p hp _ (List.mem_append.mpr (.inl (mem_led.mpr ⟨i, hi, .tail _ (.head _)⟩))) e
        have hRd' : ∀ p ∈ R, p.1 ≠ d i := fun p hp => (hRd p hp i hi).1
        have hb1 := hσ i hi
        have hsk := hsame i
        rcases hcase : takerTo o σ' k i with _ | j
        · rw [hcase] at hta
          have F5 := fr_canon F4 [(Str.ofString "at", .int (k : Int) tk1), (Str.ofString "octets", .bytes o.toArray t0), (Str.ofString "seekers", .ref sl), (Str.ofString "found", .ref fa), (Str.ofString "taker", .none)] (by
            intro p hp
            simp only [List.mem_cons, List.not_mem_nil, or_false] at hp
            rcases hp with rfl | rfl | rfl | rfl | rfl <;> assumption)
          clear F4 ha hoc hse hfo hta F3 N3
          try k_fold
          k_steps
          unfold Stop
          with_reducible rename Fr _ _ _ _ => F6
          with_reducible rename News _ _ _ _ => N6
          refine reach_spec (σ := σ' i) (t := t2 i) (x := x i) (dx := d i) (Gd.mk X T) (Fr.keep F6) (by with_unfolding_all assumption) (dpt (by assumption)) (unt (by assumption)) (fun p hp => ⟨(N6 p (hmem p hp)).1, (N6 p (hmem p hp)).2.2⟩) (ap.dx i i hi hi) (by omega) (by omega) (by omega) ?_
          intro h7 tk7 t7 hk7 hp7
          have F7 := fr_led F6 N6 hi hk7
          have N7 := news_led N6 ap hi hod hRd' hk7 hp7
          rw [reachTo_succ] at N7
          have hmem7 : ∀ p ∈ skObjs w.params (x i) (d i) t7 ((σ' i).reach k), p ∈ own ++ (led w.params n x d (upd t2 i t7) (reachTo σ' k (i + 1)) ++ R) := fun p hp => mem_mid (mem_led.mpr ⟨i, hi, by simpa [upd, reachTo] using hp⟩)
          have hm17 := hmem7 _ (.head _)
          have hm27 := hmem7 _ (.tail _ (.head _))
          clear F6 N6 hm1 hm2 N4 hT
          have hr := reach_same (σ' i) k
          dsimp only
          try k_fold
          k_steps
          unfold Stop
          with_reducible rename Fr _ _ _ _ => F6
          with_reducible rename News _ _ _ _ => N6
          refine is_fit_spec (σ := (σ' i).reach k) (t := t7) (x := x i) (dx := d i) (Gd.mk X T) (Fr.keep F6) (by with_unfolding_all assumption) (dpt (by assumption)) (unt (by assumption)) (fun p hp => ⟨(N6 p (hmem7 p hp)).1, (N6 p (hmem7 p hp)).2.2⟩) (by omega) (by omega) (by omega) (by omega) (by rw [hr.2.1, hsk.2.1]; omega) ?_
          intro h8 tk8 hk8
          have F8 := fr_keeps F6 hk8
          have N8 := news_keeps N6 hk8
          clear F6 N6
          have hadr' : (led w.params n x d (upd t2 i t7) (reachTo σ' k (i + 1)) ++ R).map (·.1) = (led w.params n x d t' σ' ++ R).map (·.1) := by rw [List.map_append, List.map_append, led_addr]
          dsimp only
          try k_fold
          k_steps
          · with_reducible rename Fr _ _ _ _ => F6
            with_reducible rename News _ _ _ _ => N6
            have hfit : ((σ' i).reach k).fit o k = true := by assumption
            refine ⟨_, _, _, _, rfl, F6, N6, hadr', upd t2 i t7, tt, rfl, rfl, rfl, rfl, rfl, ?_⟩
            rw [takerTo_succ, hcase]
            simp only [hfit, if_true]
            try rfl
          · with_reducible rename Fr _ _ _ _ => F6
            with_reducible rename News _ _ _ _ => N6
            have hfit : ((σ' i).reach k).fit o k = false := by assumption
            refine ⟨_, _, _, _, rfl, F6, N6, hadr', upd t2 i t7, tt, rfl, rfl, rfl, rfl, rfl, ?_⟩
            rw [takerTo_succ, hcase]
            simp only [hfit, Bool.false_eq_true, if_false]
            try rfl
        · rw [hcase] at hta
          have F5 := fr_canon F4 [(Str.ofString "at", .int (k : Int) tk1), (Str.ofString "octets", .bytes o.toArray t0), (Str.ofString "seekers", .ref sl), (Str.ofString "found", .ref fa), (Str.ofString "taker", .int (j : Int) tk3)] (by
            intro p hp
            simp only [List.mem_cons, List.not_mem_nil, or_false] at hp
            rcases hp with rfl | rfl | rfl | rfl | rfl <;> assumption)
          clear F4 ha hoc hse hfo hta F3 N3
          try k_fold
          k_steps
          unfold Stop
          with_reducible rename Fr _ _ _ _ => F6
          with_reducible rename News _ _ _ _ => N6
          refine reach_spec (σ := σ' i) (t := t2 i) (x := x i) (dx := d i) (Gd.mk X T) (Fr.keep F6) (by with_unfolding_all assumption) (dpt (by assumption)) (unt (by assumption)) (fun p hp => ⟨(N6 p (hmem p hp)).1, (N6 p (hmem p hp)).2.2⟩) (ap.dx i i hi hi) (by omega) (by omega) (by omega) ?_
          intro h7 tk7 t7 hk7 hp7
          have F7 := fr_led F6 N6 hi hk7
          have N7 := news_led N6 ap hi hod hRd' hk7 hp7
          rw [reachTo_succ] at N7
          clear F6 N6 hm1 hm2 N4 hT
          have hadr' : (led w.params n x d (upd t2 i t7) (reachTo σ' k (i + 1)) ++ R).map (·.1) = (led w.params n x d t' σ' ++ R).map (·.1) := by rw [List.map_append, List.map_append, led_addr]
          dsimp only
          try k_fold
          k_steps
          with_reducible rename Fr _ _ _ _ => F6
          with_reducible rename News _ _ _ _ => N6
          refine ⟨_, _, _, _, rfl, F6, N6, hadr', upd t2 i t7, tk3, rfl, rfl, rfl, rfl, rfl, ?_⟩
          rw [takerTo_succ, hcase]
          rfl
      · intro h9 tk9 m9 nx9 _ hJ9 F9' N9'
        obtain ⟨t2, tk3, rfl, ha, hoc, hse, hfo, hta⟩ := hJ9
        simp only [List.length_map, List.length_range] at N9' hta
        clear F3 N3 hsln
        have hklt : (k : Int) < (o.toArray.size : Int) := by assumption
        rw [List.size_toArray] at hklt
        have hsr : SameK σ (reachTo σ' k n) := hsame.trans (SameK.reachTo σ' k n)
        rcases hcase : takerTo o σ' k n with _ | i
        · rw [hcase] at hta
          have F5 := fr_canon F9' [(Str.ofString "at", .int (k : Int) tk1), (Str.ofString "octets", .bytes o.toArray t0), (Str.ofString "seekers", .ref sl), (Str.ofString "found", .ref fa), (Str.ofString "taker", .none)] (by
            intro p hp
            simp only [List.mem_cons, List.not_mem_nil, or_false] at hp
            rcases hp with rfl | rfl | rfl | rfl | rfl <;> assumption)
          clear F9' ha hoc hse hfo hta
          dsimp only
          try k_fold
          k_steps
          with_reducible rename Fr _ _ _ _ => F6
          with_reducible rename News _ _ _ _ => N6
          refine ⟨_, _, _, _, o.length - (k + 1), rfl, F6, N6, by omega, k + 1, _, reachTo σ' k n, t2, R, fl, rfl, rfl, rfl, rfl, rfl, hFi, hRd, ?_, hsr, by omega, rfl, by omega⟩
          rw [← htr]
          conv => rhs; rw [trace, if_pos (by omega), hcase]
          rfl
        · have hi := takerTo_lt hcase
          rw [hcase] at hta
          have F5 := fr_canon F9' [(Str.ofString "at", .int (k : Int) tk1), (Str.ofString "octets", .bytes o.toArray t0), (Str.ofString "seekers", .ref sl), (Str.ofString "found", .ref fa), (Str.ofString "taker", .int (i : Int) tk3)] (by
            intro p hp
            simp only [List.mem_cons, List.not_mem_nil, or_false] at hp
            rcases hp with rfl | rfl | rfl | rfl | rfl <;> assumption)
          clear F9' ha hoc hse hfo hta
          obtain ⟨items, ep, Ts, rfl, hTs, hA2⟩ := hFi
          have hlen := hA2.length
          dsimp only
          try k_fold
          k_steps
          unfold Stop
          with_reducible rename Fr _ _ _ _ => F6
          with_reducible rename News _ _ _ _ => N6
          rename_i Dn _ hl1
          have hfam : (fa, W.listOf items.toArray ep) ∈ led w.params n x d t2 (reachTo σ' k n) ++ (fa, W.listOf items.toArray ep) :: Ts := List.mem_append.mpr (.inr (.head _))
          have hfaN := N6 _ (.tail _ hfam)
          refine append_at hfaN.1 ?_ (by rw [List.size_toArray, sizeLine_eq]; omega)
          intro h7 hs7 ho7
          have F7 := F6.change hs7 hfaN.2.1 hfaN.2.2
          rw [List.push_toArray] at ho7
          have N7 : News g L h7 (led w.params n x d t2 (reachTo σ' k n) ++ ((fa, W.listOf (items ++ [Value.ref Dn]).toArray (ep + 1)) :: (Dn, tupObj #[.int (k : Int) tk1, .int (i : Int) tk3]) :: Ts)) := by
            intro p hp
            rcases List.mem_append.mp hp with hp | hp
            · have h3 := N6 p (.tail _ (List.mem_append.mpr (.inl hp)))
              refine ⟨(hs7.2 _ (fun e => ?_)).trans h3.1, h3.2⟩
              obtain ⟨j, hj, r⟩ := mem_led_addr hp
              have h4 := hRd _ (.head _) j hj
              rcases r with r | r
              · exact h4.2 (e.symm.trans r)
              · exact h4.1 (e.symm.trans r)
            · rcases List.mem_cons.mp hp with rfl | hp
              · exact ⟨ho7, hfaN.2⟩
              · rcases List.mem_cons.mp hp with rfl | hp
                · have h3 := N6 _ (.head _)
                  exact ⟨(hs7.2 _ (Nat.ne_of_gt (hl1 _ hfam))).trans h3.1, h3.2⟩
                · have h3 := N6 p (.tail _ (List.mem_append.mpr (.inr (.tail _ hp))))
                  exact ⟨(hs7.2 _ (hTs p hp)).trans h3.1, h3.2⟩
          have hDd : ∀ j, j < n → @Ne Nat Dn (d j) ∧ @Ne Nat Dn (x j) := fun j hj =>
            ⟨Nat.ne_of_gt (hl1 _ (List.mem_append.mpr (.inl (mem_led.mpr ⟨j, hj, .tail _ (.head _)⟩)))), Nat.ne_of_gt (hl1 _ (List.mem_append.mpr (.inl (mem_led.mpr ⟨j, hj, .head _⟩))))⟩
          have hRd2 : ∀ p ∈ (fa, W.listOf (items ++ [Value.ref Dn]).toArray (ep + 1)) :: (Dn, tupObj #[.int (k : Int) tk1, .int (i : Int) tk3]) :: Ts, ∀ j, j < n → @Ne Nat p.1 (d j) ∧ @Ne Nat p.1 (x j) := by
            intro p hp j hj
            rcases List.mem_cons.mp hp with rfl | hp
            · exact hRd (fa, W.listOf items.toArray ep) (.head _) j hj
            · rcases List.mem_cons.mp hp with rfl | hp
              · exact hDd j hj
              · exact hRd p (.tail _ hp) j hj
          have hFi2 : Finds fa (fl ++ [(k, i)]) ((fa, W.listOf (items ++ [Value.ref Dn]).toArray (ep + 1)) :: (Dn, tupObj #[.int (k : Int) tk1, .int (i : Int) tk3]) :: Ts) := by
            refine ⟨_, _, _, rfl, fun p hp => ?_, All2.snoc (hA2.imp fun v q ⟨T1, t1, t2', e1, e2⟩ => ⟨T1, t1, t2', e1, .tail _ e2⟩) ⟨Dn, tk1, tk3, rfl, .head _⟩⟩
            rcases List.mem_cons.mp hp with rfl | hp
            · exact Nat.ne_of_gt (hl1 _ hfam)
            · exact hTs p hp
          generalize hR2 : (fa, W.listOf (items ++ [Value.ref Dn]).toArray (ep + 1)) :: (Dn, tupObj #[.int (k : Int) tk1, .int (i : Int) tk3]) :: Ts = R2 at N7 hRd2 hFi2
          clear F6 N6 hs7 ho7 hfaN hfam hl1 hRd hTs hA2
          have hxi : ((List.range n).map fun j => Value.ref (x j))[i]? = some (Value.ref (x i)) := by simp [hi]
          have hri : reachTo σ' k n i = (σ' i).reach k := by simp [reachTo, hi]
          have hmem : ∀ p ∈ skObjs w.params (x i) (d i) (t2 i) ((σ' i).reach k), p ∈ led w.params n x d t2 (reachTo σ' k n) ++ R2 := fun p hp => List.mem_append.mpr (.inl (mem_led.mpr ⟨i, hi, by rw [hri]; exact hp⟩))
          have hm1 := hmem _ (.head _)
          have hm2 := hmem _ (.tail _ (.head _))
          have hb1 := hσ i hi
          have hsk := hsame i
          have hr := reach_same (σ' i) k
          have hfb := fit_bound (takerTo_fit hcase)
          have hwi : ((σ' i).reach k).width = (σ i).width := by unfold Sk.width; rw [hr.1, hr.2.1, hsk.1, hsk.2.1]
          dsimp only
          try k_fold
          k_steps
          unfold Stop
          with_reducible rename Fr _ _ _ _ => F6
          with_reducible rename News _ _ _ _ => N6
          refine took_spec (σ := (σ' i).reach k) (t := t2 i) (x := x i) (dx := d i) (Gd.mk X T) (Fr.keep F6) (by with_unfolding_all assumption) (dpt (by assumption)) (unt (by assumption)) (fun p hp => ⟨(N6 p (hmem p hp)).1, (N6 p (hmem p hp)).2.2⟩) (ap.dx i i hi hi) (by omega) (by omega) (by omega) (by rw [hr.2.1, hsk.2.1]; omega) ?_
          intro h8 tk8 t8 hk8 hp8
          have F8 := fr_led (own := []) F6 N6 hi hk8
          have N8 := news_led (own := []) N6 ap hi (fun _ h => nomatch h) (fun p hp => (hRd2 p hp i hi).1) hk8 hp8
          rw [List.nil_append] at N8
          have hmem8 : ∀ p ∈ skObjs w.params (x i) (d i) t8 (((σ' i).reach k).took k), p ∈ led w.params n x d (upd t2 i t8) (upd (reachTo σ' k n) i (((σ' i).reach k).took k)) ++ R2 := fun p hp => List.mem_append.mpr (.inl (mem_led.mpr ⟨i, hi, by simpa [upd] using hp⟩))
          have hm18 := hmem8 _ (.head _)
          have hm28 := hmem8 _ (.tail _ (.head _))
          clear F6 N6 hm1 hm2
          dsimp only
          try k_fold
          k_steps
          unfold Stop
          with_reducible rename Fr _ _ _ _ => F6
          with_reducible rename News _ _ _ _ => N6
          refine width_spec (σ := ((σ' i).reach k).took k) (t := t8) (x := x i) (dx := d i) (Gd.mk X T) (Fr.keep F6) (by with_unfolding_all assumption) (dpt (by assumption)) (unt (by assumption)) (fun p hp => ⟨(N6 p (hmem8 p hp)).1, (N6 p (hmem8 p hp)).2.2⟩) (by show ((σ' i).reach k).want.length ≤ 100; rw [hr.2.1, hsk.2.1]; omega) ?_
          intro h9a tk9a t9a hk9a
          have F9a := fr_keeps F6 hk9a
          have N9a := news_keeps N6 hk9a
          clear F6 N6
          dsimp only
          try k_fold
          k_steps
          with_reducible rename Fr _ _ _ _ => F6
          with_reducible rename News _ _ _ _ => N6
          have hwt : (((σ' i).reach k).took k).width = (σ i).width := hwi
          refine ⟨_, _, _, _, o.length - (k + (σ i).width), rfl, F6, N6, by omega, k + (σ i).width, tk9a, upd (reachTo σ' k n) i (((σ' i).reach k).took k), upd t2 i t8, R2, fl ++ [(k, i)], rfl, ?_, rfl, rfl, rfl, hFi2, hRd2, ?_, ?_, by omega, rfl, by rw [List.length_append]; simp only [List.length_cons, List.length_nil]; omega⟩
          · rw [hwt, Int.natCast_add]; rfl
          · rw [← htr]
            conv => rhs; rw [trace, if_pos (by omega), hcase]
            simp only [foundOf]
            rw [show max 1 (σ' i).width = (σ i).width by rw [hsame.width i]; omega]
            rw [List.append_assoc]
            rfl
          · refine hsr.trans ?_
            have := SameK.upd_took (σ := reachTo σ' k n) (i := i) (k := k)
            rw [hri] at this
            exact this
    · with_reducible rename Fr _ _ _ _ => F6
      with_reducible rename News _ _ _ _ => N6
      have hkge : ¬ (k : Int) < (o.toArray.size : Int) := by assumption
      rw [List.size_toArray] at hkge
      rw [trace, if_neg (by omega)] at htr
      simp only [foundOf, List.append_nil] at htr
      show Q _ _
      refine ret fa _ _ t' σ' R (fun b o hb hd => ?_) (fun p hp => (N6 p (List.mem_append.mpr (.inl hp))).1) hsame (fun p hp => ⟨(N6 p (List.mem_append.mpr (.inr hp))).1, ?_⟩) (htr ▸ hFi)
      · by_cases hbm : b ∈ (led w.params n x d t σ).map (·.1)
        · obtain ⟨p, hp, rfl⟩ := List.mem_map.mp hbm
          obtain ⟨j, hj, hpj⟩ := mem_led.mp hp
          have h1 := (hN p hp).1
          rw [hb] at h1
          rcases List.mem_cons.mp hpj with rfl | hpj
          · cases h1
            exact (N6 (x j, instObj 135 (d j)) (List.mem_append.mpr (.inl (mem_led.mpr ⟨j, hj, .head _⟩)))).1
          · rcases List.mem_cons.mp hpj with rfl | hpj
            · exact absurd rfl (hd j hj)
            · cases hpj
        · exact F6.keep _ _ (hsg _ _ hb hbm)
      · cases q : s.heap.get? p.1 with
        | none => rfl
        | some oq =>
          have h3 := hRd p hp
          have : p.1 ∉ (led w.params n x d t σ).map (·.1) := fun hm => by
            obtain ⟨p', hp', e⟩ := List.mem_map.mp hm
            obtain ⟨j, hj, r⟩ := mem_led_addr hp'
            rcases r with r | r
            · exact (h3 j hj).2 (e.symm.trans r)
            · exact (h3 j hj).1 (e.symm.trans r)
          have h4 := hsg _ _ q this
          have h5 := (N6 p (List.mem_append.mpr (.inr hp))).2.2
          rw [h4] at h5; cases h5
end
end
local macro_rules | `(tactic| walk_at "exec Assign cons ListComp") => `(tactic| refine Stop.mk ?_)
local macro_rules | `(tactic| walk_at "eval ListComp") => `(tactic| refine Stop.mk ?_)
local macro_rules | `(tactic| walk_at "forIn") => `(tactic| refine wpAny_tests_nil ?_)
local macro_rules | `(tactic| walk_at "pyIter ref") => `(tactic| ((with_reducible show wpAny _ _ (pyIter (Value.ref _)) _ _ _); refine Stop.mk ?_))
section
open PySem PySem.W PySem.Calls PyProof.Rows
set_option Elab.async false
set_option maxRecDepth 100000
set_option maxHeartbeats 20000000
set_option pp.deepTerms false
set_option pp.maxSteps 700
set_option linter.all false
open PyProof.Rows.LCg (NsObj ns_obj lst lst_snoc)
local macro_rules | `(tactic| walk_at "call ref") => `(tactic| ((with_reducible show wpAny _ _ (call (Value.ref 146) _) _ _ _); refine Stop.mk ?_))
local macro_rules | `(tactic| walk_at "call ref") => `(tactic| ((with_reducible show wpAny _ _ (call (Value.ref 153) _) _ _ _); refine Stop.mk ?_))
local macro_rules | `(tactic| walk_at "call builtin:len") => `(tactic| (k_here; (with_reducible show wpAny _ _ (call (Value.builtin "len") [Value.ref _]) _ _ _); (with_reducible rename Fr _ _ _ _ => F'); (refine call_len_list (Heap.IsList.at (by with_reducible assumption) (fun o e => Fr.keep F' _ o e)) (by rw [List.size_toArray]; omega) ?_)))
local macro_rules | `(tactic| walk_at "binaryOp Mult ref int") => `(tactic| ((with_reducible show wpAny _ _ (binaryOp Operator.Mult (Value.ref _) (Value.int _ _)) _ _ _); refine Stop.mk ?_))
local macro_rules | `(tactic| walk_at "exec For Tuple Call cons nil") => `(tactic| (k_here; (rename Fr _ _ _ _ => lF'); (with_unfolding_all refine' For_turns lF' ?_; k_whole)))
theorem skOf_ok {o : List UInt8} {rs : List Rw} (hrs : ∀ r ∈ rs, r.ok) (ho : o.length ≤ 50) {j : Nat} (hj : j < rs.length) : (skOf o rs j).b ≤ 100 ∧ (skOf o rs j).e ≤ o.length ∧ (skOf o rs j).want.length ≤ 10 ∧ 0 < (skOf o rs j).width := by
  have hr : rs.getD j rw0 ∈ rs := by
    rw [List.getD_eq_getElem?_getD, List.getElem?_eq_getElem hj]; exact List.getElem_mem hj
  have ok := hrs _ hr
  refine ⟨Nat.le_trans (beginOf_le ok.aft) (by omega), endOf_le, ok.le, ?_⟩
  unfold Sk.width
  show 0 < if (rs.getD j rw0).kd = .chars then 1 else (rs.getD j rw0).want.length
  split
  · exact Nat.one_pos
  · rename_i h; exact ok.pos h
theorem found_count (wd : Nat → Nat) (j : Nat) : ∀ (l : List (Option Nat)) (k : Nat), (foundOf wd k l).countP (fun q => q.2 == j) = l.count (some j)
  | [], _ => rfl
  | none :: l, k => by rw [foundOf, found_count wd j l, List.count_cons]; simp
  | some i :: l, k => by rw [foundOf, List.countP_cons, found_count wd j l, List.count_cons]; simp
theorem found_mem (wd : Nat → Nat) : ∀ (l : List (Option Nat)) (k : Nat) (q : Nat × Nat), q ∈ foundOf wd k l → some q.2 ∈ l
  | [], _, _, h => nomatch h
  | none :: l, k, q, h => .tail _ (found_mem wd l _ q h)
  | some i :: l, k, q, h => by
    rcases List.mem_cons.mp h with rfl | h
    · exact .head _
    · exact .tail _ (found_mem wd l _ q h)
theorem trace_lt {o : List UInt8} {n : Nat} : ∀ (f k : Nat) (σ : Nat → Sk), o.length - k ≤ f → ∀ j, some j ∈ trace o n σ k → j < n
  | 0, k, σ, hf, j, h => by rw [trace, if_neg (by omega)] at h; cases h
  | f + 1, k, σ, hf, j, h => by
    rw [trace] at h
    split at h
    · split at h
      · rcases List.mem_cons.mp h with h | h
        · cases h
        · exact trace_lt f _ _ (by omega) j h
      · rename_i i hi
        rcases List.mem_cons.mp h with h | h
        · cases h
          unfold takerTo at hi
          exact List.mem_range.mp (List.mem_of_find?_eq_some hi)
        · exact trace_lt f _ _ (by omega) j h
    · cases h
theorem cnt_snoc {fl : List (Nat × Nat)} {i j : Nat} {q : Nat × Nat} (h : fl[i]? = some q) : (fl.take (i + 1)).countP (fun q => q.2 == j) = (fl.take i).countP (fun q => q.2 == j) + if q.2 = j then 1 else 0 := by
  obtain ⟨hi, he⟩ := List.getElem?_eq_some_iff.mp h
  rw [List.take_succ, h, List.countP_append]; simp [List.countP_cons]
local macro_rules | `(tactic| walk_at "subscriptTail Name Name ref int") => `(tactic| refine Stop.mk ?_)
local macro_rules | `(tactic| walk_at "setItem ref int") => `(tactic| ((with_reducible show wpAny _ _ (setItem (Value.ref _) (Value.int _ _) _) _ _ _); refine Stop.mk ?_))
section
variable {w : World} {A : Around} {s : Shared} {mean : ExcName → Option Value} {mg mb : Str → Option Value} {h₀ : Heap} {Q E : Value → Shared → Prop}
theorem tallied_spec {o : List UInt8} {rs : List Rw} {rl : Addr} {t0 : Tok} (G : Gd w mean mg mb h₀) (st : ∀ b o, h₀.get? b = some o → s.heap.get? b = some o)
    (hh : A.handled = none) (hd : A.depth + 50 < 1000) (hu : A.units + 500 < 9900) (ho : o.length ≤ 50) (hR : RowsAt s.heap rl rs) (hrs : ∀ r ∈ rs, r.ok) (hn : rs.length ≤ 8)
    (ret : ∀ D h' tk τ, (∀ b o, s.heap.get? b = some o → h'.get? b = some o) → h'.get? D = some (W.listOf (cntL rs.length (fun j => (trace o rs.length (skOf o rs) 0).count (some j)) τ).toArray 0) → s.heap.get? D = none → Q (.ref D) { s with heap := h', toks := tk }) :
    wpAny (model PySem.Challenge.pw_pb0230_01 w) A (call (.ref 158) [.bytes o.toArray t0, .ref rl]) Q E s := by
  refine wpAny_call ?_
  refine' enterC ([]) G st ((by simp)) ?k6 ?k7 ?k8 ?k9 ?kB ?kD ?_ ?c2 ?c3 ?c4 (binds := [(Str.ofString "octets", .bytes o.toArray t0), (Str.ofString "rows", .ref rl)])
  case k6 => k_is
  case k7 => k_is
  case k8 => (unfold recursionLimit; omega)
  case k9 => exact BindsTo.of_eq rfl
  case kB => exact rfl
  case kD => decide +kernel
  case c2 => exact rfl
  case c3 => exact rfl
  case c4 => exact rfl
  intro g L h₁ tk cells hsg hgs F N Y hg X T hlt
  try dsimp only
  try k_fold
  have hY := CellsAre.one Y
  obtain ⟨oc, hE, hoc⟩ := hY
  subst hE
  clear Y
  replace hoc : oc.data = .cell (some (.bytes o.toArray t0)) := hoc
  have hsg0 : ∀ b o, s.heap.get? b = some o → g.get? b = some o := fun b o e => hsg b o e (by simp)
  have hRg := hR.keep hsg0
  obtain ⟨m9, F0, hm9⟩ : ∃ m9, Fr g L h₁ m9 ∧ m9 (Str.ofString "rows") = some (.ref rl) := ⟨_, F, rfl⟩
  have F1 := fr_canon F0 [(Str.ofString "rows", .ref rl)] (by intro p hp; rw [List.mem_singleton.mp hp]; exact hm9)
  clear F F0 hm9
  k_steps
  unfold Stop
  obtain ⟨items, ep, hli, hA2⟩ := hRg
  have hlen := hA2.length
  obtain ⟨qc, hqc⟩ : ∃ qc : Flow → Shared → Prop, qc = fun fl s' => fl = .next ∧ ∃ D x d t h tk, s' = { s with heap := h, toks := tk } ∧ Fr g L h (fun z => if z = Str.ofString "seekers" then some (.ref D) else canon [(Str.ofString "rows", .ref rl)] m9 z) ∧
      News g L h ((D, lst ((List.range items.length).map (fun j => Value.ref (x j)))) :: (L + 1, oc) :: led w.params items.length x d t (skOf o rs)) ∧ Apart items.length x d ∧ (∀ p ∈ led w.params items.length x d t (skOf o rs), @Ne Nat p.1 D ∧ @Ne Nat p.1 (L + 1)) ∧ @Ne Nat D (L + 1) := ⟨_, rfl⟩
  refine wpAny_mono (Q := qc) ?_ ?_ (fun _ _ e => e)
  · refine Assign_ListComp_S (S := L) (cl := [("octets", L + 1)]) (by with_unfolding_all rfl) (by with_unfolding_all rfl) (by decide) (by rfl) (by decide) (storesF F1 (by rfl) (by rfl) (by rfl)) ?_ (by intro _; rfl)
    k_steps
    unfold Stop
    with_reducible rename Fr _ _ _ _ => F9
    with_reducible rename News _ _ _ _ => N9
    obtain ⟨oL, hoL, hnL⟩ := ns_obj F9.ns
    refine comp_list (X := fun b => b = L) (vs := items) (news0 := []) (J := fun i ys nx => ∃ x d t, ys = (List.range i).map (fun j => Value.ref (x j)) ∧ nx = led w.params i x d t (skOf o rs) ∧ Apart i x d)
      (K := fun D ys nx h tk => ∀ o, h.get? L = some o → NsObj o (fun z => if z = Str.ofString "seekers" then some (.ref D) else canon [(Str.ofString "rows", .ref rl)] m9 z) → qc .next { s with heap := h, toks := tk })
      (by with_unfolding_all assumption) ⟨_, F9.keep _ _ hli, rfl, ep, rfl⟩ (by simp) ⟨by rw [sizeLine_eq]; omega, (fun _ h => nomatch h), ⟨fun _ => 0, fun _ => 0, fun _ _ => 0, rfl, rfl, ⟨fun i j hi => absurd hi (Nat.not_lt_zero _), fun i j hi => absurd hi (Nat.not_lt_zero _)⟩⟩, (by rintro b rfl; exact ⟨by simp, oL, hoL⟩), ?_⟩ (fun it h₂ up H => ⟨⟨oL, up _ _ hoL, hnL⟩, H⟩)
    intro g2 C D hg1 hg2 _ hC hD hCD
    have k2 : ∀ b o, g.get? b = some o → g2.get? b = some o := fun b o e => hg1 b o (F9.keep b o e) (by simp)
    have X2 := X.keeps k2
    have T2 := T.keeps k2
    have hoc2 : g2.get? (L + 1) = some oc := hg1 _ _ (N9 _ (.head _)).1 (by simp)
    refine ⟨?_, ?_⟩
    · rintro i v ys nx h tk m own hi hv ⟨x, d, t, rfl, rfl, ap⟩ hap F5 N5
      obtain ⟨r, hr, TT, t1, t2, t3, t4, rfl, hTT⟩ := hA2.get hv
      have hrok := hrs r (List.mem_of_getElem? hr)
      have hT5 : IsTup h TT #[.str r.kd.s t1, wantV r.kd r.want t2, optV r.bef t3, optV r.aft t4] := ⟨_, F5.keep _ _ (k2 _ _ hTT), rfl, _, rfl⟩
      clear F9 N9 X T
      try k_fold
      k_steps
      unfold Stop
      with_reducible rename Fr _ _ _ _ => F7
      with_reducible rename News _ _ _ _ => N7
      have hi8 : i < rs.length := by rw [← hlen]; exact hi
      have hsk : Sk.of o r.kd r.want r.bef r.aft = skOf o rs i := by unfold skOf Sk.ofR; rw [List.getD_eq_getElem?_getD, hr]; rfl
      refine seeker_of_spec (Gd.mk X2 T2) F7.keep (by assumption) (dpt (by assumption)) (unt (by assumption)) (by omega) hrok.pos (Nat.le_trans hrok.le (by decide)) hrok.bef hrok.aft ?_
      intro x5 dx5 h7 tk7 t7 k7 new7 fx fd hlt7
      rw [hsk] at new7
      have f : ∀ p ∈ (D, lst ((List.range i).map (fun j => Value.ref (x j)))) :: (own ++ led w.params i x d t (skOf o rs)), @Ne Nat p.1 x5 ∧ @Ne Nat p.1 dx5 := fun p hp => ⟨Ne.symm (ne_of_none fx (N7 p hp).1), Ne.symm (ne_of_none fd (N7 p hp).1)⟩
      have fl : ∀ j, j < i → @Ne Nat (x j) x5 ∧ @Ne Nat (x j) dx5 ∧ @Ne Nat (d j) x5 ∧ @Ne Nat (d j) dx5 := fun j hj => by
        have a := f (x j, instObj 135 (d j)) (.tail _ (List.mem_append.mpr (.inr (mem_led.mpr ⟨j, hj, .head _⟩))))
        have b := f (d j, skDict w.params (t j) (skOf o rs j)) (.tail _ (List.mem_append.mpr (.inr (mem_led.mpr ⟨j, hj, .tail _ (.head _)⟩))))
        exact ⟨a.1, a.2, b.1, b.2⟩
      have n7 : ∀ p ∈ skObjs w.params x5 dx5 t7 (skOf o rs i), p.1 = x5 ∨ p.1 = dx5 := by
        intro p hp
        rcases List.mem_cons.mp hp with rfl | hp
        · exact .inl rfl
        · rcases List.mem_cons.mp hp with rfl | hp
          · exact .inr rfl
          · cases hp
      show CEnd _ _ _ _ _ _ _ _
      refine ⟨h7, tk7, _, led w.params (i + 1) (upd x i x5) (upd d i dx5) (upd t i t7) (skOf o rs), rfl, fr_keeps F7 k7, ?_, ?_, upd x i x5, upd d i dx5, upd t i t7, ?_, rfl, ap.succ (Nat.ne_of_lt hlt7) (fun j hj => ⟨(fl j hj).2.2.1, Ne.symm (fl j hj).2.1, Ne.symm (fl j hj).2.2.2⟩)⟩
      · rw [led_succ]
        intro p hp
        rw [← List.append_assoc, ← List.cons_append] at hp
        rcases List.mem_append.mp hp with hp | hp
        · exact news_keeps N7 k7 p hp
        · have hC7 := F7.ns.lt
          refine ⟨new7 p hp, ?_, ?_⟩
          · obtain ⟨oC, _, _, hC7, _⟩ := F7.ns
            rcases n7 p hp with e | e <;> rw [e]
            · exact ne_of_none fx hC7
            · exact ne_of_none fd hC7
          · rcases n7 p hp with e | e <;> rw [e]
            · exact none_before F7.keep fx
            · exact none_before F7.keep fd
      · rw [led_succ]
        intro p hp q hq
        rcases List.mem_append.mp hq with hq | hq
        · exact hap p hp q hq
        · have := f p (by rcases List.mem_cons.mp hp with rfl | hp; exact .head _; exact .tail _ (List.mem_append.mpr (.inl hp)))
          rcases n7 q hq with e | e <;> rw [e]
          · exact this.1
          · exact this.2
      · rw [List.range_succ, List.map_append]
        congr 1
        · refine List.map_congr_left fun j hj => ?_
          have : j ≠ i := Nat.ne_of_lt (List.mem_range.mp hj)
          simp [upd, this]
        · simp [upd]
    · intro ys nx h tk2 hJ k1 k3 hDl oz hoz hnz
      obtain ⟨x, d, t, rfl, rfl, ap⟩ := hJ
      rw [hqc]
      have e1 := N9 _ (.head _)
      refine ⟨rfl, D, x, d, t, h, tk2, rfl, ⟨hnz.ns hoz, fun b o e => k1 b o (F9.keep b o e) (by simp) (Nat.ne_of_lt (Nat.lt_of_lt_of_le (Heap.lt_size e) F9.above)), F9.above⟩, ?_, ap, ?_, ne_of_none hD e1.1⟩
      · intro p hp
        rcases List.mem_cons.mp hp with rfl | hp
        · exact ⟨hDl, ne_of_none hD hoL, none_before F9.keep hD⟩
        · rcases List.mem_cons.mp hp with rfl | hp
          · exact ⟨k1 _ _ e1.1 (by simp) e1.2.1, e1.2⟩
          · obtain ⟨q1, q2, q3, q4⟩ := k3 p hp
            have q5 := q4.resolve_right (fun h => nomatch h)
            exact ⟨q1, ne_of_none q5 hoL, none_before F9.keep q5⟩
      · intro p hp
        obtain ⟨q1, q2, q3, q4⟩ := k3 p hp
        have q5 := q4.resolve_right (fun h => nomatch h)
        exact ⟨q3, ne_of_none q5 e1.1⟩
  rintro fl s' hq
  rw [hqc] at hq
  obtain ⟨rfl, D, x, d, t, h, tk2, rfl, F5, N5, ap, hap, hDo⟩ := hq
  dsimp only
  have hlR : g.IsList rl items.toArray := ⟨_, hli, rfl, ep, rfl⟩
  try k_fold
  k_steps
  unfold Stop
  with_reducible rename Fr _ _ _ _ => F6
  with_reducible rename News _ _ _ _ => N6
  refine KMa.mul F6 N6 (by is_list) (by omega) (by rw [List.size_toArray]; omega) (by rw [List.size_toArray, Int.toNat_natCast, List.length_singleton]; omega) (zeros_eq (k := rs.length) (by rw [List.size_toArray, Int.toNat_natCast, hlen])) ?_
  intro l2 h7 F7 N7 hl2
  clear F6 N6
  dsimp only
  try k_fold
  k_steps
  unfold Stop
  with_reducible rename Fr _ _ _ _ => F6
  with_reducible rename News _ _ _ _ => N6
  rename_i l0 _ _ _
  have hd2 : ∀ j, j < items.length → @LT.lt Nat _ (d j) l2 ∧ @Ne Nat (d j) (L + 1) ∧ @Ne Nat (d j) L ∧ g.get? (d j) = none := fun j hj => by
    have hm : (d j, skDict w.params (t j) (skOf o rs j)) ∈ led w.params items.length x d t (skOf o rs) := mem_led.mpr ⟨j, hj, .tail _ (.head _)⟩
    have := N6 _ (.tail _ (.tail _ (.tail _ (.tail _ hm))))
    exact ⟨hl2 (d j, skDict w.params (t j) (skOf o rs j)) (.tail _ (.tail _ (.tail _ hm))), (hap _ hm).2, this.2⟩
  refine fits_in_spec (n := items.length) (x := x) (d := d) (t := t) (σ := skOf o rs) (Gd.mk X T) F6.keep (by with_unfolding_all assumption) (dpt (by assumption)) (unt (by assumption)) ho (by omega) (fun p hp => by
    have := N6 _ (.tail _ (.tail _ (.tail _ (.tail _ hp)))); exact ⟨this.1, this.2.2⟩) ap ⟨_, (N6 _ (.tail _ (.tail _ (.head _)))).1, rfl, _, rfl⟩ (fun j hj => skOf_ok hrs ho (by omega)) ?_
  rintro fa h8 tk8 t8 σ8 R8 k8 new8 same8 hR8 ⟨its, ep8, Ts, rfl, hTs, hIt⟩
  have F8 := fr_keepsW (W := (List.range items.length).map d) F6 (fun b hb => by
    obtain ⟨j, hj, rfl⟩ := List.mem_map.mp hb
    exact (hd2 j (List.mem_range.mp hj)).2.2) (fun b o e hb => k8 b o e (fun j hj q => hb (List.mem_map.mpr ⟨j, List.mem_range.mpr hj, q.symm⟩)))
  have hfa := hR8 _ (.head _)
  obtain ⟨oL6, _, _, hoL6, _⟩ := F6.ns
  obtain ⟨fl, hfl⟩ : ∃ fl, fl = foundOf (fun j => (skOf o rs j).width) 0 (trace o items.length (skOf o rs) 0) := ⟨_, rfl⟩
  rw [← hfl] at hIt
  have hflb : ∀ q ∈ fl, q.2 < rs.length := fun q hq => hlen ▸ trace_lt _ _ _ (Nat.le_refl _) _ (found_mem _ _ _ q (hfl ▸ hq))
  have nl2 := N6 _ (.head _)
  have noc := N6 _ (.tail _ (.tail _ (.tail _ (.head _))))
  have hl2c : @Ne Nat l2 (L + 1) := Ne.symm (Nat.ne_of_lt (hl2 (L + 1, oc) (.tail _ (.tail _ (.head _)))))
  have N8 : News g L h8 ((l2, W.listOf (cntL rs.length (fun _ => 0) fun _ => tk2).toArray 0) :: (L + 1, oc) :: Ts) := by
    intro p hp
    rcases List.mem_cons.mp hp with rfl | hp
    · exact ⟨k8 _ _ nl2.1 fun j hj => Nat.ne_of_gt (hd2 j hj).1, nl2.2⟩
    · rcases List.mem_cons.mp hp with rfl | hp
      · exact ⟨k8 _ _ noc.1 fun j hj => Ne.symm (hd2 j hj).2.1, noc.2⟩
      · have := hR8 p (.tail _ hp)
        exact ⟨this.1, ne_of_none this.2 hoL6, none_before F6.keep this.2⟩
  have hTl : ∀ p ∈ (L + 1, oc) :: Ts, @Ne Nat p.1 l2 := by
    intro p hp
    rcases List.mem_cons.mp hp with rfl | hp
    · exact Ne.symm hl2c
    · exact ne_of_none (hR8 p (.tail _ hp)).2 nl2.1
  refine listLoopT (l := fa) (vs := its) (news := (l2, W.listOf (cntL rs.length (fun _ => 0) fun _ => tk2).toArray 0) :: (L + 1, oc) :: Ts)
    (fun i m nx => m (Str.ofString "counts") = some (.ref l2) ∧ ∃ τ, nx = (l2, W.listOf (cntL rs.length (fun j => (fl.take i).countP (fun q => q.2 == j)) τ).toArray 0) :: (L + 1, oc) :: Ts)
    (by with_unfolding_all assumption) ⟨_, hfa.1, rfl, ep8, rfl⟩ (ne_of_none hfa.2 hoL6) ?_ F8 N8 ⟨rfl, _, rfl⟩ ?_ ?_
  · intro p hp
    rcases List.mem_cons.mp hp with rfl | hp
    · exact Ne.symm (ne_of_none hfa.2 nl2.1)
    · rcases List.mem_cons.mp hp with rfl | hp
      · exact Ne.symm (ne_of_none hfa.2 noc.1)
      · exact hTs p hp
  · rintro i v m₁ nx h9 tk9 own hv hadr ⟨hm, τ, rfl⟩ hown F₁ N₁
    obtain ⟨q, hq, T5, t1, t2, rfl, hT⟩ := hIt.get hv
    have hq2 := hflb q (List.mem_of_getElem? hq)
    have hT5 : IsTup h9 T5 #[.int (q.1 : Int) t1, .int (q.2 : Int) t2] := ⟨_, (N₁ _ (List.mem_append.mpr (.inr (.tail _ (.tail _ hT))))).1, rfl, _, rfl⟩
    have F₂ := fr_canon F₁ [(Str.ofString "counts", .ref l2)] (by intro p hp; rw [List.mem_singleton.mp hp]; exact hm)
    clear F₁ F8 N8 F6 N6
    try k_fold
    k_steps
    unfold Stop
    with_reducible rename Fr _ _ _ _ => F7
    with_reducible rename News _ _ _ _ => N7
    refine get_at (vs := cntL rs.length _ τ) ⟨_, (N7 _ (List.mem_append.mpr (.inr (.head _)))).1, rfl, _, rfl⟩ (cntL_get hq2) (by omega) ?_
    dsimp only
    try k_fold
    k_steps
    unfold Stop
    with_reducible rename Fr _ _ _ _ => F9
    with_reducible rename News _ _ _ _ => N9
    refine set_cnt (n := rs.length) (c := fun j => (fl.take i).countP (fun q => q.2 == j)) (τ := τ) (R := own ++ ((L + 1, oc) :: Ts)) ((fl.take i).countP (fun z => z.2 == q.2) + 1) F9 (news_fst N9) ?_ hq2 (by omega) rfl ?_
    · intro p hp
      rcases List.mem_append.mp hp with hp | hp
      · exact hown p hp _ (.head _)
      · exact hTl p hp
    intro h10 F10 N10
    have ec : upd (fun j => (fl.take i).countP (fun q => q.2 == j)) q.2 ((fl.take i).countP (fun z => z.2 == q.2) + 1) = fun j => (fl.take (i + 1)).countP (fun q => q.2 == j) := by
      funext j
      rw [cnt_snoc hq]
      unfold upd
      by_cases e : j = q.2
      · subst e; simp
      · simp [e, Ne.symm e]
    rw [ec] at N10
    dsimp only
    try k_fold
    k_steps
    refine ⟨h10, _, _, _, rfl, F10, news_mid N10, ?hm, rfl, _, rfl⟩
    rfl
  · rintro h9 tk9 m nx hadr ⟨hm, τ, rfl⟩ F₁ N₁
    have F₂ := fr_canon F₁ [(Str.ofString "counts", .ref l2)] (by intro p hp; rw [List.mem_singleton.mp hp]; exact hm)
    clear F8 N8 F6 N6
    dsimp only
    try k_fold
    k_steps
    have z := N₁ _ (.head _)
    show Q _ _
    refine ret _ _ _ τ (keep0 hsg F₁) ?_ (none_before hsg0 z.2.2)
    refine z.1.trans ?_
    have ec : (fun j => (fl.take its.length).countP (fun q => q.2 == j)) = fun j => (trace o rs.length (skOf o rs) 0).count (some j) := by
      funext j
      rw [hIt.length, List.take_length, ← hlen, hfl]
      exact found_count _ _ _ _
    show some (W.listOf (cntL _ (fun j => (fl.take its.length).countP (fun q => q.2 == j)) _).toArray 0) = _
    rw [ec]
end
end
section
open PySem PySem.W PySem.Calls PyProof.Rows
set_option Elab.async false
set_option maxRecDepth 100000
set_option maxHeartbeats 20000000
set_option pp.deepTerms false
set_option pp.maxSteps 700
set_option linter.all false
open PyProof.Rows.LCg (NsObj ns_obj lst lst_snoc)
local macro_rules | `(tactic| walk_at "call ref") => `(tactic| ((with_reducible show wpAny _ _ (call (Value.ref 146) _) _ _ _); refine Stop.mk ?_))
local macro_rules | `(tactic| walk_at "call ref") => `(tactic| ((with_reducible show wpAny _ _ (call (Value.ref 153) _) _ _ _); refine Stop.mk ?_))
local macro_rules | `(tactic| walk_at "call ref") => `(tactic| ((with_reducible show wpAny _ _ (call (Value.ref 111) _) _ _ _); refine Stop.mk ?_))
local macro_rules | `(tactic| walk_at "call type:enumerate") => `(tactic| refine Stop.mk ?_)
local macro_rules | `(tactic| walk_at "exec For Tuple Call cons nil") => `(tactic| (k_here; (rename Fr _ _ _ _ => lF'); (with_unfolding_all refine' For_turns lF' ?_; k_whole)))
local macro_rules | `(tactic| walk_at "subscriptTail Name Name ref int") => `(tactic| refine Stop.mk ?_)
local macro_rules | `(tactic| walk_at "ite") => `(tactic| ((with_reducible show (ite ((_ != _) = true) _ _)); refine Stop.mk ?_))
local macro_rules | `(tactic| walk_at "subscriptTail") => `(tactic| (k_here; (with_reducible show wpAny _ _ (subscriptTail _ (Expr.Slice none (some _) none _) (Value.bytes _ _) (Value.ref _)) _ _ _); (with_reducible rename Fr _ _ _ _ => F'); (with_reducible rename News _ _ _ _ => N'); (refine sliceTo_B (s := ⟨_, _, _, _, _⟩) F' N' (by omega) (by omega) ?_); intro h' _ _ F' N'))
local macro_rules | `(tactic| walk_at "subscriptTail") => `(tactic| (k_here; (with_reducible show wpAny _ _ (subscriptTail _ (Expr.Slice (some _) none none _) (Value.bytes _ _) (Value.ref _)) _ _ _); (with_reducible rename Fr _ _ _ _ => F'); (with_reducible rename News _ _ _ _ => N'); (refine sliceFrom_B (s := ⟨_, _, _, _, _⟩) F' N' (by omega) (by omega) ?_); intro h' _ _ F' N'))
local macro_rules | `(tactic| walk_at "binaryOp Add bytes bytes") => `(tactic| (k_here; (with_reducible show wpAny _ _ (binaryOp Operator.Add (Value.bytes (List.toArray _) _) (Value.bytes (List.toArray _) _)) _ _ _); (refine bytes_add_K (by simp only [List.size_toArray, List.length_append, List.length_take, List.length_drop]; omega) rfl ?_); intro _ _))
local macro_rules | `(tactic| walk_at "storeName") => `(tactic| ((with_reducible show wpAny _ _ (storeName (envOfC _ _ _ _ _) _ (Value.bytes _ _)) _ _ _); refine Stop.mk ?_))
/-- rows with what is put in -/
def RowsBy (h : Heap) (rl : Addr) (rs : List Rw) (bys : Nat → List UInt8) : Prop :=
  ∃ (items : List Value) (ep : Nat), h.get? rl = some (W.listOf items.toArray ep) ∧ items.length = rs.length ∧ ∀ j v, items[j]? = some v → ∃ (r : Rw) (T : Addr) (t1 t2 t3 t4 t5 : Tok), rs[j]? = some r ∧ v = Value.ref T ∧ h.get? T = some (tupObj #[.str r.kd.s t1, wantV r.kd r.want t2, .bytes (bys j).toArray t5, optV r.bef t3, optV r.aft t4])
theorem RowsBy.keep {h h' : Heap} {rl : Addr} {rs : List Rw} {bys : Nat → List UInt8} (H : RowsBy h rl rs bys) (k : ∀ b o, h.get? b = some o → h'.get? b = some o) : RowsBy h' rl rs bys := by
  obtain ⟨items, ep, h1, h2, h3⟩ := H
  refine ⟨items, ep, k _ _ h1, h2, fun j v e => ?_⟩
  obtain ⟨r, T, t1, t2, t3, t4, t5, a, b, c⟩ := h3 j v e
  exact ⟨r, T, t1, t2, t3, t4, t5, a, b, k _ _ c⟩
theorem width_le {σ : Sk} (h : σ.want.length ≤ 10) : σ.width ≤ 10 := by
  unfold Sk.width; split
  · omega
  · exact h
section
variable {w : World} {A : Around} {s : Shared} {mean : ExcName → Option Value} {mg mb : Str → Option Value} {h₀ : Heap} {Q E : Value → Shared → Prop}
theorem replaced_spec {o : List UInt8} {rs : List Rw} {bys : Nat → List UInt8} {rl : Addr} {t0 : Tok} (G : Gd w mean mg mb h₀) (st : ∀ b o, h₀.get? b = some o → s.heap.get? b = some o)
    (hh : A.handled = none) (hd : A.depth + 50 < 1000) (hu : A.units + 500 < 9900) (ho : o.length ≤ 50) (hR : RowsBy s.heap rl rs bys) (hrs : ∀ r ∈ rs, r.ok) (hn : rs.length ≤ 8)
    (hby : ∀ j, j < rs.length → (bys j).length = (skOf o rs j).width)
    (ret : ∀ h' tk t, (∀ b o, s.heap.get? b = some o → h'.get? b = some o) → Q (.bytes ((foundOf (fun j => (skOf o rs j).width) 0 (trace o rs.length (skOf o rs) 0)).foldl (putIn bys (fun j => (skOf o rs j).width)) o).toArray t) { s with heap := h', toks := tk }) :
    wpAny (model PySem.Challenge.pw_pb0230_01 w) A (call (.ref 163) [.bytes o.toArray t0, .ref rl]) Q E s := by
  refine wpAny_call ?_
  refine' enterC ([]) G st ((by simp)) ?k6 ?k7 ?k8 ?k9 ?kB ?kD ?_ ?c2 ?c3 ?c4 (binds := [(Str.ofString "octets", .bytes o.toArray t0), (Str.ofString "rows", .ref rl)])
  case k6 => k_is
  case k7 => k_is
  case k8 => (unfold recursionLimit; omega)
  case k9 => exact BindsTo.of_eq rfl
  case kB => exact rfl
  case kD => decide +kernel
  case c2 => exact rfl
  case c3 => exact rfl
  case c4 => exact rfl
  intro g L h₁ tk cells hsg hgs F N Y hg X T hlt
  try dsimp only
  try k_fold
  have hY := CellsAre.one Y
  obtain ⟨oc, hE, hoc⟩ := hY
  subst hE
  clear Y
  replace hoc : oc.data = .cell (some (.bytes o.toArray t0)) := hoc
  have hsg0 : ∀ b o, s.heap.get? b = some o → g.get? b = some o := fun b o e => hsg b o e (by simp)
  have hRg := hR.keep hsg0
  obtain ⟨m9, F0, hm9⟩ : ∃ m9, Fr g L h₁ m9 ∧ m9 (Str.ofString "rows") = some (.ref rl) := ⟨_, F, rfl⟩
  have F1 := fr_canon F0 [(Str.ofString "rows", .ref rl)] (by intro p hp; rw [List.mem_singleton.mp hp]; exact hm9)
  clear F F0 hm9
  k_steps
  unfold Stop
  obtain ⟨items, ep, hli, hlen, hA2⟩ := hRg
  obtain ⟨qc, hqc⟩ : ∃ qc : Flow → Shared → Prop, qc = fun fl s' => fl = .next ∧ ∃ D x d t h tk, s' = { s with heap := h, toks := tk } ∧ Fr g L h (fun z => if z = Str.ofString "seekers" then some (.ref D) else canon [(Str.ofString "rows", .ref rl)] m9 z) ∧
      News g L h ((D, lst ((List.range items.length).map (fun j => Value.ref (x j)))) :: (L + 1, oc) :: led w.params items.length x d t (skOf o rs)) ∧ Apart items.length x d ∧ (∀ p ∈ led w.params items.length x d t (skOf o rs), @Ne Nat p.1 D ∧ @Ne Nat p.1 (L + 1)) ∧ @Ne Nat D (L + 1) := ⟨_, rfl⟩
  refine wpAny_mono (Q := qc) ?_ ?_ (fun _ _ e => e)
  · refine Assign_ListComp_S (S := L) (cl := [("octets", L + 1)]) (by with_unfolding_all rfl) (by with_unfolding_all rfl) (by decide) (by rfl) (by decide) (storesF F1 (by rfl) (by rfl) (by rfl)) ?_ (by intro _; rfl)
    k_steps
    unfold Stop
    with_reducible rename Fr _ _ _ _ => F9
    with_reducible rename News _ _ _ _ => N9
    obtain ⟨oL, hoL, hnL⟩ := ns_obj F9.ns
    refine comp_list (X := fun b => b = L) (vs := items) (news0 := []) (J := fun i ys nx => ∃ x d t, ys = (List.range i).map (fun j => Value.ref (x j)) ∧ nx = led w.params i x d t (skOf o rs) ∧ Apart i x d)
      (K := fun D ys nx h tk => ∀ o, h.get? L = some o → NsObj o (fun z => if z = Str.ofString "seekers" then some (.ref D) else canon [(Str.ofString "rows", .ref rl)] m9 z) → qc .next { s with heap := h, toks := tk })
      (by with_unfolding_all assumption) ⟨_, F9.keep _ _ hli, rfl, ep, rfl⟩ (by simp) ⟨by rw [sizeLine_eq]; omega, (fun _ h => nomatch h), ⟨fun _ => 0, fun _ => 0, fun _ _ => 0, rfl, rfl, ⟨fun i j hi => absurd hi (Nat.not_lt_zero _), fun i j hi => absurd hi (Nat.not_lt_zero _)⟩⟩, (by rintro b rfl; exact ⟨by simp, oL, hoL⟩), ?_⟩ (fun it h₂ up H => ⟨⟨oL, up _ _ hoL, hnL⟩, H⟩)
    intro g2 C D hg1 hg2 _ hC hD hCD
    have k2 : ∀ b o, g.get? b = some o → g2.get? b = some o := fun b o e => hg1 b o (F9.keep b o e) (by simp)
    have X2 := X.keeps k2
    have T2 := T.keeps k2
    have hoc2 : g2.get? (L + 1) = some oc := hg1 _ _ (N9 _ (.head _)).1 (by simp)
    refine ⟨?_, ?_⟩
    · rintro i v ys nx h tk m own hi hv ⟨x, d, t, rfl, rfl, ap⟩ hap F5 N5
      obtain ⟨r, TT, t1, t2, t3, t4, t5, hr, rfl, hTT⟩ := hA2 _ _ hv
      have hrok := hrs r (List.mem_of_getElem? hr)
      have hT5 : IsTup h TT #[.str r.kd.s t1, wantV r.kd r.want t2, .bytes (bys i).toArray t5, optV r.bef t3, optV r.aft t4] := ⟨_, F5.keep _ _ (k2 _ _ hTT), rfl, _, rfl⟩
      clear F9 N9 X T
      try k_fold
      k_steps
      unfold Stop
      with_reducible rename Fr _ _ _ _ => F7
      with_reducible rename News _ _ _ _ => N7
      have hi8 : i < rs.length := by rw [← hlen]; exact hi
      have hsk : Sk.of o r.kd r.want r.bef r.aft = skOf o rs i := by unfold skOf Sk.ofR; rw [List.getD_eq_getElem?_getD, hr]; rfl
      refine seeker_of_spec (Gd.mk X2 T2) F7.keep (by assumption) (dpt (by assumption)) (unt (by assumption)) (by omega) hrok.pos (Nat.le_trans hrok.le (by decide)) hrok.bef hrok.aft ?_
      intro x5 dx5 h7 tk7 t7 k7 new7 fx fd hlt7
      rw [hsk] at new7
      have f : ∀ p ∈ (D, lst ((List.range i).map (fun j => Value.ref (x j)))) :: (own ++ led w.params i x d t (skOf o rs)), @Ne Nat p.1 x5 ∧ @Ne Nat p.1 dx5 := fun p hp => ⟨Ne.symm (ne_of_none fx (N7 p hp).1), Ne.symm (ne_of_none fd (N7 p hp).1)⟩
      have fl : ∀ j, j < i → @Ne Nat (x j) x5 ∧ @Ne Nat (x j) dx5 ∧ @Ne Nat (d j) x5 ∧ @Ne Nat (d j) dx5 := fun j hj => by
        have a := f (x j, instObj 135 (d j)) (.tail _ (List.mem_append.mpr (.inr (mem_led.mpr ⟨j, hj, .head _⟩))))
        have b := f (d j, skDict w.params (t j) (skOf o rs j)) (.tail _ (List.mem_append.mpr (.inr (mem_led.mpr ⟨j, hj, .tail _ (.head _)⟩))))
        exact ⟨a.1, a.2, b.1, b.2⟩
      have n7 : ∀ p ∈ skObjs w.params x5 dx5 t7 (skOf o rs i), p.1 = x5 ∨ p.1 = dx5 := by
        intro p hp
        rcases List.mem_cons.mp hp with rfl | hp
        · exact .inl rfl
        · rcases List.mem_cons.mp hp with rfl | hp
          · exact .inr rfl
          · cases hp
      show CEnd _ _ _ _ _ _ _ _
      refine ⟨h7, tk7, _, led w.params (i + 1) (upd x i x5) (upd d i dx5) (upd t i t7) (skOf o rs), rfl, fr_keeps F7 k7, ?_, ?_, upd x i x5, upd d i dx5, upd t i t7, ?_, rfl, ap.succ (Nat.ne_of_lt hlt7) (fun j hj => ⟨(fl j hj).2.2.1, Ne.symm (fl j hj).2.1, Ne.symm (fl j hj).2.2.2⟩)⟩
      · rw [led_succ]
        intro p hp
        rw [← List.append_assoc, ← List.cons_append] at hp
        rcases List.mem_append.mp hp with hp | hp
        · exact news_keeps N7 k7 p hp
        · have hC7 := F7.ns.lt
          refine ⟨new7 p hp, ?_, ?_⟩
          · obtain ⟨oC, _, _, hC7, _⟩ := F7.ns
            rcases n7 p hp with e | e <;> rw [e]
            · exact ne_of_none fx hC7
            · exact ne_of_none fd hC7
          · rcases n7 p hp with e | e <;> rw [e]
            · exact none_before F7.keep fx
            · exact none_before F7.keep fd
      · rw [led_succ]
        intro p hp q hq
        rcases List.mem_append.mp hq with hq | hq
        · exact hap p hp q hq
        · have := f p (by rcases List.mem_cons.mp hp with rfl | hp; exact .head _; exact .tail _ (List.mem_append.mpr (.inl hp)))
          rcases n7 q hq with e | e <;> rw [e]
          · exact this.1
          · exact this.2
      · rw [List.range_succ, List.map_append]
        congr 1
        · refine List.map_congr_left fun j hj => ?_
          have : j ≠ i := Nat.ne_of_lt (List.mem_range.mp hj)
          simp [upd, this]
        · simp [upd]
    · intro ys nx h tk2 hJ k1 k3 hDl oz hoz hnz
      obtain ⟨x, d, t, rfl, rfl, ap⟩ := hJ
      rw [hqc]
      have e1 := N9 _ (.head _)
      refine ⟨rfl, D, x, d, t, h, tk2, rfl, ⟨hnz.ns hoz, fun b o e => k1 b o (F9.keep b o e) (by simp) (Nat.ne_of_lt (Nat.lt_of_lt_of_le (Heap.lt_size e) F9.above)), F9.above⟩, ?_, ap, ?_, ne_of_none hD e1.1⟩
      · intro p hp
        rcases List.mem_cons.mp hp with rfl | hp
        · exact ⟨hDl, ne_of_none hD hoL, none_before F9.keep hD⟩
        · rcases List.mem_cons.mp hp with rfl | hp
          · exact ⟨k1 _ _ e1.1 (by simp) e1.2.1, e1.2⟩
          · obtain ⟨q1, q2, q3, q4⟩ := k3 p hp
            have q5 := q4.resolve_right (fun h => nomatch h)
            exact ⟨q1, ne_of_none q5 hoL, none_before F9.keep q5⟩
      · intro p hp
        obtain ⟨q1, q2, q3, q4⟩ := k3 p hp
        have q5 := q4.resolve_right (fun h => nomatch h)
        exact ⟨q3, ne_of_none q5 e1.1⟩
  rintro fl s' hq
  rw [hqc] at hq
  obtain ⟨rfl, D, x, d, t, h, tk2, rfl, F5, N5, ap, hap, hDo⟩ := hq
  dsimp only
  have hlR : g.IsList rl items.toArray := ⟨_, hli, rfl, ep, rfl⟩
  try k_fold
  k_steps
  unfold Stop
  with_reducible rename Fr _ _ _ _ => F6
  have hskw : ∀ j, j < items.length → ∃ r T t1 t2 t3 t4 t5, items[j]? = some (.ref T) ∧ rs[j]? = some r ∧ g.get? T = some (tupObj #[.str r.kd.s t1, wantV r.kd r.want t2, .bytes (bys j).toArray t5, optV r.bef t3, optV r.aft t4]) := fun j hj => by
    obtain ⟨r, TT, t1, t2, t3, t4, t5, hr, he, hTT⟩ := hA2 j items[j] (List.getElem?_eq_getElem hj)
    exact ⟨r, TT, t1, t2, t3, t4, t5, he ▸ List.getElem?_eq_getElem hj, hr, hTT⟩
  refine enumLoopK (l := D) (vs := (List.range items.length).map (fun j => Value.ref (x j))) (news := (D, lst ((List.range items.length).map (fun j => Value.ref (x j)))) :: (L + 1, oc) :: led w.params items.length x d t (skOf o rs))
    (fun i m nx => m (Str.ofString "seekers") = some (.ref D) ∧ m (Str.ofString "rows") = some (.ref rl) ∧ nx = (D, lst ((List.range items.length).map (fun j => Value.ref (x j)))) :: (L + 1, oc) :: led w.params items.length x d t (skOf o rs))
    (by with_unfolding_all assumption) ⟨_, (N5 _ (.head _)).1, rfl, _, rfl⟩ (N5 _ (.head _)).2.1 F6 N5 ⟨rfl, rfl, rfl⟩ ?_ ?_
  · rintro i xv TT tt m₂ nx h2 tk3 own hx hT hadr ⟨hms, hmr, rfl⟩ F4 N4
    have hi : i < items.length := by
      have := (List.getElem?_eq_some_iff.mp hx).1
      simpa using this
    have hxe : xv = .ref (x i) := by simp [hi] at hx; exact hx.symm
    subst hxe
    obtain ⟨r, T5, t1, t2, t3, t4, t5, hv, hr, hT5⟩ := hskw i hi
    have hT5' : IsTup g T5 #[.str r.kd.s t1, wantV r.kd r.want t2, .bytes (bys i).toArray t5, optV r.bef t3, optV r.aft t4] := ⟨_, hT5, rfl, _, rfl⟩
    have hmem : ∀ p ∈ skObjs w.params (x i) (d i) (t i) (skOf o rs i), p ∈ own ++ (D, lst ((List.range items.length).map (fun j => Value.ref (x j)))) :: (L + 1, oc) :: led w.params items.length x d t (skOf o rs) := fun p hp => List.mem_append.mpr (.inr (.tail _ (.tail _ (mem_led.mpr ⟨i, hi, hp⟩))))
    have hm1 := hmem _ (.head _)
    have hm2 := hmem _ (.tail _ (.head _))
    have F5 := fr_canon F4 [(Str.ofString "seekers", .ref D), (Str.ofString "rows", .ref rl)] (by
      intro p hp
      simp only [List.mem_cons, List.not_mem_nil, or_false] at hp
      rcases hp with rfl | rfl <;> assumption)
    have hsk := skOf_ok hrs ho (j := i) (by omega)
    have hbyi := hby i (by omega)
    have hbl : (bys i).length ≤ 10 := by rw [hbyi]; exact width_le hsk.2.2.1
    clear F4 F6 N5
    try k_fold
    k_steps
    unfold Stop
    with_reducible rename Fr _ _ _ _ => F7
    with_reducible rename News _ _ _ _ => N7
    refine get_at (vs := items) (hlR.at fun o e => F7.keep _ o e) hv (by omega) ?_
    try dsimp only
    try k_fold
    k_steps
    unfold Stop
    with_reducible rename Fr _ _ _ _ => F9
    with_reducible rename News _ _ _ _ => N9
    refine width_spec (σ := skOf o rs i) (t := t i) (x := x i) (dx := d i) (Gd.mk X T) (Fr.keep F9) (by with_unfolding_all assumption) (dpt (by assumption)) (unt (by assumption)) (fun p hp => ⟨(N9 p (hmem p hp)).1, (N9 p (hmem p hp)).2.2⟩) (by omega) ?_
    intro h8 tk8 t8 hk8
    have F8 := fr_keeps F9 hk8
    have N8 := news_keeps N9 hk8
    clear F9 N9
    rw [← hbyi]
    dsimp only
    try k_fold
    k_steps
    unfold Stop
    rw [if_neg (by rw [List.size_toArray]; simp)]
    k_steps
    refine ⟨_, _, _, _, rfl, F8, N8, ?hm, rfl, rfl, rfl⟩
    rfl
  · rintro h9 tk9 m nx hadr ⟨hms, hmr, rfl⟩ F₁ N₁
    have F₂ := fr_canon F₁ [(Str.ofString "seekers", .ref D), (Str.ofString "rows", .ref rl)] (by
      intro p hp
      simp only [List.mem_cons, List.not_mem_nil, or_false] at hp
      rcases hp with rfl | rfl <;> assumption)
    clear F₁ F6
    dsimp only
    try k_fold
    k_steps
    unfold Stop
    with_reducible rename Fr _ _ _ _ => F6
    have hd2 : ∀ j, j < items.length → @Ne Nat (d j) D ∧ @Ne Nat (d j) (L + 1) ∧ @Ne Nat (d j) L ∧ g.get? (d j) = none := fun j hj => by
      have hm : (d j, skDict w.params (t j) (skOf o rs j)) ∈ led w.params items.length x d t (skOf o rs) := mem_led.mpr ⟨j, hj, .tail _ (.head _)⟩
      have := N₁ _ (.tail _ (.tail _ hm))
      exact ⟨(hap _ hm).1, (hap _ hm).2, this.2⟩
    refine fits_in_spec (n := items.length) (x := x) (d := d) (t := t) (σ := skOf o rs) (Gd.mk X T) F6.keep (by with_unfolding_all assumption) (dpt (by assumption)) (unt (by assumption)) ho (by omega) (fun p hp => by
      have := N₁ _ (.tail _ (.tail _ hp)); exact ⟨this.1, this.2.2⟩) ap ⟨_, (N₁ _ (.head _)).1, rfl, _, rfl⟩ (fun j hj => skOf_ok hrs ho (by omega)) ?_
    rintro fa h8 tk8 t8 σ8 R8 k8 new8 same8 hR8 ⟨its, ep8, Ts, rfl, hTs, hIt⟩
    have F8 := fr_keepsW (W := (List.range items.length).map d) F6 (fun b hb => by
      obtain ⟨j, hj, rfl⟩ := List.mem_map.mp hb
      exact (hd2 j (List.mem_range.mp hj)).2.2) (fun b o e hb => k8 b o e (fun j hj q => hb (List.mem_map.mpr ⟨j, List.mem_range.mpr hj, q.symm⟩)))
    have hfa := hR8 _ (.head _)
    obtain ⟨oL6, _, _, hoL6, _⟩ := F6.ns
    obtain ⟨fl, hfl⟩ : ∃ fl, fl = foundOf (fun j => (skOf o rs j).width) 0 (trace o items.length (skOf o rs) 0) := ⟨_, rfl⟩
    rw [← hfl] at hIt
    have hflb : ∀ q ∈ fl, q.2 < rs.length := fun q hq => hlen ▸ trace_lt _ _ _ (Nat.le_refl _) _ (found_mem _ _ _ q (hfl ▸ hq))
    have hfll : fl.length ≤ 50 := by
      have h1 := found_length (fun j => (skOf o rs j).width) (trace o items.length (skOf o rs) 0) 0
      have h2 := (trace_ok (o := o) (n := items.length) (σ := skOf o rs) (fun j hj => ⟨(skOf_ok hrs ho (j := j) (by omega)).2.1, (skOf_ok hrs ho (j := j) (by omega)).2.2.2⟩) _ 0 _ (SameK.refl _) (Nat.le_refl _) (Nat.zero_le _)).le
      rw [← hfl] at h1
      omega
    have nD := N₁ _ (.head _)
    have noc := N₁ _ (.tail _ (.head _))
    have N8 : News g L h8 ((L + 1, oc) :: (D, lst ((List.range items.length).map (fun j => Value.ref (x j)))) :: (led w.params items.length x d t8 σ8 ++ Ts)) := by
      intro p hp
      rcases List.mem_cons.mp hp with rfl | hp
      · exact ⟨k8 _ _ noc.1 fun j hj => Ne.symm (hd2 j hj).2.1, noc.2⟩
      · rcases List.mem_cons.mp hp with rfl | hp
        · exact ⟨k8 _ _ nD.1 fun j hj => Ne.symm (hd2 j hj).1, nD.2⟩
        · rcases List.mem_append.mp hp with hp | hp
          · have hm : p.1 ∈ (led w.params items.length x d t (skOf o rs)).map (·.1) := led_addr (t' := t8) (σ' := σ8) ▸ List.mem_map_of_mem hp
            obtain ⟨q, hq, e⟩ := List.mem_map.mp hm
            have := N₁ _ (.tail _ (.tail _ hq))
            exact ⟨new8 p hp, e ▸ this.2⟩
          · have := hR8 p (.tail _ hp)
            exact ⟨this.1, ne_of_none this.2 hoL6, none_before F6.keep this.2⟩
    have hTl : ∀ p ∈ (D, lst ((List.range items.length).map (fun j => Value.ref (x j)))) :: (led w.params items.length x d t8 σ8 ++ Ts), @Ne Nat p.1 (L + 1) := by
      intro p hp
      rcases List.mem_cons.mp hp with rfl | hp
      · exact hDo
      · rcases List.mem_append.mp hp with hp | hp
        · have hm : p.1 ∈ (led w.params items.length x d t (skOf o rs)).map (·.1) := led_addr (t' := t8) (σ' := σ8) ▸ List.mem_map_of_mem hp
          obtain ⟨q, hq, e⟩ := List.mem_map.mp hm
          exact e ▸ (hap q hq).2
        · exact ne_of_none (hR8 p (.tail _ hp)).2 noc.1
    refine listLoopT (l := fa) (vs := its) (news := (L + 1, oc) :: (D, lst ((List.range items.length).map (fun j => Value.ref (x j)))) :: (led w.params items.length x d t8 σ8 ++ Ts))
      (fun i m nx => m (Str.ofString "seekers") = some (.ref D) ∧ m (Str.ofString "rows") = some (.ref rl) ∧ ∃ oc' u, oc'.data = .cell (some (.bytes ((fl.take i).foldl (putIn bys (fun j => (skOf o rs j).width)) o).toArray u)) ∧
        nx = (L + 1, oc') :: (D, lst ((List.range items.length).map (fun j => Value.ref (x j)))) :: (led w.params items.length x d t8 σ8 ++ Ts))
      (by with_unfolding_all assumption) ⟨_, hfa.1, rfl, ep8, rfl⟩ (ne_of_none hfa.2 hoL6) ?_ F8 N8 ⟨rfl, rfl, oc, t0, hoc, rfl⟩ ?_ ?_
    · intro p hp
      rcases List.mem_cons.mp hp with rfl | hp
      · exact Ne.symm (ne_of_none hfa.2 noc.1)
      · rcases List.mem_cons.mp hp with rfl | hp
        · exact Ne.symm (ne_of_none hfa.2 nD.1)
        · rcases List.mem_append.mp hp with hp | hp
          · have hm : p.1 ∈ (led w.params items.length x d t (skOf o rs)).map (·.1) := led_addr (t' := t8) (σ' := σ8) ▸ List.mem_map_of_mem hp
            obtain ⟨q, hq, e⟩ := List.mem_map.mp hm
            have := N₁ _ (.tail _ (.tail _ hq))
            exact e ▸ Ne.symm (ne_of_none hfa.2 this.1)
          · exact hTs p hp
    · rintro i v m₁ nx h2 tk2 own hv hadr2 ⟨hms, hmr, oc', u, hoc', rfl⟩ hown F₁ N2
      obtain ⟨q, hq, T5, t1, t2, rfl, hT⟩ := hIt.get hv
      have hq2 := hflb q (List.mem_of_getElem? hq)
      have hT5 : IsTup h2 T5 #[.int (q.1 : Int) t1, .int (q.2 : Int) t2] := ⟨_, (N2 _ (List.mem_append.mpr (.inr (.tail _ (.tail _ (List.mem_append.mpr (.inr hT))))))).1, rfl, _, rfl⟩
      have F₂ := fr_canon F₁ [(Str.ofString "seekers", .ref D), (Str.ofString "rows", .ref rl)] (by
        intro p hp
        simp only [List.mem_cons, List.not_mem_nil, or_false] at hp
        rcases hp with rfl | rfl <;> assumption)
      obtain ⟨r, T6, u1, u2, u3, u4, u5, hv6, hr, hT6⟩ := hskw q.2 (by omega)
      have hT6' : IsTup g T6 #[.str r.kd.s u1, wantV r.kd r.want u2, .bytes (bys q.2).toArray u5, optV r.bef u3, optV r.aft u4] := ⟨_, hT6, rfl, _, rfl⟩
      have hmem : ∀ p ∈ skObjs w.params (x q.2) (d q.2) (t8 q.2) (σ8 q.2), p ∈ own ++ (L + 1, oc') :: (D, lst ((List.range items.length).map (fun j => Value.ref (x j)))) :: (led w.params items.length x d t8 σ8 ++ Ts) := fun p hp => List.mem_append.mpr (.inr (.tail _ (.tail _ (List.mem_append.mpr (.inl (mem_led.mpr ⟨q.2, by omega, hp⟩))))))
      have hm1 := hmem _ (.head _)
      have hm2 := hmem _ (.tail _ (.head _))
      have hsk := skOf_ok hrs ho (j := q.2) (by omega)
      have hbl : (bys q.2).length ≤ 10 := by rw [hby q.2 (by omega)]; exact width_le hsk.2.2.1
      have hw8 : (σ8 q.2).width = (skOf o rs q.2).width := same8.width _
      obtain ⟨on, hon⟩ : ∃ on, on = (fl.take i).foldl (putIn bys (fun j => (skOf o rs j).width)) o := ⟨_, rfl⟩
      have honl : on.length ≤ 1000 := by
        have := fold_le (bys := bys) (wd := fun j => (skOf o rs j).width) (fl.take i) o fun z hz => by
          have hz2 := hflb z (List.mem_of_mem_take hz)
          rw [hby z.2 hz2]; exact width_le (skOf_ok hrs ho (j := z.2) hz2).2.2.1
        have h2 : (fl.take i).length ≤ 50 := Nat.le_trans (by rw [List.length_take]; exact Nat.min_le_right _ _) hfll
        rw [hon]; omega
      rw [← hon] at hoc'
      clear F₁ F8 N8 F6 N₁ hoc noc
      try k_fold
      k_steps
      unfold Stop
      with_reducible rename Fr _ _ _ _ => F7
      with_reducible rename News _ _ _ _ => N7
      refine get_at (vs := items) (hlR.at fun o e => F7.keep _ o e) hv6 (by omega) ?_
      try dsimp only
      try k_fold
      k_steps
      unfold Stop
      with_reducible rename Fr _ _ _ _ => F7
      with_reducible rename News _ _ _ _ => N7
      refine get_at (vs := (List.range items.length).map (fun j => Value.ref (x j))) ⟨_, (N7 _ (List.mem_append.mpr (.inr (.tail _ (.head _))))).1, rfl, _, rfl⟩ (show _ = some (Value.ref (x q.2)) by rw [List.getElem?_map, List.getElem?_range (by omega)]; rfl) (by omega) ?_
      try dsimp only
      try k_fold
      k_steps
      unfold Stop
      with_reducible rename Fr _ _ _ _ => F9
      with_reducible rename News _ _ _ _ => N9
      refine width_spec (σ := σ8 q.2) (t := t8 q.2) (x := x q.2) (dx := d q.2) (Gd.mk X T) (Fr.keep F9) (by with_unfolding_all assumption) (dpt (by assumption)) (unt (by assumption)) (fun p hp => ⟨(N9 p (hmem p hp)).1, (N9 p (hmem p hp)).2.2⟩) (by rw [(same8 q.2).2.1]; omega) ?_
      intro h8' tk8' t8' hk8'
      have F8 := fr_keeps F9 hk8'
      have N8 := news_keeps N9 hk8'
      clear F9 N9
      rw [hw8]
      have hwl := width_le hsk.2.2.1
      dsimp only
      try k_fold
      k_steps
      unfold Stop
      with_reducible rename Fr _ _ _ _ => F10
      with_reducible rename News _ _ _ _ => N10
      refine store_cell F10 (news_fst N10) (fun p hp => ?_) hoc' rfl rfl (by with_unfolding_all rfl) ?_
      · rcases List.mem_append.mp hp with hp | hp
        · exact hown p hp _ (.head _)
        · exact hTl p hp
      intro h11 oc11 tk11 hoc11 F11 N11
      clear F10 N10
      dsimp only
      try k_fold
      k_steps
      have hput : List.take (q.1 : Int).toNat on ++ bys q.2 ++ List.drop ((q.1 : Int) + ((skOf o rs q.2).width : Int)).toNat on = (fl.take (i + 1)).foldl (putIn bys (fun j => (skOf o rs j).width)) o := by
        rw [List.take_succ, hq, List.foldl_append, ← hon, Int.toNat_natCast, show ((q.1 : Int) + ((skOf o rs q.2).width : Int)).toNat = q.1 + (skOf o rs q.2).width from by omega]
        rfl
      rw [hput] at hoc11
      refine ⟨h11, _, _, _, rfl, F11, news_mid N11, ?hm2, rfl, rfl, oc11, _, hoc11, rfl⟩
      rfl
    · rintro h2 tk2 m nx hadr2 ⟨hms, hmr, oc', u, hoc', rfl⟩ F₁ N2
      have F₂ := fr_canon F₁ [(Str.ofString "seekers", .ref D), (Str.ofString "rows", .ref rl)] (by
        intro p hp
        simp only [List.mem_cons, List.not_mem_nil, or_false] at hp
        rcases hp with rfl | rfl <;> assumption)
      clear F8 N8 F6 N₁ hoc noc
      dsimp only
      try k_fold
      k_steps
      show Q _ _
      rw [hIt.length, List.take_length, hfl, hlen]
      exact ret _ _ _ (keep0 hsg (by assumption))
end
end
section
open PySem PySem.W PySem.Calls PyProof.Rows
set_option Elab.async false
set_option maxRecDepth 100000
set_option maxHeartbeats 20000000
set_option pp.deepTerms false
set_option pp.maxSteps 700
set_option linter.all false
open PyProof.Rows.LCg (NsObj ns_obj lst lst_snoc)
local macro_rules | `(tactic| walk_at "call builtin:sum") => `(tactic| (k_here; (with_reducible show wpAny _ _ (call (Value.builtin "sum") [Value.ref _]) _ _ _); (with_reducible rename Fr _ _ _ _ => F'); (with_reducible rename News _ _ _ _ => N'); (refine sum_L (by with_unfolding_all assumption) F' N' (by assumption) (by assumption) ?_); intro h' tk' t' F' N'))
local macro_rules | `(tactic| walk_at "binaryOp Pow int int") => `(tactic| refine Stop.mk ?_)
local macro_rules | `(tactic| walk_at "compareOp NotEq ref ref") => `(tactic| refine Stop.mk ?_)
theorem drawA {c turn : Int} (h0 : 0 ≤ turn) (h1 : turn ≤ 1000) : (c.fmod 2147483587 + 30497 * turn + 1511).natAbs < 2 ^ 64 := by
  have a := Int.fmod_nonneg_of_pos c (b := 2147483587) (by decide)
  have b := Int.fmod_lt_of_pos c (b := 2147483587) (by decide)
  omega
theorem drawB {c turn : Int} (h0 : 0 ≤ turn) (h1 : turn ≤ 1000) : (c.fmod 2147483629 * (2 * turn + 4603) + 30497 * turn * turn + 41).natAbs < 2 ^ 64 := by
  have a := Int.fmod_nonneg_of_pos c (b := 2147483629) (by decide)
  have b := Int.fmod_lt_of_pos c (b := 2147483629) (by decide)
  generalize c.fmod 2147483629 = y at a b ⊢
  have e1 : y * (2 * turn + 4603) ≤ 2147483629 * 6603 := Int.mul_le_mul (Int.le_of_lt b) (by omega) (by omega) (by decide)
  have e2 : 0 ≤ y * (2 * turn + 4603) := Int.mul_nonneg a (by omega)
  have e3 : 30497 * turn * turn ≤ 30497000 * 1000 := Int.mul_le_mul (by omega) h1 h0 (by decide)
  have e4 : 0 ≤ 30497 * turn * turn := Int.mul_nonneg (by omega) h0
  generalize y * (2 * turn + 4603) = p at e1 e2 ⊢
  generalize 30497 * turn * turn = q at e3 e4 ⊢
  omega
theorem drawC {z : Int} {many : Nat} (hm : 0 < many) : ∃ d : Nat, z.fmod (many : Int) = (d : Int) ∧ d < many := by
  have a := Int.fmod_nonneg_of_pos z (b := (many : Int)) (by omega)
  have b := Int.fmod_lt_of_pos z (b := (many : Int)) (by omega)
  obtain ⟨d, hd⟩ := Int.eq_ofNat_of_zero_le a
  exact ⟨d, hd, by omega⟩
theorem drawD {z : Int} {many : Nat} (hz : 0 ≤ z) (hm : 0 < many) : 0 ≤ z.fdiv (many : Int) := Int.fdiv_nonneg hz (by omega)
theorem pow18 {prog : Program} {w : World} {A : Around} {E : Value → Shared → Prop} {s : Shared} {Q : Value → Shared → Prop} {t u : Tok} (h : Q (.int 1000000000000000000 s.toks) { s with toks := s.toks + 1 }) :
    wpAny (model prog w) A (binaryOp .Pow (.int 10 t) (.int 18 u)) Q E s := pow_int_small (by decide) (by decide) (by decide) (by rw [show (10 : Int) ^ (Int.toNat 18) = 1000000000000000000 from by decide]; exact h)
theorem pow_any {prog : Program} {w : World} {A : Around} {E : Value → Shared → Prop} {s : Shared} {Q : Value → Shared → Prop} {a n : Int} {t u : Tok} (hn : 0 ≤ n) (hn2 : n ≤ 1000000) (ha : a.natAbs < 2 ^ 64) (h : ∀ z, Q (.int z s.toks) { s with toks := s.toks + 1 }) :
    wpAny (model prog w) A (binaryOp .Pow (.int a t) (.int n u)) Q E s := pow_int_small hn hn2 ha (h _)
/-- the law's pen -/
def PenI (h : Heap) (p I : Addr) (n : Nat) : Prop :=
  ∃ (turn great : Int) (t1 t2 : Tok) (e : Nat), h.get? p = some (W.listOf #[.ref I, .int turn t1, .int great t2] e) ∧ 0 ≤ turn ∧ turn ≤ n ∧ 0 ≤ great
def Cells (h : Heap) (I : Addr) : Prop := ∃ (vs : List Value) (ns : List Int), h.IsList I vs.toArray ∧ IntsAre vs ns ∧ ns.length ≤ 48
theorem Cells.at {h h' : Heap} {I : Addr} (H : Cells h I) (k : ∀ o, h.get? I = some o → h'.get? I = some o) : Cells h' I := by
  obtain ⟨vs, ns, a, b⟩ := H
  exact ⟨vs, ns, a.at k, b⟩
theorem PenI.le {h : Heap} {p I : Addr} {n m : Nat} (H : PenI h p I n) (k : n ≤ m) : PenI h p I m := by
  obtain ⟨turn, great, t1, t2, e, hp, a, b, c⟩ := H
  exact ⟨turn, great, t1, t2, e, hp, a, by omega, c⟩
theorem PenI.has {h : Heap} {p I : Addr} {n : Nat} (H : PenI h p I n) : ∃ o, h.get? p = some o ∧ ∀ h' : Heap, h'.get? p = some o → PenI h' p I n := by
  obtain ⟨turn, great, t1, t2, e, hp, r⟩ := H
  exact ⟨_, hp, fun h' q => ⟨turn, great, t1, t2, e, q, r⟩⟩
set_option maxHeartbeats 20000000
section
variable {w : World} {A : Around} {s : Shared} {mean : ExcName → Option Value} {mg mb : Str → Option Value} {h₀ : Heap} {Q E : Value → Shared → Prop}
theorem draw_spec {p I : Addr} {n many : Nat} {tm : Tok} (G : Gd w mean mg mb h₀) (st : ∀ b o, h₀.get? b = some o → s.heap.get? b = some o)
    (hh : A.handled = none) (hd : A.depth + 10 < 1000) (hu : A.units + 100 < 9900) (hP : PenI s.heap p I n) (hI : Cells s.heap I) (hIp : @Ne Nat I p) (hp0 : h₀.get? p = none) (hn : n ≤ 1000) (hm : 0 < many) (hm' : many ≤ 100)
    (ret : ∀ h' tk (d : Nat) t, (∀ b o, s.heap.get? b = some o → @Ne Nat b p → h'.get? b = some o) → PenI h' p I (n + 1) → d < many → Q (.int (d : Int) t) { s with heap := h', toks := tk }) :
    wpAny (model PySem.Challenge.pw_pb0230_01 w) A (call (.ref 175) [.ref p, .int (many : Int) tm]) Q E s := by
  obtain ⟨turn, great, t1, t2, e, hp, ht0, htn, hg0⟩ := hP
  obtain ⟨vs, ns, hI, hA, hl⟩ := hI
  refine wpAny_call ?_
  refine' enterW ([(p, W.listOf #[.ref I, .int turn t1, .int great t2] e)]) G st ((by intro q hq; rw [List.mem_singleton.mp hq]; exact ⟨hp, hp0⟩)) ?k6 ?k7 ?k8 ?k9 ?kB ?_ ?c2 ?c3 ?c4 ?c5 (binds := [(Str.ofString "pen", .ref p), (Str.ofString "many", .int (many : Int) tm)])
  case k6 => k_is
  case k7 => k_is
  case k8 => (unfold recursionLimit; (try simp only [depth_in1, depth_under_make]); omega)
  case k9 => exact BindsTo.of_eq rfl
  case kB => exact locs rfl
  case c2 => exact rfl
  case c3 => exact rfl
  case c4 => exact rfl
  case c5 => decide
  intro g L h₁ hsg hgs F N hg X T
  try dsimp only
  try k_fold
  have hIg : g.IsList I vs.toArray := by
    obtain ⟨oI, hoI, hc⟩ := hI
    exact ⟨oI, hsg _ _ hoI (by simpa using hIp), hc⟩
  have keepP : ∀ {h' : Heap} {m : Str → Option Value}, Fr g L h' m → ∀ b o, s.heap.get? b = some o → @Ne Nat b p → h'.get? b = some o := fun F b o e hb => F.keep b o (hsg b o e (by simpa using hb))
  have penOf : ∀ {h' : Heap} {R : List (Addr × Obj)} {turn' great' : Int} {t1' t2' : Tok}, News g L h' (R ++ [(p, W.listOf #[.ref I, .int turn' t1', .int great' t2'] e)]) → 0 ≤ turn' → turn' ≤ ((n + 1 : Nat) : Int) → 0 ≤ great' → (∀ b o, g.get? b = some o → h'.get? b = some o) → PenI h' p I (n + 1) := fun N a b c _ =>
    ⟨_, _, _, _, e, (N _ (List.mem_append.mpr (.inr (.head _)))).1, a, b, c⟩
  k_steps
  · show Q _ _
    with_reducible rename Fr _ _ _ _ => F9
    with_reducible rename News _ _ _ _ => N9
    obtain ⟨dz, hdz, hdm⟩ := drawC (z := great) hm
    rw [hdz]
    exact ret _ _ dz _ (keepP F9) (penOf (R := []) N9 ht0 (by omega) (drawD hg0 hm) F9.keep) hdm
  · unfold Stop
    refine ke_ne_ints (ns := ns) (ms := []) (hIg.at fun o e => by with_reducible rename Fr _ _ _ _ => F8; exact F8.keep _ o e) (by is_list) hA (by l_ints) (by show _ < 9900; simp only [units_deeper]; omega) ?_
    try dsimp only
    by_cases hns : ns = []
    · rw [decide_eq_true hns]
      try simp only [Bool.not_true]
      try k_fold
      k_steps
      · have hlt : turn < (ns.length : Int) := by assumption
        rw [hns] at hlt
        simp only [List.length_nil] at hlt
        omega
      · ((unfold Stop; (refine pow_any (by decide) (by decide) (drawA (by assumption) (by omega)) ?_); intro z1; (((try dsimp only); (try k_fold); k_steps)); unfold Stop; (refine pow_any (by decide) (by decide) (drawB (by assumption) (by omega)) ?_); intro z2; (((try dsimp only); (try k_fold); k_steps))))
        (((with_reducible rename Fr _ _ _ _ => F9); (with_reducible rename News _ _ _ _ => N9); (obtain ⟨dz, hdz, hdm⟩ := drawC (z := (z2.fmod 2147483579).fdiv 32) hm); rw [hdz]; exact ret _ _ dz _ (keepP F9) (penOf (R := [_, _]) N9 (by omega) (by omega) hg0 F9.keep) hdm))
    · rw [decide_eq_false hns]
      try simp only [Bool.not_false]
      have hnl : 0 < ns.length := List.length_pos_iff.mpr hns
      obtain ⟨k, hk, hkn⟩ := drawC (z := turn) hnl
      have hkv : ∃ c t, vs[k]? = some (.int c t) := by
        obtain ⟨t, ht⟩ := hA.get k ns[k] (List.getElem?_eq_getElem hkn)
        exact ⟨_, t, ht⟩
      obtain ⟨c, tc, hkv⟩ := hkv
      try k_fold
      k_steps
      · unfold Stop
        refine pow18 ?_
        (((try dsimp only); (try k_fold); k_steps))
        · unfold Stop
          refine pow18 ?_
          (((try dsimp only); (try k_fold); k_steps))
          with_reducible rename Fr _ _ _ _ => F9
          with_reducible rename News _ _ _ _ => N9
          generalize hgr : (2 * ((if ns.getD (turn.fmod ↑ns.length).toNat 0 < 0 then -ns.getD (turn.fmod ↑ns.length).toNat 0 else ns.getD (turn.fmod ↑ns.length).toNat 0) - 1000000000000000000) + if decide (ns.getD (turn.fmod ↑ns.length).toNat 0 < 0) = true then 1 else 0 : Int) = gr at F9 N9 ⊢
          have hgr0 : 0 ≤ gr := by
            have hge : (1000000000000000000 : Int) ≤ if ns.getD (turn.fmod ↑ns.length).toNat 0 < 0 then -ns.getD (turn.fmod ↑ns.length).toNat 0 else ns.getD (turn.fmod ↑ns.length).toNat 0 := by assumption
            rw [← hgr]
            split <;> omega
          obtain ⟨dz, hdz, hdm⟩ := drawC (z := gr) hm
          rw [hdz]
          exact ret _ _ dz _ (keepP F9) (penOf (R := [_, _]) N9 (by omega) (by omega) (drawD hgr0 hm) F9.keep) hdm
        · ((unfold Stop; (refine pow_any (by decide) (by decide) (drawA (by assumption) (by omega)) ?_); intro z1; (((try dsimp only); (try k_fold); k_steps)); unfold Stop; (refine pow_any (by decide) (by decide) (drawB (by assumption) (by omega)) ?_); intro z2; (((try dsimp only); (try k_fold); k_steps))))
          (((with_reducible rename Fr _ _ _ _ => F9); (with_reducible rename News _ _ _ _ => N9); (obtain ⟨dz, hdz, hdm⟩ := drawC (z := (z2.fmod 2147483579).fdiv 32) hm); rw [hdz]; exact ret _ _ dz _ (keepP F9) (penOf (R := [_, _]) N9 (by omega) (by omega) hg0 F9.keep) hdm))
      · ((unfold Stop; (refine pow_any (by decide) (by decide) (drawA (by assumption) (by omega)) ?_); intro z1; (((try dsimp only); (try k_fold); k_steps)); unfold Stop; (refine pow_any (by decide) (by decide) (drawB (by assumption) (by omega)) ?_); intro z2; (((try dsimp only); (try k_fold); k_steps))))
        (((with_reducible rename Fr _ _ _ _ => F9); (with_reducible rename News _ _ _ _ => N9); (obtain ⟨dz, hdz, hdm⟩ := drawC (z := (z2.fmod 2147483579).fdiv 32) hm); rw [hdz]; exact ret _ _ dz _ (keepP F9) (penOf (R := [_, _]) N9 (by omega) (by omega) hg0 F9.keep) hdm))
end
end
section
open PySem PySem.W PySem.Calls PyProof.Rows
set_option Elab.async false
set_option maxRecDepth 100000
set_option maxHeartbeats 20000000
set_option pp.deepTerms false
set_option pp.maxSteps 700
set_option linter.all false
open PyProof.Rows.LCg (NsObj ns_obj lst lst_snoc)
local macro_rules | `(tactic| walk_at "call ref") => `(tactic| ((with_reducible show wpAny _ _ (call (Value.ref 175) _) _ _ _); refine Stop.mk ?_))
local macro_rules | `(tactic| walk_at "subscriptTail Name Call ref int") => `(tactic| refine Stop.mk ?_)
local macro_rules | `(tactic| walk_at "no such key") => `(tactic| skip)
local macro_rules | `(tactic| walk_at "call builtin:len") => `(tactic| (k_here; (with_reducible show wpAny _ _ (call (Value.builtin "len") [Value.ref _]) _ _ _); (with_reducible rename Fr _ _ _ _ => F'); (refine call_len_list (Heap.IsList.at (by with_reducible assumption) (fun o e => Fr.keep F' _ o e)) (by rw [List.size_toArray]; omega) ?_)))
set_option maxHeartbeats 20000000
section
variable {w : World} {A : Around} {s : Shared} {mean : ExcName → Option Value} {mg mb : Str → Option Value} {h₀ : Heap} {Q E : Value → Shared → Prop}
theorem pick_list {p l I : Addr} {vs : List Value} {n : Nat} (G : Gd w mean mg mb h₀) (st : ∀ b o, h₀.get? b = some o → s.heap.get? b = some o)
    (hh : A.handled = none) (hd : A.depth + 20 < 1000) (hu : A.units + 200 < 9900) (hP : PenI s.heap p I n) (hI : Cells s.heap I) (hIp : @Ne Nat I p) (hp0 : h₀.get? p = none) (hn : n ≤ 1000) (hl : s.heap.IsList l vs.toArray) (hlp : @Ne Nat l p) (hm : 0 < vs.length) (hm' : vs.length ≤ 100)
    (ret : ∀ h' tk v, (∀ b o, s.heap.get? b = some o → @Ne Nat b p → h'.get? b = some o) → PenI h' p I (n + 1) → v ∈ vs → Q v { s with heap := h', toks := tk }) :
    wpAny (model PySem.Challenge.pw_pb0230_01 w) A (call (.ref 182) [.ref p, .ref l]) Q E s := by
  obtain ⟨op, hop, hpen⟩ := hP.has
  refine wpAny_call ?_
  refine' enterW ([(p, op)]) G st ((by intro q hq; rw [List.mem_singleton.mp hq]; exact ⟨hop, hp0⟩)) ?k6 ?k7 ?k8 ?k9 ?kB ?_ ?c2 ?c3 ?c4 ?c5 (binds := [(Str.ofString "pen", .ref p), (Str.ofString "some", .ref l)])
  case k6 => k_is
  case k7 => k_is
  case k8 => (unfold recursionLimit; (try simp only [depth_in1, depth_under_make]); omega)
  case k9 => exact BindsTo.of_eq rfl
  case kB => exact locs rfl
  case c2 => exact rfl
  case c3 => exact rfl
  case c4 => exact rfl
  case c5 => decide
  intro g L h₁ hsg hgs F N hg X T
  try dsimp only
  try k_fold
  have hlg : g.IsList l vs.toArray := by
    obtain ⟨oI, hoI, hc⟩ := hl
    exact ⟨oI, hsg _ _ hoI (by simpa using hlp), hc⟩
  k_steps
  unfold Stop
  with_reducible rename Fr _ _ _ _ => F7
  with_reducible rename News _ _ _ _ => N7
  have kp : ∀ {h' : Heap} {m : Str → Option Value}, Fr g L h' m → ∀ b o, s.heap.get? b = some o → @Ne Nat b p → h'.get? b = some o := fun F b o e hb => F.keep b o (hsg b o e (by simpa using hb))
  have e7 := N7 _ (.head _)
  rw [List.size_toArray]
  refine draw_spec (p := p) (n := n) (many := vs.length) (Gd.mk X T) F7.keep (by with_unfolding_all assumption) (dpt (by assumption)) (unt (by assumption)) (hpen _ e7.1) (hI.at fun o e => kp F7 _ o e hIp) hIp e7.2.2 hn hm hm' ?_
  intro h8 tk8 d8 t8 k8 hP8 hd8
  have F8 := fr_keepsW (W := [p]) F7 (fun b hb => by rw [List.mem_singleton.mp hb]; exact e7.2) (fun b o e hb => k8 b o e (by simpa using hb))
  clear F7 N7
  have hx : vs[d8]? = some vs[d8] := List.getElem?_eq_getElem hd8
  refine get_at (vs := vs) (hlg.at fun o e => F8.keep _ o e) hx (by omega) ?_
  show Q _ _
  exact ret _ _ _ (kp F8) hP8 (List.getElem_mem hd8)
theorem pick_bytes {p I : Addr} {l : List UInt8} {t0 : Tok} {n : Nat} (G : Gd w mean mg mb h₀) (st : ∀ b o, h₀.get? b = some o → s.heap.get? b = some o)
    (hh : A.handled = none) (hd : A.depth + 20 < 1000) (hu : A.units + 200 < 9900) (hP : PenI s.heap p I n) (hI : Cells s.heap I) (hIp : @Ne Nat I p) (hp0 : h₀.get? p = none) (hn : n ≤ 1000) (hm : 0 < l.length) (hm' : l.length ≤ 100)
    (ret : ∀ h' tk (c : UInt8) t, (∀ b o, s.heap.get? b = some o → @Ne Nat b p → h'.get? b = some o) → PenI h' p I (n + 1) → c ∈ l → Q (.int (c.toNat : Int) t) { s with heap := h', toks := tk }) :
    wpAny (model PySem.Challenge.pw_pb0230_01 w) A (call (.ref 182) [.ref p, .bytes l.toArray t0]) Q E s := by
  obtain ⟨op, hop, hpen⟩ := hP.has
  refine wpAny_call ?_
  refine' enterW ([(p, op)]) G st ((by intro q hq; rw [List.mem_singleton.mp hq]; exact ⟨hop, hp0⟩)) ?k6 ?k7 ?k8 ?k9 ?kB ?_ ?c2 ?c3 ?c4 ?c5 (binds := [(Str.ofString "pen", .ref p), (Str.ofString "some", .bytes l.toArray t0)])
  case k6 => k_is
  case k7 => k_is
  case k8 => (unfold recursionLimit; (try simp only [depth_in1, depth_under_make]); omega)
  case k9 => exact BindsTo.of_eq rfl
  case kB => exact locs rfl
  case c2 => exact rfl
  case c3 => exact rfl
  case c4 => exact rfl
  case c5 => decide
  intro g L h₁ hsg hgs F N hg X T
  try dsimp only
  try k_fold
  k_steps
  unfold Stop
  with_reducible rename Fr _ _ _ _ => F7
  with_reducible rename News _ _ _ _ => N7
  have kp : ∀ {h' : Heap} {m : Str → Option Value}, Fr g L h' m → ∀ b o, s.heap.get? b = some o → @Ne Nat b p → h'.get? b = some o := fun F b o e hb => F.keep b o (hsg b o e (by simpa using hb))
  have e7 := N7 _ (.head _)
  rw [List.size_toArray]
  refine draw_spec (p := p) (n := n) (many := l.length) (Gd.mk X T) F7.keep (by with_unfolding_all assumption) (dpt (by assumption)) (unt (by assumption)) (hpen _ e7.1) (hI.at fun o e => kp F7 _ o e hIp) hIp e7.2.2 hn hm hm' ?_
  intro h8 tk8 d8 t8 k8 hP8 hd8
  have F8 := fr_keepsW (W := [p]) F7 (fun b hb => by rw [List.mem_singleton.mp hb]; exact e7.2) (fun b o e hb => k8 b o e (by simpa using hb))
  have N8 : News g L h8 [] := fun _ h => nomatch h
  clear F7 N7
  try dsimp only
  try k_fold
  k_steps
  show Q _ _
  exact ret _ _ (l.getD (d8 : Int).toNat 0) _ (kp F8) hP8 (by rw [Int.toNat_natCast, List.getD_eq_getElem?_getD, List.getElem?_eq_getElem hd8]; exact List.getElem_mem hd8)
end
end
section
open PySem PySem.W PySem.Calls PyProof.Rows
set_option Elab.async false
set_option maxRecDepth 100000
set_option maxHeartbeats 20000000
set_option pp.deepTerms false
set_option pp.maxSteps 700
set_option linter.all false
open PyProof.Rows.LCg (NsObj ns_obj lst lst_snoc)
local macro_rules | `(tactic| walk_at "call ref") => `(tactic| ((with_reducible show wpAny _ _ (call (Value.ref 182) _) _ _ _); refine Stop.mk ?_))
set_option maxHeartbeats 20000000
theorem okB_none : okB none := fun _ h => nomatch h
theorem okB_some {l : List UInt8} (h : 0 < l.length ∧ l.length ≤ 10) : okB (some l) := fun _ e => by cases e; exact h
theorem opt5 {v : Value} {x y z : List UInt8} {t1 t2 t3 : Tok} (h : v ∈ [Value.none, Value.none, Value.bytes x.toArray t1, Value.bytes y.toArray t2, Value.bytes z.toArray t3])
    (hx : 0 < x.length ∧ x.length ≤ 10) (hy : 0 < y.length ∧ y.length ≤ 10) (hz : 0 < z.length ∧ z.length ≤ 10) : ∃ (a : Option (List UInt8)) (t : Tok), v = optV a t ∧ okB a := by
  simp only [List.mem_cons, List.not_mem_nil, or_false] at h
  rcases h with rfl | rfl | rfl | rfl | rfl
  · exact ⟨none, 0, rfl, okB_none⟩
  · exact ⟨none, 0, rfl, okB_none⟩
  · exact ⟨some x, _, rfl, okB_some hx⟩
  · exact ⟨some y, _, rfl, okB_some hy⟩
  · exact ⟨some z, _, rfl, okB_some hz⟩
theorem want6 {v : Value} {a b c d e f : List UInt8} {t1 t2 t3 t4 t5 t6 : Tok} (h : v ∈ [Value.bytes a.toArray t1, Value.bytes b.toArray t2, Value.bytes c.toArray t3, Value.bytes d.toArray t4, Value.bytes e.toArray t5, Value.bytes f.toArray t6])
    (h1 : 0 < a.length ∧ a.length ≤ 10) (h2 : 0 < b.length ∧ b.length ≤ 10) (h3 : 0 < c.length ∧ c.length ≤ 10) (h4 : 0 < d.length ∧ d.length ≤ 10) (h5 : 0 < e.length ∧ e.length ≤ 10) (h6 : 0 < f.length ∧ f.length ≤ 10) :
    ∃ (a : List UInt8) (t : Tok), v = .bytes a.toArray t ∧ 0 < a.length ∧ a.length ≤ 10 := by
  simp only [List.mem_cons, List.not_mem_nil, or_false] at h
  rcases h with rfl | rfl | rfl | rfl | rfl | rfl
  · exact ⟨a, _, rfl, h1⟩
  · exact ⟨b, _, rfl, h2⟩
  · exact ⟨c, _, rfl, h3⟩
  · exact ⟨d, _, rfl, h4⟩
  · exact ⟨e, _, rfl, h5⟩
  · exact ⟨f, _, rfl, h6⟩
section
variable {w : World} {A : Around} {s : Shared} {mean : ExcName → Option Value} {mg mb : Str → Option Value} {h₀ : Heap} {Q E : Value → Shared → Prop}
theorem row_spec {p I : Addr} {n : Nat} (G : Gd w mean mg mb h₀) (st : ∀ b o, h₀.get? b = some o → s.heap.get? b = some o)
    (hh : A.handled = none) (hd : A.depth + 30 < 1000) (hu : A.units + 300 < 9900) (hP : PenI s.heap p I n) (hI : Cells s.heap I) (hIp : @Ne Nat I p) (hp0 : h₀.get? p = none) (hn : n ≤ 900)
    (ret : ∀ h' tk r T t1 t2 t3 t4, (∀ b o, s.heap.get? b = some o → @Ne Nat b p → h'.get? b = some o) → PenI h' p I (n + 4) → r.ok → h'.get? T = some (rowObj r t1 t2 t3 t4) → s.heap.get? T = none → Q (.ref T) { s with heap := h', toks := tk }) :
    wpAny (model PySem.Challenge.pw_pb0230_01 w) A (call (.ref 189) [.ref p]) Q E s := by
  obtain ⟨op, hop, hpen⟩ := hP.has
  refine wpAny_call ?_
  refine' enterW ([(p, op)]) G st ((by intro q hq; rw [List.mem_singleton.mp hq]; exact ⟨hop, hp0⟩)) ?k6 ?k7 ?k8 ?k9 ?kB ?_ ?c2 ?c3 ?c4 ?c5 (binds := [(Str.ofString "pen", .ref p)])
  case k6 => k_is
  case k7 => k_is
  case k8 => (unfold recursionLimit; (try simp only [depth_in1, depth_under_make]); omega)
  case k9 => exact BindsTo.of_eq rfl
  case kB => exact locs rfl
  case c2 => exact rfl
  case c3 => exact rfl
  case c4 => exact rfl
  case c5 => decide
  intro g L h₁ hsg hgs F N hg X T
  try dsimp only
  try k_fold
  have kp : ∀ {h' : Heap} {m : Str → Option Value}, Fr g L h' m → ∀ b o, s.heap.get? b = some o → @Ne Nat b p → h'.get? b = some o := fun F b o e hb => F.keep b o (hsg b o e (by simpa using hb))
  have hIg : Cells g I := hI.at fun o e => hsg _ o e (by simpa using hIp)
  k_steps
  ((unfold Stop; (with_reducible rename Fr _ _ _ _ => F7); (with_reducible rename News _ _ _ _ => N7); (have e7 := N7 _ (.tail _ (.head _))); (refine pick_list (p := p) (I := I) (Gd.mk X T) F7.keep (by with_unfolding_all assumption) (dpt (by assumption)) (unt (by assumption)) (hpen _ e7.1) (hIg.at fun o e => F7.keep _ o e) hIp e7.2.2 (by omega) ⟨_, (N7 _ (.head _)).1, rfl, _, rfl⟩ (Ne.symm (Nat.ne_of_lt (by assumption))) (by simp) (by simp) ?_); (clear hpen); (intro h8 tk8 v8 k8 hP8 hv8); (obtain ⟨op8, hop8, hpen⟩ := hP8.has); (have F8 := fr_keepsW (W := [p]) F7 (fun b hb => by rw [List.mem_singleton.mp hb]; exact e7.2) (fun b o e hb => k8 b o e (by simpa using hb))); (have N8 : News g L h8 [(p, op8)] := fun q hq => by rw [List.mem_singleton.mp hq]; exact ⟨hop8, e7.2⟩); clear F7 N7 hop8 k8 e7))
  have hkd : ∃ (kd : Kd) (t : Tok), v8 = .str kd.s t := by
    simp only [List.mem_cons, List.not_mem_nil, or_false] at hv8
    rcases hv8 with rfl | rfl | rfl | rfl
    · exact ⟨.all, _, rfl⟩
    · exact ⟨.all, _, rfl⟩
    · exact ⟨.lead, _, rfl⟩
    · exact ⟨.chars, _, rfl⟩
  obtain ⟨kd, t1, rfl⟩ := hkd
  clear hv8 hP8
  have fin : ∀ {h' : Heap} {m : Str → Option Value} {T : Addr} {ob op8 : Obj} {R : List (Addr × Obj)}, Fr g L h' m → News g L h' ((T, ob) :: (R ++ [(p, op8)])) → @Ne Nat T p → s.heap.get? T = none := fun F N hT => by
    cases e : s.heap.get? _ with
    | none => rfl
    | some o => have := hsg _ _ e (by simpa using hT); rw [(N _ (.head _)).2.2] at this; cases this
  cases kd
  all_goals dsimp only [Kd.s]
  all_goals (((try dsimp only); (try k_fold); k_steps))
  · ((unfold Stop; (with_reducible rename Fr _ _ _ _ => F7); (with_reducible rename News _ _ _ _ => N7); (have e7 := N7 _ (.tail _ (.head _))); (refine pick_list (p := p) (I := I) (Gd.mk X T) F7.keep (by with_unfolding_all assumption) (dpt (by assumption)) (unt (by assumption)) (hpen _ e7.1) (hIg.at fun o e => F7.keep _ o e) hIp e7.2.2 (by omega) ⟨_, (N7 _ (.head _)).1, rfl, _, rfl⟩ (Ne.symm (Nat.ne_of_lt (by assumption))) (by simp) (by simp) ?_); (clear hpen); (intro h8 tk8 v8 k8 hP8 hv8); (obtain ⟨op8, hop8, hpen⟩ := hP8.has); (have F8 := fr_keepsW (W := [p]) F7 (fun b hb => by rw [List.mem_singleton.mp hb]; exact e7.2) (fun b o e hb => k8 b o e (by simpa using hb))); (have N8 : News g L h8 [(p, op8)] := fun q hq => by rw [List.mem_singleton.mp hq]; exact ⟨hop8, e7.2⟩); clear F7 N7 hop8 k8 e7))
    obtain ⟨want, tw, rfl, hw1, hw2⟩ := want6 hv8 (by decide) (by decide) (by decide) (by decide) (by decide) (by decide)
    clear hv8 hP8
    (((try dsimp only); (try k_fold); k_steps))
    ((unfold Stop; (with_reducible rename Fr _ _ _ _ => F7); (with_reducible rename News _ _ _ _ => N7); (have e7 := N7 _ (.tail _ (.head _))); (refine pick_list (p := p) (I := I) (Gd.mk X T) F7.keep (by with_unfolding_all assumption) (dpt (by assumption)) (unt (by assumption)) (hpen _ e7.1) (hIg.at fun o e => F7.keep _ o e) hIp e7.2.2 (by omega) ⟨_, (N7 _ (.head _)).1, rfl, _, rfl⟩ (Ne.symm (Nat.ne_of_lt (by assumption))) (by simp) (by simp) ?_); (clear hpen); (intro h8 tk8 v8 k8 hP8 hv8); (obtain ⟨op8, hop8, hpen⟩ := hP8.has); (have F8 := fr_keepsW (W := [p]) F7 (fun b hb => by rw [List.mem_singleton.mp hb]; exact e7.2) (fun b o e hb => k8 b o e (by simpa using hb))); (have N8 : News g L h8 [(p, op8)] := fun q hq => by rw [List.mem_singleton.mp hq]; exact ⟨hop8, e7.2⟩); clear F7 N7 hop8 k8 e7))
    obtain ⟨bef, tb, rfl, hbef⟩ := opt5 hv8 (by decide) (by decide) (by decide)
    clear hv8 hP8
    (((try dsimp only); (try k_fold); k_steps))
    ((unfold Stop; (with_reducible rename Fr _ _ _ _ => F7); (with_reducible rename News _ _ _ _ => N7); (have e7 := N7 _ (.tail _ (.head _))); (refine pick_list (p := p) (I := I) (Gd.mk X T) F7.keep (by with_unfolding_all assumption) (dpt (by assumption)) (unt (by assumption)) (hpen _ e7.1) (hIg.at fun o e => F7.keep _ o e) hIp e7.2.2 (by omega) ⟨_, (N7 _ (.head _)).1, rfl, _, rfl⟩ (Ne.symm (Nat.ne_of_lt (by assumption))) (by simp) (by simp) ?_); (clear hpen); (intro h8 tk8 v8 k8 hP8 hv8); (obtain ⟨op8, hop8, hpen⟩ := hP8.has); (have F8 := fr_keepsW (W := [p]) F7 (fun b hb => by rw [List.mem_singleton.mp hb]; exact e7.2) (fun b o e hb => k8 b o e (by simpa using hb))); (have N8 : News g L h8 [(p, op8)] := fun q hq => by rw [List.mem_singleton.mp hq]; exact ⟨hop8, e7.2⟩); clear F7 N7 hop8 k8 e7))
    obtain ⟨aft, ta, rfl, haft⟩ := opt5 hv8 (by decide) (by decide) (by decide)
    clear hv8
    (((try dsimp only); (try k_fold); k_steps))
    with_reducible rename Fr _ _ _ _ => F9
    with_reducible rename News _ _ _ _ => N9
    show Q _ _
    exact ret _ _ ⟨.all, want, bef, aft⟩ _ t1 tw tb ta (kp F9) (PenI.le (hpen _ (N9 _ (.tail _ (.head _))).1) (by omega)) { pos := fun h => by exact hw1, le := by exact hw2, nil := fun h => (nomatch h), bef := hbef, aft := haft } (N9 _ (.head _)).1 (fin (R := []) F9 N9 (Ne.symm (Nat.ne_of_lt (by assumption))))
  · ((unfold Stop; (with_reducible rename Fr _ _ _ _ => F7); (with_reducible rename News _ _ _ _ => N7); (have e7 := N7 _ (.tail _ (.head _))); (refine pick_list (p := p) (I := I) (Gd.mk X T) F7.keep (by with_unfolding_all assumption) (dpt (by assumption)) (unt (by assumption)) (hpen _ e7.1) (hIg.at fun o e => F7.keep _ o e) hIp e7.2.2 (by omega) ⟨_, (N7 _ (.head _)).1, rfl, _, rfl⟩ (Ne.symm (Nat.ne_of_lt (by assumption))) (by simp) (by simp) ?_); (clear hpen); (intro h8 tk8 v8 k8 hP8 hv8); (obtain ⟨op8, hop8, hpen⟩ := hP8.has); (have F8 := fr_keepsW (W := [p]) F7 (fun b hb => by rw [List.mem_singleton.mp hb]; exact e7.2) (fun b o e hb => k8 b o e (by simpa using hb))); (have N8 : News g L h8 [(p, op8)] := fun q hq => by rw [List.mem_singleton.mp hq]; exact ⟨hop8, e7.2⟩); clear F7 N7 hop8 k8 e7))
    obtain ⟨want, tw, rfl, hw1, hw2⟩ := want6 hv8 (by decide) (by decide) (by decide) (by decide) (by decide) (by decide)
    clear hv8 hP8
    (((try dsimp only); (try k_fold); k_steps))
    ((unfold Stop; (with_reducible rename Fr _ _ _ _ => F7); (with_reducible rename News _ _ _ _ => N7); (have e7 := N7 _ (.tail _ (.head _))); (refine pick_list (p := p) (I := I) (Gd.mk X T) F7.keep (by with_unfolding_all assumption) (dpt (by assumption)) (unt (by assumption)) (hpen _ e7.1) (hIg.at fun o e => F7.keep _ o e) hIp e7.2.2 (by omega) ⟨_, (N7 _ (.head _)).1, rfl, _, rfl⟩ (Ne.symm (Nat.ne_of_lt (by assumption))) (by simp) (by simp) ?_); (clear hpen); (intro h8 tk8 v8 k8 hP8 hv8); (obtain ⟨op8, hop8, hpen⟩ := hP8.has); (have F8 := fr_keepsW (W := [p]) F7 (fun b hb => by rw [List.mem_singleton.mp hb]; exact e7.2) (fun b o e hb => k8 b o e (by simpa using hb))); (have N8 : News g L h8 [(p, op8)] := fun q hq => by rw [List.mem_singleton.mp hq]; exact ⟨hop8, e7.2⟩); clear F7 N7 hop8 k8 e7))
    obtain ⟨bef, tb, rfl, hbef⟩ := opt5 hv8 (by decide) (by decide) (by decide)
    clear hv8 hP8
    (((try dsimp only); (try k_fold); k_steps))
    ((unfold Stop; (with_reducible rename Fr _ _ _ _ => F7); (with_reducible rename News _ _ _ _ => N7); (have e7 := N7 _ (.tail _ (.head _))); (refine pick_list (p := p) (I := I) (Gd.mk X T) F7.keep (by with_unfolding_all assumption) (dpt (by assumption)) (unt (by assumption)) (hpen _ e7.1) (hIg.at fun o e => F7.keep _ o e) hIp e7.2.2 (by omega) ⟨_, (N7 _ (.head _)).1, rfl, _, rfl⟩ (Ne.symm (Nat.ne_of_lt (by assumption))) (by simp) (by simp) ?_); (clear hpen); (intro h8 tk8 v8 k8 hP8 hv8); (obtain ⟨op8, hop8, hpen⟩ := hP8.has); (have F8 := fr_keepsW (W := [p]) F7 (fun b hb => by rw [List.mem_singleton.mp hb]; exact e7.2) (fun b o e hb => k8 b o e (by simpa using hb))); (have N8 : News g L h8 [(p, op8)] := fun q hq => by rw [List.mem_singleton.mp hq]; exact ⟨hop8, e7.2⟩); clear F7 N7 hop8 k8 e7))
    obtain ⟨aft, ta, rfl, haft⟩ := opt5 hv8 (by decide) (by decide) (by decide)
    clear hv8
    (((try dsimp only); (try k_fold); k_steps))
    with_reducible rename Fr _ _ _ _ => F9
    with_reducible rename News _ _ _ _ => N9
    show Q _ _
    exact ret _ _ ⟨.lead, want, bef, aft⟩ _ t1 tw tb ta (kp F9) (PenI.le (hpen _ (N9 _ (.tail _ (.head _))).1) (by omega)) { pos := fun h => by exact hw1, le := by exact hw2, nil := fun h => (nomatch h), bef := hbef, aft := haft } (N9 _ (.head _)).1 (fin (R := []) F9 N9 (Ne.symm (Nat.ne_of_lt (by assumption))))
  · ((unfold Stop; (with_reducible rename Fr _ _ _ _ => F7); (with_reducible rename News _ _ _ _ => N7); (have e7 := N7 _ (.tail _ (.head _))); (refine pick_list (p := p) (I := I) (Gd.mk X T) F7.keep (by with_unfolding_all assumption) (dpt (by assumption)) (unt (by assumption)) (hpen _ e7.1) (hIg.at fun o e => F7.keep _ o e) hIp e7.2.2 (by omega) ⟨_, (N7 _ (.head _)).1, rfl, _, rfl⟩ (Ne.symm (Nat.ne_of_lt (by assumption))) (by simp) (by simp) ?_); (clear hpen); (intro h8 tk8 v8 k8 hP8 hv8); (obtain ⟨op8, hop8, hpen⟩ := hP8.has); (have F8 := fr_keepsW (W := [p]) F7 (fun b hb => by rw [List.mem_singleton.mp hb]; exact e7.2) (fun b o e hb => k8 b o e (by simpa using hb))); (have N8 : News g L h8 [(p, op8)] := fun q hq => by rw [List.mem_singleton.mp hq]; exact ⟨hop8, e7.2⟩); clear F7 N7 hop8 k8 e7))
    obtain ⟨bef, tb, rfl, hbef⟩ := opt5 hv8 (by decide) (by decide) (by decide)
    clear hv8 hP8
    (((try dsimp only); (try k_fold); k_steps))
    ((unfold Stop; (with_reducible rename Fr _ _ _ _ => F7); (with_reducible rename News _ _ _ _ => N7); (have e7 := N7 _ (.tail _ (.head _))); (refine pick_list (p := p) (I := I) (Gd.mk X T) F7.keep (by with_unfolding_all assumption) (dpt (by assumption)) (unt (by assumption)) (hpen _ e7.1) (hIg.at fun o e => F7.keep _ o e) hIp e7.2.2 (by omega) ⟨_, (N7 _ (.head _)).1, rfl, _, rfl⟩ (Ne.symm (Nat.ne_of_lt (by assumption))) (by simp) (by simp) ?_); (clear hpen); (intro h8 tk8 v8 k8 hP8 hv8); (obtain ⟨op8, hop8, hpen⟩ := hP8.has); (have F8 := fr_keepsW (W := [p]) F7 (fun b hb => by rw [List.mem_singleton.mp hb]; exact e7.2) (fun b o e hb => k8 b o e (by simpa using hb))); (have N8 : News g L h8 [(p, op8)] := fun q hq => by rw [List.mem_singleton.mp hq]; exact ⟨hop8, e7.2⟩); clear F7 N7 hop8 k8 e7))
    obtain ⟨aft, ta, rfl, haft⟩ := opt5 hv8 (by decide) (by decide) (by decide)
    clear hv8
    (((try dsimp only); (try k_fold); k_steps))
    with_reducible rename Fr _ _ _ _ => F9
    with_reducible rename News _ _ _ _ => N9
    show Q _ _
    exact ret _ _ ⟨.chars, [], bef, aft⟩ _ t1 0 tb ta (kp F9) (PenI.le (hpen _ (N9 _ (.tail _ (.head _))).1) (by omega)) { pos := fun h => absurd rfl h, le := by simp, nil := fun h => rfl, bef := hbef, aft := haft } (N9 _ (.head _)).1 (fin (R := []) F9 N9 (Ne.symm (Nat.ne_of_lt (by assumption))))
end
end
section
open PySem PySem.W PySem.Calls PyProof.Rows
set_option Elab.async false
set_option maxRecDepth 100000
set_option maxHeartbeats 20000000
set_option pp.deepTerms false
set_option pp.maxSteps 700
set_option linter.all false
open PyProof.Rows.LCg (NsObj ns_obj lst lst_snoc)
def Rw.w (r : Rw) : Nat := if r.kd = .chars then 1 else r.want.length
set_option maxHeartbeats 20000000
section
variable {w : World} {A : Around} {s : Shared} {mean : ExcName → Option Value} {mg mb : Str → Option Value} {h₀ : Heap} {Q E : Value → Shared → Prop}
theorem size_spec {TR : Addr} {r : Rw} {t1 t2 t3 t4 : Tok} (G : Gd w mean mg mb h₀) (st : ∀ b o, h₀.get? b = some o → s.heap.get? b = some o)
    (hh : A.handled = none) (hd : A.depth + 10 < 1000) (hu : A.units + 100 < 9900) (hr : r.ok) (hT : s.heap.get? TR = some (rowObj r t1 t2 t3 t4))
    (ret : ∀ h' tk t, (∀ b o, s.heap.get? b = some o → h'.get? b = some o) → Q (.int (r.w : Int) t) { s with heap := h', toks := tk }) :
    wpAny (model PySem.Challenge.pw_pb0230_01 w) A (call (.ref 196) [.ref TR]) Q E s := by
  obtain ⟨kd, want, bef, aft⟩ := r
  have hw : want.length ≤ 10 := hr.le
  refine wpAny_call ?_
  refine' enterW ([]) G st ((by simp)) ?k6 ?k7 ?k8 ?k9 ?kB ?_ ?c2 ?c3 ?c4 ?c5 (binds := [(Str.ofString "row", .ref TR)])
  case k6 => k_is
  case k7 => k_is
  case k8 => (unfold recursionLimit; (try simp only [depth_in1, depth_under_make]); omega)
  case k9 => exact BindsTo.of_eq rfl
  case kB => exact locs rfl
  case c2 => exact rfl
  case c3 => exact rfl
  case c4 => exact rfl
  case c5 => decide
  intro g L h₁ hsg hgs F N hg X T
  try dsimp only
  try k_fold
  have hTg : IsTup g TR #[.str kd.s t1, wantV kd want t2, optV bef t3, optV aft t4] := ⟨_, hsg _ _ hT (by simp), rfl, _, rfl⟩
  cases kd
  all_goals dsimp only [wantV] at hTg
  all_goals k_steps
  · show Q _ _
    rw [List.size_toArray]
    exact ret _ _ _ (keep0 hsg (by assumption))
  · show Q _ _
    rw [List.size_toArray]
    exact ret _ _ _ (keep0 hsg (by assumption))
  · show Q _ _
    exact ret _ _ _ (keep0 hsg (by assumption))
theorem pen_spec {S : Addr} {vs : List Value} {ns : List Int} (G : Gd w mean mg mb h₀) (st : ∀ b o, h₀.get? b = some o → s.heap.get? b = some o)
    (hh : A.handled = none) (hd : A.depth + 10 < 1000) (hu : A.units + 100 < 9900) (hS : s.heap.IsList S vs.toArray) (hA : IntsAre vs ns) (hz : ns.length ≤ 1000)
    (ret : ∀ h' tk p I, (∀ b o, s.heap.get? b = some o → h'.get? b = some o) → PenI h' p I 0 → Cells h' I → @Ne Nat I p → s.heap.get? p = none → s.heap.get? I = none → Q (.ref p) { s with heap := h', toks := tk }) :
    wpAny (model PySem.Challenge.pw_pb0230_01 w) A (call (.ref 168) [.ref S]) Q E s := by
  refine wpAny_call ?_
  refine' enterW ([]) G st ((by simp)) ?k6 ?k7 ?k8 ?k9 ?kB ?_ ?c2 ?c3 ?c4 ?c5 (binds := [(Str.ofString "script", .ref S)])
  case k6 => k_is
  case k7 => k_is
  case k8 => (unfold recursionLimit; (try simp only [depth_in1, depth_under_make]); omega)
  case k9 => exact BindsTo.of_eq rfl
  case kB => exact locs rfl
  case c2 => exact rfl
  case c3 => exact rfl
  case c4 => exact rfl
  case c5 => decide
  intro g L h₁ hsg hgs F N hg X T
  try dsimp only
  try k_fold
  have hSg : g.IsList S vs.toArray := hS.at fun o e => hsg _ o e (by simp)
  have hl9 := hA.length
  k_steps
  unfold Stop
  obtain ⟨qc, hqc⟩ : ∃ qc : Value → Shared → Prop, qc = fun v s' => ∃ D ys h tk m, v = .ref D ∧ s' = { s with heap := h, toks := tk } ∧ Fr g L h m ∧ News g L h [(D, lst ys)] ∧ IntsAre ys (ns.take 48) := ⟨_, rfl⟩
  refine wpAny_mono (Q := qc) ?_ ?_ (fun _ _ e => e)
  · refine ListComp_S (cl := []) (by with_unfolding_all rfl) (by decide) (by rfl) (by decide) ?_ (by intro _; rfl)
    k_steps
    unfold Stop
    with_reducible rename Fr _ _ _ _ => F9
    with_reducible rename News _ _ _ _ => N9
    rename_i D5 ws5 h5 _ _ _ _
    have hI5 : IntsAre ws5 (ns.take 48) := by assumption
    have hl5 := hI5.length
    rw [List.length_take] at hl5
    obtain ⟨oL, hoL, hnL⟩ := ns_obj F9.ns
    refine comp_list (X := fun _ => False) (vs := ws5) (news0 := []) (J := fun i ys nx => nx = [] ∧ IntsAre ys ((ns.take 48).take i)) (K := fun D ys nx h tk => qc (.ref D) { s with heap := h, toks := tk })
      (by with_unfolding_all assumption) ⟨_, (N9 _ (.head _)).1, rfl, _, rfl⟩ (by simp) ⟨by rw [sizeLine_eq]; omega, (fun _ h => nomatch h), ⟨rfl, .nil⟩, (fun _ h => h.elim), ?_⟩ (fun it h₂ up H => H)
    intro g2 C D hg1 hg2 _ hC hD hCD
    have k2 : ∀ b o, g.get? b = some o → g2.get? b = some o := fun b o e => hg1 b o (F9.keep b o e) (by simp)
    have X2 := X.keeps k2
    have T2 := T.keeps k2
    refine ⟨?_, ?_⟩
    · rintro i v ys nx h tk m own hi hv ⟨rfl, hys⟩ hap F5 N5
      obtain ⟨c, tc, rfl, hc⟩ := hI5.at i v hv
      clear F9 N9 X T
      try k_fold
      k_steps
      with_reducible rename Fr _ _ _ _ => F6
      with_reducible rename News _ _ _ _ => N6
      show CEnd _ _ _ _ _ _ _ _
      refine ⟨_, _, _, [], rfl, F6, N6, (fun _ _ _ h => nomatch h), rfl, ?_⟩
      rw [List.take_succ, hc]
      exact hys.append (.cons _ _ .nil)
    · rintro ys nx h tk2 ⟨rfl, hys⟩ k1 k3 hDl
      rw [List.take_of_length_le (by rw [List.length_take]; omega)] at hys
      show qc _ _
      rw [hqc]
      refine ⟨D, ys, h, tk2, _, rfl, rfl, fr_keeps F9 (fun b o e => k1 b o e (by simp) (fun h => h)), fun p hp => ?_, hys⟩
      rw [List.mem_singleton.mp hp]
      exact ⟨hDl, ne_of_none hD hoL, none_before F9.keep hD⟩
  rintro v s' hq
  rw [hqc] at hq
  obtain ⟨D, ys, h, tk2, m, rfl, rfl, F5, N5, hys⟩ := hq
  try dsimp only
  try k_fold
  k_steps
  with_reducible rename Fr _ _ _ _ => F6
  with_reducible rename News _ _ _ _ => N6
  show Q _ _
  have z := N6 _ (.head _)
  exact ret _ _ _ D (keep0 hsg F6) ⟨0, 0, _, _, 0, z.1, by omega, by omega, by omega⟩ ⟨ys, ns.take 48, ⟨_, (N6 _ (.tail _ (.head _))).1, rfl, _, rfl⟩, hys, by rw [List.length_take]; omega⟩ (Nat.ne_of_lt (by assumption)) (none_before (fun b o e => hsg b o e (by simp)) z.2.2) (none_before (fun b o e => hsg b o e (by simp)) (N6 _ (.tail _ (.head _))).2.2)
end
end
section
open PySem PySem.W PySem.Calls PyProof.Rows
set_option Elab.async false
set_option maxRecDepth 100000
set_option maxHeartbeats 20000000
set_option pp.deepTerms false
set_option pp.maxSteps 700
set_option linter.all false
open PyProof.Rows.LCg (NsObj ns_obj lst lst_snoc)
local macro_rules | `(tactic| walk_at "call ref") => `(tactic| (k_here; (with_reducible show wpAny _ _ (call (Value.ref 83) _) _ _ _); (with_reducible rename Fr _ _ _ _ => F'); (with_reducible rename News _ _ _ _ => N'); (refine stretch_begin_spec  (Gd.mk (by k_asm) (by k_asm)) (Fr.keep F') (by assumption) (by simp only [depth_deeper, depth_in1]; omega) (by simp only [units_deeper, units_in1]; omega) (by omega) (by assumption) ?_); intro h' _ _ hk'; (have F' := fr_keeps F' hk'); (have N' := news_keeps N' hk')))
local macro_rules | `(tactic| walk_at "call ref") => `(tactic| (k_here; (with_reducible show wpAny _ _ (call (Value.ref 90) _) _ _ _); (with_reducible rename Fr _ _ _ _ => F'); (with_reducible rename News _ _ _ _ => N'); (refine stretch_end_spec  (Gd.mk (by k_asm) (by k_asm)) (Fr.keep F') (by assumption) (by simp only [depth_deeper, depth_in1]; omega) (by simp only [units_deeper, units_in1]; omega) (by omega) (by assumption) ?_); intro h' _ _ hk'; (have F' := fr_keeps F' hk'); (have N' := news_keeps N' hk')))
local macro_rules | `(tactic| walk_at "call ref") => `(tactic| ((with_reducible show wpAny _ _ (call (Value.ref 196) _) _ _ _); refine Stop.mk ?_))
local macro_rules | `(tactic| walk_at "exec While Compare cons nil") => `(tactic| refine Stop.mk ?_)
local macro_rules | `(tactic| walk_at "eval Call") => `(tactic| first | refine Call_ ?_ | with_unfolding_all refine Call_ ?_ | (trace "NOCALL"; refine PyProof.Rows.Call_ ?_))
local macro_rules | `(tactic| walk_at "call type:bytes") => `(tactic| refine Stop.mk ?_)
local macro_rules | `(tactic| walk_at "binaryOp Mult bytes int") => `(tactic| refine Stop.mk ?_)
local macro_rules | `(tactic| walk_at "compareOp NotEq bytes bytes") => `(tactic| refine Stop.mk ?_)
theorem flat_rep {k : Nat} {m : Nat} : (List.replicate ((k : Nat) : Int).toNat (([(m : Int)]).map fun n => n.toNat.toUInt8)).flatten = List.replicate k (UInt8.ofNat m) := by
  rw [Int.toNat_natCast]
  induction k with
  | zero => rfl
  | succ k ih => rw [List.replicate_succ, List.flatten_cons, ih, List.replicate_succ]; rfl
theorem w_le {r : Rw} (h : r.ok) : r.w ≤ 10 := by
  unfold Rw.w; split
  · omega
  · exact h.le
theorem w_pos {r : Rw} (h : r.ok) : 0 < r.w := by
  unfold Rw.w; split
  · omega
  · rename_i q; exact h.pos q
theorem ne_same {prog : Program} {w : World} {A : Around} {E : Value → Shared → Prop} {s : Shared} {Q : Value → Shared → Prop} {b : List UInt8} {t u : Tok} (h : Q (.bool false) s) : wpAny (model prog w) A (compareOp .NotEq (.bytes b.toArray t) (.bytes b.toArray u)) Q E s :=
  ne_bytes (by simpa using h)
set_option maxHeartbeats 20000000
section
variable {w : World} {A : Around} {s : Shared} {mean : ExcName → Option Value} {mg mb : Str → Option Value} {h₀ : Heap} {Q E : Value → Shared → Prop}
theorem blocks_spec {o mk : List UInt8} {TR : Addr} {r : Rw} {mark : Nat} {t1 t2 t3 t4 to tm tk0 : Tok} (P : Nat → Nat → Prop) (G : Gd w mean mg mb h₀) (st : ∀ b o, h₀.get? b = some o → s.heap.get? b = some o)
    (hh : A.handled = none) (hd : A.depth + 40 < 1000) (hu : A.units + 400 < 9900) (hr : r.ok) (hT : s.heap.get? TR = some (rowObj r t1 t2 t3 t4)) (ho : o.length ≤ 50) (hmk : mk.length = o.length) (hm1 : 1 ≤ mark) (hm2 : mark ≤ 10)
    (p0 : P 0 0) (step1 : ∀ k c, P k c → k < o.length → (mk.getD k 0).toNat ≠ mark → P (k + 1) c)
    (step2 : ∀ k c, P k c → k < o.length → (mk.getD k 0).toNat = mark → cutL mk k (k + r.w) = List.replicate r.w (UInt8.ofNat mark) ∧ (r.kd ≠ .chars → cutL o k (k + r.w) = r.want) ∧ beginOf o r.aft ≤ k ∧ k + r.w ≤ endOf o r.bef ∧ P (k + r.w) (c + 1))
    (ret : ∀ h' tk t c, (∀ b o, s.heap.get? b = some o → h'.get? b = some o) → P o.length c → Q (.int (c : Int) t) { s with heap := h', toks := tk }) :
    wpAny (model PySem.Challenge.pw_pb0230_01 w) A (call (.ref 208) [.bytes o.toArray to, .bytes mk.toArray tm, .ref TR, .int (mark : Int) tk0]) Q E s := by
  obtain ⟨kd, want, bef, aft⟩ := r
  have hw : want.length ≤ 10 := hr.le
  have hw10 := w_le hr
  have hw0 := w_pos hr
  have hba : okB aft := hr.aft
  have hbb : okB bef := hr.bef
  refine wpAny_call ?_
  refine' enterW ([]) G st ((by simp)) ?k6 ?k7 ?k8 ?k9 ?kB ?_ ?c2 ?c3 ?c4 ?c5 (binds := [(Str.ofString "octets", .bytes o.toArray to), (Str.ofString "marked", .bytes mk.toArray tm), (Str.ofString "row", .ref TR), (Str.ofString "mark", .int (mark : Int) tk0)])
  case k6 => k_is
  case k7 => k_is
  case k8 => (unfold recursionLimit; (try simp only [depth_in1, depth_under_make]); omega)
  case k9 => exact BindsTo.of_eq rfl
  case kB => exact locs rfl
  case c2 => exact rfl
  case c3 => exact rfl
  case c4 => exact rfl
  case c5 => decide
  intro g L h₁ hsg hgs F N hg X T
  try dsimp only
  try k_fold
  have hTg : IsTup g TR #[.str kd.s t1, wantV kd want t2, optV bef t3, optV aft t4] := ⟨_, hsg _ _ hT (by simp), rfl, _, rfl⟩
  k_steps
  unfold Stop
  with_reducible rename Fr _ _ _ _ => F7
  with_reducible rename News _ _ _ _ => N7
  refine size_spec (Gd.mk X T) F7.keep (by with_unfolding_all assumption) (dpt (by assumption)) (unt (by assumption)) hr (F7.keep _ _ (hsg _ _ hT (by simp))) ?_
  intro h8 tk8 t8 k8
  have F8 := fr_keeps F7 k8
  have N8 := news_keeps N7 k8
  clear F7 N7
  try dsimp only
  try k_fold
  k_steps
  unfold Stop
  with_reducible rename Fr _ _ _ _ => F9
  obtain ⟨JB, hJB⟩ : ∃ JB : Nat → (Str → Option Value) → List (Addr × Obj) → Prop, JB = fun ν m nx => nx = [] ∧ ∃ k c u1 u2 u3 u4 u5, ν = o.length - k ∧ k ≤ o.length ∧ c ≤ k ∧ P k c ∧ m (Str.ofString "octets") = some (.bytes o.toArray to) ∧ m (Str.ofString "marked") = some (.bytes mk.toArray tm) ∧ m (Str.ofString "row") = some (.ref TR) ∧ m (Str.ofString "mark") = some (.int (mark : Int) tk0) ∧
    m (Str.ofString "size") = some (.int ((Rw.mk kd want bef aft).w : Int) u1) ∧ m (Str.ofString "begin") = some (.int (beginOf o aft : Int) u2) ∧ m (Str.ofString "end") = some (.int (endOf o bef : Int) u3) ∧ m (Str.ofString "at") = some (.int (k : Int) u4) ∧ m (Str.ofString "count") = some (.int (c : Int) u5) := ⟨_, rfl⟩
  refine While_inv2 (n₀ := o.length) (news := []) JB F9 (fun _ h => nomatch h) ?_ ?_
  · rw [hJB]
    exact ⟨rfl, 0, 0, _, _, _, _, _, rfl, Nat.zero_le _, Nat.le_refl _, p0, rfl, rfl, rfl, rfl, rfl, rfl, rfl, rfl, rfl⟩
  · rintro ν m₁ nx h tk F₁ N₁ hJx
    rw [hJB] at hJx
    obtain ⟨rfl, k, c, u1, u2, u3, u4, u5, rfl, hk, hck, hP, m1, m2, m3, m4, m5, m6, m7, m8, m9⟩ := hJx
    have F₂ := fr_canon F₁ [(Str.ofString "octets", .bytes o.toArray to), (Str.ofString "marked", .bytes mk.toArray tm), (Str.ofString "row", .ref TR), (Str.ofString "mark", .int (mark : Int) tk0), (Str.ofString "size", .int ((Rw.mk kd want bef aft).w : Int) u1), (Str.ofString "begin", .int (beginOf o aft : Int) u2), (Str.ofString "end", .int (endOf o bef : Int) u3), (Str.ofString "at", .int (k : Int) u4), (Str.ofString "count", .int (c : Int) u5)] (by
      intro p hp
      simp only [List.mem_cons, List.not_mem_nil, or_false] at hp
      rcases hp with rfl | rfl | rfl | rfl | rfl | rfl | rfl | rfl | rfl <;> assumption)
    clear F₁ m1 m2 m3 m4 m5 m6 m7 m8 m9 F9
    try k_fold
    k_steps
    · with_reducible rename Fr _ _ _ _ => F6
      have hlt : (k : Int) < (o.toArray.size : Int) := by assumption
      have hne : ((mk.getD (k : Int).toNat 0).toNat : Int) ≠ (mark : Int) := by first | assumption | omega
      rw [List.size_toArray] at hlt
      rw [Int.toNat_natCast] at hne
      refine ⟨_, _, _, [], o.length - (k + 1), rfl, F6, (fun _ h => nomatch h), by omega, (by rw [hJB]; exact ⟨rfl, k + 1, c, _, _, _, _, _, rfl, by omega, by omega, step1 k c hP (by omega) (by omega), rfl, rfl, rfl, rfl, rfl, rfl, rfl, rfl, rfl⟩)⟩
    · unfold Stop
      with_reducible rename Fr _ _ _ _ => F6
      with_reducible rename News _ _ _ _ => N6
      refine bytes_K (vs := [Value.int (mark : Int) tk0]) (ns := [(mark : Int)]) F6 N6 ⟨_, (N6 _ (.head _)).1, rfl, _, rfl⟩ (.cons _ _ .nil) (by intro n hn; rw [List.mem_singleton.mp hn]; omega) (by simp only [sizeLine_eq, List.length_cons, List.length_nil]; decide) (by with_unfolding_all assumption) ?_
      intro h7 t7 k7 F7 N7 hB7
      clear F6 N6
      try dsimp only
      try k_fold
      k_steps
      unfold Stop
      have hlt : (k : Int) < (o.toArray.size : Int) := by assumption
      have heq : ((mk.getD (k : Int).toNat 0).toNat : Int) = (mark : Int) := by first | assumption | omega
      rw [List.size_toArray] at hlt
      rw [Int.toNat_natCast] at heq
      obtain ⟨q1, q2, q3, q4, q5⟩ := step2 k c hP (by omega) (by omega)
      have hend := (show endOf o bef ≤ o.length from endOf_le)
      refine bytes_mul_any (by simp) (by omega) (by omega) (by simp) ?_
      intro t9 k9
      rw [flat_rep]
      have q1' : cutL mk (k : Int).toNat ((k : Int) + ((Rw.mk kd want bef aft).w : Int)).toNat = List.replicate (Rw.mk kd want bef aft).w (UInt8.ofNat mark) := by
        rw [Int.toNat_natCast, show ((k : Int) + ((Rw.mk kd want bef aft).w : Int)).toNat = k + (Rw.mk kd want bef aft).w from by omega]; exact q1
      rw [q1']
      try dsimp only
      try k_fold
      k_steps
      unfold Stop
      refine ne_same ?_
      cases kd
      · dsimp only [wantV] at hTg
        have q2' := q2 (by intro h; cases h)
        dsimp only at q2' q3 q4 hw10 hw0
        try dsimp only
        try k_fold
        k_steps
        unfold Stop
        have q2'' : cutL o (k : Int).toNat ((k : Int) + ((Rw.mk .all want bef aft).w : Int)).toNat = want := by
          rw [Int.toNat_natCast, show ((k : Int) + ((Rw.mk .all want bef aft).w : Int)).toNat = k + (Rw.mk .all want bef aft).w from by omega]; exact q2'
        rw [q2'']
        refine ne_same ?_
        try dsimp only
        try k_fold
        k_steps
        with_reducible rename Fr _ _ _ _ => F8
        exact ⟨_, _, _, [], o.length - (k + (Rw.mk .all want bef aft).w), rfl, F8, (fun _ h => nomatch h), by omega, (by rw [hJB]; exact ⟨rfl, k + (Rw.mk .all want bef aft).w, c + 1, _, _, _, _, _, rfl, by omega, by omega, q5, rfl, rfl, rfl, rfl, rfl, rfl, rfl, rfl, rfl⟩)⟩
      · dsimp only [wantV] at hTg
        have q2' := q2 (by intro h; cases h)
        dsimp only at q2' q3 q4 hw10 hw0
        try dsimp only
        try k_fold
        k_steps
        unfold Stop
        have q2'' : cutL o (k : Int).toNat ((k : Int) + ((Rw.mk .lead want bef aft).w : Int)).toNat = want := by
          rw [Int.toNat_natCast, show ((k : Int) + ((Rw.mk .lead want bef aft).w : Int)).toNat = k + (Rw.mk .lead want bef aft).w from by omega]; exact q2'
        rw [q2'']
        refine ne_same ?_
        try dsimp only
        try k_fold
        k_steps
        with_reducible rename Fr _ _ _ _ => F8
        exact ⟨_, _, _, [], o.length - (k + (Rw.mk .lead want bef aft).w), rfl, F8, (fun _ h => nomatch h), by omega, (by rw [hJB]; exact ⟨rfl, k + (Rw.mk .lead want bef aft).w, c + 1, _, _, _, _, _, rfl, by omega, by omega, q5, rfl, rfl, rfl, rfl, rfl, rfl, rfl, rfl, rfl⟩)⟩
      · dsimp only [wantV] at hTg
        dsimp only at q3 q4 hw10 hw0
        try dsimp only
        try k_fold
        k_steps
        with_reducible rename Fr _ _ _ _ => F8
        exact ⟨_, _, _, [], o.length - (k + (Rw.mk .chars want bef aft).w), rfl, F8, (fun _ h => nomatch h), by omega, (by rw [hJB]; exact ⟨rfl, k + (Rw.mk .chars want bef aft).w, c + 1, _, _, _, _, _, rfl, by omega, by omega, q5, rfl, rfl, rfl, rfl, rfl, rfl, rfl, rfl, rfl⟩)⟩
    · have hge : ¬ (k : Int) < (o.toArray.size : Int) := by assumption
      rw [List.size_toArray] at hge
      have hk' : k = o.length := by omega
      subst hk'
      show Q _ _
      exact ret _ _ _ c (keep0 hsg (by assumption)) hP
end
end
section
open PySem PySem.W PySem.Calls PyProof.Rows
set_option Elab.async false
set_option maxRecDepth 100000
set_option maxHeartbeats 20000000
set_option pp.deepTerms false
set_option pp.maxSteps 700
set_option linter.all false
open PyProof.Rows.LCg (NsObj ns_obj lst lst_snoc)
local macro_rules | `(tactic| walk_at "call ref") => `(tactic| ((with_reducible show wpAny _ _ (call (Value.ref 196) _) _ _ _); refine Stop.mk ?_))
local macro_rules | `(tactic| walk_at "call ref") => `(tactic| ((with_reducible show wpAny _ _ (call (Value.ref 163) _) _ _ _); refine Stop.mk ?_))
local macro_rules | `(tactic| walk_at "eval Call") => `(tactic| with_unfolding_all refine Call_ ?_)
local macro_rules | `(tactic| walk_at "call type:bytes") => `(tactic| refine Stop.mk ?_)
local macro_rules | `(tactic| walk_at "binaryOp Mult bytes int") => `(tactic| refine Stop.mk ?_)
local macro_rules | `(tactic| walk_at "subscriptTail Name Name ref int") => `(tactic| (k_here; (with_reducible rename Fr _ _ _ _ => F'); refine get_at (Heap.IsList.at (by with_reducible assumption) (fun o e => Fr.keep F' _ o e)) (by with_reducible assumption) (by omega) ?_))
local macro_rules | `(tactic| walk_at "call builtin:len") => `(tactic| (k_here; (with_reducible show wpAny _ _ (call (Value.builtin "len") [Value.ref _]) _ _ _); (with_reducible rename Fr _ _ _ _ => F'); (refine call_len_list (Heap.IsList.at (by with_reducible assumption) (fun o e => Fr.keep F' _ o e)) (by rw [List.size_toArray]; omega) ?_)))
set_option maxHeartbeats 20000000
def bysOf (rs : List Rw) (j : Nat) : List UInt8 := List.replicate (rs.getD j rw0).w (UInt8.ofNat (j + 1))
theorem width_of (o : List UInt8) (rs : List Rw) (j : Nat) : (skOf o rs j).width = (rs.getD j rw0).w := rfl
theorem allLt_mem {d : Nat} : ∀ {l : List (Addr × Obj)}, AllLt d l → ∀ p ∈ l, @LT.lt Nat _ p.1 d
  | [], _, _, h => nomatch h
  | q :: l, hl, p, h => by
    rcases List.mem_cons.mp h with rfl | h
    · exact hl.1
    · exact allLt_mem hl.2 p h
theorem news_end {g h : Heap} {L : Addr} {a b : Addr × Obj} {own nx : List (Addr × Obj)} (N : News g L h (a :: b :: (own ++ nx))) : News g L h (b :: (own ++ (nx ++ [a]))) := fun p hp => N p (by
  rcases List.mem_cons.mp hp with rfl | hp
  · exact .tail _ (.head _)
  · rcases List.mem_append.mp hp with hp | hp
    · exact .tail _ (.tail _ (List.mem_append.mpr (.inl hp)))
    · rcases List.mem_append.mp hp with hp | hp
      · exact .tail _ (.tail _ (List.mem_append.mpr (.inr hp)))
      · rw [List.mem_singleton.mp hp]; exact .head _)
/-- the rows so far, with what is put in -/
def JR (rs : List Rw) (bys : Nat → List UInt8) (i : Nat) (ys : List Value) (nx : List (Addr × Obj)) : Prop :=
  ys.length = i ∧ ∀ j v, ys[j]? = some v → ∃ (r : Rw) (T : Addr) (t1 t2 t3 t4 t5 : Tok), rs[j]? = some r ∧ v = Value.ref T ∧ (T, tupObj #[.str r.kd.s t1, wantV r.kd r.want t2, .bytes (bys j).toArray t5, optV r.bef t3, optV r.aft t4]) ∈ nx
section
variable {w : World} {A : Around} {s : Shared} {mean : ExcName → Option Value} {mg mb : Str → Option Value} {h₀ : Heap} {Q E : Value → Shared → Prop}
theorem marked_spec {o : List UInt8} {rs : List Rw} {rl : Addr} {t0 : Tok} (G : Gd w mean mg mb h₀) (st : ∀ b o, h₀.get? b = some o → s.heap.get? b = some o)
    (hh : A.handled = none) (hd : A.depth + 60 < 1000) (hu : A.units + 600 < 9900) (ho : o.length ≤ 50) (hR : RowsAt s.heap rl rs) (hrs : ∀ r ∈ rs, r.ok) (hn : rs.length ≤ 8)
    (ret : ∀ h' tk t, (∀ b o, s.heap.get? b = some o → h'.get? b = some o) → Q (.bytes (paint o (bysOf rs) (fun j => (skOf o rs j).width) 0 (trace o rs.length (skOf o rs) 0)).toArray t) { s with heap := h', toks := tk }) :
    wpAny (model PySem.Challenge.pw_pb0230_01 w) A (call (.ref 201) [.bytes o.toArray t0, .ref rl]) Q E s := by
  refine wpAny_call ?_
  refine' enterC ([]) G st ((by simp)) ?k6 ?k7 ?k8 ?k9 ?kB ?kD ?_ ?c2 ?c3 ?c4 (binds := [(Str.ofString "octets", .bytes o.toArray t0), (Str.ofString "rows", .ref rl)])
  case k6 => k_is
  case k7 => k_is
  case k8 => (unfold recursionLimit; omega)
  case k9 => exact BindsTo.of_eq rfl
  case kB => exact rfl
  case kD => decide +kernel
  case c2 => exact rfl
  case c3 => exact rfl
  case c4 => exact rfl
  intro g L h₁ tk cells hsg hgs F N Y hg X T hlt
  try dsimp only
  try k_fold
  have hsg0 : ∀ b o, s.heap.get? b = some o → g.get? b = some o := fun b o e => hsg b o e (by simp)
  have hRg := hR.keep hsg0
  obtain ⟨items, ep, hli, hA2⟩ := hRg
  have hlen := hA2.length
  have hlR : g.IsList rl items.toArray := ⟨_, hli, rfl, ep, rfl⟩
  have hY := CellsAre.two Y
  obtain ⟨oc, od, hE, hoc, hod⟩ := hY
  subst hE
  clear Y
  replace hod : od.data = .cell (some (.ref rl)) := hod
  replace hoc : oc.data = .cell none := hoc
  obtain ⟨m9, F0, hm9⟩ : ∃ m9, Fr g L h₁ m9 ∧ m9 (Str.ofString "octets") = some (.bytes o.toArray t0) := ⟨_, F, rfl⟩
  have F1 := fr_canon F0 [(Str.ofString "octets", .bytes o.toArray t0)] (by intro p hp; rw [List.mem_singleton.mp hp]; exact hm9)
  clear F F0 hm9
  k_steps
  unfold Stop
  try k_fold
  refine wpAny_Assign_Name ?_ (by with_unfolding_all rfl)
  try k_fold
  obtain ⟨qc, hqc⟩ : ∃ qc : Value → Shared → Prop, qc = fun v s' => ∃ (D : Addr) (t : Nat → Tok) (h : Heap) (tk : Nat), v = .ref D ∧ s' = { s with heap := h, toks := tk } ∧ Fr g L h (canon [(Str.ofString "octets", .bytes o.toArray t0)] m9) ∧
      News g L h [(D, lst ((List.range items.length).map (fun j => Value.bytes (bysOf rs j).toArray (t j)))), (L + 1 + 1, oc), (L + 1, od)] ∧ @Ne Nat D (L + 1) ∧ @Ne Nat D (L + 1 + 1) := ⟨_, rfl⟩
  refine wpAny_mono (Q := qc) ?_ ?_ (fun _ _ e => e)
  · refine ListComp_S (cl := [("rows", L + 1)]) (by with_unfolding_all rfl) (by decide) (by rfl) (by decide) ?_ (by intro _; rfl)
    k_steps
    unfold Stop
    with_reducible rename Fr _ _ _ _ => F9
    with_reducible rename News _ _ _ _ => N9
    obtain ⟨oL, hoL, hnL⟩ := ns_obj F9.ns
    have e1 := N9 _ (.head _)
    have e2 := N9 _ (.tail _ (.head _))
    refine comp_range (X := fun _ => False) (n := items.length) (news0 := []) (J := fun i ys nx => nx = [] ∧ ∃ t : Nat → Tok, ys = (List.range i).map (fun j => Value.bytes (bysOf rs j).toArray (t j)))
      (K := fun D ys nx h tk => qc (.ref D) { s with heap := h, toks := tk }) (by with_unfolding_all assumption) (by assumption) (by omega) (by omega) (by rw [List.size_toArray]; omega) (by rw [List.size_toArray]; omega) (by rw [List.size_toArray]; omega)
      ⟨by rw [sizeLine_eq]; omega, (fun _ h => nomatch h), ⟨rfl, fun _ => 0, rfl⟩, (fun _ h => h.elim), ?_⟩ (fun it h₂ up H => H)
    intro g2 C D hg1 hg2 _ hC hD hCD
    have k2 : ∀ b o, g.get? b = some o → g2.get? b = some o := fun b o e => hg1 b o (F9.keep b o e) (by simp)
    have X2 := X.keeps k2
    have T2 := T.keeps k2
    have hod2 : g2.get? (L + 1) = some od := hg1 _ _ e2.1 (by simp)
    have hlR2 : g2.IsList rl items.toArray := hlR.at fun o e => k2 _ o e
    refine ⟨?_, ?_⟩
    · rintro i v ys nx h tk m own hi ⟨tv, rfl⟩ ⟨rfl, t, rfl⟩ hap F5 N5
      obtain ⟨v, hv⟩ : ∃ v, items[i]? = some v := ⟨_, List.getElem?_eq_getElem hi⟩
      obtain ⟨r, hr, TT, t1, t2, t3, t4, rfl, hTT⟩ := hA2.get hv
      have hrok := hrs r (List.mem_of_getElem? hr)
      clear F9 N9 X T
      simp only [Int.zero_add]
      try k_fold
      k_steps
      unfold Stop
      with_reducible rename Fr _ _ _ _ => F6
      with_reducible rename News _ _ _ _ => N6
      refine bytes_K (vs := [Value.int ((i : Int) + 1) _]) (ns := [(i : Int) + 1]) F6 N6 ⟨_, (N6 _ (.head _)).1, rfl, _, rfl⟩ (.cons _ _ .nil) (by intro n hn; rw [List.mem_singleton.mp hn]; omega) (by simp only [sizeLine_eq, List.length_cons, List.length_nil]; decide) (by with_unfolding_all assumption) ?_
      intro h7 t7 k7 F7 N7 hB7
      clear F6 N6
      try dsimp only
      try k_fold
      k_steps
      unfold Stop
      with_reducible rename Fr _ _ _ _ => F8
      with_reducible rename News _ _ _ _ => N8
      refine size_spec (Gd.mk X2 T2) F8.keep (by with_unfolding_all assumption) (dpt (by assumption)) (unt (by assumption)) hrok (F8.keep _ _ (k2 _ _ hTT)) ?_
      intro h9 tk9 t9 k9
      have F9 := fr_keeps F8 k9
      have N9 := news_keeps N8 k9
      clear F8 N8
      have hw10 := w_le hrok
      try dsimp only
      try k_fold
      k_steps
      unfold Stop
      show wpAny _ _ (binaryOp Operator.Mult _ _) _ _ _
      refine bytes_mul_any (by simp) (by omega) (by omega) (by simp) ?_
      intro t9' k9'
      rw [show ((i : Int) + 1) = ((i + 1 : Nat) : Int) from rfl, flat_rep]
      show CEnd _ _ _ _ _ _ _ _
      refine ⟨_, _, _, [], rfl, F9, (fun p hp => N9 p (.tail _ hp)), (fun _ _ _ h => nomatch h), rfl, upd t i t9', ?_⟩
      rw [List.range_succ, List.map_append]
      congr 1
      · refine List.map_congr_left fun j hj => ?_
        have : j ≠ i := Nat.ne_of_lt (List.mem_range.mp hj)
        simp [upd, this]
      · simp [upd, bysOf, List.getD_eq_getElem?_getD, hr]
    · rintro ys nx h tk2 ⟨rfl, t, rfl⟩ k1 k3 hDl
      show qc _ _
      rw [hqc]
      refine ⟨D, t, h, tk2, rfl, rfl, fr_keeps F9 (fun b o e => k1 b o e (by simp) (fun h => h)), fun p hp => ?_, ne_of_none hD e2.1, ne_of_none hD e1.1⟩
      rcases List.mem_cons.mp hp with rfl | hp
      · exact ⟨hDl, ne_of_none hD hoL, none_before F9.keep hD⟩
      · have := N9 p hp
        exact ⟨k1 _ _ this.1 (by simp) (fun h => h), this.2⟩
  rintro v s' hq
  rw [hqc] at hq
  obtain ⟨D, t, h, tk2, rfl, rfl, F5, N5, hD1, hD2⟩ := hq
  try dsimp only
  refine store_cell (c := L + 1 + 1) (oc := oc) F5 (news_fst (own := [(D, _)]) N5) (fun p hp => ?_) hoc rfl rfl (by with_unfolding_all rfl) ?_
  · rcases List.mem_cons.mp hp with rfl | hp
    · exact hD2
    · rw [List.mem_singleton.mp hp]; exact Nat.ne_of_lt (Nat.lt_succ_self _)
  intro h11 oc11 tk11 hoc11 F11 N11
  clear F5 N5 hqc hoc F1
  try dsimp only
  try k_fold
  k_steps
  unfold Stop
  obtain ⟨qc2, hqc2⟩ : ∃ qc2 : Value → Shared → Prop, qc2 = fun v s' => ∃ (D2 : Addr) (h : Heap) (tk : Nat), v = .ref D2 ∧ s' = { s with heap := h, toks := tk } ∧ Fr g L h (canon [(Str.ofString "octets", .bytes o.toArray t0)] m9) ∧ RowsBy h D2 rs (bysOf rs) := ⟨_, rfl⟩
  refine wpAny_mono (Q := qc2) ?_ ?_ (fun _ _ e => e)
  · refine ListComp_S (cl := [("rows", L + 1), ("marks", L + 1 + 1)]) (by with_unfolding_all rfl) (by decide) (by rfl) (by decide) ?_ (by intro _; rfl)
    k_steps
    unfold Stop
    with_reducible rename Fr _ _ _ _ => F9
    with_reducible rename News _ _ _ _ => N9
    obtain ⟨oL, hoL, hnL⟩ := ns_obj F9.ns
    have e1 := N9 _ (.head _)
    have eD := N9 _ (.tail _ (.head _))
    have e2 := N9 _ (.tail _ (.tail _ (.head _)))
    refine comp_range (X := fun _ => False) (n := items.length) (news0 := []) (J := JR rs (bysOf rs))
      (K := fun D ys nx h tk => qc2 (.ref D) { s with heap := h, toks := tk }) (by with_unfolding_all assumption) (by assumption) (by omega) (by omega) (by rw [List.size_toArray]; omega) (by rw [List.size_toArray]; omega) (by rw [List.size_toArray]; omega)
      ⟨by rw [sizeLine_eq]; omega, (fun _ h => nomatch h), ⟨rfl, fun j v h => by simp at h⟩, (fun _ h => h.elim), ?_⟩ (fun it h₂ up H => H)
    intro g2 C D2 hg1 hg2 _ hC hDn hCD
    have k2 : ∀ b o, g.get? b = some o → g2.get? b = some o := fun b o e => hg1 b o (F9.keep b o e) (by simp)
    have X2 := X.keeps k2
    have T2 := T.keeps k2
    have hod2 : g2.get? (L + 1) = some od := hg1 _ _ e2.1 (by simp)
    have hoc2 : g2.get? (L + 1 + 1) = some oc11 := hg1 _ _ e1.1 (by simp)
    have hDl2 : g2.IsList D ((List.range items.length).map (fun j => Value.bytes (bysOf rs j).toArray (t j))).toArray := ⟨_, hg1 _ _ eD.1 (by simp), rfl, _, rfl⟩
    have hlR2 : g2.IsList rl items.toArray := hlR.at fun o e => k2 _ o e
    refine ⟨?_, ?_⟩
    · rintro i v ys nx h tk m own hi ⟨tv, rfl⟩ ⟨hyl, hys⟩ hap F5 N5
      obtain ⟨v, hv⟩ : ∃ v, items[i]? = some v := ⟨_, List.getElem?_eq_getElem hi⟩
      obtain ⟨r, hr, TT, t1, t2, t3, t4, rfl, hTT⟩ := hA2.get hv
      have hrok := hrs r (List.mem_of_getElem? hr)
      have hT2 : IsTup g2 TT #[.str r.kd.s t1, wantV r.kd r.want t2, optV r.bef t3, optV r.aft t4] := ⟨_, k2 _ _ hTT, rfl, _, rfl⟩
      have hmv : ((List.range items.length).map (fun j => Value.bytes (bysOf rs j).toArray (t j)))[i]? = some (.bytes (bysOf rs i).toArray (t i)) := by simp [hi]
      clear F9 N9 X T
      simp only [Int.zero_add]
      try k_fold
      k_steps
      with_reducible rename Fr _ _ _ _ => F6
      with_reducible rename News _ _ _ _ => N6
      show CEnd _ _ _ _ _ _ _ _
      obtain ⟨hlt1, hlt2⟩ : D2 < _ ∧ AllLt _ (own ++ nx) := by assumption
      refine ⟨_, _, _, nx ++ [_], rfl, F6, news_end N6, ?_, by rw [List.length_append, hyl]; rfl, ?_⟩
      · intro p hp q hq
        rcases List.mem_append.mp hq with hq | hq
        · exact hap p hp q hq
        · rw [List.mem_singleton.mp hq]
          rcases List.mem_cons.mp hp with rfl | hp
          · exact Nat.ne_of_lt hlt1
          · exact Nat.ne_of_lt (allLt_mem hlt2 p (List.mem_append.mpr (.inl hp)))
      · intro j v hj
        by_cases e : j < i
        · rw [List.getElem?_append_left (by omega)] at hj
          obtain ⟨r', T', a1, a2, a3, a4, a5, b1, b2, b3⟩ := hys j v hj
          exact ⟨r', T', a1, a2, a3, a4, a5, b1, b2, List.mem_append.mpr (.inl b3)⟩
        · have hji : j = i := by
            have := (List.getElem?_eq_some_iff.mp hj).1
            rw [List.length_append, hyl] at this
            simp at this; omega
          subst hji
          rw [List.getElem?_append_right (by omega), hyl, Nat.sub_self] at hj
          cases hj
          exact ⟨r, _, t1, t2, t3, t4, t j, hr, rfl, List.mem_append.mpr (.inr (.head _))⟩
    · rintro ys nx h tk2 ⟨hyl, hys⟩ k1 k3 hDl
      show qc2 _ _
      rw [hqc2]
      refine ⟨D2, h, tk2, rfl, rfl, fr_keeps F9 (fun b o e => k1 b o e (by simp) (fun h => h)), ys, ys.length, hDl, hyl.trans hlen, fun j v hj => ?_⟩
      obtain ⟨r', T', a1, a2, a3, a4, a5, b1, b2, b3⟩ := hys j v hj
      exact ⟨r', T', a1, a2, a3, a4, a5, b1, b2, (k3 _ b3).1⟩
  rintro v s' hq
  rw [hqc2] at hq
  obtain ⟨D2, h, tk2, rfl, rfl, F5, hRB⟩ := hq
  try dsimp only
  have N5 : News g L h [] := fun _ h => nomatch h
  clear N11 F11 hqc2
  try k_fold
  k_steps
  unfold Stop
  with_reducible rename Fr _ _ _ _ => F8
  refine replaced_spec (Gd.mk X T) F8.keep (by with_unfolding_all assumption) (dpt (by assumption)) (unt (by assumption)) ho hRB hrs hn (fun j hj => by unfold bysOf; rw [List.length_replicate]; rfl) ?_
  intro h9 tk9 t9 k9
  have hσ : ∀ j, j < rs.length → (skOf o rs j).e ≤ o.length ∧ 0 < (skOf o rs j).width := fun j hj => ⟨(skOf_ok hrs ho hj).2.1, (skOf_ok hrs ho hj).2.2.2⟩
  rw [paint_all (n := rs.length) (σ := skOf o rs) (fun j hj => by unfold bysOf; rw [List.length_replicate]; rfl) (trace_ok hσ _ 0 _ (SameK.refl _) (Nat.le_refl _) (Nat.zero_le _))]
  show Q _ _
  exact ret _ _ _ (keep0 hsg (fr_keeps F8 k9))
end
end
section
open PySem PySem.W PySem.Calls PyProof.Rows
set_option Elab.async false
set_option maxRecDepth 100000
set_option maxHeartbeats 20000000
set_option pp.deepTerms false
set_option pp.maxSteps 700
set_option linter.all false
open PyProof.Rows.LCg (NsObj ns_obj lst lst_snoc)
local macro_rules | `(tactic| walk_at "call ref") => `(tactic| ((with_reducible show wpAny _ _ (call (Value.ref 158) _) _ _ _); refine Stop.mk ?_))
local macro_rules | `(tactic| walk_at "compareOp NotEq ref ref") => `(tactic| refine Stop.mk ?_)
local macro_rules | `(tactic| walk_at "compareOp Eq ref ref") => `(tactic| refine Stop.mk ?_)
local macro_rules | `(tactic| walk_at "eval List") => `(tactic| ((with_reducible show wpAny _ _ (eval (Expr.List (_ :: _) _) _) _ _ _); refine Stop.mk ?_))
local macro_rules | `(tactic| walk_at "eval Tuple") => `(tactic| refine Stop.mk ?_)
local macro_rules | `(tactic| walk_at "forIn") => `(tactic| refine wpAny_tests_one ?_)
local macro_rules | `(tactic| walk_at "getMethod ref") => `(tactic| (k_here; (with_reducible show wpAny _ _ (getMethod (Value.ref _) (PySem.Str.ofString "append") _) _ _ _); (refine' listMethod_K ?N ?m PySem.F.slot_list_append PySem.F.type_list_append ?_; (case N => k_asm); (case m => exact .head _))))
local macro_rules | `(tactic| walk_at "callWith") => `(tactic| refine Stop.mk ?_)
local macro_rules | `(tactic| walk_at "call builtin:list.append") => `(tactic| refine Stop.mk ?_)
set_option maxHeartbeats 20000000
section
variable {w : World} {A : Around} {s : Shared} {mean : ExcName → Option Value} {mg mb : Str → Option Value} {h₀ : Heap} {Q E : Value → Shared → Prop}
theorem okB_none' : okB none := fun _ h => nomatch h
inductive OkO : Option (List UInt8) → Prop
  | none : OkO none
  | some {l : List UInt8} (h : 0 < l.length ∧ l.length ≤ 10) : OkO (some l)
theorem OkO.ok {a : Option (List UInt8)} (h : OkO a) : okB a := by
  cases h with
  | none => exact fun _ h => nomatch h
  | some h => exact fun _ e => by cases e; exact h
theorem ok_row {kd : Kd} {want : List UInt8} {bef aft : Option (List UInt8)} (hb : OkO bef) (ha : OkO aft) (h1 : kd ≠ .chars → 0 < want.length) (h2 : want.length ≤ 10) (h3 : kd = .chars → want = []) : Rw.ok ⟨kd, want, bef, aft⟩ := ⟨h1, h2, h3, hb.ok, ha.ok⟩
inductive OkAll : List Rw → Prop
  | nil : OkAll []
  | cons {r : Rw} {rs : List Rw} (h : r.ok) (hs : OkAll rs) : OkAll (r :: rs)
theorem ok_all {rs : List Rw} (h : OkAll rs) : ∀ r ∈ rs, r.ok := by
  induction h with
  | nil => exact fun _ h => nomatch h
  | cons h _ ih => intro r hr; rcases List.mem_cons.mp hr with rfl | hr; exact h; exact ih r hr
def WrIn (R : List (Addr × Obj)) (v : Value) (o : List UInt8) (rs : List Rw) (cs : List Int) : Prop := ∀ h : Heap, Has h R → WrAt h v o rs cs
theorem WrIn.more {R R' : List (Addr × Obj)} {v : Value} {o : List UInt8} {rs : List Rw} {cs : List Int} (H : WrIn R v o rs cs) (k : ∀ p ∈ R, p ∈ R') : WrIn R' v o rs cs := fun h hR => H h fun p hp => hR p (k p hp)
def WrOk (N : List (Addr × Obj)) (v : Value) : Prop := ∃ o rs cs, WrIn N v o rs cs ∧ cntsOf o rs = cs ∧ o.length ≤ 50 ∧ (∀ r ∈ rs, r.ok) ∧ rs.length ≤ 8
theorem written_spec (G : Gd w mean mg mb h₀) (st : ∀ b o, h₀.get? b = some o → s.heap.get? b = some o)
    (hh : A.handled = none) (hd : A.depth + 60 < 1000) (hu : A.units + 600 < 9900)
    (ret : ∀ h' tk, (∀ b o, s.heap.get? b = some o → h'.get? b = some o) → Q (.bool true) { s with heap := h', toks := tk }) :
    wpAny (model PySem.Challenge.pw_pb0230_01 w) A (call (.ref 213) []) Q E s := by
  refine wpAny_call ?_
  refine' enterW ([]) G st ((by simp)) ?k6 ?k7 ?k8 ?k9 ?kB ?_ ?c2 ?c3 ?c4 ?c5 (binds := [])
  case k6 => k_is
  case k7 => k_is
  case k8 => (unfold recursionLimit; (try simp only [depth_in1, depth_under_make]); omega)
  case k9 => exact BindsTo.of_eq rfl
  case kB => exact locs rfl
  case c2 => exact rfl
  case c3 => exact rfl
  case c4 => exact rfl
  case c5 => decide
  intro g L h₁ hsg hgs F N hg X T
  try dsimp only
  try k_fold
  k_steps
  unfold Stop
  with_reducible rename Fr _ _ _ _ => F7
  with_reducible rename News _ _ _ _ => N7
  refine' evl_use (X := fun vs h => ∃ a r, vs = a :: r ∧ WrAt h a [65, 65, 65] [⟨.all, [65, 65], none, none⟩] [1] ∧ ∃ b r', r = b :: r' ∧ WrAt h b [65, 66, 65, 66] [⟨.lead, [65, 66], none, none⟩, ⟨.all, [66], none, none⟩] [2, 0] ∧ r' = [])
    ?c1 ?c2 ?c3 ?c4 ?_
  case c3 => exact F7
  case c4 => exact N7
  case c2 => exact (by decide : 2 ≤ 100)
  case c1 => exact evL_cons ev_w1 (evL_cons ev_w2 evL_nil star_tup) star_tup
  intro h8 tk8 l8 vs8 N3 F8 N8 hl3 W8
  rw [List.append_nil] at N8 hl3
  have W8' : ∃ a b, vs8 = [a, b] ∧ WrIn N3 a [65, 65, 65] [⟨.all, [65, 65], none, none⟩] [1] ∧ WrIn N3 b [65, 66, 65, 66] [⟨.lead, [65, 66], none, none⟩, ⟨.all, [66], none, none⟩] [2, 0] := by
    obtain ⟨a, r, e1, _, b, r', e2, _, e3⟩ := W8 h8 (fun p hp => (N8 p (.tail _ hp)).1)
    subst e3 e2
    refine ⟨a, b, e1, fun h hh => ?_, fun h hh => ?_⟩
    · obtain ⟨a', r, q1, q2, b', r', q3, q4, q5⟩ := W8 h hh
      subst q5 q3
      rw [e1] at q1
      cases q1; exact q2
    · obtain ⟨a', r, q1, q2, b', r', q3, q4, q5⟩ := W8 h hh
      subst q5 q3
      rw [e1] at q1
      cases q1; exact q4
  clear W8
  obtain ⟨a, b, rfl, Wa, Wb⟩ := W8'
  clear F7 N7
  try dsimp only
  try k_fold
  k_steps
  unfold Stop
  with_reducible rename Fr _ _ _ _ => F7
  with_reducible rename News _ _ _ _ => N7
  refine' app_row (X := fun v h => WrAt h v [67, 65, 66, 65, 66] [⟨.lead, [65, 66], none, none⟩, ⟨.chars, [], some [66], some [67]⟩] [0, 1]) (vs := [a, b]) ?c1 ?c2 ?c3 ?c4 ?c5 ?c6 ?_
  case c1 => exact ev_w3
  case c2 => exact star_tup
  case c3 => exact F7
  case c4 => exact N7
  case c5 => exact hl3
  case c6 => exact (by decide : 2 ≤ 1000)
  clear F7 N7 hl3
  intro h9 tk9 c Nn F9 N9 hl4 Wc
  replace Wa := WrIn.more (R' := Nn ++ N3) Wa fun p hp => List.mem_append.mpr (.inr hp)
  replace Wb := WrIn.more (R' := Nn ++ N3) Wb fun p hp => List.mem_append.mpr (.inr hp)
  replace Wc := WrIn.more (R' := Nn ++ N3) Wc fun p hp => List.mem_append.mpr (.inl hp)
  generalize Nn ++ N3 = N4 at N9 hl4 Wa Wb Wc
  clear N3 Nn
  try dsimp only
  try k_fold
  k_steps
  unfold Stop
  with_reducible rename Fr _ _ _ _ => F7
  with_reducible rename News _ _ _ _ => N7
  refine' app_row (X := fun v h => WrAt h v [67, 65, 66, 65, 66] [⟨.lead, [65, 66], none, some [67]⟩, ⟨.chars, [], none, none⟩] [2, 1]) (vs := [a, b, c]) ?c1 ?c2 ?c3 ?c4 ?c5 ?c6 ?_
  case c1 => exact ev_w4
  case c2 => exact star_tup
  case c3 => exact F7
  case c4 => exact N7
  case c5 => exact hl4
  case c6 => exact (by decide : 3 ≤ 1000)
  clear F7 N7 hl4
  intro h9 tk9 d Nn F9 N9 hl5 Wd
  replace Wa := WrIn.more (R' := Nn ++ N4) Wa fun p hp => List.mem_append.mpr (.inr hp)
  replace Wb := WrIn.more (R' := Nn ++ N4) Wb fun p hp => List.mem_append.mpr (.inr hp)
  replace Wc := WrIn.more (R' := Nn ++ N4) Wc fun p hp => List.mem_append.mpr (.inr hp)
  replace Wd := WrIn.more (R' := Nn ++ N4) Wd fun p hp => List.mem_append.mpr (.inl hp)
  generalize Nn ++ N4 = N5 at N9 hl5 Wa Wb Wc Wd
  clear N4 Nn
  try dsimp only
  try k_fold
  k_steps
  unfold Stop
  with_reducible rename Fr _ _ _ _ => F7
  with_reducible rename News _ _ _ _ => N7
  refine' app_row (X := fun v h => WrAt h v [66, 65, 66, 65, 67] [⟨.all, [66, 65, 66], none, none⟩, ⟨.all, [65], some [67], some [66]⟩, ⟨.chars, [], none, none⟩] [1, 1, 1]) (vs := [a, b, c, d]) ?c1 ?c2 ?c3 ?c4 ?c5 ?c6 ?_
  case c1 => exact ev_w5
  case c2 => exact star_tup
  case c3 => exact F7
  case c4 => exact N7
  case c5 => exact hl5
  case c6 => exact (by decide : 4 ≤ 1000)
  clear F7 N7 hl5
  intro h9 tk9 e Nn F9 N9 hl6 We
  replace Wa := WrIn.more (R' := Nn ++ N5) Wa fun p hp => List.mem_append.mpr (.inr hp)
  replace Wb := WrIn.more (R' := Nn ++ N5) Wb fun p hp => List.mem_append.mpr (.inr hp)
  replace Wc := WrIn.more (R' := Nn ++ N5) Wc fun p hp => List.mem_append.mpr (.inr hp)
  replace Wd := WrIn.more (R' := Nn ++ N5) Wd fun p hp => List.mem_append.mpr (.inr hp)
  replace We := WrIn.more (R' := Nn ++ N5) We fun p hp => List.mem_append.mpr (.inl hp)
  generalize Nn ++ N5 = N6 at N9 hl6 Wa Wb Wc Wd We
  clear N5 Nn
  try dsimp only
  try k_fold
  k_steps
  unfold Stop
  with_reducible rename Fr _ _ _ _ => F7
  with_reducible rename News _ _ _ _ => N7
  have k9 : ∀ b o, s.heap.get? b = some o → h9.get? b = some o := keep0 hsg F7
  have WA : ∀ v ∈ [a, b, c, d, e], WrOk N6 v := by
    intro v hv
    simp only [List.mem_cons, List.not_mem_nil, or_false] at hv
    rcases hv with rfl | rfl | rfl | rfl | rfl
    · exact ⟨_, _, _, Wa, wr1, by decide, ok_all (.cons (ok_row .none .none (by decide) (by decide) (by decide)) .nil), by decide⟩
    · exact ⟨_, _, _, Wb, wr2, by decide, ok_all (.cons (ok_row .none .none (by decide) (by decide) (by decide)) (.cons (ok_row .none .none (by decide) (by decide) (by decide)) .nil)), by decide⟩
    · exact ⟨_, _, _, Wc, wr3, by decide, ok_all (.cons (ok_row .none .none (by decide) (by decide) (by decide)) (.cons (ok_row (.some (by decide)) (.some (by decide)) (by decide) (by decide) (by decide)) .nil)), by decide⟩
    · exact ⟨_, _, _, Wd, wr4, by decide, ok_all (.cons (ok_row .none (.some (by decide)) (by decide) (by decide) (by decide)) (.cons (ok_row .none .none (by decide) (by decide) (by decide)) .nil)), by decide⟩
    · exact ⟨_, _, _, We, wr5, by decide, ok_all (.cons (ok_row .none .none (by decide) (by decide) (by decide)) (.cons (ok_row (.some (by decide)) (.some (by decide)) (by decide) (by decide) (by decide)) (.cons (ok_row .none .none (by decide) (by decide) (by decide)) .nil))), by decide⟩
  clear Wa Wb Wc Wd We hl6
  obtain ⟨m9, F1, hm9⟩ : ∃ m9, Fr g L h9 m9 ∧ m9 (Str.ofString "rows") = some (.ref l8) := ⟨_, F7, rfl⟩
  clear F7
  have F7 := fr_canon F1 [(Str.ofString "rows", .ref l8)] (by intro p hp; rw [List.mem_singleton.mp hp]; exact hm9)
  clear F1 hm9
  obtain ⟨qc, hqc⟩ : ∃ qc : Value → Shared → Prop, qc = fun v s' => ∃ D h tk, v = .ref D ∧ s' = { s with heap := h, toks := tk } ∧ Fr g L h (canon [(Str.ofString "rows", .ref l8)] m9) ∧ News g L h [(D, lst [])] := ⟨_, rfl⟩
  refine wpAny_mono (Q := qc) ?_ ?_ (fun _ _ e => e)
  · refine ListComp_S (cl := []) (by with_unfolding_all rfl) (by decide) (by rfl) (by decide) ?_ (by intro _; rfl)
    k_steps
    unfold Stop
    with_reducible rename Fr _ _ _ _ => F9
    with_reducible rename News _ _ _ _ => N9
    obtain ⟨oL, hoL, hnL⟩ := ns_obj F9.ns
    refine comp_list (X := fun _ => False) (vs := [a, b, c, d, e]) (news0 := []) (J := fun i ys nx => ys = [] ∧ nx = []) (K := fun D ys nx h tk => qc (.ref D) { s with heap := h, toks := tk })
      (by with_unfolding_all assumption) ⟨_, (N9 _ (.head _)).1, rfl, _, rfl⟩ (by simp) ⟨by rw [sizeLine_eq]; exact (by decide : 5 ≤ 16777216), (fun _ h => nomatch h), ⟨rfl, rfl⟩, (fun _ h => h.elim), ?_⟩ (fun it h₂ up H => H)
    intro g2 C D hg1 hg2 _ hC hD hCD
    have k2 : ∀ b o, g.get? b = some o → g2.get? b = some o := fun b o e => hg1 b o (F9.keep b o e) (by simp)
    have X2 := X.keeps k2
    have T2 := T.keeps k2
    have hN6 : Has g2 N6 := fun p hp => hg1 _ _ (N9 p (.tail _ hp)).1 (by simp)
    refine ⟨?_, ?_⟩
    · rintro i v ys nx h tk m own hi hv ⟨rfl, rfl⟩ hap F5 N5
      obtain ⟨o, rs, cs, hW, hcs, ho, hrs, hn⟩ := WA v (List.mem_of_getElem? hv)
      obtain ⟨TT, lr, lc, tt, ws, rfl, hTT, hRR, hlc, hws⟩ := hW g2 hN6
      have hT2 : IsTup g2 TT #[.bytes o.toArray tt, .ref lr, .ref lc] := ⟨_, hTT, rfl, _, rfl⟩
      clear F9 N9 X T hTT hW
      try k_fold
      k_steps
      unfold Stop
      with_reducible rename Fr _ _ _ _ => F6
      with_reducible rename News _ _ _ _ => N6'
      refine tallied_spec (Gd.mk X2 T2) F6.keep (by with_unfolding_all assumption) (dpt (by assumption)) (unt (by assumption)) ho (hRR.keep F6.keep) hrs hn ?_
      intro D7 h7 tk7 τ7 k7 hD7 _
      have F7 := fr_keeps F6 k7
      have N7 := news_keeps N6' k7
      clear F6 N6'
      dsimp only
      try k_fold
      k_steps
      unfold Stop
      with_reducible rename Fr _ _ _ _ => F8
      with_reducible rename News _ _ _ _ => N8
      refine ne_intsK (vs := cntL rs.length _ τ7) (ns := cntsOf o rs) (us := ws) (ms := cs) ⟨_, hD7, rfl, _, rfl⟩ cnt_ints (hlc.at fun o e => F8.keep _ o e) hws (by unfold cLine; simp only [units_deeper]; omega) ?_
      rw [hcs, decide_eq_true (rfl : cs = cs)]
      dsimp only [Bool.not_true]
      try k_fold
      k_steps
      show CEnd _ _ _ _ _ _ _ _
      exact ⟨h7, _, _, [], rfl, F8, N8, (fun _ _ _ h => nomatch h), rfl, rfl⟩
    · rintro ys nx h tk2 ⟨rfl, rfl⟩ k1 k3 hDl
      show qc _ _
      rw [hqc]
      refine ⟨D, h, tk2, rfl, rfl, fr_keeps F9 (fun b o e => k1 b o e (by simp) (fun h => h)), fun p hp => ?_⟩
      rw [List.mem_singleton.mp hp]
      exact ⟨hDl, ne_of_none hD hoL, none_before F9.keep hD⟩
  rintro v s' hq
  rw [hqc] at hq
  obtain ⟨D, h, tk2, rfl, rfl, F5, N5⟩ := hq
  dsimp only
  try k_fold
  k_steps
  unfold Stop
  with_reducible rename Fr _ _ _ _ => F8
  with_reducible rename News _ _ _ _ => N8
  show wpAny _ _ (compareOp CmpOp.Eq (.ref D) (.ref _)) _ _ _
  refine eq_intsK (vs := []) (ns := []) (us := []) (ms := []) ⟨_, (N8 _ (.tail _ (.head _))).1, rfl, _, rfl⟩ .nil ⟨_, (N8 _ (.head _)).1, rfl, _, rfl⟩ .nil (by unfold cLine; simp only [units_deeper]; omega) ?_
  show Q _ _
  exact ret _ _ (keep0 hsg F8)
end
end
section
open PySem PySem.W PySem.Calls PyProof.Rows
set_option Elab.async false
set_option maxRecDepth 100000
set_option linter.all false
section
variable {prog : Program} {w : World} {A : Around} {E : Value → Shared → Prop} {s : Shared} {env : Env} {h₀ : Heap} {x : Str} {body : List Stmt} {Q : Flow → Shared → Prop}
/-- a loop over a range whose turns turn the ledger's objects -/
theorem rangeLoopN {r : Addr} {a₀ b₀ : Int} {t₀ u₀ v₀ : Tok} {n : Nat} {m₀ : Str → Option Value} {news : List (Addr × Obj)} (J : Nat → (Str → Option Value) → List (Addr × Obj) → Prop)
    (hh : A.handled = none) (hr : IsRange s.heap r a₀ b₀ 1 t₀ u₀ v₀) (ha : -1000000 ≤ a₀) (ha' : a₀ ≤ 1000000) (hb : -1000000 ≤ b₀) (hb' : b₀ ≤ 1000000) (hn : (b₀ - a₀).toNat = n) (F : Fr h₀ env.locals s.heap m₀) (N : News h₀ env.locals s.heap news) (h0 : J 0 m₀ news)
    (turn : ∀ (i : Nat) t m₁ nx h tk own, i < n → nx.map (·.1) = news.map (·.1) → J i m₁ nx → (∀ p ∈ own, ∀ q ∈ nx, @Ne Nat p.1 q.1) → Fr h₀ env.locals h (fun y => if y = x then some (.int (a₀ + (i : Int)) t) else m₁ y) → News h₀ env.locals h (nx ++ own) →
      wpAny (model prog w) A (execs body env) (TPost h₀ env.locals (J (i + 1)) own (news.map (·.1)) s Q) E { s with heap := h, toks := tk })
    (done : ∀ m₁ nx h tk, nx.map (·.1) = news.map (·.1) → J n m₁ nx → Fr h₀ env.locals h m₁ → News h₀ env.locals h nx → Q .next { s with heap := h, toks := tk }) :
    wpAny (model prog w) A (pyIter (.ref r)) (fun it s₂ => LoopAtV prog w A h₀ env x body Q E it s₂) E s := by
  refine kpr_invN (n := n) (fun i m nx => nx.map (·.1) = news.map (·.1) ∧ J i m nx) hh hr (small_one (by omega) (by omega) (by omega) (by omega)) (by rw [rangeSize_nat, hn]) F N ⟨rfl, h0⟩ ?_ ?_
  · rintro i k t m₁ nx h tk own hk hoff ⟨hadr, hP⟩ F₁ N₁
    have hi : i < n := by
      have := (List.getElem?_eq_some_iff.mp hk).1
      rwa [rangeKs_length] at this
    have e : k = a₀ + (i : Int) := by
      simp [rangeKs, hi] at hk; exact hk.symm
    subst e
    refine wpAny_mono (turn i t m₁ nx h tk own hi hadr hP (fun p hp q hq => hoff p hp q.1 (hadr ▸ List.mem_map_of_mem hq)) F₁ N₁) (fun f s₂ q => ?_) fun _ _ e => e
    have fin : (∃ h' tk m' nx', s₂ = { s with heap := h', toks := tk } ∧ Fr h₀ env.locals h' m' ∧ News h₀ env.locals h' (own ++ nx') ∧ nx'.map (·.1) = news.map (·.1) ∧ J (i + 1) m' nx') →
        InvEndN h₀ env.locals (fun m nx_1 => nx_1.map (·.1) = news.map (·.1) ∧ J (i + 1) m nx_1) own (news.map (·.1)) { s with heap := h, toks := tk } s₂ := by
      rintro ⟨h', tk', m', nx', rfl, F', N', ha', hP'⟩
      exact ⟨h', tk', m', own ++ nx', nx', rfl, F', N', fun p hp => List.mem_append.mpr (.inr hp), fun p hp => List.mem_append.mpr (.inl hp), ha', ha', hP'⟩
    cases f with
    | ret v => exact q
    | brk => exact q
    | next => exact fin q
    | cont => exact fin q
  · rintro m₁ nx h tk ⟨hadr, hP⟩ F₁ N₁
    rw [rangeKs_length] at hP
    exact done m₁ nx h tk hadr hP F₁ N₁
end
end
section
open PySem PySem.W PySem.Calls PyProof.Rows
set_option Elab.async false
set_option maxRecDepth 100000
set_option linter.all false
open PyProof.Rows.LCg (NsObj ns_obj lst lst_snoc)
/-- the ledger of a turn: the five cells, the pen, its cells -/
abbrev nf (L p I : Nat) (o1 o2 o3 o4 o5 op oI : Obj) : List (Addr × Obj) := [(L + 1, o1), (L + 1 + 1, o2), (L + 1 + 1 + 1, o3), (L + 1 + 1 + 1 + 1, o4), (L + 1 + 1 + 1 + 1 + 1, o5), (p, op), (I, oI)]
def LawJ (L p I : Nat) (o1 oI : Obj) (i : Nat) (nx : List (Addr × Obj)) : Prop :=
  ∃ (o2 o3 o4 o5 op : Obj) (v2 v3 v4 v5 : Option Value), nx = nf L p I o1 o2 o3 o4 o5 op oI ∧ o2.data = .cell v2 ∧ o3.data = .cell v3 ∧ o4.data = .cell v4 ∧ o5.data = .cell v5 ∧ ∀ h' : Heap, h'.get? p = some op → PenI h' p I (100 * i)
/-- all apart -/
structure OffT (L p I : Nat) (R : List (Addr × Obj)) : Prop where
  hr : ∀ q ∈ R, q.1 ≠ L + 1 ∧ q.1 ≠ L + 1 + 1 ∧ q.1 ≠ L + 1 + 1 + 1 ∧ q.1 ≠ L + 1 + 1 + 1 + 1 ∧ q.1 ≠ L + 1 + 1 + 1 + 1 + 1 ∧ q.1 ≠ p ∧ q.1 ≠ I
  hp : p ≠ L + 1 ∧ p ≠ L + 1 + 1 ∧ p ≠ L + 1 + 1 + 1 ∧ p ≠ L + 1 + 1 + 1 + 1 ∧ p ≠ L + 1 + 1 + 1 + 1 + 1
  hi : I ≠ L + 1 ∧ I ≠ L + 1 + 1 ∧ I ≠ L + 1 + 1 + 1 ∧ I ≠ L + 1 + 1 + 1 + 1 ∧ I ≠ L + 1 + 1 + 1 + 1 + 1
  hip : I ≠ p
theorem OffT.sub {L p I : Nat} {R R' : List (Addr × Obj)} (O : OffT L p I R) (h : ∀ q ∈ R', q ∈ R) : OffT L p I R' := ⟨fun q hq => O.hr q (h q hq), O.hp, O.hi, O.hip⟩
theorem bytes_back (l : List UInt8) : ((l.map fun c => ((c.toNat : Nat) : Int)).map fun n => n.toNat.toUInt8) = l := by
  rw [List.map_map]
  have : ((fun n : Int => n.toNat.toUInt8) ∘ fun c : UInt8 => ((c.toNat : Nat) : Int)) = id := by
    funext c; simp
  rw [this, List.map_id]
section
variable {g h h' : Heap} {L p I : Nat} {m : Str → Option Value} {o1 o2 o3 o4 o5 op oI : Obj} {R N1 : List (Addr × Obj)}
theorem nf1 : (L + 1, o1) ∈ nf L p I o1 o2 o3 o4 o5 op oI ++ R := .head _
theorem nf2 : (L + 1 + 1, o2) ∈ nf L p I o1 o2 o3 o4 o5 op oI ++ R := .tail _ (.head _)
theorem nf3 : (L + 1 + 1 + 1, o3) ∈ nf L p I o1 o2 o3 o4 o5 op oI ++ R := .tail _ (.tail _ (.head _))
theorem nf4 : (L + 1 + 1 + 1 + 1, o4) ∈ nf L p I o1 o2 o3 o4 o5 op oI ++ R := .tail _ (.tail _ (.tail _ (.head _)))
theorem nf5 : (L + 1 + 1 + 1 + 1 + 1, o5) ∈ nf L p I o1 o2 o3 o4 o5 op oI ++ R := .tail _ (.tail _ (.tail _ (.tail _ (.head _))))
theorem nfp : (p, op) ∈ nf L p I o1 o2 o3 o4 o5 op oI ++ R := .tail _ (.tail _ (.tail _ (.tail _ (.tail _ (.head _)))))
theorem nfI : (I, oI) ∈ nf L p I o1 o2 o3 o4 o5 op oI ++ R := .tail _ (.tail _ (.tail _ (.tail _ (.tail _ (.tail _ (.head _))))))
theorem unt64 {A : Around} {env : Env} (h : A.units + 2000 < 9900) : (A.deeper env).units + 64 < cLine := by
  unfold cLine; simp only [units_deeper]; omega
theorem nf_off (N : News g L h (nf L p I o1 o2 o3 o4 o5 op oI ++ R)) (O : OffT L p I R) (hn : ∀ q ∈ N1, h.get? q.1 = none) : OffT L p I (N1 ++ R) := by
  refine ⟨fun q hq => ?_, O.hp, O.hi, O.hip⟩
  rcases List.mem_append.mp hq with hq | hq
  · have f : ∀ (a : Nat) (o : Obj), (a, o) ∈ nf L p I o1 o2 o3 o4 o5 op oI → q.1 ≠ a := fun a o hm => ne_of_none (hn q hq) (N _ (List.mem_append.mpr (.inl hm))).1
    exact ⟨f _ o1 (by simp), f _ o2 (by simp), f _ o3 (by simp), f _ o4 (by simp), f _ o5 (by simp), f _ op (by simp), f _ oI (by simp)⟩
  · exact O.hr q hq
theorem nf_new (F : Fr g L h m) (N : News g L h (nf L p I o1 o2 o3 o4 o5 op oI ++ R)) (k : ∀ b o, h.get? b = some o → h'.get? b = some o) (hn : ∀ q ∈ N1, h'.get? q.1 = some q.2 ∧ h.get? q.1 = none) : News g L h' (nf L p I o1 o2 o3 o4 o5 op oI ++ (N1 ++ R)) := by
  intro q hq
  obtain ⟨oL, _, _, hoL, _⟩ := F.ns
  rcases List.mem_append.mp hq with hq | hq
  · exact news_keeps N k q (List.mem_append.mpr (.inl hq))
  · rcases List.mem_append.mp hq with hq | hq
    · exact ⟨(hn q hq).1, ne_of_none (hn q hq).2 hoL, none_before F.keep (hn q hq).2⟩
    · exact news_keeps N k q (List.mem_append.mpr (.inr hq))
theorem nf_pen {op' : Obj} (N : News g L h (nf L p I o1 o2 o3 o4 o5 op oI ++ R)) (O : OffT L p I R) (k : ∀ b o, h.get? b = some o → @Ne Nat b p → h'.get? b = some o) (hp : h'.get? p = some op') : News g L h' (nf L p I o1 o2 o3 o4 o5 op' oI ++ R) := by
  have z : ∀ q : Addr × Obj, q ∈ nf L p I o1 o2 o3 o4 o5 op oI ++ R → @Ne Nat q.1 p → h'.get? q.1 = some q.2 ∧ q.1 ≠ L ∧ g.get? q.1 = none := fun q hq hne => ⟨k _ _ (N q hq).1 hne, (N q hq).2⟩
  intro q hq
  rcases List.mem_append.mp hq with hq | hq
  · simp only [List.mem_cons, List.not_mem_nil, or_false] at hq
    rcases hq with rfl | rfl | rfl | rfl | rfl | rfl | rfl
    · exact z _ (by simp) (Ne.symm O.hp.1)
    · exact z _ (by simp) (Ne.symm O.hp.2.1)
    · exact z _ (by simp) (Ne.symm O.hp.2.2.1)
    · exact z _ (by simp) (Ne.symm O.hp.2.2.2.1)
    · exact z _ (by simp) (Ne.symm O.hp.2.2.2.2)
    · exact ⟨hp, (N (p, op) (by simp)).2⟩
    · exact z _ (by simp) O.hip
  · exact z q (List.mem_append.mpr (.inr hq)) (O.hr q hq).2.2.2.2.2.1
theorem fr_pen (F : Fr g L h m) (N : News g L h (nf L p I o1 o2 o3 o4 o5 op oI ++ R)) (k : ∀ b o, h.get? b = some o → @Ne Nat b p → h'.get? b = some o) : Fr g L h' m :=
  fr_keepsW (W := [p]) F (fun b hb => by rw [List.mem_singleton.mp hb]; exact (N (p, op) (by simp)).2) (fun b o e hb => k b o e (fun q => hb (by rw [q]; exact .head _)))
theorem store_nf2 {A : Around} {s : Shared} {E : Value → Shared → Prop} {env : Env} {x : Str} {v : Value} {v0 : Option Value} {Q : Unit → Shared → Prop} {prog : Program} {w : World} (F : Fr g L s.heap m) (N : News g L s.heap (nf L p I o1 o2 o3 o4 o5 op oI ++ R)) (O : OffT L p I R) (hd : o2.data = .cell v0)
    (hk : env.scope.kind = .function) (hx : env.kindOf x = some .cell) (hc : env.cells.lookup x = some (L + 1 + 1))
    (h : ∀ h' o' tk, o'.data = .cell (some v) → Fr g L h' m → News g L h' (nf L p I o1 o' o3 o4 o5 op oI ++ R) → Q () { s with heap := h', toks := tk }) : wpAny (model prog w) A (storeName env x v) Q E s := by
  refine store_cell (c := L + 1 + 1) (oc := o2) (R := [(L + 1, o1), (L + 1 + 1 + 1, o3), (L + 1 + 1 + 1 + 1, o4), (L + 1 + 1 + 1 + 1 + 1, o5), (p, op), (I, oI)] ++ R) F (fun q hq => N q ?_) ?_ hd hk hx hc fun h' o' tk hd' F' N' => h h' o' tk hd' F' fun q hq => N' q ?_
  · rcases List.mem_cons.mp hq with rfl | hq
    · simp
    · rcases List.mem_append.mp hq with hq | hq
      · refine List.mem_append.mpr (.inl ?_)
        simp only [List.mem_cons, List.not_mem_nil, or_false] at hq ⊢
        rcases hq with hq | hq | hq | hq | hq | hq <;> simp [hq]
      · exact List.mem_append.mpr (.inr hq)
  · intro q hq
    rcases List.mem_append.mp hq with hq | hq
    · simp only [List.mem_cons, List.not_mem_nil, or_false] at hq
      rcases hq with rfl | rfl | rfl | rfl | rfl | rfl
      · show L + 1 ≠ L + 1 + 1; omega
      · show L + 1 + 1 + 1 ≠ L + 1 + 1; omega
      · show L + 1 + 1 + 1 + 1 ≠ L + 1 + 1; omega
      · show L + 1 + 1 + 1 + 1 + 1 ≠ L + 1 + 1; omega
      · exact O.hp.2.1
      · exact O.hi.2.1
    · exact (O.hr q hq).2.1
  · rcases List.mem_append.mp hq with hq | hq
    · simp only [List.mem_cons, List.not_mem_nil, or_false] at hq
      rcases hq with hq | hq | hq | hq | hq | hq | hq <;> simp [hq]
    · exact List.mem_cons.mpr (.inr (List.mem_append.mpr (.inr hq)))
theorem store_nf3 {A : Around} {s : Shared} {E : Value → Shared → Prop} {env : Env} {x : Str} {v : Value} {v0 : Option Value} {Q : Unit → Shared → Prop} {prog : Program} {w : World} (F : Fr g L s.heap m) (N : News g L s.heap (nf L p I o1 o2 o3 o4 o5 op oI ++ R)) (O : OffT L p I R) (hd : o3.data = .cell v0)
    (hk : env.scope.kind = .function) (hx : env.kindOf x = some .cell) (hc : env.cells.lookup x = some (L + 1 + 1 + 1))
    (h : ∀ h' o' tk, o'.data = .cell (some v) → Fr g L h' m → News g L h' (nf L p I o1 o2 o' o4 o5 op oI ++ R) → Q () { s with heap := h', toks := tk }) : wpAny (model prog w) A (storeName env x v) Q E s := by
  refine store_cell (c := L + 1 + 1 + 1) (oc := o3) (R := [(L + 1, o1), (L + 1 + 1, o2), (L + 1 + 1 + 1 + 1, o4), (L + 1 + 1 + 1 + 1 + 1, o5), (p, op), (I, oI)] ++ R) F (fun q hq => N q ?_) ?_ hd hk hx hc fun h' o' tk hd' F' N' => h h' o' tk hd' F' fun q hq => N' q ?_
  · rcases List.mem_cons.mp hq with rfl | hq
    · simp
    · rcases List.mem_append.mp hq with hq | hq
      · refine List.mem_append.mpr (.inl ?_)
        simp only [List.mem_cons, List.not_mem_nil, or_false] at hq ⊢
        rcases hq with hq | hq | hq | hq | hq | hq <;> simp [hq]
      · exact List.mem_append.mpr (.inr hq)
  · intro q hq
    rcases List.mem_append.mp hq with hq | hq
    · simp only [List.mem_cons, List.not_mem_nil, or_false] at hq
      rcases hq with rfl | rfl | rfl | rfl | rfl | rfl
      · show L + 1 ≠ L + 1 + 1 + 1; omega
      · show L + 1 + 1 ≠ L + 1 + 1 + 1; omega
      · show L + 1 + 1 + 1 + 1 ≠ L + 1 + 1 + 1; omega
      · show L + 1 + 1 + 1 + 1 + 1 ≠ L + 1 + 1 + 1; omega
      · exact O.hp.2.2.1
      · exact O.hi.2.2.1
    · exact (O.hr q hq).2.2.1
  · rcases List.mem_append.mp hq with hq | hq
    · simp only [List.mem_cons, List.not_mem_nil, or_false] at hq
      rcases hq with hq | hq | hq | hq | hq | hq | hq <;> simp [hq]
    · exact List.mem_cons.mpr (.inr (List.mem_append.mpr (.inr hq)))
theorem store_nf4 {A : Around} {s : Shared} {E : Value → Shared → Prop} {env : Env} {x : Str} {v : Value} {v0 : Option Value} {Q : Unit → Shared → Prop} {prog : Program} {w : World} (F : Fr g L s.heap m) (N : News g L s.heap (nf L p I o1 o2 o3 o4 o5 op oI ++ R)) (O : OffT L p I R) (hd : o4.data = .cell v0)
    (hk : env.scope.kind = .function) (hx : env.kindOf x = some .cell) (hc : env.cells.lookup x = some (L + 1 + 1 + 1 + 1))
    (h : ∀ h' o' tk, o'.data = .cell (some v) → Fr g L h' m → News g L h' (nf L p I o1 o2 o3 o' o5 op oI ++ R) → Q () { s with heap := h', toks := tk }) : wpAny (model prog w) A (storeName env x v) Q E s := by
  refine store_cell (c := L + 1 + 1 + 1 + 1) (oc := o4) (R := [(L + 1, o1), (L + 1 + 1, o2), (L + 1 + 1 + 1, o3), (L + 1 + 1 + 1 + 1 + 1, o5), (p, op), (I, oI)] ++ R) F (fun q hq => N q ?_) ?_ hd hk hx hc fun h' o' tk hd' F' N' => h h' o' tk hd' F' fun q hq => N' q ?_
  · rcases List.mem_cons.mp hq with rfl | hq
    · simp
    · rcases List.mem_append.mp hq with hq | hq
      · refine List.mem_append.mpr (.inl ?_)
        simp only [List.mem_cons, List.not_mem_nil, or_false] at hq ⊢
        rcases hq with hq | hq | hq | hq | hq | hq <;> simp [hq]
      · exact List.mem_append.mpr (.inr hq)
  · intro q hq
    rcases List.mem_append.mp hq with hq | hq
    · simp only [List.mem_cons, List.not_mem_nil, or_false] at hq
      rcases hq with rfl | rfl | rfl | rfl | rfl | rfl
      · show L + 1 ≠ L + 1 + 1 + 1 + 1; omega
      · show L + 1 + 1 ≠ L + 1 + 1 + 1 + 1; omega
      · show L + 1 + 1 + 1 ≠ L + 1 + 1 + 1 + 1; omega
      · show L + 1 + 1 + 1 + 1 + 1 ≠ L + 1 + 1 + 1 + 1; omega
      · exact O.hp.2.2.2.1
      · exact O.hi.2.2.2.1
    · exact (O.hr q hq).2.2.2.1
  · rcases List.mem_append.mp hq with hq | hq
    · simp only [List.mem_cons, List.not_mem_nil, or_false] at hq
      rcases hq with hq | hq | hq | hq | hq | hq | hq <;> simp [hq]
    · exact List.mem_cons.mpr (.inr (List.mem_append.mpr (.inr hq)))
theorem store_nf5 {A : Around} {s : Shared} {E : Value → Shared → Prop} {env : Env} {x : Str} {v : Value} {v0 : Option Value} {Q : Unit → Shared → Prop} {prog : Program} {w : World} (F : Fr g L s.heap m) (N : News g L s.heap (nf L p I o1 o2 o3 o4 o5 op oI ++ R)) (O : OffT L p I R) (hd : o5.data = .cell v0)
    (hk : env.scope.kind = .function) (hx : env.kindOf x = some .cell) (hc : env.cells.lookup x = some (L + 1 + 1 + 1 + 1 + 1))
    (h : ∀ h' o' tk, o'.data = .cell (some v) → Fr g L h' m → News g L h' (nf L p I o1 o2 o3 o4 o' op oI ++ R) → Q () { s with heap := h', toks := tk }) : wpAny (model prog w) A (storeName env x v) Q E s := by
  refine store_cell (c := L + 1 + 1 + 1 + 1 + 1) (oc := o5) (R := [(L + 1, o1), (L + 1 + 1, o2), (L + 1 + 1 + 1, o3), (L + 1 + 1 + 1 + 1, o4), (p, op), (I, oI)] ++ R) F (fun q hq => N q ?_) ?_ hd hk hx hc fun h' o' tk hd' F' N' => h h' o' tk hd' F' fun q hq => N' q ?_
  · rcases List.mem_cons.mp hq with rfl | hq
    · simp
    · rcases List.mem_append.mp hq with hq | hq
      · refine List.mem_append.mpr (.inl ?_)
        simp only [List.mem_cons, List.not_mem_nil, or_false] at hq ⊢
        rcases hq with hq | hq | hq | hq | hq | hq <;> simp [hq]
      · exact List.mem_append.mpr (.inr hq)
  · intro q hq
    rcases List.mem_append.mp hq with hq | hq
    · simp only [List.mem_cons, List.not_mem_nil, or_false] at hq
      rcases hq with rfl | rfl | rfl | rfl | rfl | rfl
      · show L + 1 ≠ L + 1 + 1 + 1 + 1 + 1; omega
      · show L + 1 + 1 ≠ L + 1 + 1 + 1 + 1 + 1; omega
      · show L + 1 + 1 + 1 ≠ L + 1 + 1 + 1 + 1 + 1; omega
      · show L + 1 + 1 + 1 + 1 ≠ L + 1 + 1 + 1 + 1 + 1; omega
      · exact O.hp.2.2.2.2
      · exact O.hi.2.2.2.2
    · exact (O.hr q hq).2.2.2.2.1
  · rcases List.mem_append.mp hq with hq | hq
    · simp only [List.mem_cons, List.not_mem_nil, or_false] at hq
      rcases hq with hq | hq | hq | hq | hq | hq | hq <;> simp [hq]
    · exact List.mem_cons.mpr (.inr (List.mem_append.mpr (.inr hq)))
end
end
section
open PySem PySem.W PySem.Calls PyProof.Rows
set_option Elab.async false
set_option maxRecDepth 100000
set_option linter.all false
section
variable {o : List UInt8} {rs : List Rw} {r : Rw} {d : Nat}
theorem sk_app_lt {j : Nat} (h : j < rs.length) : skOf o (rs ++ [r]) j = skOf o rs j := by
  unfold skOf
  rw [List.getD_eq_getElem?_getD, List.getD_eq_getElem?_getD, List.getElem?_append_left h]
theorem sk_app_eq : skOf o (rs ++ [r]) rs.length = Sk.ofR o r := by
  unfold skOf
  rw [List.getD_eq_getElem?_getD, List.getElem?_append_right (Nat.le_refl _), Nat.sub_self]; rfl
theorem count_none_out {n : Nat} : ∀ {l : List (Option Nat)}, (∀ i, some i ∈ l → i < n) → (l.map (fun z => match z with | none => some n | some j => some j)).count (some n) = l.count none ∧ ∀ j, j < n → (l.map (fun z => match z with | none => some n | some j => some j)).count (some j) = l.count (some j)
  | [], _ => ⟨rfl, fun _ _ => rfl⟩
  | none :: l, h => by
    obtain ⟨h1, h2⟩ := count_none_out (l := l) fun i hi => h i (.tail _ hi)
    refine ⟨?_, fun j hj => ?_⟩
    · rw [List.map_cons, List.count_cons, List.count_cons, h1]; simp
    · rw [List.map_cons, List.count_cons, List.count_cons, h2 j hj]
      have : n ≠ j := by omega
      simp [this]
  | some i :: l, h => by
    obtain ⟨h1, h2⟩ := count_none_out (l := l) fun i hi => h i (.tail _ hi)
    have hi := h i (.head _)
    refine ⟨?_, fun j hj => ?_⟩
    · rw [List.map_cons, List.count_cons, List.count_cons, h1]
      have : i ≠ n := by omega
      simp [this]
    · rw [List.map_cons, List.count_cons, List.count_cons, h2 j hj]
theorem trok_lt {n : Nat} {σ : Nat → Sk} : ∀ {l : List (Option Nat)} {k : Nat}, TrOk o n σ k l → ∀ i, some i ∈ l → i < n
  | [], _, _, _, h => nomatch h
  | none :: l, k, h, i, hi => by
    rcases List.mem_cons.mp hi with e | hi
    · cases e
    · exact trok_lt (l := l) (k := k + 1) h i hi
  | some a :: l, k, h, i, hi => by
    rcases List.mem_cons.mp hi with e | hi
    · cases e; exact h.1
    · exact trok_lt h.2.2.2.2.2.2 i hi
theorem map_snoc {n m : Nat} {f g : Nat → Nat} (hm : m = n + 1) (h : ∀ j, j < n → g j = f j) : ((List.range m).map fun j => ((g j : Nat) : Int)) = ((List.range n).map fun j => ((f j : Nat) : Int)) ++ [((g n : Nat) : Int)] := by
  subst hm
  rw [List.range_succ, List.map_append]
  congr 1
  refine List.map_congr_left fun j hj => ?_
  rw [h j (List.mem_range.mp hj)]
theorem cnts_chars (hT : TrOk o rs.length (skOf o rs) 0 (trace o rs.length (skOf o rs) 0)) :
    ((List.range (rs ++ [(⟨.chars, [], none, none⟩ : Rw)]).length).map fun j => (((trace o (rs ++ [(⟨.chars, [], none, none⟩ : Rw)]).length (skOf o (rs ++ [(⟨.chars, [], none, none⟩ : Rw)])) 0).count (some j) : Nat) : Int)) =
      ((List.range rs.length).map fun j => (((trace o rs.length (skOf o rs) 0).count (some j) : Nat) : Int)) ++ [(((trace o rs.length (skOf o rs) 0).count none : Nat) : Int)] := by
  have hl : (rs ++ [(⟨.chars, [], none, none⟩ : Rw)]).length = rs.length + 1 := by simp
  have ht : trace o (rs ++ [(⟨.chars, [], none, none⟩ : Rw)]).length (skOf o (rs ++ [(⟨.chars, [], none, none⟩ : Rw)])) 0 = (trace o rs.length (skOf o rs) 0).map (fun z => match z with | none => some rs.length | some j => some j) := by
    rw [hl]
    exact trace_chars (σ0 := skOf o rs) o.length 0 _ _ (Nat.sub_le _ _) (fun j hj => sk_app_lt hj) (by rw [sk_app_eq]; rfl) (by rw [sk_app_eq]; rfl) (by rw [sk_app_eq]; rfl)
  obtain ⟨c1, c2⟩ := count_none_out (n := rs.length) (trok_lt hT)
  rw [ht, map_snoc hl c2, c1]
theorem cnts_again (hd : rs[d]? = some r) (hT : TrOk o rs.length (skOf o rs) 0 (trace o rs.length (skOf o rs) 0)) :
    ((List.range (rs ++ [r]).length).map fun j => (((trace o (rs ++ [r]).length (skOf o (rs ++ [r])) 0).count (some j) : Nat) : Int)) =
      ((List.range rs.length).map fun j => (((trace o rs.length (skOf o rs) 0).count (some j) : Nat) : Int)) ++ [0] := by
  have hl : (rs ++ [r]).length = rs.length + 1 := by simp
  have hdn : d < rs.length := (List.getElem?_eq_some_iff.mp hd).1
  have hs : skOf o rs d = Sk.ofR o r := by unfold skOf; rw [List.getD_eq_getElem?_getD, hd]; rfl
  have ht : trace o (rs ++ [r]).length (skOf o (rs ++ [r])) 0 = trace o rs.length (skOf o rs) 0 := by
    rw [hl]
    refine trace_again hdn o.length 0 _ _ (Nat.sub_le _ _) (fun j hj => sk_app_lt hj) ?_
    rw [sk_app_eq, hs]
    exact ⟨rfl, rfl, rfl, rfl, fun _ => .inl rfl⟩
  have c0 : (trace o rs.length (skOf o rs) 0).count (some rs.length) = 0 := by
    rw [List.count_eq_zero]
    intro hm
    exact Nat.lt_irrefl _ (trok_lt hT _ hm)
  rw [ht, map_snoc hl (f := fun j => (trace o rs.length (skOf o rs) 0).count (some j)) (fun _ _ => rfl), c0]; rfl
theorem sum_cast : ∀ (l : List Nat) (f : Nat → Nat), (l.map fun j => ((f j : Nat) : Int)).sum = (((l.map f).sum : Nat) : Int)
  | [], _ => rfl
  | a :: l, f => by rw [List.map_cons, List.map_cons, List.sum_cons, List.sum_cons, sum_cast l f]; omega
theorem plain_sum (hT : TrOk o rs.length (skOf o rs) 0 (trace o rs.length (skOf o rs) 0)) : (((trace o rs.length (skOf o rs) 0).count none : Nat) : Int) + ((List.range rs.length).map fun j => (((trace o rs.length (skOf o rs) 0).count (some j) * (rs.getD j rw0).w : Nat) : Int)).sum = (o.length : Int) := by
  have h := trace_sum hT
  rw [sum_cast]
  have : ((List.range rs.length).map fun j => (trace o rs.length (skOf o rs) 0).count (some j) * (rs.getD j rw0).w).sum = sumW rs.length (skOf o rs) (trace o rs.length (skOf o rs) 0) := rfl
  rw [this]; omega
end
end
section
open PySem PySem.W PySem.Calls PyProof.Rows
set_option Elab.async false
set_option maxRecDepth 100000
set_option maxHeartbeats 20000000
set_option pp.deepTerms false
set_option pp.maxSteps 700
set_option linter.all false
open PyProof.Rows.LCg (NsObj ns_obj lst lst_snoc)
local macro_rules | `(tactic| walk_at "call ref") => `(tactic| ((with_reducible show wpAny _ _ (call (Value.ref _) _) _ _ _); refine Stop.mk ?_))
local macro_rules | `(tactic| walk_at "compareOp NotEq ref ref") => `(tactic| refine Stop.mk ?_)
local macro_rules | `(tactic| walk_at "call type:bytes") => `(tactic| refine Stop.mk ?_)
local macro_rules | `(tactic| walk_at "call builtin:sum") => `(tactic| refine Stop.mk ?_)
local macro_rules | `(tactic| walk_at "call builtin:len") => `(tactic| ((with_reducible show wpAny _ _ (call (Value.builtin "len") [Value.ref _]) _ _ _); refine Stop.mk ?_))
local macro_rules | `(tactic| walk_at "subscriptTail Name Name ref int") => `(tactic| (k_here; (with_reducible rename Fr _ _ _ _ => F'); refine get_at (Heap.IsList.at (by with_reducible assumption) (fun o e => Fr.keep F' _ o e)) (by with_reducible assumption) (by omega) ?_))
local macro_rules | `(tactic| walk_at "subscriptTail Name Call ref int") => `(tactic| refine Stop.mk ?_)
local macro_rules | `(tactic| walk_at "binaryOp Add ref ref") => `(tactic| ((with_reducible show wpAny _ _ (binaryOp _ (Value.ref _) (Value.ref _)) _ _ _); refine Stop.mk ?_))
local macro_rules | `(tactic| walk_at "binaryOp Mult int int") => `(tactic| refine Stop.mk ?_)
local macro_rules | `(tactic| walk_at "eval Call") => `(tactic| ((with_reducible show wpAny _ _ (eval (Expr.Call (Expr.Name (Str.ofString "_law_size") _) _ _ _) _) _ _ _); (with_unfolding_all refine Call_ ?_)))
local macro_rules | `(tactic| walk_at "storeName") => `(tactic| (first
  | (with_reducible show wpAny _ _ (storeName (envOfC _ _ _ _ _) (Str.ofString "pen") _) _ _ _)
  | (with_reducible show wpAny _ _ (storeName (envOfC _ _ _ _ _) (Str.ofString "octets") _) _ _ _)
  | (with_reducible show wpAny _ _ (storeName (envOfC _ _ _ _ _) (Str.ofString "rows") _) _ _ _)
  | (with_reducible show wpAny _ _ (storeName (envOfC _ _ _ _ _) (Str.ofString "counts") _) _ _ _)
  | (with_reducible show wpAny _ _ (storeName (envOfC _ _ _ _ _) (Str.ofString "marked") _) _ _ _)); refine Stop.mk ?_)
set_option maxHeartbeats 20000000
theorem law_holds : PySem.Challenge.rw_pb0230_01.Holds := hd.property (by
  dsimp only [hd]
  k_fill
  intro w s₀ s₁ mg mb G Y fa o pm cd doc dV kV ho hdf hcd hD hmg hg args vals as hpre hlay hrd hwl hlo
  have KX := kIn_of Y
  have XM := (Ground.X G).1
  refine Ground.open G ?_
  intro T B D TE TW
  try (refine guard_noD D (by decide +kernel) ?_; clear D)
  clear hmg
  wrow_args hpre hlay hrd hwl hlo
  all_goals (
    first | refine callC_kw (enter_call ?_) | refine enter_call ?_ | refine callC_kw (enter_callW ?_) | refine enter_callW ?_
    w_top on
    try refine codeAny_mono ?_ (fun _ _ g => GoodW.toG g)
    have K0 := below_caller (Top.heap T)
    w_call any ho hdf hcd hD T F
    clear hdf
    k_drop)
  all_goals try k_fold
  rename World => w
  with_reducible rename (Mine.hd.heap_39 _).In _ => X
  with_reducible rename Top _ _ _ _ _ _ => T
  with_reducible rename Heap.IsList _ _ _ => hS
  with_reducible rename IntsAre _ _ => hI
  with_reducible rename Fr _ _ _ _ => F0
  with_reducible rename News _ _ _ _ => N0
  with_reducible rename CellsAre _ _ _ => Y0
  rename Shared => s₁
  obtain ⟨S, vs, ns, m9, o5, o4, o3, o2, o1, hS, hI, hz, F0, hm9, N0, c5, c4, c3, c2, c1⟩ : ∃ (S : Addr) (vs : List Value) (ns : List Int) (m9 : Str → Option Value) (o5 o4 o3 o2 o1 : Obj),
      s₁.heap.IsList S vs.toArray ∧ IntsAre vs ns ∧ ns.length ≤ 63 ∧ Fr s₁.heap s₁.heap.objs.size _ m9 ∧ m9 (Str.ofString "script") = some (.ref S) ∧
      News s₁.heap s₁.heap.objs.size _ [(s₁.heap.objs.size + 1 + 1 + 1 + 1 + 1, o5), (s₁.heap.objs.size + 1 + 1 + 1 + 1, o4), (s₁.heap.objs.size + 1 + 1 + 1, o3), (s₁.heap.objs.size + 1 + 1, o2), (s₁.heap.objs.size + 1, o1)] ∧
      o5.data = .cell none ∧ o4.data = .cell none ∧ o3.data = .cell none ∧ o2.data = .cell none ∧ o1.data = .cell none := by
    refine ⟨_, _, _, _, _, _, _, _, _, hS, hI, by omega, F0, rfl, N0, ?_, ?_, ?_, ?_, ?_⟩ <;> assumption
  have F1 := fr_canon F0 [(Str.ofString "script", .ref S)] (by intro p hp; rw [List.mem_singleton.mp hp]; exact hm9)
  have hh0 : callerA.handled = none := rfl
  have hd0 : callerA.depth + 200 < 1000 := by decide
  have hu0 : callerA.units + 2000 < 9900 := by decide
  clear F0 hm9
  k_steps
  unfold Stop
  with_reducible rename Fr _ _ _ _ => F7
  with_reducible rename News _ _ _ _ => N7
  refine written_spec (Gd.mk X T) F7.keep hh0 (dpt hd0) (unt hu0) ?_
  intro h8 tk8 k8
  have F8 := fr_keeps F7 k8
  have N8 := news_keeps N7 k8
  clear F7 N7
  try dsimp only
  try k_fold
  k_steps
  unfold Stop
  with_reducible rename Fr _ _ _ _ => F9
  with_reducible rename News _ _ _ _ => N9
  refine pen_spec (Gd.mk X T) F9.keep hh0 (dpt hd0) (unt hu0) (hS.at fun o e => F9.keep _ o e) hI (by omega) ?_
  intro h10 tk10 p I k10 hP10 hI10 hIp hp0 hI0
  have F10 := fr_keeps F9 k10
  obtain ⟨op, hop, hopI⟩ := hP10.has
  obtain ⟨vsI, nsI, ⟨oI, hoI, hoIl⟩, hI2, hI3⟩ := hI10
  have hCI : ∀ h' : Heap, h'.get? I = some oI → Cells h' I := fun h' e => ⟨vsI, nsI, ⟨oI, e, hoIl⟩, hI2, hI3⟩
  have hpL : ∀ q ∈ [(s₁.heap.objs.size + 1, o1), (s₁.heap.objs.size + 1 + 1, o2), (s₁.heap.objs.size + 1 + 1 + 1, o3), (s₁.heap.objs.size + 1 + 1 + 1 + 1, o4), (s₁.heap.objs.size + 1 + 1 + 1 + 1 + 1, o5)], @Ne Nat p q.1 ∧ @Ne Nat I q.1 := by
    intro q hq
    have : q ∈ [(s₁.heap.objs.size + 1 + 1 + 1 + 1 + 1, o5), (s₁.heap.objs.size + 1 + 1 + 1 + 1, o4), (s₁.heap.objs.size + 1 + 1 + 1, o3), (s₁.heap.objs.size + 1 + 1, o2), (s₁.heap.objs.size + 1, o1)] := by
      simp only [List.mem_cons, List.not_mem_nil, or_false] at hq ⊢
      rcases hq with h | h | h | h | h <;> simp [h]
    exact ⟨ne_of_none hp0 (N9 q this).1, ne_of_none hI0 (N9 q this).1⟩
  have N10 : News s₁.heap s₁.heap.objs.size h10 (nf s₁.heap.objs.size p I o1 o2 o3 o4 o5 op oI) := by
    obtain ⟨oL, _, _, hoL, _⟩ := F9.ns
    intro q hq
    simp only [List.mem_cons, List.not_mem_nil, or_false] at hq
    rcases hq with rfl | rfl | rfl | rfl | rfl | rfl | rfl
    · exact news_keeps N9 k10 _ (by simp)
    · exact news_keeps N9 k10 _ (by simp)
    · exact news_keeps N9 k10 _ (by simp)
    · exact news_keeps N9 k10 _ (by simp)
    · exact news_keeps N9 k10 _ (by simp)
    · exact ⟨hop, ne_of_none hp0 hoL, none_before F9.keep hp0⟩
    · exact ⟨hoI, ne_of_none hI0 hoL, none_before F9.keep hI0⟩
  have O0 : OffT s₁.heap.objs.size p I [] := ⟨(by intro q hq; cases hq), ⟨(hpL (s₁.heap.objs.size + 1, o1) (by simp)).1, (hpL (s₁.heap.objs.size + 1 + 1, o2) (by simp)).1, (hpL (s₁.heap.objs.size + 1 + 1 + 1, o3) (by simp)).1, (hpL (s₁.heap.objs.size + 1 + 1 + 1 + 1, o4) (by simp)).1, (hpL (s₁.heap.objs.size + 1 + 1 + 1 + 1 + 1, o5) (by simp)).1⟩,
    ⟨(hpL (s₁.heap.objs.size + 1, o1) (by simp)).2, (hpL (s₁.heap.objs.size + 1 + 1, o2) (by simp)).2, (hpL (s₁.heap.objs.size + 1 + 1 + 1, o3) (by simp)).2, (hpL (s₁.heap.objs.size + 1 + 1 + 1 + 1, o4) (by simp)).2, (hpL (s₁.heap.objs.size + 1 + 1 + 1 + 1 + 1, o5) (by simp)).2⟩, hIp⟩
  clear N9 F9 hS hI
  try dsimp only
  try k_fold
  k_steps
  unfold Stop
  refine store_cell (c := s₁.heap.objs.size + 1) (oc := o1) F10 N10 ?_ c1 rfl (by rfl) (by with_unfolding_all rfl) ?_
  · intro q hq
    simp only [List.mem_cons, List.not_mem_nil, or_false] at hq
    rcases hq with rfl | rfl | rfl | rfl | rfl | rfl
    · exact Nat.ne_of_gt (Nat.lt_succ_self _)
    · show s₁.heap.objs.size + 1 + 1 + 1 ≠ s₁.heap.objs.size + 1; omega
    · show s₁.heap.objs.size + 1 + 1 + 1 + 1 ≠ s₁.heap.objs.size + 1; omega
    · show s₁.heap.objs.size + 1 + 1 + 1 + 1 + 1 ≠ s₁.heap.objs.size + 1; omega
    · exact (hpL _ (.head _)).1
    · exact (hpL _ (.head _)).2
  intro h11 o1' tk11 c1' F11 N11
  clear F10 N10
  try dsimp only
  try k_fold
  k_steps
  unfold Stop
  with_reducible rename Fr _ _ _ _ => F12
  with_reducible rename News _ _ _ _ => N12
  refine rangeLoopN (n := 2) (fun i m nx => LawJ s₁.heap.objs.size p I o1' oI i nx) hh0 (by assumption) (by decide) (by decide) (by decide) (by decide) (by decide) F12 N12 ⟨_, _, _, _, _, _, _, _, _, rfl, c2, c3, c4, c5, hopI⟩ ?_ ?_
  · rintro i tt m₁ nx h12 tk12 R hi2 hadr ⟨o2, o3, o4, o5, op, v2, v3, v4, v5, rfl, c2, c3, c4, c5, hPI⟩ hR F1 N1
    clear F12 N12 hadr
    have O1 : OffT s₁.heap.objs.size p I R := by
      refine ⟨fun q hq => ?_, O0.hp, O0.hi, O0.hip⟩
      exact ⟨hR q hq (s₁.heap.objs.size + 1, o1') (by simp), hR q hq (s₁.heap.objs.size + 1 + 1, o2) (by simp), hR q hq (s₁.heap.objs.size + 1 + 1 + 1, o3) (by simp), hR q hq (s₁.heap.objs.size + 1 + 1 + 1 + 1, o4) (by simp), hR q hq (s₁.heap.objs.size + 1 + 1 + 1 + 1 + 1, o5) (by simp), hR q hq (p, op) (by simp), hR q hq (I, oI) (by simp)⟩
    clear hR
    obtain ⟨m2, F2⟩ : ∃ m2, Fr s₁.heap s₁.heap.objs.size h12 m2 := ⟨_, F1⟩
    clear F1
    replace N1 : News s₁.heap s₁.heap.objs.size h12 (nf s₁.heap.objs.size p I o1' o2 o3 o4 o5 op oI ++ R) := N1
    try dsimp only
    try k_fold
    k_steps
    unfold Stop
    obtain ⟨qc, hqc⟩ : ∃ qc : Value → Shared → Prop, qc = fun v s' => ∃ (D : Addr) (ys : List Value) (l : List UInt8) (op' : Obj) (h : Heap) (tk : Nat), v = .ref D ∧ s' = { s₁ with heap := h, toks := tk } ∧ Fr s₁.heap s₁.heap.objs.size h m2 ∧ News s₁.heap s₁.heap.objs.size h (nf s₁.heap.objs.size p I o1' o2 o3 o4 o5 op' oI ++ ([(D, lst ys)] ++ R)) ∧ OffT s₁.heap.objs.size p I ([(D, lst ys)] ++ R) ∧
      IntsAre ys (l.map fun c => ((c.toNat : Nat) : Int)) ∧ (∀ c ∈ l, c ∈ ([65, 65, 66, 66, 67] : List UInt8)) ∧ l.length ≤ 14 ∧ ∀ h' : Heap, h'.get? p = some op' → PenI h' p I (100 * i + 15) := ⟨_, rfl⟩
    refine wpAny_mono (Q := qc) ?_ ?_ (fun _ _ e => e)
    · refine ListComp_S (cl := [("pen", s₁.heap.objs.size + 1)]) (by with_unfolding_all rfl) (by decide) (by rfl) (by decide) ?_ (by intro _; rfl)
      k_steps
      unfold Stop
      with_reducible rename Fr _ _ _ _ => F3
      with_reducible rename News _ _ _ _ => N3
      refine draw_spec (p := p) (I := I) (n := 100 * i) (many := 15) (Gd.mk X T) F3.keep hh0 (dpt hd0) (unt hu0) (hPI _ (N3 (p, op) nfp).1) (hCI _ (N3 (I, oI) nfI).1) O1.hip (N3 (p, op) nfp).2.2 (by omega) (by decide) (by decide) ?_
      intro h13 tk13 d td k13 hP13 hd13
      obtain ⟨op13, hop13, hPI13⟩ := hP13.has
      have F4 := fr_pen F3 N3 k13
      have N4 := nf_pen N3 O1 k13 hop13
      clear F3 N3
      try dsimp only
      try k_fold
      k_steps
      unfold Stop
      with_reducible rename Fr _ _ _ _ => F9
      with_reducible rename News _ _ _ _ => N9
      obtain ⟨oL, hoL, hnL⟩ := ns_obj F9.ns
      have e1 := N9 (s₁.heap.objs.size + 1, o1') nf1
      have eI := N9 (I, oI) nfI
      obtain ⟨J1, hJ1⟩ : ∃ J1 : Nat → List Value → List (Addr × Obj) → Prop, J1 = fun j ys nx => ∃ (l : List UInt8) (oq : Obj), nx = [(p, oq)] ∧ IntsAre ys (l.map fun c => ((c.toNat : Nat) : Int)) ∧ (∀ c ∈ l, c ∈ ([65, 65, 66, 66, 67] : List UInt8)) ∧ l.length = j ∧ ∀ h' : Heap, h'.get? p = some oq → PenI h' p I (100 * i + 1 + j) := ⟨_, rfl⟩
      refine comp_range (X := fun _ => False) (n := d) (news0 := [(p, op13)]) (J := J1)
        (K := fun D ys nx h tk => qc (.ref D) { s₁ with heap := h, toks := tk }) hh0 (by assumption) (by omega) (by omega) (by omega) (by omega) (by omega)
        ⟨by rw [sizeLine_eq]; omega, (fun q hq => by rw [List.mem_singleton.mp hq]; exact (N9 (p, op13) nfp).1), (by rw [hJ1]; exact ⟨[], op13, rfl, .nil, (by intro c hc; cases hc), rfl, hPI13⟩), (fun _ h => h.elim), ?_⟩ (fun it h₂ up H => H)
      intro g2 C D hg1 hg2 hg3 hC hD hCD
      have k2 : ∀ b o, s₁.heap.get? b = some o → g2.get? b = some o := fun b o e => hg1 b o (F9.keep b o e) (fun hm => by
        rw [List.map_cons, List.map_nil, List.mem_singleton] at hm
        rw [hm, (N9 (p, op13) nfp).2.2] at e; cases e)
      have X2 := X.keeps k2
      have T2 := T.keeps k2
      have ho12 : g2.get? (s₁.heap.objs.size + 1) = some o1' := hg1 _ _ e1.1 (fun hm => O1.hp.1 (by rw [List.map_cons, List.map_nil, List.mem_singleton] at hm; exact hm.symm))
      have hoI2 : g2.get? I = some oI := hg1 _ _ eI.1 (fun hm => O1.hip (by rw [List.map_cons, List.map_nil, List.mem_singleton] at hm; exact hm))
      have hp2 : g2.get? p = none := hg3 p (by simp)
      refine ⟨?_, ?_⟩
      · rintro j v ys nx h tk m own hj ⟨tv, rfl⟩ hJx hap F5 N5
        rw [hJ1] at hJx
        obtain ⟨l, oq, rfl, hys, hl, hlj, hPq⟩ := hJx
        clear N9
        try k_fold
        k_steps
        unfold Stop
        with_reducible rename Fr _ _ _ _ => F6
        with_reducible rename News _ _ _ _ => N6
        have e6 := N6 (p, oq) (by simp)
        refine pick_bytes (p := p) (I := I) (n := 100 * i + 1 + j) (l := [65, 65, 66, 66, 67]) (Gd.mk X2 T2) F6.keep hh0 (dpt hd0) (unt hu0) (hPq _ e6.1) (hCI _ (F6.keep _ _ hoI2)) O1.hip hp2 (by omega) (by decide) (by decide) ?_
        intro h7 tk7 c t7 k7 hP7 hc7
        obtain ⟨or, hor, hPr⟩ := hP7.has
        show CEnd _ _ _ _ _ _ _ _
        refine ⟨h7, tk7, _, [(p, or)], rfl, fr_keepsW (W := [p]) F6 (fun b hb => by rw [List.mem_singleton.mp hb]; exact e6.2) (fun b o e hb => k7 b o e (fun q => hb (by rw [q]; exact .head _))), ?_, ?_, ?_⟩
        · intro q hq
          rw [← List.cons_append] at hq
          rcases List.mem_append.mp hq with hq | hq
          · have := N6 q (by rw [← List.cons_append]; exact List.mem_append.mpr (.inl hq))
            exact ⟨k7 _ _ this.1 (hap q hq (p, oq) (.head _)), this.2⟩
          · rw [List.mem_singleton.mp hq]; exact ⟨hor, e6.2⟩
        · intro q hq r hr
          rw [List.mem_singleton.mp hr]
          exact hap q hq (p, oq) (.head _)
        rw [hJ1]
        refine ⟨l ++ [c], or, rfl, ?_, ?_, ?_, ?_⟩
        · rw [List.map_append]; exact hys.append (.cons _ _ .nil)
        · intro x hx
          rcases List.mem_append.mp hx with hx | hx
          · exact hl x hx
          · rw [List.mem_singleton.mp hx]; exact hc7
        · rw [List.length_append, hlj]; rfl
        · exact fun h' e => (hPr h' e).le (by omega)
      · rintro ys nx h tk2 hJx k1 k3 hDl
        rw [hJ1] at hJx
        obtain ⟨l, oq, rfl, hys, hl, hlj, hPq⟩ := hJx
        show qc _ _
        rw [hqc]
        have kp := fun (b : Addr) (o : Obj) e (hb : @Ne Nat b p) => k1 b o e (fun hm => hb (by rw [List.map_cons, List.map_nil, List.mem_singleton] at hm; exact hm)) (fun h => h)
        have N11 := nf_pen N9 O1 kp (k3 _ (.head _)).1
        have F11 := fr_pen F9 N9 kp
        refine ⟨D, ys, l, oq, h, tk2, rfl, rfl, F11, ?_, nf_off N9 O1 (by intro q hq; rw [List.mem_singleton.mp hq]; exact hD), hys, hl, by omega, fun h' e => (hPq h' e).le (by omega)⟩
        intro q hq
        rcases List.mem_append.mp hq with hq | hq
        · exact N11 q (List.mem_append.mpr (.inl hq))
        · rcases List.mem_append.mp hq with hq | hq
          · rw [List.mem_singleton.mp hq]; exact ⟨hDl, ne_of_none hD hoL, none_before F9.keep hD⟩
          · exact N11 q (List.mem_append.mpr (.inr hq))
    rintro v s' hq
    rw [hqc] at hq
    obtain ⟨D, ys, o, op', h14, tk14, rfl, rfl, F5, N5, O5, hys, hl, hl14, hPI5⟩ := hq
    clear hqc hPI
    try dsimp only
    try k_fold
    k_steps
    unfold Stop
    refine bytes_K (vs := ys) F5 N5 ⟨_, (N5 (D, lst ys) (by simp)).1, rfl, _, rfl⟩ hys (by intro n hn; obtain ⟨c, _, rfl⟩ := List.mem_map.mp hn; exact ⟨by omega, by have := c.toNat_lt; omega⟩) (by rw [hys.length, List.length_map, sizeLine_eq]; omega) hh0 ?_
    intro h15 t15 k15 F6 N6 _
    rw [bytes_back]
    replace N6 : News s₁.heap s₁.heap.objs.size h15 (nf s₁.heap.objs.size p I o1' o2 o3 o4 o5 op' oI ++ R) := fun q hq => N6 q (by
      rcases List.mem_append.mp hq with hq | hq
      · exact List.mem_append.mpr (.inl hq)
      · exact List.mem_append.mpr (.inr (.tail _ hq)))
    clear F5 N5 hys
    replace O5 := O5.sub (R' := R) (fun q hq => List.mem_append.mpr (.inr hq))
    try dsimp only
    try k_fold
    k_steps
    unfold Stop
    refine store_nf2 F6 N6 O5 c2 rfl (by rfl) (by with_unfolding_all rfl) ?_
    intro h16 o2' tk16 c2' F7 N7
    clear F6 N6 c2
    try dsimp only
    try k_fold
    k_steps
    unfold Stop
    refine wpAny_Assign_Name ?_ (by with_unfolding_all rfl)
    try k_fold
    obtain ⟨qd, hqd⟩ : ∃ qd : Value → Shared → Prop, qd = fun v s' => ∃ (D : Addr) (ys : List Value) (rs : List Rw) (RT : List (Addr × Obj)) (oq : Obj) (h : Heap) (tk : Nat), v = .ref D ∧ s' = { s₁ with heap := h, toks := tk } ∧ Fr s₁.heap s₁.heap.objs.size h m2 ∧ News s₁.heap s₁.heap.objs.size h (nf s₁.heap.objs.size p I o1' o2' o3 o4 o5 oq oI ++ (((D, lst ys) :: RT) ++ R)) ∧ OffT s₁.heap.objs.size p I (((D, lst ys) :: RT) ++ R) ∧
      (∀ h : Heap, Has h RT → All2 (fun v r => RowV r v h) ys rs) ∧ (∀ r ∈ rs, r.ok) ∧ rs.length ≤ 4 ∧ 1 ≤ rs.length ∧ ∀ h' : Heap, h'.get? p = some oq → PenI h' p I (100 * i + 40) := ⟨_, rfl⟩
    refine wpAny_mono (Q := qd) ?_ ?_ (fun _ _ e => e)
    · refine ListComp_S (cl := [("pen", s₁.heap.objs.size + 1)]) (by with_unfolding_all rfl) (by decide) (by rfl) (by decide) ?_ (by intro _; rfl)
      k_steps
      unfold Stop
      with_reducible rename Fr _ _ _ _ => F3
      with_reducible rename News _ _ _ _ => N3
      refine draw_spec (p := p) (I := I) (n := 100 * i + 15) (many := 4) (Gd.mk X T) F3.keep hh0 (dpt hd0) (unt hu0) (hPI5 _ (N3 (p, op') (by simp)).1) (hCI _ (N3 (I, oI) nfI).1) O5.hip (N3 (p, op') (by simp)).2.2 (by omega) (by decide) (by decide) ?_
      intro h13 tk13 d td k13 hP13 hd13
      obtain ⟨op13, hop13, hPI13⟩ := hP13.has
      have F4 := fr_pen F3 N3 k13
      have N4 := nf_pen N3 O5 k13 hop13
      clear F3 N3
      try dsimp only
      try k_fold
      k_steps
      unfold Stop
      with_reducible rename Fr _ _ _ _ => F9
      with_reducible rename News _ _ _ _ => N9
      obtain ⟨oL, hoL, hnL⟩ := ns_obj F9.ns
      have e1 := N9 (s₁.heap.objs.size + 1, o1') nf1
      have eI := N9 (I, oI) nfI
      obtain ⟨J2, hJ2⟩ : ∃ J2 : Nat → List Value → List (Addr × Obj) → Prop, J2 = fun j ys nx => ∃ (rs : List Rw) (oq : Obj) (RT : List (Addr × Obj)), nx = (p, oq) :: RT ∧ ys.length = j ∧ rs.length = j ∧ (∀ h : Heap, Has h RT → All2 (fun v r => RowV r v h) ys rs) ∧ (∀ r ∈ rs, r.ok) ∧ (∀ q ∈ RT, @Ne Nat q.1 p) ∧ ∀ h' : Heap, h'.get? p = some oq → PenI h' p I (100 * i + 16 + 4 * j) := ⟨_, rfl⟩
      refine comp_range (X := fun _ => False) (n := 1 + d) (news0 := [(p, op13)]) (J := J2)
        (K := fun D ys nx h tk => qd (.ref D) { s₁ with heap := h, toks := tk }) hh0 (by assumption) (by omega) (by omega) (by omega) (by omega) (by omega)
        ⟨by rw [sizeLine_eq]; omega, (fun q hq => by rw [List.mem_singleton.mp hq]; exact (N9 (p, op13) nfp).1), (by rw [hJ2]; exact ⟨[], op13, [], rfl, rfl, rfl, (fun _ _ => .nil), (by intro c hc; cases hc), (by intro c hc; cases hc), hPI13⟩), (fun _ h => h.elim), ?_⟩ (fun it h₂ up H => H)
      intro g2 C D hg1 hg2 hg3 hC hD hCD
      have k2 : ∀ b o, s₁.heap.get? b = some o → g2.get? b = some o := fun b o e => hg1 b o (F9.keep b o e) (fun hm => by
        rw [List.map_cons, List.map_nil, List.mem_singleton] at hm
        rw [hm, (N9 (p, op13) nfp).2.2] at e; cases e)
      have X2 := X.keeps k2
      have T2 := T.keeps k2
      have ho12 : g2.get? (s₁.heap.objs.size + 1) = some o1' := hg1 _ _ e1.1 (fun hm => O1.hp.1 (by rw [List.map_cons, List.map_nil, List.mem_singleton] at hm; exact hm.symm))
      have hoI2 : g2.get? I = some oI := hg1 _ _ eI.1 (fun hm => O1.hip (by rw [List.map_cons, List.map_nil, List.mem_singleton] at hm; exact hm))
      have hp2 : g2.get? p = none := hg3 p (by simp)
      refine ⟨?_, ?_⟩
      · rintro j v ys nx h tk m own hj ⟨tv, rfl⟩ hJx hap F5 N5
        rw [hJ2] at hJx
        obtain ⟨rs, oq, RT, rfl, hyl, hrl, hA, hok, hRT, hPq⟩ := hJx
        clear N9
        try k_fold
        k_steps
        unfold Stop
        with_reducible rename Fr _ _ _ _ => F6
        with_reducible rename News _ _ _ _ => N6
        have e6 := N6 (p, oq) (by simp)
        refine row_spec (p := p) (I := I) (n := 100 * i + 16 + 4 * j) (Gd.mk X2 T2) F6.keep hh0 (dpt hd0) (unt hu0) (hPq _ e6.1) (hCI _ (F6.keep _ _ hoI2)) O1.hip hp2 (by omega) ?_
        intro h7 tk7 r T7 t1 t2 t3 t4 k7 hP7 hr7 hT7 hTn
        obtain ⟨or, hor, hPr⟩ := hP7.has
        obtain ⟨oC, _, _, hoC, _⟩ := F6.ns
        show CEnd _ _ _ _ _ _ _ _
        refine ⟨h7, tk7, _, (p, or) :: (RT ++ [(T7, rowObj r t1 t2 t3 t4)]), rfl, fr_keepsW (W := [p]) F6 (fun b hb => by rw [List.mem_singleton.mp hb]; exact e6.2) (fun b o e hb => k7 b o e (fun q => hb (by rw [q]; exact .head _))), ?_, ?_, ?_⟩
        · intro q hq
          rw [← List.cons_append] at hq
          rcases List.mem_append.mp hq with hq | hq
          · have := N6 q (by rw [← List.cons_append]; exact List.mem_append.mpr (.inl hq))
            exact ⟨k7 _ _ this.1 (hap q hq (p, oq) (.head _)), this.2⟩
          · rcases List.mem_cons.mp hq with rfl | hq
            · exact ⟨hor, e6.2⟩
            · rcases List.mem_append.mp hq with hq | hq
              · have := N6 q (by rw [← List.cons_append]; exact List.mem_append.mpr (.inr (.tail _ hq)))
                exact ⟨k7 _ _ this.1 (hRT q hq), this.2⟩
              · rw [List.mem_singleton.mp hq]; exact ⟨hT7, ne_of_none hTn hoC, none_before F6.keep hTn⟩
        · intro q hq r' hr'
          rcases List.mem_cons.mp hr' with rfl | hr'
          · exact hap q hq (p, oq) (.head _)
          · rcases List.mem_append.mp hr' with hr' | hr'
            · exact hap q hq r' (.tail _ hr')
            · rw [List.mem_singleton.mp hr']
              exact Ne.symm (ne_of_none hTn (N6 q (by rw [← List.cons_append]; exact List.mem_append.mpr (.inl hq))).1)
        rw [hJ2]
        refine ⟨rs ++ [r], or, RT ++ [(T7, rowObj r t1 t2 t3 t4)], rfl, ?_, ?_, ?_, ?_, ?_, ?_⟩
        · rw [List.length_append, hyl]; rfl
        · rw [List.length_append, hrl]; rfl
        · exact fun h' hh' => (hA h' fun q hq => hh' q (List.mem_append.mpr (.inl hq))).snoc ⟨T7, t1, t2, t3, t4, rfl, hh' (T7, rowObj r t1 t2 t3 t4) (List.mem_append.mpr (.inr (.head _)))⟩
        · intro x hx
          rcases List.mem_append.mp hx with hx | hx
          · exact hok x hx
          · rw [List.mem_singleton.mp hx]; exact hr7
        · intro q hq
          rcases List.mem_append.mp hq with hq | hq
          · exact hRT q hq
          · rw [List.mem_singleton.mp hq]; exact ne_of_none hTn e6.1
        · exact fun h' e => (hPr h' e).le (by omega)
      · rintro ys nx h tk2 hJx k1 k3 hDl
        rw [hJ2] at hJx
        obtain ⟨rs, oq, RT, rfl, hyl, hrl, hA, hok, hRT, hPq⟩ := hJx
        show qd _ _
        rw [hqd]
        have kp := fun (b : Addr) (o : Obj) e (hb : @Ne Nat b p) => k1 b o e (fun hm => hb (by rw [List.map_cons, List.map_nil, List.mem_singleton] at hm; exact hm)) (fun h => h)
        have N11 := nf_pen N9 O5 kp (k3 _ (.head _)).1
        have F11 := fr_pen F9 N9 kp
        have hRn := fun q (hq : q ∈ RT) => (k3 q (.tail _ hq)).2.2.2.resolve_right (fun hm => hRT q hq (by rw [List.map_cons, List.map_nil, List.mem_singleton] at hm; exact hm))
        refine ⟨D, ys, rs, RT, oq, h, tk2, rfl, rfl, F11, ?_, nf_off N9 O5 ?_, hA, hok, by omega, by omega, fun h' e => (hPq h' e).le (by omega)⟩
        · intro q hq
          rcases List.mem_append.mp hq with hq | hq
          · exact N11 q (List.mem_append.mpr (.inl hq))
          · rcases List.mem_append.mp hq with hq | hq
            · rcases List.mem_cons.mp hq with rfl | hq
              · exact ⟨hDl, ne_of_none hD hoL, none_before F9.keep hD⟩
              · exact ⟨(k3 q (.tail _ hq)).1, ne_of_none (hRn q hq) hoL, none_before F9.keep (hRn q hq)⟩
            · exact N11 q (List.mem_append.mpr (.inr hq))
        · intro q hq
          rcases List.mem_cons.mp hq with rfl | hq
          · exact hD
          · exact hRn q hq
    rintro v s' hq
    rw [hqd] at hq
    obtain ⟨Dr, yr, rs, RT, oq, h18, tk18, rfl, rfl, F8, N8, O8, hA, hok, hr4, hr1, hPq⟩ := hq
    clear hqd hPI5
    generalize hRR : ((Dr, lst yr) :: RT) ++ R = R8 at N8 O8
    have hRA : ∀ h : Heap, Has h R8 → RowsAt h Dr rs := fun h hh => ⟨yr, _, hh (Dr, lst yr) (by rw [← hRR]; exact .head _), hA h fun q hq => hh q (by rw [← hRR]; exact List.mem_append.mpr (.inl (.tail _ hq)))⟩
    have hDrL : (Dr, lst yr) ∈ R8 := by rw [← hRR]; exact .head _
    have hyl : yr.length = rs.length := (hA h18 fun q hq => (N8 q (by rw [← hRR]; exact List.mem_append.mpr (.inr (List.mem_append.mpr (.inl (.tail _ hq)))))).1).length
    have hRT8 : ∀ q ∈ RT, q ∈ R8 := fun q hq => by rw [← hRR]; exact List.mem_append.mpr (.inl (.tail _ hq))
    have hRs : ∀ q ∈ R, q ∈ R8 := fun q hq => by rw [← hRR]; exact List.mem_append.mpr (.inr hq)
    clear hRR
    try dsimp only
    refine store_nf3 F8 N8 O8 c3 rfl (by rfl) (by with_unfolding_all rfl) ?_
    intro h19 o3' tk19 c3' F9 N9
    clear F8 N8 c3
    try dsimp only
    try k_fold
    k_steps
    unfold Stop
    with_reducible rename Fr _ _ _ _ => F3
    with_reducible rename News _ _ _ _ => N3
    have ho50 : o.length ≤ 50 := by omega
    refine tallied_spec (Gd.mk X T) F3.keep hh0 (dpt hd0) (unt hu0) ho50 (hRA _ fun q hq => (N3 q (by simp [hq])).1) hok (by omega) ?_
    intro Dc h20 tk20 τ20 k20 hDc hDcn
    have F4 := fr_keeps F3 k20
    have N4 := nf_new (N1 := [(Dc, W.listOf (cntL rs.length (fun j => (trace o rs.length (skOf o rs) 0).count (some j)) τ20).toArray 0)]) F3 N3 k20 (by intro q hq; rw [List.mem_singleton.mp hq]; exact ⟨hDc, hDcn⟩)
    have O9 := nf_off N3 O8 (N1 := [(Dc, W.listOf (cntL rs.length (fun j => (trace o rs.length (skOf o rs) 0).count (some j)) τ20).toArray 0)]) (by intro q hq; rw [List.mem_singleton.mp hq]; exact hDcn)
    clear F3 N3
    generalize hR9 : ([(Dc, W.listOf (cntL rs.length (fun j => (trace o rs.length (skOf o rs) 0).count (some j)) τ20).toArray 0)] ++ R8) = R9 at N4 O9
    have hDc9 : (Dc, W.listOf (cntL rs.length (fun j => (trace o rs.length (skOf o rs) 0).count (some j)) τ20).toArray 0) ∈ R9 := by rw [← hR9]; exact .head _
    have hR89 : ∀ q ∈ R8, q ∈ R9 := fun q hq => by rw [← hR9]; exact .tail _ hq
    clear hR9
    try dsimp only
    try k_fold
    k_steps
    unfold Stop
    with_reducible rename Fr _ _ _ _ => F3
    with_reducible rename News _ _ _ _ => N3
    refine marked_spec (Gd.mk X T) F3.keep hh0 (dpt hd0) (unt hu0) ho50 (hRA _ fun q hq => (N3 q (List.mem_append.mpr (.inr (hR89 q hq)))).1) hok (by omega) ?_
    intro h21 tk21 t21 k21
    have F5 := fr_keeps F3 k21
    have N5 := news_keeps N3 k21
    clear F3 N3
    have hσ : ∀ j, j < rs.length → (skOf o rs j).e ≤ o.length ∧ 0 < (skOf o rs j).width := fun j hj => ⟨(skOf_ok hok ho50 hj).2.1, (skOf_ok hok ho50 hj).2.2.2⟩
    have hTr : TrOk o rs.length (skOf o rs) 0 (trace o rs.length (skOf o rs) 0) := trace_ok hσ _ 0 _ (SameK.refl _) (Nat.le_refl _) (Nat.zero_le _)
    have hoc : ∀ c ∈ o, 4 < c.toNat := fun c hc => by
      have := hl c hc
      simp only [List.mem_cons, List.not_mem_nil, or_false] at this
      rcases this with rfl | rfl | rfl | rfl | rfl <;> decide
    obtain ⟨mk, hmk⟩ : ∃ mk, mk = pnt o (skOf o rs) 0 (trace o rs.length (skOf o rs) 0) := ⟨_, rfl⟩
    have hmk' : paint o (bysOf rs) (fun j => (skOf o rs j).width) 0 (trace o rs.length (skOf o rs) 0) = mk := hmk.symm
    rw [hmk']
    have hml : mk.length = o.length := by have := paint_length hTr; rw [hmk]; omega
    try dsimp only
    try k_fold
    k_steps
    unfold Stop
    with_reducible rename Fr _ _ _ _ => F3
    with_reducible rename News _ _ _ _ => N3
    refine store_nf4 F3 (fun q hq => N3 q (.tail _ hq)) O9 c4 rfl (by rfl) (by with_unfolding_all rfl) ?_
    intro h22 o4' tk22 c4' F6 N6
    clear F3 N3 c4
    try dsimp only
    try k_fold
    k_steps
    unfold Stop
    with_reducible rename Fr _ _ _ _ => F3
    with_reducible rename News _ _ _ _ => N3
    refine store_nf5 F3 N3 O9 c5 rfl (by rfl) (by with_unfolding_all rfl) ?_
    intro h23 o5' tk23 c5' F7 N7
    clear F3 N3 c5
    have hsz : mk.toArray.size = o.toArray.size := by rw [List.size_toArray, List.size_toArray, hml]
    have hsz' : o.toArray.size ≤ 14 := by rw [List.size_toArray]; exact hl14
    try dsimp only
    try k_fold
    k_steps
    · exfalso; omega
    unfold Stop
    with_reducible rename Fr _ _ _ _ => F3
    with_reducible rename News _ _ _ _ => N3
    replace N3 : News s₁.heap s₁.heap.objs.size _ (nf s₁.heap.objs.size p I o1' o2' o3' o4' o5' oq oI ++ R9) := N3
    obtain ⟨qe, hqe⟩ : ∃ qe : Value → Shared → Prop, qe = fun v s' => ∃ (D : Addr) (h : Heap) (tk : Nat), v = .ref D ∧ s' = { s₁ with heap := h, toks := tk } ∧ Fr s₁.heap s₁.heap.objs.size h m2 ∧ News s₁.heap s₁.heap.objs.size h ((D, lst []) :: (nf s₁.heap.objs.size p I o1' o2' o3' o4' o5' oq oI ++ R9)) := ⟨_, rfl⟩
    refine wpAny_mono (Q := qe) ?_ ?_ (fun _ _ e => e)
    · refine ListComp_S (cl := [("octets", s₁.heap.objs.size + 1 + 1), ("marked", s₁.heap.objs.size + 1 + 1 + 1 + 1 + 1)]) (by with_unfolding_all rfl) (by decide) (by rfl) (by decide) ?_ (by intro _; rfl)
      k_steps
      unfold Stop
      with_reducible rename Fr _ _ _ _ => F9
      with_reducible rename News _ _ _ _ => N9
      obtain ⟨oL, hoL, hnL⟩ := ns_obj F9.ns
      have e2 := N9 (s₁.heap.objs.size + 1 + 1, o2') nf2
      have e5 := N9 (s₁.heap.objs.size + 1 + 1 + 1 + 1 + 1, o5') nf5
      refine comp_range (X := fun _ => False) (n := o.length) (news0 := []) (J := fun j ys nx => ys = [] ∧ nx = [])
        (K := fun D ys nx h tk => qe (.ref D) { s₁ with heap := h, toks := tk }) hh0 (by assumption) (by omega) (by omega) (by omega) (by omega) (by omega)
        ⟨by rw [sizeLine_eq]; omega, (by intro q hq; cases hq), ⟨rfl, rfl⟩, (fun _ h => h.elim), ?_⟩ (fun it h₂ up H => H)
      intro g2 C D hg1 hg2 hg3 hC hD hCD
      have k2 : ∀ b o, s₁.heap.get? b = some o → g2.get? b = some o := fun b o e => hg1 b o (F9.keep b o e) (by simp)
      have X2 := X.keeps k2
      have T2 := T.keeps k2
      have ho22 : g2.get? (s₁.heap.objs.size + 1 + 1) = some o2' := hg1 _ _ e2.1 (by simp)
      have ho52 : g2.get? (s₁.heap.objs.size + 1 + 1 + 1 + 1 + 1) = some o5' := hg1 _ _ e5.1 (by simp)
      refine ⟨?_, ?_⟩
      · rintro j v ys nx h tk m own hj ⟨tv, rfl⟩ ⟨rfl, rfl⟩ hap F5 N5
        clear N9
        have hjm : j < mk.length := by omega
        have hpg := paint_get (n := rs.length) (by omega) hTr (t := j) (c := mk.getD j 0) (by rw [← hmk, List.getD_eq_getElem?_getD, List.getElem?_eq_getElem hjm]; rfl)
        have hpq : ((mk.getD (j : Int).toNat 0).toNat : Int) ≤ 4 ∨ ((mk.getD (j : Int).toNat 0).toNat : Int) = ((o.getD (j : Int).toNat 0).toNat : Int) := by
          rw [Int.toNat_natCast]
          rcases hpg with h | h
          · left; omega
          · right
            rw [Nat.zero_add] at h
            show ((mk.getD j 0).toNat : Int) = (((o[j]?).getD 0).toNat : Int)
            rw [h]; rfl
        simp only [Int.zero_add]
        try k_fold
        k_steps
        · exfalso; omega
        all_goals ((with_reducible rename Fr _ _ _ _ => F6); (with_reducible rename News _ _ _ _ => N6); exact ⟨_, _, _, [], rfl, F6, N6, (fun _ _ _ h => nomatch h), trivial, rfl⟩)
      · rintro ys nx h tk2 ⟨rfl, rfl⟩ k1 k3 hDl
        show qe _ _
        rw [hqe]
        have kk := fun (b : Addr) (o : Obj) e => k1 b o e (by simp) (fun h => h)
        refine ⟨D, h, tk2, rfl, rfl, fr_keeps F9 kk, fun q hq => ?_⟩
        rcases List.mem_cons.mp hq with rfl | hq
        · exact ⟨hDl, ne_of_none hD hoL, none_before F9.keep hD⟩
        · exact news_keeps N9 kk q hq
    rintro v s' hq
    rw [hqe] at hq
    obtain ⟨De, h24, tk24, rfl, rfl, F8, N8⟩ := hq
    clear hqe
    try dsimp only
    try k_fold
    k_steps
    unfold Stop
    with_reducible rename Fr _ _ _ _ => F3
    with_reducible rename News _ _ _ _ => N3
    show wpAny _ _ (compareOp CmpOp.NotEq (.ref De) (.ref _)) _ _ _
    refine ne_intsK (vs := []) (ns := []) (us := []) (ms := []) ⟨_, (N3 _ (.tail _ (.head _))).1, rfl, _, rfl⟩ .nil ⟨_, (N3 _ (.head _)).1, rfl, _, rfl⟩ .nil (unt64 hu0) ?_
    rw [decide_eq_true (rfl : ([] : List Int) = [])]
    try dsimp only [Bool.not_true]
    replace N3 : News s₁.heap s₁.heap.objs.size _ (nf s₁.heap.objs.size p I o1' o2' o3' o4' o5' oq oI ++ R9) := fun q hq => N3 q (.tail _ (.tail _ hq))
    try k_fold
    k_steps
    unfold Stop
    with_reducible rename Fr _ _ _ _ => F3
    with_reducible rename News _ _ _ _ => N3
    obtain ⟨cnt, hcnt⟩ : ∃ cnt : Nat → Nat, cnt = fun j => (trace o rs.length (skOf o rs) 0).count (some j) := ⟨_, rfl⟩
    rw [show (fun j => (trace o rs.length (skOf o rs) 0).count (some j)) = cnt from hcnt.symm] at hDc9
    have hlr : ∀ (h : Heap), (∀ q ∈ R9, h.get? q.1 = some q.2) → h.IsList Dr yr.toArray := fun h hh => ⟨_, hh _ (hR89 _ hDrL), rfl, _, rfl⟩
    have hlc : ∀ (h : Heap), (∀ q ∈ R9, h.get? q.1 = some q.2) → h.IsList Dc (cntL rs.length cnt τ20).toArray := fun h hh => ⟨_, hh _ hDc9, rfl, _, rfl⟩
    have hAA : ∀ (h : Heap), (∀ q ∈ R9, h.get? q.1 = some q.2) → All2 (fun v r => RowV r v h) yr rs := fun h hh => hA h fun q hq => hh q (hR89 q (hRT8 q hq))
    obtain ⟨qf, hqf⟩ : ∃ qf : Value → Shared → Prop, qf = fun v s' => ∃ (D : Addr) (t : Nat → Tok) (h : Heap) (tk : Nat), v = .ref D ∧ s' = { s₁ with heap := h, toks := tk } ∧ Fr s₁.heap s₁.heap.objs.size h m2 ∧ News s₁.heap s₁.heap.objs.size h ((D, lst (cntL rs.length cnt t)) :: (nf s₁.heap.objs.size p I o1' o2' o3' o4' o5' oq oI ++ R9)) := ⟨_, rfl⟩
    refine wpAny_mono (Q := qf) ?_ ?_ (fun _ _ e => e)
    · refine ListComp_S (cl := [("rows", s₁.heap.objs.size + 1 + 1 + 1), ("octets", s₁.heap.objs.size + 1 + 1), ("marked", s₁.heap.objs.size + 1 + 1 + 1 + 1 + 1)]) (by with_unfolding_all rfl) (by decide) (by rfl) (by decide) ?_ (by intro _; rfl)
      k_steps
      unfold Stop
      with_reducible rename Fr _ _ _ _ => F3
      with_reducible rename News _ _ _ _ => N3
      refine call_len_list (hlr _ fun q hq => (N3 q (List.mem_append.mpr (.inr hq))).1) (by rw [List.size_toArray, hyl]; omega) ?_
      have hyz : yr.toArray.size = rs.length := by rw [List.size_toArray, hyl]
      try dsimp only
      try k_fold
      k_steps
      unfold Stop
      with_reducible rename Fr _ _ _ _ => F9
      with_reducible rename News _ _ _ _ => N9
      obtain ⟨oL, hoL, hnL⟩ := ns_obj F9.ns
      have e2 := N9 (s₁.heap.objs.size + 1 + 1, o2') nf2
      have e3 := N9 (s₁.heap.objs.size + 1 + 1 + 1, o3') nf3
      have e5 := N9 (s₁.heap.objs.size + 1 + 1 + 1 + 1 + 1, o5') nf5
      obtain ⟨J4, hJ4⟩ : ∃ J4 : Nat → List Value → List (Addr × Obj) → Prop, J4 = fun j ys nx => nx = [] ∧ ∃ t : Nat → Tok, ys = cntL j cnt t := ⟨_, rfl⟩
      refine comp_range (X := fun _ => False) (n := rs.length) (news0 := []) (J := J4)
        (K := fun D ys nx h tk => qf (.ref D) { s₁ with heap := h, toks := tk }) hh0 (by assumption) (by omega) (by omega) (by omega) (by omega) (by omega)
        ⟨by rw [sizeLine_eq]; omega, (by intro q hq; cases hq), (by rw [hJ4]; exact ⟨rfl, fun _ => 0, rfl⟩), (fun _ h => h.elim), ?_⟩ (fun it h₂ up H => H)
      intro g2 C D hg1 hg2 hg3 hC hD hCD
      have k2 : ∀ b o, s₁.heap.get? b = some o → g2.get? b = some o := fun b o e => hg1 b o (F9.keep b o e) (by simp)
      have X2 := X.keeps k2
      have T2 := T.keeps k2
      have ho22 : g2.get? (s₁.heap.objs.size + 1 + 1) = some o2' := hg1 _ _ e2.1 (by simp)
      have ho32 : g2.get? (s₁.heap.objs.size + 1 + 1 + 1) = some o3' := hg1 _ _ e3.1 (by simp)
      have ho52 : g2.get? (s₁.heap.objs.size + 1 + 1 + 1 + 1 + 1) = some o5' := hg1 _ _ e5.1 (by simp)
      have hR92 : ∀ q ∈ R9, g2.get? q.1 = some q.2 := fun q hq => hg1 _ _ (N9 q (List.mem_append.mpr (.inr hq))).1 (by simp)
      have hlr2 := hlr g2 hR92
      have hAA2 := hAA g2 hR92
      refine ⟨?_, ?_⟩
      · rintro j v ys nx h tk m own hj ⟨tv, rfl⟩ hJx hap F5 N5
        rw [hJ4] at hJx
        obtain ⟨rfl, t, rfl⟩ := hJx
        clear N9
        obtain ⟨v, hv⟩ : ∃ v, yr[j]? = some v := ⟨_, List.getElem?_eq_getElem (by omega)⟩
        obtain ⟨r, hr, TT, t1, t2, t3, t4, rfl, hTT⟩ := hAA2.get hv
        have hrok := hok r (List.mem_of_getElem? hr)
        simp only [Int.zero_add]
        try k_fold
        k_steps
        unfold Stop
        with_reducible rename Fr _ _ _ _ => F6
        with_reducible rename News _ _ _ _ => N6
        rw [show ((j : Int) + 1) = ((j + 1 : Nat) : Int) from rfl]
        have hgd : rs.getD j rw0 = r := by rw [List.getD_eq_getElem?_getD, hr]; rfl
        have hwj : (skOf o rs j).width = r.w := by rw [width_of, hgd]
        have hbj : (skOf o rs j).b = beginOf o r.aft := by unfold skOf; rw [hgd]; rfl
        have hej : (skOf o rs j).e = endOf o r.bef := by unfold skOf; rw [hgd]; rfl
        have hkj : (skOf o rs j).kd = r.kd := by unfold skOf; rw [hgd]; rfl
        have hwtj : (skOf o rs j).want = r.want := by unfold skOf; rw [hgd]; rfl
        refine blocks_spec (mk := mk) (r := r) (mark := j + 1) (fun k c => BlkP o mk rs.length (skOf o rs) j (cnt j) k c) (Gd.mk X2 T2) F6.keep hh0 (dpt hd0) (unt hu0) hrok (F6.keep _ _ hTT) ho50 hml (by omega) (by omega) ?_ ?_ ?_ ?_
        · rw [hmk, hcnt]; exact blk_start hTr
        · exact fun k c h hk hne => blk_step1 (by omega) (by omega) h hk hne
        · intro k c h hk he
          obtain ⟨q1, q2, q3, q4, q5⟩ := blk_step2 (by omega) (by omega) hoc h hk he
          rw [hwj] at q1 q4 q5
          rw [hbj] at q3
          rw [hej] at q4
          rw [hkj, hwtj] at q2
          refine ⟨q1, fun hc => ?_, q3, q4, q5⟩
          have := q2 hc
          unfold lies at this
          rw [show r.w = r.want.length from by unfold Rw.w; rw [if_neg hc]]
          simpa using this
        intro h7 tk7 t7 c7 k7 hc7
        have hc7' := blk_end hml hc7
        rw [hc7']
        show CEnd _ _ _ _ _ _ _ _
        refine ⟨h7, tk7, _, [], rfl, fr_keeps F6 k7, news_keeps N6 k7, (fun _ _ _ h => nomatch h), ?_⟩
        rw [hJ4]
        refine ⟨rfl, upd t j t7, ?_⟩
        unfold cntL
        rw [List.range_succ, List.map_append]
        congr 1
        · refine List.map_congr_left fun x hx => ?_
          have : x ≠ j := Nat.ne_of_lt (List.mem_range.mp hx)
          simp [upd, this]
        · simp [upd]
      · rintro ys nx h tk2 hJx k1 k3 hDl
        rw [hJ4] at hJx
        obtain ⟨rfl, t, rfl⟩ := hJx
        show qf _ _
        rw [hqf]
        have kk := fun (b : Addr) (o : Obj) e => k1 b o e (by simp) (fun h => h)
        refine ⟨D, t, h, tk2, rfl, rfl, fr_keeps F9 kk, fun q hq => ?_⟩
        rcases List.mem_cons.mp hq with rfl | hq
        · exact ⟨hDl, ne_of_none hD hoL, none_before F9.keep hD⟩
        · exact news_keeps N9 kk q hq
    rintro v s' hq
    rw [hqf] at hq
    obtain ⟨De, te, h24, tk24, rfl, rfl, F8, N8⟩ := hq
    clear hqf
    try dsimp only
    try k_fold
    k_steps
    unfold Stop
    with_reducible rename Fr _ _ _ _ => F3
    with_reducible rename News _ _ _ _ => N3
    have hR93 : ∀ q ∈ R9, Heap.get? _ q.1 = some q.2 := fun q hq => (N3 q (.tail _ (List.mem_append.mpr (.inr hq)))).1
    refine ne_intsK (vs := cntL rs.length cnt te) (us := cntL rs.length cnt τ20) ⟨_, (N3 _ (.head _)).1, rfl, _, rfl⟩ cnt_ints (hlc _ hR93) cnt_ints (unt64 hu0) ?_
    rw [decide_eq_true (rfl : (List.range rs.length).map (fun j => ((cnt j : Nat) : Int)) = _)]
    try dsimp only [Bool.not_true]
    replace N3 : News s₁.heap s₁.heap.objs.size _ (nf s₁.heap.objs.size p I o1' o2' o3' o4' o5' oq oI ++ R9) := fun q hq => N3 q (.tail _ hq)
    clear hR93
    try k_fold
    k_steps
    unfold Stop
    with_reducible rename Fr _ _ _ _ => F3
    with_reducible rename News _ _ _ _ => N3
    obtain ⟨qg, hqg⟩ : ∃ qg : Value → Shared → Prop, qg = fun v s' => ∃ (D : Addr) (ys : List Value) (h : Heap) (tk : Nat), v = .ref D ∧ s' = { s₁ with heap := h, toks := tk } ∧ Fr s₁.heap s₁.heap.objs.size h m2 ∧ News s₁.heap s₁.heap.objs.size h ((D, lst ys) :: (nf s₁.heap.objs.size p I o1' o2' o3' o4' o5' oq oI ++ R9)) ∧ ys.length = mk.countP (fun c => decide (4 < c.toNat)) := ⟨_, rfl⟩
    refine wpAny_mono (Q := qg) ?_ ?_ (fun _ _ e => e)
    · refine ListComp_S (cl := []) (by with_unfolding_all rfl) (by decide) (by rfl) (by decide) ?_ (by intro _; rfl)
      k_steps
      try unfold Stop
      with_reducible rename Fr _ _ _ _ => F9
      with_reducible rename News _ _ _ _ => N9
      obtain ⟨oL, hoL, hnL⟩ := ns_obj F9.ns
      refine comp_bytes (X := fun _ => False) (news0 := []) (J := fun j ys nx => nx = [] ∧ ys.length = (mk.take j).countP (fun c => decide (4 < c.toNat)))
        (K := fun D ys nx h tk => qg (.ref D) { s₁ with heap := h, toks := tk }) hh0
        ⟨by rw [sizeLine_eq]; omega, (by intro q hq; cases hq), ⟨rfl, rfl⟩, (fun _ h => h.elim), ?_⟩ (fun it h₂ up H => H)
      intro g2 C D hg1 hg2 hg3 hC hD hCD
      have k2 : ∀ b o, s₁.heap.get? b = some o → g2.get? b = some o := fun b o e => hg1 b o (F9.keep b o e) (by simp)
      have X2 := X.keeps k2
      have T2 := T.keeps k2
      refine ⟨?_, ?_⟩
      · rintro j v ys nx h tk m own hj ⟨c, tv, hc, rfl⟩ ⟨rfl, hyj⟩ hap F5 N5
        clear N9
        have hstep : (mk.take (j + 1)).countP (fun c => decide (4 < c.toNat)) = (mk.take j).countP (fun c => decide (4 < c.toNat)) + if 4 < c.toNat then 1 else 0 := by
          rw [List.take_succ, hc, List.countP_append]; simp [List.countP_cons]
        try k_fold
        k_steps
        · with_reducible rename Fr _ _ _ _ => F6
          with_reducible rename News _ _ _ _ => N6
          exact ⟨_, _, _, [], rfl, F6, N6, (fun _ _ _ h => nomatch h), rfl, by rw [List.length_append, hyj, hstep, if_pos (by omega)]; rfl⟩
        · with_reducible rename Fr _ _ _ _ => F6
          with_reducible rename News _ _ _ _ => N6
          exact ⟨_, _, _, [], rfl, F6, N6, (fun _ _ _ h => nomatch h), rfl, by rw [hyj, hstep, if_neg (by omega)]; rfl⟩
      · rintro ys nx h tk2 ⟨rfl, hyj⟩ k1 k3 hDl
        show qg _ _
        rw [hqg]
        rw [List.take_length] at hyj
        have kk := fun (b : Addr) (o : Obj) e => k1 b o e (by simp) (fun h => h)
        refine ⟨D, ys, h, tk2, rfl, rfl, fr_keeps F9 kk, fun q hq => ?_, hyj⟩
        rcases List.mem_cons.mp hq with rfl | hq
        · exact ⟨hDl, ne_of_none hD hoL, none_before F9.keep hD⟩
        · exact news_keeps N9 kk q hq
    rintro v s' hq
    rw [hqg] at hq
    obtain ⟨Dg, yg, h25, tk25, rfl, rfl, F8, N8, hyg⟩ := hq
    clear hqg
    try dsimp only
    try k_fold
    k_steps
    unfold Stop
    with_reducible rename Fr _ _ _ _ => F3
    with_reducible rename News _ _ _ _ => N3
    refine call_len_list ⟨_, (N3 _ (.head _)).1, rfl, _, rfl⟩ (by rw [List.size_toArray, hyg]; have := List.countP_le_length (l := mk) (p := fun c => decide (4 < c.toNat)); omega) ?_
    replace N3 : News s₁.heap s₁.heap.objs.size _ (nf s₁.heap.objs.size p I o1' o2' o3' o4' o5' oq oI ++ R9) := fun q hq => N3 q (.tail _ hq)
    obtain ⟨pl, hpl⟩ : ∃ pl, pl = (trace o rs.length (skOf o rs) 0).count none := ⟨_, rfl⟩
    have hplk : mk.countP (fun c => decide (4 < c.toNat)) = pl := by rw [hmk, hpl]; exact paint_plain (n := rs.length) (by omega) hoc hTr
    rw [show yg.toArray.size = pl from by rw [List.size_toArray, hyg, hplk]]
    try dsimp only
    try k_fold
    k_steps
    unfold Stop
    with_reducible rename Fr _ _ _ _ => F3
    with_reducible rename News _ _ _ _ => N3
    have hN3 : ∀ q ∈ R9, Heap.get? _ q.1 = some q.2 := fun q hq => (N3 q (.tail _ (.tail _ (List.mem_append.mpr (.inr hq))))).1
    refine kmk_add_lit (its := yr.toArray) (zs := yr ++ [.ref _]) F3 N3 (hlr _ hN3) ⟨_, (N3 _ (.head _)).1, rfl, _, rfl⟩ rfl ?_ (by show yr.length + 1 ≤ sizeLine; rw [sizeLine_eq]; omega)
    intro D8 h26 F4 N4 l4
    clear hN3 F3 N3 l4
    have hR94 : ∀ q ∈ R9, h26.get? q.1 = some q.2 := fun q hq => (N4 q (.tail _ (.tail _ (.tail _ (List.mem_append.mpr (.inr hq)))))).1
    have hRw4 : RowsAt h26 D8 (rs ++ [⟨.chars, [], none, none⟩]) := ⟨_, _, (N4 _ (.head _)).1, (hAA h26 hR94).snoc ⟨_, _, 0, 0, 0, rfl, (N4 _ (.tail _ (.tail _ (.head _)))).1⟩⟩
    try dsimp only
    try k_fold
    k_steps
    unfold Stop
    with_reducible rename Fr _ _ _ _ => F3
    with_reducible rename News _ _ _ _ => N3
    have hok1 : ∀ r ∈ rs ++ [(⟨.chars, [], none, none⟩ : Rw)], r.ok := fun r hr => by
      rcases List.mem_append.mp hr with hr | hr
      · exact hok r hr
      · rw [List.mem_singleton.mp hr]; exact ok_row .none .none (by decide) (by decide) (by decide)
    refine tallied_spec (rs := rs ++ [⟨.chars, [], none, none⟩]) (Gd.mk X T) F3.keep hh0 (dpt hd0) (unt hu0) ho50 hRw4 hok1 (by simp; omega) ?_
    intro Dd h27 tk27 τ27 k27 hDd hDdn
    obtain ⟨cnt1, hcnt1⟩ : ∃ cnt1 : Nat → Nat, cnt1 = fun j => (trace o (rs ++ [(⟨.chars, [], none, none⟩ : Rw)]).length (skOf o (rs ++ [(⟨.chars, [], none, none⟩ : Rw)])) 0).count (some j) := ⟨_, rfl⟩
    rw [← hcnt1] at hDd
    have hE1 : ((List.range (rs ++ [(⟨.chars, [], none, none⟩ : Rw)]).length).map fun j => ((cnt1 j : Nat) : Int)) = ((List.range rs.length).map fun j => ((cnt j : Nat) : Int)) ++ [((pl : Nat) : Int)] := by rw [hcnt1, hcnt, hpl]; exact cnts_chars hTr
    generalize (rs ++ [(⟨.chars, [], none, none⟩ : Rw)]).length = n1 at hDd hE1
    have F5 := fr_keeps F3 k27
    have N5 : News s₁.heap s₁.heap.objs.size h27 ((Dd, W.listOf (cntL n1 cnt1 τ27).toArray 0) :: (nf s₁.heap.objs.size p I o1' o2' o3' o4' o5' oq oI ++ R9)) := by
      intro q hq
      rcases List.mem_cons.mp hq with rfl | hq
      · obtain ⟨oL, _, _, hoL, _⟩ := F3.ns
        exact ⟨hDd, ne_of_none hDdn hoL, none_before F3.keep hDdn⟩
      · exact news_keeps N3 k27 q (.tail _ (.tail _ (.tail _ hq)))
    clear F3 N3 hRw4 hR94
    try dsimp only
    try k_fold
    k_steps
    unfold Stop
    with_reducible rename Fr _ _ _ _ => F3
    with_reducible rename News _ _ _ _ => N3
    have hN3 : ∀ q ∈ R9, Heap.get? _ q.1 = some q.2 := fun q hq => (N3 q (.tail _ (.tail _ (List.mem_append.mpr (.inr hq))))).1
    refine kmk_add_lit (its := (cntL rs.length cnt τ20).toArray) (zs := cntL rs.length cnt τ20 ++ [.int _ _]) F3 N3 (hlc _ hN3) ⟨_, (N3 _ (.head _)).1, rfl, _, rfl⟩ rfl ?_ (by show (cntL rs.length cnt τ20).length + 1 ≤ sizeLine; rw [sizeLine_eq, cntL_length]; omega)
    intro D9 h28 F4 N4 l4
    clear hN3 F3 N3 l4
    try dsimp only
    try k_fold
    show wpAny _ _ (compareOp CmpOp.NotEq (.ref Dd) (.ref D9)) _ _ _
    refine ne_intsK (vs := cntL n1 cnt1 τ27) (us := cntL rs.length cnt τ20 ++ [.int _ _]) ⟨_, (N4 _ (.tail _ (.tail _ (.head _)))).1, rfl, _, rfl⟩ cnt_ints ⟨_, (N4 _ (.head _)).1, rfl, _, rfl⟩ (cnt_ints.append (.cons _ _ .nil)) (unt64 hu0) ?_
    rw [decide_eq_true hE1]
    try dsimp only [Bool.not_true]
    replace N4 : News s₁.heap s₁.heap.objs.size _ (nf s₁.heap.objs.size p I o1' o2' o3' o4' o5' oq oI ++ R9) := fun q hq => N4 q (.tail _ (.tail _ (.tail _ hq)))
    clear hDd
    try k_fold
    k_steps
    unfold Stop
    with_reducible rename Fr _ _ _ _ => F3
    with_reducible rename News _ _ _ _ => N3
    obtain ⟨qh, hqh⟩ : ∃ qh : Value → Shared → Prop, qh = fun v s' => ∃ (D : Addr) (ys : List Value) (h : Heap) (tk : Nat) (m : Str → Option Value), m = (fun y => if y = Str.ofString "plain" then some (Value.int (pl : Int) (tk25 + 1)) else m2 y) ∧ v = .ref D ∧ s' = { s₁ with heap := h, toks := tk } ∧ Fr s₁.heap s₁.heap.objs.size h m ∧ News s₁.heap s₁.heap.objs.size h ((D, lst ys) :: (nf s₁.heap.objs.size p I o1' o2' o3' o4' o5' oq oI ++ R9)) ∧ IntsAre ys ((List.range rs.length).map fun j => ((cnt j * (rs.getD j rw0).w : Nat) : Int)) := ⟨_, rfl⟩
    refine wpAny_mono (Q := qh) ?_ ?_ (fun _ _ e => e)
    · refine ListComp_S (cl := [("rows", s₁.heap.objs.size + 1 + 1 + 1), ("counts", s₁.heap.objs.size + 1 + 1 + 1 + 1)]) (by with_unfolding_all rfl) (by decide) (by rfl) (by decide) ?_ (by intro _; rfl)
      k_steps
      unfold Stop
      with_reducible rename Fr _ _ _ _ => F3
      with_reducible rename News _ _ _ _ => N3
      refine call_len_list (hlr _ fun q hq => (N3 q (List.mem_append.mpr (.inr hq))).1) (by rw [List.size_toArray, hyl]; omega) ?_
      have hyz : yr.toArray.size = rs.length := by rw [List.size_toArray, hyl]
      try dsimp only
      try k_fold
      k_steps
      unfold Stop
      with_reducible rename Fr _ _ _ _ => F9
      with_reducible rename News _ _ _ _ => N9
      obtain ⟨oL, hoL, hnL⟩ := ns_obj F9.ns
      have e4 := N9 (s₁.heap.objs.size + 1 + 1 + 1 + 1, o4') nf4
      have e3 := N9 (s₁.heap.objs.size + 1 + 1 + 1, o3') nf3
      obtain ⟨J6, hJ6⟩ : ∃ J6 : Nat → List Value → List (Addr × Obj) → Prop, J6 = fun j ys nx => nx = [] ∧ IntsAre ys ((List.range j).map fun j => ((cnt j * (rs.getD j rw0).w : Nat) : Int)) := ⟨_, rfl⟩
      refine comp_range (X := fun _ => False) (n := rs.length) (news0 := []) (J := J6)
        (K := fun D ys nx h tk => qh (.ref D) { s₁ with heap := h, toks := tk }) hh0 (by assumption) (by omega) (by omega) (by omega) (by omega) (by omega)
        ⟨by rw [sizeLine_eq]; omega, (by intro q hq; cases hq), (by rw [hJ6]; exact ⟨rfl, .nil⟩), (fun _ h => h.elim), ?_⟩ (fun it h₂ up H => H)
      intro g2 C D hg1 hg2 hg3 hC hD hCD
      have k2 : ∀ b o, s₁.heap.get? b = some o → g2.get? b = some o := fun b o e => hg1 b o (F9.keep b o e) (by simp)
      have X2 := X.keeps k2
      have T2 := T.keeps k2
      have ho32 : g2.get? (s₁.heap.objs.size + 1 + 1 + 1) = some o3' := hg1 _ _ e3.1 (by simp)
      have ho42 : g2.get? (s₁.heap.objs.size + 1 + 1 + 1 + 1) = some o4' := hg1 _ _ e4.1 (by simp)
      have hR92 : ∀ q ∈ R9, g2.get? q.1 = some q.2 := fun q hq => hg1 _ _ (N9 q (List.mem_append.mpr (.inr hq))).1 (by simp)
      have hlr2 := hlr g2 hR92
      have hlc2 := hlc g2 hR92
      have hAA2 := hAA g2 hR92
      refine ⟨?_, ?_⟩
      · rintro j v ys nx h tk m own hj ⟨tv, rfl⟩ hJx hap F5 N5
        rw [hJ6] at hJx
        obtain ⟨rfl, hyj⟩ := hJx
        clear N9
        obtain ⟨v, hv⟩ : ∃ v, yr[j]? = some v := ⟨_, List.getElem?_eq_getElem (by omega)⟩
        obtain ⟨r, hr, TT, t1, t2, t3, t4, rfl, hTT⟩ := hAA2.get hv
        have hrok := hok r (List.mem_of_getElem? hr)
        have hcv := cntL_get (c := cnt) (t := τ20) (n := rs.length) hj
        have hgd : rs.getD j rw0 = r := by rw [List.getD_eq_getElem?_getD, hr]; rfl
        simp only [Int.zero_add]
        try k_fold
        k_steps
        unfold Stop
        with_reducible rename Fr _ _ _ _ => F6
        with_reducible rename News _ _ _ _ => N6
        refine size_spec (Gd.mk X2 T2) F6.keep hh0 (dpt hd0) (unt hu0) hrok (F6.keep _ _ hTT) ?_
        intro h7 tk7 t7 k7
        have F7 := fr_keeps F6 k7
        have N7 := news_keeps N6 k7
        clear F6 N6
        have hw10 := w_le hrok
        try dsimp only
        try k_fold
        k_steps
        unfold Stop
        show wpAny _ _ (binaryOp Operator.Mult _ _) _ _ _
        refine mul_int ?_ (IntMulOk.of_right (intBits_le_64 (by omega) (by omega)))
        show CEnd _ _ _ _ _ _ _ _
        refine ⟨_, _, _, [], rfl, F7, N7, (fun _ _ _ h => nomatch h), ?_⟩
        rw [hJ6]
        refine ⟨rfl, ?_⟩
        rw [List.range_succ, List.map_append]
        rw [show ((cnt j : Nat) : Int) * ((r.w : Nat) : Int) = ((cnt j * (rs.getD j rw0).w : Nat) : Int) from by rw [hgd]; exact (Int.natCast_mul _ _).symm]
        exact hyj.append (.cons _ _ .nil)
      · rintro ys nx h tk2 hJx k1 k3 hDl
        rw [hJ6] at hJx
        obtain ⟨rfl, hyj⟩ := hJx
        show qh _ _
        rw [hqh]
        have kk := fun (b : Addr) (o : Obj) e => k1 b o e (by simp) (fun h => h)
        refine ⟨D, ys, h, tk2, _, rfl, rfl, rfl, fr_keeps F9 kk, fun q hq => ?_, hyj⟩
        rcases List.mem_cons.mp hq with rfl | hq
        · exact ⟨hDl, ne_of_none hD hoL, none_before F9.keep hD⟩
        · exact news_keeps N9 kk q hq
    rintro v s' hq
    rw [hqh] at hq
    obtain ⟨Dh, yh, h29, tk29, mm, hmm, rfl, rfl, F8, N8, hyh⟩ := hq
    rw [hmm] at F8
    clear hqh hmm
    try dsimp only
    try k_fold
    k_steps
    unfold Stop
    with_reducible rename Fr _ _ _ _ => F3
    with_reducible rename News _ _ _ _ => N3
    refine sum_L hh0 F3 N3 ⟨_, (N3 _ (.head _)).1, rfl, _, rfl⟩ hyh ?_
    intro h30 tk30 t30 F4 N4
    replace N4 : News s₁.heap s₁.heap.objs.size h30 (nf s₁.heap.objs.size p I o1' o2' o3' o4' o5' oq oI ++ R9) := fun q hq => N4 q (.tail _ hq)
    obtain ⟨sm, hsm⟩ : ∃ sm, sm = ((List.range rs.length).map fun j => ((cnt j * (rs.getD j rw0).w : Nat) : Int)).sum := ⟨_, rfl⟩
    have hps : (pl : Int) + sm = (o.toArray.size : Int) := by rw [hsm, hpl, hcnt, List.size_toArray]; exact plain_sum hTr
    rw [← hsm]
    clear F3 N3 hsm hyh
    try dsimp only
    try k_fold
    k_steps
    · exfalso; omega
    unfold Stop
    with_reducible rename Fr _ _ _ _ => F3
    with_reducible rename News _ _ _ _ => N3
    refine call_len_list (hlr _ fun q hq => (N3 q (List.mem_append.mpr (.inr hq))).1) (by rw [List.size_toArray, hyl]; omega) ?_
    rw [show yr.toArray.size = rs.length from by rw [List.size_toArray, hyl]]
    try dsimp only
    try k_fold
    k_steps
    unfold Stop
    with_reducible rename Fr _ _ _ _ => F5
    with_reducible rename News _ _ _ _ => N5
    replace N5 : News s₁.heap s₁.heap.objs.size _ (nf s₁.heap.objs.size p I o1' o2' o3' o4' o5' oq oI ++ R9) := N5
    refine draw_spec (p := p) (I := I) (n := 100 * i + 40) (many := rs.length) (Gd.mk X T) F5.keep hh0 (dpt hd0) (unt hu0) (hPq _ (N5 (p, oq) nfp).1) (hCI _ (N5 (I, oI) nfI).1) O9.hip (N5 (p, oq) nfp).2.2 (by omega) (by omega) (by omega) ?_
    intro h31 tk31 d2 td2 k31 hP31 hd2
    obtain ⟨op2, hop2, hPI2⟩ := hP31.has
    have F6 := fr_pen F5 N5 k31
    have N6 := nf_pen N5 O9 k31 hop2
    clear F5 N5
    obtain ⟨v2, hv2⟩ : ∃ v, yr[d2]? = some v := ⟨_, List.getElem?_eq_getElem (by omega)⟩
    obtain ⟨r2, hr2, hRV2⟩ := (hAA h31 fun q hq => (N6 q (List.mem_append.mpr (.inr hq))).1).get hv2
    obtain ⟨T2, u1, u2, u3, u4, rfl, _⟩ := hRV2
    try dsimp only
    try k_fold
    k_steps
    unfold Stop
    with_reducible rename Fr _ _ _ _ => F3
    with_reducible rename News _ _ _ _ => N3
    refine get_at (vs := yr) (hlr _ fun q hq => (N3 q (List.mem_append.mpr (.inr hq))).1) hv2 (by omega) ?_
    try dsimp only
    try k_fold
    k_steps
    unfold Stop
    with_reducible rename Fr _ _ _ _ => F3
    with_reducible rename News _ _ _ _ => N3
    have hN3 : ∀ q ∈ R9, Heap.get? _ q.1 = some q.2 := fun q hq => (N3 q (.tail _ (List.mem_append.mpr (.inr hq)))).1
    refine kmk_add_lit (its := yr.toArray) (zs := yr ++ [.ref T2]) F3 N3 (hlr _ hN3) ⟨_, (N3 _ (.head _)).1, rfl, _, rfl⟩ rfl ?_ (by show yr.length + 1 ≤ sizeLine; rw [sizeLine_eq]; omega)
    intro D8 h32 F4 N4 l4
    clear hN3 F3 N3 l4
    have hR94 : ∀ q ∈ R9, h32.get? q.1 = some q.2 := fun q hq => (N4 q (.tail _ (.tail _ (List.mem_append.mpr (.inr hq))))).1
    have hRw4 : RowsAt h32 D8 (rs ++ [r2]) := ⟨_, _, (N4 _ (.head _)).1, (hAA h32 hR94).snoc (by
      obtain ⟨r', hr', hRV'⟩ := (hAA h32 hR94).get hv2
      rw [hr2] at hr'; cases hr'; exact hRV')⟩
    try dsimp only
    try k_fold
    k_steps
    unfold Stop
    with_reducible rename Fr _ _ _ _ => F3
    with_reducible rename News _ _ _ _ => N3
    have hok2 : ∀ r ∈ rs ++ [r2], r.ok := fun r hr => by
      rcases List.mem_append.mp hr with hr | hr
      · exact hok r hr
      · rw [List.mem_singleton.mp hr]; exact hok r2 (List.mem_of_getElem? hr2)
    refine tallied_spec (rs := rs ++ [r2]) (Gd.mk X T) F3.keep hh0 (dpt hd0) (unt hu0) ho50 hRw4 hok2 (by simp; omega) ?_
    intro Df h33 tk33 τ33 k33 hDf hDfn
    obtain ⟨cnt2, hcnt2⟩ : ∃ cnt2 : Nat → Nat, cnt2 = fun j => (trace o (rs ++ [r2]).length (skOf o (rs ++ [r2])) 0).count (some j) := ⟨_, rfl⟩
    rw [← hcnt2] at hDf
    have hE2 : ((List.range (rs ++ [r2]).length).map fun j => ((cnt2 j : Nat) : Int)) = ((List.range rs.length).map fun j => ((cnt j : Nat) : Int)) ++ [0] := by rw [hcnt2, hcnt]; exact cnts_again hr2 hTr
    generalize (rs ++ [r2]).length = n2 at hDf hE2
    have F5 := fr_keeps F3 k33
    have N5 : News s₁.heap s₁.heap.objs.size h33 ((Df, W.listOf (cntL n2 cnt2 τ33).toArray 0) :: (nf s₁.heap.objs.size p I o1' o2' o3' o4' o5' op2 oI ++ R9)) := by
      intro q hq
      rcases List.mem_cons.mp hq with rfl | hq
      · obtain ⟨oL, _, _, hoL, _⟩ := F3.ns
        exact ⟨hDf, ne_of_none hDfn hoL, none_before F3.keep hDfn⟩
      · exact news_keeps N3 k33 q (.tail _ (.tail _ hq))
    clear F3 N3 hRw4 hR94
    try dsimp only
    try k_fold
    k_steps
    unfold Stop
    with_reducible rename Fr _ _ _ _ => F3
    with_reducible rename News _ _ _ _ => N3
    have hN3 : ∀ q ∈ R9, Heap.get? _ q.1 = some q.2 := fun q hq => (N3 q (.tail _ (.tail _ (List.mem_append.mpr (.inr hq))))).1
    refine kmk_add_lit (its := (cntL rs.length cnt τ20).toArray) (zs := cntL rs.length cnt τ20 ++ [.int _ _]) F3 N3 (hlc _ hN3) ⟨_, (N3 _ (.head _)).1, rfl, _, rfl⟩ rfl ?_ (by show (cntL rs.length cnt τ20).length + 1 ≤ sizeLine; rw [sizeLine_eq, cntL_length]; omega)
    intro Dk h34 F4 N4 l4
    clear hN3 F3 N3 l4
    try dsimp only
    try k_fold
    show wpAny _ _ (compareOp CmpOp.NotEq (.ref Df) (.ref Dk)) _ _ _
    refine ne_intsK (vs := cntL n2 cnt2 τ33) (us := cntL rs.length cnt τ20 ++ [.int _ _]) ⟨_, (N4 _ (.tail _ (.tail _ (.head _)))).1, rfl, _, rfl⟩ cnt_ints ⟨_, (N4 _ (.head _)).1, rfl, _, rfl⟩ (cnt_ints.append (.cons _ _ .nil)) (unt64 hu0) ?_
    rw [decide_eq_true hE2]
    try dsimp only [Bool.not_true]
    replace N4 : News s₁.heap s₁.heap.objs.size _ (nf s₁.heap.objs.size p I o1' o2' o3' o4' o5' op2 oI ++ R9) := fun q hq => N4 q (.tail _ (.tail _ (.tail _ hq)))
    clear hDf
    try k_fold
    k_steps
    with_reducible rename Fr _ _ _ _ => F3
    with_reducible rename News _ _ _ _ => N3
    show TPost _ _ _ _ _ _ _ Flow.next _
    refine ⟨_, _, _, nf s₁.heap.objs.size p I o1' o2' o3' o4' o5' op2 oI, rfl, F3, fun q hq => N3 q ?_, rfl, o2', o3', o4', o5', op2, _, _, _, _, rfl, c2', c3', c4', c5', fun h' e => (hPI2 h' e).le (by omega)⟩
    rcases List.mem_append.mp hq with hq | hq
    · exact List.mem_append.mpr (.inr (hR89 q (hRs q hq)))
    · exact List.mem_append.mpr (.inl hq)
  · rintro m₁ nx h12 tk12 hadr ⟨o2, o3, o4, o5, op, v2, v3, v4, v5, rfl, c2, c3, c4, c5, hPI⟩ F1 N1
    try dsimp only
    try k_fold
    k_steps
)
end
end Mine
end
theorem PySem.Challenge.cw_pb0230_01_holds : PySem.Challenge.rw_pb0230_01.Holds :=
  Mine.law_holds
