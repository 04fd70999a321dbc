import PyProof.Rows.All
import Wide.All
import OpenK.AllK
import Wide.FinOn
import PySem.Challenge.RW_pb0543_01
open PySem PySem.W PyProof.Rows PySem.Calls PySem.Spec
set_option Elab.async false
namespace Mine
set_option maxRecDepth 100000
set_option maxHeartbeats 8000000
/-! The head: the top is run in one piece over a tree of objects, and looked at where it ends. -/
/-- the tree of a list of objects -/
noncomputable def treeOf (l : List Obj) : BT := (l.foldl (fun (t : BT × Nat) o => (t.1.ins t.2 o, t.2 + 1)) (.nil, 0)).1
/-- the top's run over a tree, the quick words in place of the model's -/
noncomputable def runQ (p : Program) (w : World) (n₀ : Nat) (ann : Option Value) : Nat → SharedT → Thread → Option SharedT
  | 0, _, _ => none
  | n + 1, s, t => match through t with
    | true => some s
    | false => match PySem.W.Fast.tw6613529449190102663 n₀ ann t with
      | false => none
      | true => match PySem.W.Fast.tw10156331382660048174 (PySem.W.Fast.tw11892475500146522536 PySem.W.Fast.tw14364793385576792824) p w s t with
        | some r => runQ p w n₀ ann n r.1 r.2
        | none => none
theorem runQ_top {p : Program} {w : World} {n₀ : Nat} {ann : Option Value} : ∀ {n : Nat} {s s' : SharedT} {t : Thread}, runQ p w n₀ ann n s t = some s' → topRun treeTable p w n₀ ann n s.abs t = some s'.abs
  | 0, _, _, _, h => by cases h
  | n + 1, s, s', t, h => by
    rw [runQ, ← PySem.W.Fast.te6613529449190102663, ← PySem.W.Fast.te10156331382660048174, ← PySem.W.Fast.te11892475500146522536, ← PySem.W.Fast.te14364793385576792824] at h
    rw [topRun]
    cases a : through t with
    | true => rw [a] at h; cases h; rfl
    | false =>
      rw [a] at h
      cases b : stepOk n₀ ann t with
      | false => rw [b] at h; cases h
      | true =>
        rw [b] at h
        cases c : stepT (denote treeTable) p w s t with
        | none => rw [c] at h; cases h
        | some r => rw [c] at h; rw [stepT_spec (s' := r.1) (t' := r.2) c]; exact runQ_top h
/-- what is looked at where the top ends: the names and the state -/
noncomputable def lookA (p q : Program) (loose : List Str) (Xt : Shared → Bool) (h₀ : Heap) (s : Shared) :=
  (staticsOk (importedModules p.main.body) h₀ s.heap && namesBound p s.heap && gensDone s && laidKept h₀ s.heap, seen ((recsOf q).map (·.name)) (ownsOf q) [] { s with gens := #[] }, s.heap.bltView,
    s.heap.keysOk (looseW q loose) ((recsOf q).map (·.name)) ((litsOf q).map (·.1)) ((clssOf q (looseW q loose)).map (·.name)) && s.heap.accountedOkI (importedModules p.main.body) && s.heap.isNs mainGlobals && s.heap.isNs builtinsNs && tablesOk q s.heap && Xt s && s.gens.size == 0)
/-- and the defs, the classes, the objects -/
noncomputable def lookB {α : Type} (q : Program) (loose : List Str) (Yf : Shared → α) (s : Shared) :=
  (tabsOk q s, pinSeenD q (drecsOf q) s, plainSeenE q (looseW q loose) s, plainSeenD q loose s, wideSeen q s, clsSeenW q loose s, Yf s)
noncomputable abbrev endOf (p : Program) (N : Nat) (w : World) (os : OsState) : Option SharedT :=
  runQ p w 11 (some (.ref 6)) N ⟨treeOf (boot_heap w.params).objs.toList, 11, (boot_heap w.params).life, Array.mk [], boot_drawn, boot_toks, os⟩ (topStub p)
abbrev EndsA (p q : Program) (loose : List Str) (Xt : Shared → Bool) (N : Nat) (w : World) : Prop :=
  (fun os : OsState => (endOf p N w os).map fun s => lookA p q loose Xt (boot_heap w.params) s.abs) = fun _ => some (true, expectedOf q, bltViewBooted, true)
abbrev EndsB {α : Type} (p q : Program) (loose : List Str) (Yf : Shared → α) (Ya : World → α) (N : Nat) (w : World) : Prop :=
  (fun os : OsState => (endOf p N w os).map fun s => lookB q loose Yf s.abs) = fun _ => some (true, pinGoodD (drecsOf q), plainGoodE q (looseW q loose), plainGoodD q loose, wideGood q, clsGoodW q loose, Ya w)
theorem tree_boot : (fun P => absHeap (treeOf (boot_heap P).objs.toList) 11 (boot_heap P).life) = boot_heap := by kernel_rfl
theorem boot_size : (fun P => ((boot_heap P).isNs mainGlobals, (boot_heap P).objs.size, (boot_heap P).nsMap mainGlobals "__annotations__")) = fun _ => (true, 11, some (.ref 6)) := by kernel_rfl
abbrev BootsTo (p : Program) (w : World) : Prop :=
  (PySem.W.Fast.tw10274390034422433532 PySem.W.Fast.tw14364793385576792824 (opening p) w 600 (PySem.W.Fast.tw1435165496053646825 (opening p)).1 (PySem.W.Fast.tw1435165496053646825 (opening p)).2).map (fun s => (s.heap, s.gens, s.drawn, s.toks)) =
    some (boot_heap w.params, Array.mk [], boot_drawn, boot_toks)
theorem boots_open {p : Program} {N : Nat} (b : ∀ w, BootsTo p w) (hN : Nat.ble 600 N = true) (f : ∀ s, fenceModules? p s = some s) (w : World) :
    (fencedOpening treeTable p w N).map (fun s => (s.heap, s.gens, s.drawn, s.toks)) = some (boot_heap w.params, Array.mk [], boot_drawn, boot_toks) := by
  have h := b w
  unfold BootsTo at h
  rw [← PySem.W.Fast.te10274390034422433532, ← PySem.W.Fast.te14364793385576792824, ← PySem.W.Fast.te1435165496053646825] at h
  obtain ⟨s, hs, hv⟩ := Option.map_eq_some_iff.mp h
  have m := importEnds_mono (N - 600) _ _ _ _ hs
  rw [show 600 + (N - 600) = N by have := Nat.le_of_ble_eq_true hN; omega] at m
  unfold fencedOpening
  rw [m, Option.bind_some, f s]
  exact congrArg some hv
theorem left_of {α : Type} {p q : Program} {loose : List Str} {Xt : Shared → Bool} {Yf : Shared → α} {Ya : World → α} {N : Nat} (e : ∀ w, BootsTo p w) (f : ∀ s, fenceModules? p s = some s) (hN : Nat.ble 600 N = true)
    (runA : ∀ w, EndsA p q loose Xt N w) (runB : ∀ w, EndsB p q loose Yf Ya N w) : LeftO p q loose Xt Yf Ya N := fun w => by
  obtain ⟨⟨h, gs, d, k, os⟩, hs, hv⟩ := Option.map_eq_some_iff.mp (boots_open e hN f w)
  simp only [Prod.mk.injEq] at hv
  obtain ⟨rfl, rfl, rfl, rfl⟩ := hv
  have z := congrFun boot_size w.params
  simp only [Prod.mk.injEq] at z
  obtain ⟨z1, z2, z3⟩ := z
  obtain ⟨s₁, h1, h2⟩ := Option.map_eq_some_iff.mp (congrFun (runA w) os)
  obtain ⟨s₂, g1, g2⟩ := Option.map_eq_some_iff.mp (congrFun (runB w) os)
  obtain rfl : s₁ = s₂ := Option.some.inj (h1.symm.trans g1)
  have h3 := runQ_top h1
  have a0 : (SharedT.mk (treeOf (boot_heap w.params).objs.toList) 11 (boot_heap w.params).life (Array.mk []) boot_drawn boot_toks os).abs = ⟨boot_heap w.params, Array.mk [], boot_drawn, boot_toks, os⟩ :=
    congrArg (fun h => (⟨h, Array.mk [], boot_drawn, boot_toks, os⟩ : Shared)) (congrFun tree_boot w.params)
  rw [a0] at h3
  unfold lookA at h2
  unfold lookB at g2
  simp only [Prod.mk.injEq] at h2 g2
  obtain ⟨l1, l2, l3, l4⟩ := h2
  obtain ⟨m1, m2, m3, m4, m5, m6, m7⟩ := g2
  have t : topFrom treeTable p w N ⟨boot_heap w.params, Array.mk [], boot_drawn, boot_toks, os⟩ = some s₁.abs := by
    unfold topFrom
    dsimp only
    rw [z1, z2, z3, h3]
    simp only [List.size_toArray, List.length_nil, beq_self_eq_true, Bool.and_true, Option.bind_some, l1]
  have o : openSeen q loose (importedModules p.main.body) Xt true s₁.abs = openGood q loose := by
    unfold openSeen openGood
    rw [l2, l3, m1, m2, m3, m4, m5, m6, if_pos rfl, l4]
  unfold openEnds
  rw [hs, Option.bind_some, t]
  exact congrArg some (Prod.ext o m7)
local macro_rules | `(tactic| o_head $_) => `(tactic| assumption)
/-- this states nothing: by it the kit's word writes out the objects that the top leaves -/
theorem hd (h : OpenRow.Holds PySem.Challenge.rw_pb0543_01.row) : OpenRow.Holds PySem.Challenge.rw_pb0543_01.row := by k_head
noncomputable def hd.view_39 : Program := PySem.W.view PySem.Challenge.pw_pb0543_01 [1, 2, 3, 5, 6, 7, 8, 9, 10, 12, 13, 14, 16, 17, 18, 19, 20, 21, 22, 23, 24, 25, 26, 27, 28, 29, 30, 33, 34, 35, 36, 37, 38, 39, 40, 42, 43, 44, 45, 46, 47, 48, 49, 50]
noncomputable abbrev hdVals : List (Str × WData) := [(Str.ofString "HALF_TABLE", WData.tuple [WData.int 0, WData.int 498536548, WData.int 997073096, WData.int 651767980, WData.int 1994146192, WData.int 1802195444, WData.int 1303535960, WData.int 1342533948, WData.int 3988292384,
  WData.int 4027552580, WData.int 3604390888, WData.int 3412177804, WData.int 2607071920, WData.int 2262029012, WData.int 2685067896, WData.int 3183342108]), (Str.ofString "TAG_KINDS", WData.tuple [WData.int 33024, WData.int 34984])]
noncomputable abbrev hdLoose : List Str := [Str.ofString "HALF_TABLE", Str.ofString "TAG_KINDS", Str.ofString "Frame", Str.ofString "pack_frame"]
noncomputable abbrev hdXt : Shared → Bool := fun s => xlAt hd.view_39 hdVals s && recOk (RowW.records (OpenRow.toRowW PySem.Challenge.rw_pb0543_01.row)) s
noncomputable abbrev hdAddrs : List Addr := [2, 3, 15, 22, 24, 25, 27, 28, 29, 30, 31, 32, 35, 42, 43, 44, 47, 54, 55, 56, 153, 154, 156, 157, 159, 160, 161, 164, 165, 166, 169, 170, 171, 173, 174, 176, 177, 178, 180, 181, 183, 184, 185, 193, 195, 196, 198, 199, 200, 202, 203, 205, 206, 207, 208, 209, 210, 211, 221, 223, 224, 226, 227, 228, 231, 232, 233, 234, 236, 237, 239, 240, 241, 242, 243, 244, 245, 248, 250, 251, 253, 254, 255, 257, 258, 260, 261, 262, 263, 266, 267, 268, 270, 271, 273, 274, 275, 277, 278, 280, 281, 282, 284, 285, 287, 288, 289, 291, 292, 294, 295, 296, 298, 299, 301, 302, 303, 305, 306, 308, 309, 310, 312, 313, 315, 316, 317, 319, 320, 322, 323, 324, 326, 327, 329, 330, 331, 333, 334, 336, 337, 338, 340, 341, 343, 344, 345, 347, 348, 350, 351, 352, 354, 355, 357, 358, 359, 361, 362, 364, 365, 366, 368, 369, 371, 372, 373, 375, 376, 378, 379, 380, 383, 384]
noncomputable abbrev hdHook : Hook := kmHook hd.heap_1 hdAddrs (fun _ => by kernel_rfl) [374]
noncomputable abbrev RunsA (w : World) : Prop := EndsA PySem.Challenge.pw_pb0543_01 hd.view_39 hdLoose hdXt 15170 w
noncomputable abbrev RunsB (w : World) : Prop := EndsB PySem.Challenge.pw_pb0543_01 hd.view_39 hdLoose hdHook.obs hdHook.val 15170 w
theorem runsA_ff (w : World) : RunsA ((w.withFollow "special-get-raises" false).withFollow "comprehension-iter-twice" false) := by kernel_rfl
theorem runsA_ft (w : World) : RunsA ((w.withFollow "special-get-raises" true).withFollow "comprehension-iter-twice" false) := by kernel_rfl
theorem runsA_tf (w : World) : RunsA ((w.withFollow "special-get-raises" false).withFollow "comprehension-iter-twice" true) := by kernel_rfl
theorem runsA_tt (w : World) : RunsA ((w.withFollow "special-get-raises" true).withFollow "comprehension-iter-twice" true) := by kernel_rfl
theorem runsA (w : World) : RunsA w := byRow2 (P := RunsA) "comprehension-iter-twice" (byRow2 (P := fun w => RunsA (w.withFollow "comprehension-iter-twice" false)) "special-get-raises" runsA_ff runsA_ft) (byRow2 (P := fun w => RunsA (w.withFollow "comprehension-iter-twice" true)) "special-get-raises" runsA_tf runsA_tt) w
theorem runsB_ff (w : World) : RunsB ((w.withFollow "special-get-raises" false).withFollow "comprehension-iter-twice" false) := by kernel_rfl
theorem runsB_ft (w : World) : RunsB ((w.withFollow "special-get-raises" true).withFollow "comprehension-iter-twice" false) := by kernel_rfl
theorem runsB_tf (w : World) : RunsB ((w.withFollow "special-get-raises" false).withFollow "comprehension-iter-twice" true) := by kernel_rfl
theorem runsB_tt (w : World) : RunsB ((w.withFollow "special-get-raises" true).withFollow "comprehension-iter-twice" true) := by kernel_rfl
theorem runsB (w : World) : RunsB w := byRow2 (P := RunsB) "comprehension-iter-twice" (byRow2 (P := fun w => RunsB (w.withFollow "comprehension-iter-twice" false)) "special-get-raises" runsB_ff runsB_ft) (byRow2 (P := fun w => RunsB (w.withFollow "comprehension-iter-twice" true)) "special-get-raises" runsB_tf runsB_tt) w
theorem boots (w : World) : BootsTo PySem.Challenge.pw_pb0543_01 w := by kernel_rfl
theorem head_left : LeftO PySem.Challenge.rw_pb0543_01.row.prog hd.view_39 hdLoose hdXt hdHook.obs hdHook.val 15170 :=
  left_of boots (fun s => by kernel_rfl) rfl runsA runsB
theorem law_said : PySem.Challenge.rw_pb0543_01.wellSaid = true := by decide +kernel
theorem head_ok : (chainsOk hd.view_39 && opensWell PySem.Challenge.rw_pb0543_01.row.prog && (frees (OpenRow.toRowW PySem.Challenge.rw_pb0543_01.row) && PySem.Challenge.rw_pb0543_01.row.within.isEmpty)) = true := by decide +kernel
local macro_rules | `(tactic| walk_at $s:str) => `(tactic| k_extra $s)
local macro_rules | `(tactic| k_room) => `(tactic| k_extra "k_room")
local macro_rules | `(tactic| k_all) => `(tactic| k_extra "k_all")
local macro_rules | `(tactic| k_mem) => `(tactic| k_extra "k_mem")
local macro_rules | `(tactic| kqd_sub) => `(tactic| k_extra "kqd_sub")
local macro_rules | `(tactic| ktr_rel) => `(tactic| k_extra "ktr_rel")
local macro_rules | `(tactic| k_ownIn) => `(tactic| k_extra "k_ownIn")
abbrev Led := List (Addr × Obj)
/-- the names that the ground of the head leaves open -/
noncomputable def lawLoose : List Str :=
  looseW hd.view_39 [Str.ofString "HALF_TABLE", Str.ofString "TAG_KINDS", Str.ofString "Frame", Str.ofString "pack_frame"] ++ (recsOf hd.view_39).map (fun x => x.name) ++ (litsOf hd.view_39).map (fun x => x.fst) ++
    (clssOf hd.view_39 (looseW hd.view_39 [Str.ofString "HALF_TABLE", Str.ofString "TAG_KINDS", Str.ofString "Frame", Str.ofString "pack_frame"])).map (fun x => x.name)

/-- a call of f upon vs, where the ledger is news, ends without an exception, and what it gives meets Post -/
def CallC (w : World) (f : Value) (vs : List Value) (news : Led) (d u : Nat) (Post : Value → Led → Prop) : Prop :=
  ∀ (dp un : Nat) (gd : Option (List Code)) (cn : Str) (cs : Scope) (a : Addr) (ccd : Value) (cl : List (Str × Addr)) (outer : List Env) (A₀ : Around) (base h₀ : Heap) (L : Addr) (m : Str → Option Value) (mean : ExcName → Option Value) (mg mb : Str → Option Value) (s : Shared)
    (Q E : Value → Shared → Prop),
    Below A₀ base outer h₀ → Fr h₀ L s.heap m → (hd.heap_1 w.params).In h₀ → News h₀ L s.heap news →
    Top topProg lawLoose mean mg mb h₀ → cs.kind = .function → dp + d < recursionLimit → un + u < cLine →
    (∀ r h' tk' news', Fr h₀ L h' m → News h₀ L h' news' → Post r news' → Q r { s with heap := h', toks := tk' }) →
    wpAny (model PySem.Challenge.rw_pb0543_01.row.prog w) (ktrTop dp un gd cn cs L a ccd cl outer) (call f vs) Q E s

theorem noPy48 {x y : Int} (h0 : 0 < y) (h : y ≤ 281474976710656) : Builtin.divisionGoesByPylong x y = false := by
  refine PyProof.noPylong_of_log2 ?_
  have h1 : y.natAbs.log2 < 49 := (Nat.log2_lt (by omega)).mpr (by omega)
  omega

def SrcOk (a b : Int) : Prop := 0 ≤ a ∧ 0 ≤ b ∧ b < 2147483647

section
variable {prog : Program} {w : World} {A : Around} {E : Value → Shared → Prop} {s : Shared} {h₀ : Heap} {L l : Addr} {m : Str → Option Value} {news : List (Addr × Obj)} {its : Array Value} {n : Nat} {k : Int} {t u : Tok} {v : Value}
theorem item_lit {value slice : PySem.Expr} {Q : Value → Shared → Prop} (N : News h₀ L s.heap news) (hm : (l, listOf its n) ∈ news) (h0 : 0 ≤ k) (hhi : k < 2 ^ 63) (hx : its.toList[k.toNat]? = some v) (h : Q v s)
    (hs : subscripted slice false (.ref l) (.int k u) = operate [.ref l, .int k u] (getItem (.ref l) (.int k u)) := by with_unfolding_all rfl) :
    wpAny (model prog w) A (subscriptTail value slice (.ref l) (.int k u)) Q E s :=
  have hl : s.heap.IsList l its := PySem.IsL.isList (n := n) (N _ hm).1
  tail_any hl.typeIs slot_list_getitem.lookup (wpAny_getItem_list hl h0 hhi (by rw [← Array.getElem?_toList]; exact hx) h) hs
theorem mod_gen {a b : Int} {Q : Value → Shared → Prop} (hb : 0 < b) (h : ∀ k : Int, k = a.fmod b → 0 ≤ k → k < b → Q (.int k s.toks) { s with toks := s.toks + 1 }) :
    wpAny (model prog w) A (binaryOp .Mod (.int a t) (.int b u)) Q E s :=
  mod_int' (by omega) (h _ rfl (Int.fmod_nonneg_of_pos a hb) (Int.fmod_lt_of_pos a hb))
theorem div_gen {a b : Int} {Q : Value → Shared → Prop} (hb : 0 < b) (hb2 : b ≤ 281474976710656) (h : ∀ k : Int, k = a.fdiv b → (0 ≤ a → 0 ≤ k ∧ k ≤ a) → Q (.int k s.toks) { s with toks := s.toks + 1 }) :
    wpAny (model prog w) A (binaryOp .FloorDiv (.int a t) (.int b u)) Q E s :=
  floordiv_int (by omega) (h _ rfl (fun ha => by
    rw [Int.fdiv_eq_ediv_of_nonneg a (by omega)]
    exact ⟨Int.ediv_nonneg ha (by omega), Int.ediv_le_self b ha⟩)) (Or.inl (noPy48 hb hb2))
theorem mul_sq {a : Int} {Q : Value → Shared → Prop} (h0 : 0 ≤ a) (h1 : a < 2147483648) (h : ∀ k : Int, k = a * a → 0 ≤ k → Q (.int k s.toks) { s with toks := s.toks + 1 }) :
    wpAny (model prog w) A (binaryOp .Mult (.int a t) (.int a u)) Q E s :=
  mul_int (h _ rfl (Int.mul_nonneg h0 h0)) (PySem.IntMulOk.of_right (PySem.intBits_le_64 (by omega) (by omega)))
end
theorem words1 : True := by
  k_with "k_room" => ktr_room
  k_with "k_all" => assumption
  k_with "subscriptTail Name Constant ref int" => (k_here; (with_reducible show wpAny _ _ (subscriptTail _ _ (Value.ref _) (Value.int _ _)) _ _ _); k_dflt (refine' item_lit ?q3k1 ?q3k2 ?q3k3 ?q3k4 ?q3k5 ?_ ?q3k6; (case q3k1 => k_asm); (case q3k2 => k_mem); (case q3k3 => decide); (case q3k4 => decide); (case q3k5 => rfl); (case q3k6 => with_unfolding_all rfl); k_whole))
  k_with "binaryOp Mod int int" => (k_here; refine mod_gen (by omega) ?_; intro k' hk' hk0' hk1'; (try dsimp only))
  k_with "binaryOp FloorDiv int int" => (k_here; refine div_gen (by omega) (by omega) ?_; intro k' hk' hk0'; (try dsimp only))
  k_with "binaryOp Mult int int" => (k_here; refine mul_sq (by omega) (by omega) ?_; intro k' hk' hk0'; (try dsimp only))
  trivial
theorem take_c (w : World) (src : Addr) (x y : Int) (ta tb tt : Tok) (n : Nat) (top : Int) (news : Led) (hs : SrcOk x y) (ht : 0 < top) (ht2 : top ≤ 281474976710656) (hoff : ∀ p ∈ news, p.1 ≠ src) :
    CallC w (.ref 337) [.ref src, .int top tt] ((src, listOf #[.int x ta, .int y tb] n) :: news) 5 50 (fun r news' => ∃ k t x' y' ta' tb' n', r = .int k t ∧ news' = (src, listOf #[.int x' ta', .int y' tb'] n') :: news ∧ 0 ≤ k ∧ k < top ∧ SrcOk x' y') := by
  obtain ⟨hs1, hs2, hs3⟩ := hs
  unfold CallC
  intro dp un gd cn cs a ccd cl outer A₀ base h₀ L m mean mg mb s Q E B F X N T hk hd hu hret
  refine wpAny_call ?_
  k_dflt ktr_enter
  k_steps
  all_goals (refine hret _ _ _ _ (by k_asm) (by k_asm) ⟨_, _, _, _, _, _, _, rfl, rfl, ?_, ?_, ?_, ?_, ?_⟩ <;> omega)

theorem CallC.use {w : World} {f : Value} {vs : List Value} {news : Led} {d u : Nat} {Post : Value → Led → Prop} (C : CallC w f vs news d u Post)
    {dp un : Nat} {gd : Option (List Code)} {cn : Str} {cs : Scope} {a : Addr} {ccd : Value} {cl : List (Str × Addr)} {outer : List Env} {A₀ : Around} {base h₀ : Heap} {L : Addr} {m : Str → Option Value} {mean : ExcName → Option Value} {mg mb : Str → Option Value} {s : Shared}
    {Q E : Value → Shared → Prop}
    (B : Below A₀ base outer h₀) (F : Fr h₀ L s.heap m) (X : (hd.heap_1 w.params).In h₀) (N : News h₀ L s.heap news)
    (T : Top topProg lawLoose mean mg mb h₀) (hk : cs.kind = .function) (hd : dp + d < recursionLimit) (hu : un + u < cLine)
    (ret : ∀ r h' tk' news', Fr h₀ L h' m → News h₀ L h' news' → Post r news' → Q r { s with heap := h', toks := tk' }) :
    wpAny (model PySem.Challenge.rw_pb0543_01.row.prog w) (ktrTop dp un gd cn cs L a ccd cl outer) (call f vs) Q E s := by
  unfold CallC at C
  have C1 := C dp un gd cn cs a ccd cl outer A₀ base h₀ L m mean mg mb s Q E
  clear C
  have C2 := C1 B
  have C3 := C2 F
  have C4 := C3 X
  have C5 := C4 N
  have C6 := C5 T
  have C7 := C6 hk
  have C8 := C7 hd
  have C9 := C8 hu
  have C10 := C9 ret
  exact C10

theorem allLt_to {d : Addr} {l : Led} : AllLt d l → ∀ p ∈ l, @LT.lt Nat _ p.1 d := by
  induction l with
  | nil => intro _ p hp; cases hp
  | cons q r ih =>
    intro h p hp
    rcases List.mem_cons.mp hp with e | hp
    · rw [e]; exact h.1
    · exact ih h.2 p hp
theorem sw1 {h₀ h : Heap} {L : Addr} {p q : Addr × Obj} {r : Led} (N : News h₀ L h (p :: q :: r)) : News h₀ L h (q :: p :: r) := fun x hx => N x (by simp only [List.mem_cons] at hx ⊢; rcases hx with h | h | h <;> simp [h])
theorem sw2 {h₀ h : Heap} {L : Addr} {p p' q : Addr × Obj} {r : Led} (N : News h₀ L h (p :: p' :: q :: r)) : News h₀ L h (q :: p :: p' :: r) := fun x hx => N x (by simp only [List.mem_cons] at hx ⊢; rcases hx with h | h | h | h <;> simp [h])
theorem sw3 {h₀ h : Heap} {L : Addr} {p p' p'' q : Addr × Obj} {r : Led} (N : News h₀ L h (p :: p' :: p'' :: q :: r)) : News h₀ L h (q :: p :: p' :: p'' :: r) := fun x hx => N x (by simp only [List.mem_cons] at hx ⊢; rcases hx with h | h | h | h | h <;> simp [h])
theorem drops {h₀ h : Heap} {L : Addr} {a b : Led} (N : News h₀ L h a) (hs : ∀ p ∈ b, p ∈ a) : News h₀ L h b := fun x hx => N x (hs x hx)

section
variable {prog : Program} {w : World} {A : Around} {E : Value → Shared → Prop} {s : Shared} {h₀ : Heap} {L l : Addr} {m : Str → Option Value} {news : List (Addr × Obj)} {vs : List Value} {n : Nat} {k : Int} {t u : Tok} {v : Value}
theorem item_any {value slice : PySem.Expr} {Q : Value → Shared → Prop} (N : News h₀ L s.heap news) (hm : (l, listOf vs.toArray n) ∈ news) (h0 : 0 ≤ k) (hhi : k < 2 ^ 63) (hx : k < vs.length) (h : ∀ v, v ∈ vs → Q v s)
    (hs : subscripted slice false (.ref l) (.int k u) = operate [.ref l, .int k u] (getItem (.ref l) (.int k u)) := by with_unfolding_all rfl) :
    wpAny (model prog w) A (subscriptTail value slice (.ref l) (.int k u)) Q E s := by
  have hl : s.heap.IsList l vs.toArray := PySem.IsL.isList (n := n) (N _ hm).1
  have hlt : k.toNat < vs.length := by omega
  exact tail_any hl.typeIs slot_list_getitem.lookup (wpAny_getItem_list hl h0 hhi (by simp [hlt]) (h _ (List.getElem_mem hlt))) hs
end

theorem len_any {prog : Program} {w : World} {A : Around} {E : Value → Shared → Prop} {s : Shared} {h₀ : Heap} {L l : Addr} {news : List (Addr × Obj)} {vs : List Value} {n : Nat} {Q : Value → Shared → Prop} (N : News h₀ L s.heap news) (hm : (l, listOf vs.toArray n) ∈ news) (hx : vs.length ≤ 1000)
    (h : Q (.int (vs.length : Int) (s.toks + 1)) { s with toks := s.toks + 1 + 1 }) : wpAny (model prog w) A (call (.builtin "len") [.ref l]) Q E s := by
  have hl : s.heap.IsList l vs.toArray := PySem.IsL.isList (n := n) (N _ hm).1
  refine len_list hl (by rw [List.size_toArray]; omega) ?_
  rw [List.size_toArray]; exact h
theorem words2 : True := by
  k_with "k_mem" => first | assumption | exact List.mem_cons_self | (refine List.mem_cons_of_mem _ ?_; k_mem) | (refine List.mem_append_right _ ?_; k_mem) | (refine List.mem_append_left _ ?_; k_mem)
  k_with "subscriptTail Name Call ref int" => (k_here; (with_reducible show wpAny _ _ (subscriptTail _ _ (Value.ref _) (Value.int _ _)) _ _ _); k_dflt (refine' item_any ?q8k1 ?q8k2 ?q8k3 ?q8k4 ?q8k5 ?_ ?q8k6; (case q8k1 => k_asm); (case q8k2 => k_mem); (case q8k3 => omega); (case q8k4 => omega); (case q8k5 => omega); (case q8k6 => with_unfolding_all rfl); k_whole); intro v' hv')
  k_with "call ref" => (k_here; (with_reducible show wpAny _ _ (call (Value.ref 337) _) _ _ _); k_dflt (refine' CallC.use (take_c _ _ _ _ _ _ _ _ _ _ ?q9h1 ?q9h2 ?q9h3 ?q9h4) ?q9k1 ?q9k2 ?q9k3 ?q9k4 ?q9k5 ?q9k6 ?q9k7 ?q9k8 ?_; (case q9k1 => k_asm); (case q9k2 => k_asm); (case q9k3 => k_asm); (case q9k4 => first | k_asm | exact sw1 (by k_asm) | exact sw2 (by k_asm) | exact sw3 (by k_asm)); (case q9k5 => k_asm); (case q9k6 => first | exact rfl | assumption); (case q9h1 => assumption); (case q9h2 => first | decide | omega); (case q9h3 => first | decide | omega); (case q9h4 => k_all); (case q9k7 => ktr_room); (case q9k8 => ktr_units); intro r' h' tk' news' F' N' hP'; (obtain ⟨k', t', x', y', ta', tb', n', e1', e2', hk0', hk1', hS'⟩ := hP'); subst e1' e2'; (try dsimp only); (try k_fold)))
  k_with "eval Call Name" => (k_here; (fail_if_success k_inBlock); (fail_if_success (with_reducible show wpAny _ _ (eval (Expr.Call (Expr.Name "range" _) _ _ _) _) _ _ _)); k_dflt (refine Call_ ?_))
  k_with "call builtin:len" => (k_here; (with_reducible show wpAny _ _ (call (Value.builtin "len") [Value.ref _]) _ _ _); k_dflt (refine' len_any ?q11k1 ?q11k2 ?q11k3 ?_; (case q11k1 => k_asm); (case q11k2 => k_mem); (case q11k3 => first | assumption | omega)))
  trivial
theorem one_c (w : World) (src th : Addr) (vs : List Value) (x y : Int) (ta tb : Tok) (n nn : Nat) (news : Led) (hs : SrcOk x y) (hm : (th, listOf vs.toArray nn) ∈ news) (hl : 0 < vs.length) (hl2 : vs.length ≤ 1000) (hoff : ∀ p ∈ news, p.1 ≠ src) :
    CallC w (.ref 344) [.ref src, .ref th] ((src, listOf #[.int x ta, .int y tb] n) :: news) 8 80 (fun r news' => ∃ x' y' ta' tb' n', news' = (src, listOf #[.int x' ta', .int y' tb'] n') :: news ∧ r ∈ vs ∧ SrcOk x' y') := by
  unfold CallC
  intro dp un gd cn cs a ccd cl outer A₀ base h₀ L m mean mg mb s Q E B F X N T hk hd hu hret
  refine wpAny_call ?_
  k_dflt ktr_enter
  k_steps
  all_goals (refine hret _ _ _ _ (by k_asm) (by k_asm) ⟨_, _, _, _, _, rfl, ?_, ?_⟩ <;> assumption)

structure Row where
  kind : Int
  prio : Int
  drop : Bool
  vlan : Int
def Row.Ok (r : Row) : Prop := (r.kind = 33024 ∨ r.kind = 34984) ∧ 0 ≤ r.prio ∧ r.prio ≤ 7 ∧ 0 ≤ r.vlan ∧ r.vlan ≤ 4094
abbrev rowObj (r : Row) (t1 t2 t3 : Tok) : Obj := { cls := .type "tuple", data := .seq #[.int r.kind t1, .int r.prio t2, .bool r.drop, .int r.vlan t3] }
theorem tag_sub {h₀ h : Heap} {L : Addr} {d s x y : Addr × Obj} {r : Led} (N : News h₀ L h (d :: s :: x :: y :: r)) : News h₀ L h (s :: d :: r) := fun p hp => N p (by simp only [List.mem_cons] at hp ⊢; rcases hp with h | h | h <;> simp [h])
theorem words3 : True := by
  k_with "call ref" => (k_here; (with_reducible show wpAny _ _ (call (Value.ref 344) _) _ _ _); k_dflt (refine' CallC.use (one_c _ _ _ _ _ _ _ _ _ _ _ ?q12h1 ?q12h2 ?q12h3 ?q12h4 ?q12h5) ?q12k1 ?q12k2 ?q12k3 ?q12k4 ?q12k5 ?q12k6 ?q12k7 ?q12k8 ?_; (case q12k1 => k_asm); (case q12k2 => k_asm); (case q12k3 => k_asm); (case q12k4 => first | k_asm | exact sw1 (by k_asm) | exact sw2 (by k_asm) | exact sw3 (by k_asm)); (case q12k5 => k_asm); (case q12k6 => first | exact rfl | assumption); (case q12h2 => k_mem); (case q12h1 => assumption); (case q12h3 => first | exact Nat.le_of_ble_eq_true rfl | omega); (case q12h4 => first | exact Nat.le_of_ble_eq_true rfl | omega); (case q12h5 => k_all); (case q12k7 => ktr_room); (case q12k8 => ktr_units); intro r' h' tk' news' F' N' hP'; (obtain ⟨x', y', ta', tb', n', e2', hv', hS'⟩ := hP'); subst e2'; (try dsimp only); (try k_fold)))
  trivial
theorem tag_c (w : World) (src : Addr) (x y : Int) (ta tb : Tok) (n : Nat) (news : Led) (hs : SrcOk x y) (hoff : ∀ p ∈ news, p.1 ≠ src) :
    CallC w (.ref 351) [.ref src] ((src, listOf #[.int x ta, .int y tb] n) :: news) 12 120 (fun r news' => ∃ a row t1 t2 t3 x' y' ta' tb' n', r = .ref a ∧ news' = (src, listOf #[.int x' ta', .int y' tb'] n') :: (a, rowObj row t1 t2 t3) :: news ∧ row.Ok ∧ SrcOk x' y' ∧ (∀ p ∈ news, @LT.lt Nat _ p.1 a) ∧ @LT.lt Nat _ src a) := by
  unfold CallC
  intro dp un gd cn cs a ccd cl outer A₀ base h₀ L m mean mg mb s Q E B F X N T hk hd hu hret
  refine wpAny_call ?_
  k_dflt ktr_enter
  k_steps
  rename (_ : Value) ∈ [_, _, _, _] => hv4
  rename (_ : Value) ∈ [_, _] => hv2
  rename @LT.lt Nat _ src _ ∧ _ => hl
  simp only [List.mem_cons, List.not_mem_nil, or_false] at hv2 hv4
  rcases hv2 with e2 | e2 <;> rcases hv4 with e4 | e4 | e4 | e4 <;> subst e2 <;> subst e4 <;>
    (refine hret _ _ _ _ (by k_asm) (tag_sub (by k_asm)) ⟨_, ⟨_, _, _, _⟩, _, _, _, _, _, _, _, _, rfl, rfl, ?_, by assumption, allLt_to (by first | exact hl.2.2.2 | exact hl.2.2), hl.1⟩; (dsimp only [Row.Ok]); omega)

abbrev tagDict (P : Params) (row : Row) (u1 u2 u3 u4 t1 t2 t3 : Tok) : Obj :=
  dictOf [{ hash := PyData.keyHash P (Str.ofString "kind"), key := Value.str (Str.ofString "kind") u1, val := Value.int row.kind t1 },
    { hash := PyData.keyHash P (Str.ofString "priority"), key := Value.str (Str.ofString "priority") u2, val := Value.int row.prio t2 },
    { hash := PyData.keyHash P (Str.ofString "may_drop"), key := Value.str (Str.ofString "may_drop") u3, val := Value.bool row.drop },
    { hash := PyData.keyHash P (Str.ofString "vlan"), key := Value.str (Str.ofString "vlan") u4, val := Value.int row.vlan t3 }] 4
/-- the ledger bears a Tag of row at v -/
def TagAt (P : Params) (news : Led) (v : Value) (row : Row) : Prop :=
  ∃ x dx u1 u2 u3 u4 t1 t2 t3, v = .ref x ∧ (x, instObj 209 dx) ∈ news ∧ (dx, tagDict P row u1 u2 u3 u4 t1 t2 t3) ∈ news
/-- the ledger has grown by newer objects -/
def Grow (news news' : Led) : Prop := ∃ tl : Led, news' = tl ++ news ∧ ∀ p ∈ news, ∀ q ∈ tl, @LT.lt Nat _ p.1 q.1
theorem TagAt.mono {P : Params} {news news' : Led} {v : Value} {row : Row} (h : TagAt P news v row) (hs : ∀ p ∈ news, p ∈ news') : TagAt P news' v row := by
  obtain ⟨x, dx, u1, u2, u3, u4, t1, t2, t3, e, h1, h2⟩ := h
  exact ⟨x, dx, u1, u2, u3, u4, t1, t2, t3, e, hs _ h1, hs _ h2⟩
theorem Grow.refl (news : Led) : Grow news news := ⟨[], rfl, fun _ _ _ h => nomatch h⟩
theorem Grow.cons1 {news : Led} {p : Addr × Obj} (h : ∀ q ∈ news, @LT.lt Nat _ q.1 p.1) : Grow news (p :: news) := ⟨[p], rfl, fun q hq r hr => by rw [List.mem_singleton.mp hr]; exact h q hq⟩
theorem Grow.cons2 {news : Led} {p q : Addr × Obj} (h : ∀ r ∈ news, @LT.lt Nat _ r.1 q.1) (hl : @LT.lt Nat _ q.1 p.1) : Grow news (p :: q :: news) := ⟨[p, q], rfl, fun r hr t ht => by
  have := h r hr
  simp only [List.mem_cons, List.not_mem_nil, or_false] at ht
  rcases ht with e | e <;> subst e
  · exact Nat.lt_trans this hl
  · exact this⟩
theorem Grow.trans {a b c : Led} (h : Grow a b) (h' : Grow b c) : Grow a c := by
  obtain ⟨t1, e1, l1⟩ := h
  obtain ⟨t2, e2, l2⟩ := h'
  subst e1 e2
  refine ⟨t2 ++ t1, (List.append_assoc ..).symm, fun p hp q hq => ?_⟩
  rcases List.mem_append.mp hq with hq | hq
  · exact l2 p (List.mem_append_right _ hp) q hq
  · exact l1 p hp q hq
theorem Grow.sub {a b : Led} (h : Grow a b) : ∀ p ∈ a, p ∈ b := by
  obtain ⟨t1, e1, _⟩ := h
  subst e1
  exact fun p hp => List.mem_append_right _ hp
theorem made_c (w : World) (a₁ : Addr) (row : Row) (t1 t2 t3 : Tok) (news : Led) (hm : (a₁, rowObj row t1 t2 t3) ∈ news) :
    CallC w (.ref 358) [.ref a₁] news 12 120 (fun r news' => Grow news news' ∧ TagAt w.params news' r row) := by
  unfold CallC
  intro dp un gd cn cs a ccd cl outer A₀ base h₀ L m mean mg mb s Q E B F X N T hk hd hu hret
  refine wpAny_call ?_
  k_dflt ktr_enter
  k_steps
  all_goals (refine hret _ _ _ _ (by k_asm) (by k_asm) ⟨Grow.cons2 (by assumption) (by assumption), _, _, _, _, _, _, _, _, _, rfl, by k_mem, by k_mem⟩)

/-- the ledger bears a told row at v -/
def RowAt (news : Led) (v : Value) (row : Row) : Prop := ∃ a t1 t2 t3, v = .ref a ∧ (a, rowObj row t1 t2 t3) ∈ news
theorem RowAt.mono {news news' : Led} {v : Value} {row : Row} (h : RowAt news v row) (hs : ∀ p ∈ news, p ∈ news') : RowAt news' v row := by
  obtain ⟨a, t1, t2, t3, e, h1⟩ := h
  exact ⟨a, t1, t2, t3, e, hs _ h1⟩
theorem ttold_c (w : World) (v : Value) (row : Row) (news : Led) (hm : TagAt w.params news v row) :
    CallC w (.ref 206) [v] news 12 120 (fun r news' => Grow news news' ∧ RowAt news' r row) := by
  obtain ⟨x, dx, u1, u2, u3, u4, t1, t2, t3, e, h1, h2⟩ := hm
  subst e
  unfold CallC
  intro dp un gd cn cs a ccd cl outer A₀ base h₀ L m mean mg mb s Q E B F X N T hk hd hu hret
  refine wpAny_call ?_
  k_dflt ktr_enter
  k_steps
  all_goals (refine hret _ _ _ _ (by k_asm) (by k_asm) ⟨Grow.cons1 (by assumption), _, _, _, _, rfl, by k_mem⟩)

theorem bb_lookup : typeLookup (.type "bytes") "__bytes__" = pure (some (.builtin "bytes.__bytes__")) := by rw [typeLookup_type, builtinLookup_eq_fast]; kernel_rfl
theorem bi_no_bytes : typeLookup (.type "int") "__bytes__" = pure none := by rw [typeLookup_type, builtinLookup_eq_fast]; kernel_rfl
theorem bi_index : typeLookup (.type "int") "__index__" = pure (some (.builtin "int.__index__")) := by rw [typeLookup_type, builtinLookup_eq_fast]; kernel_rfl
section
variable {prog : Program} {w : World} {A : Around} {E : Value → Shared → Prop} {s : Shared}
theorem bb_new {b : Array UInt8} {t : Tok} {Q : Value → Shared → Prop} (hQ : Q (.bytes b t) s) :
    codeAny (model prog w) A (.call (.builtin "bytes.__new__") ⟨[.type "bytes", .bytes b t], []⟩) (wants Q E) s := by
  refine codeAny_of_tree ?_
  show wpAny _ A.in1 (do checkBuiltinCall "bytes.__new__" ⟨[.type "bytes", .bytes b t], []⟩; again (.builtin "bytes.__new__" ⟨[.type "bytes", .bytes b t], []⟩)) _ _ s
  refine wpAny_bind (wpAny_of_eq (F.bm_newCall _) (wpAny_pure ⟨plainId_quiet F.bm_plain _, codeAny_builtin F.bm_entry ?_⟩))
  rw [Around.under_plainId F.bm_plain _]
  have hT : s.TypeIs (.bytes b t) "bytes" := PySem.W.typeIs_bytes _ _ _
  unfold Builtin.«bytes.__new__»
  refine wpAny_bind (wpAny_of_eq (a := true) rfl ?_)
  refine bm_if_false rfl ?_
  refine wpAny_bind (wpAny_of_eq F.bm_sub ?_)
  refine bm_if_false rfl ?_
  refine wpAny_bind (wpAny_of_eq (F.bm_bind _) ?_)
  refine wpAny_bind (wpAny_of_eq (a := ()) rfl ?_)
  refine wpAny_bind (wpAny_of_eq (a := ()) rfl ?_)
  refine bm_if_false rfl ?_
  refine wpAny_bind (wpAny_specialOf hT bb_lookup ?_)
  dsimp only
  refine wpAny_bind ?_
  refine wpAny_rule ?_
  refine wpAny_bind (wpAny_of_eq (a := Value.type "bytes") rfl ?_)
  refine bm_if_true (by decide) ?_
  show wpAny _ _ (if (Value.type "bytes" == Value.type "bytes") = true then _ else _) _ _ _
  refine bm_if_true (by decide) ?_
  exact wpAny_pure hQ
theorem bz_new {n : Int} {t : Tok} {Q : Value → Shared → Prop} (h0 : 0 ≤ n) (h1 : n ≤ 1000) (hQ : ∀ t k, Q (.bytes (Array.replicate n.toNat 0) t) { s with toks := k }) :
    codeAny (model prog w) A (.call (.builtin "bytes.__new__") ⟨[.type "bytes", .int n t], []⟩) (wants Q E) s := by
  refine codeAny_of_tree ?_
  show wpAny _ A.in1 (do checkBuiltinCall "bytes.__new__" ⟨[.type "bytes", .int n t], []⟩; again (.builtin "bytes.__new__" ⟨[.type "bytes", .int n t], []⟩)) _ _ s
  refine wpAny_bind (wpAny_of_eq (F.bm_newCall _) (wpAny_pure ⟨plainId_quiet F.bm_plain _, codeAny_builtin F.bm_entry ?_⟩))
  rw [Around.under_plainId F.bm_plain _]
  have hT : s.TypeIs (.int n t) "int" := typeIs_int _ _ _
  unfold Builtin.«bytes.__new__»
  refine wpAny_bind (wpAny_of_eq (a := true) rfl ?_)
  refine bm_if_false rfl ?_
  refine wpAny_bind (wpAny_of_eq F.bm_sub ?_)
  refine bm_if_false rfl ?_
  refine wpAny_bind (wpAny_of_eq (F.bm_bind _) ?_)
  refine wpAny_bind (wpAny_of_eq (a := ()) rfl ?_)
  refine wpAny_bind (wpAny_of_eq (a := ()) rfl ?_)
  refine bm_if_false rfl ?_
  refine wpAny_bind (wpAny_specialOf hT bi_no_bytes ?_)
  dsimp only
  refine wpAny_bind (wpAny_of_eq (a := false) rfl ?_)
  refine bm_if_false rfl ?_
  refine wpAny_bind (wpAny_specialOf hT bi_index ?_)
  refine bm_if_false rfl ?_
  refine wpAny_bind (wpAny_attempt (wpAny_of_eq (rfl : asIndex (.int n t) = pure n) ?_))
  dsimp only
  refine bm_if_false (by simp [Builtin.Bytes.fitsIndex]; omega) ?_
  rw [if_neg (by omega : ¬ n < 0), if_neg (by omega : ¬ n > 2 ^ 63 - 34)]
  refine bm_if_false (by simp [Builtin.Bytes.tooLong, sizeLine]; omega) ?_
  refine wpAny_bind (wpAny_rule (wpAny_bind (wpAny_mkBytes ?_ (by rw [Array.size_replicate, sizeLine_eq]; omega))))
  show wpAny _ _ (if (Value.type "bytes" == Value.type "bytes") = true then _ else _) _ _ _
  refine bm_if_true (by decide) ?_
  exact wpAny_pure (hQ _ _)
theorem call_bytes_bytes {b : Array UInt8} {t : Tok} {Q : Value → Shared → Prop} (hQ : Q (.bytes b t) s) : wpAny (model prog w) A (call (.type "bytes") [.bytes b t]) Q E s := by
  refine callType_codes (Q₁ := fun obj s₁ => s₁.TypeIs obj "bytes" ∧ Q obj s₁) F.bm_called (F.bm_typeCall _) F.entry_object_init
    (bb_new ⟨PySem.W.typeIs_bytes _ _ _, hQ⟩) fun obj s₁ h₁ => ?_
  exact ⟨h₁.1, F.args_object_init_2 obj _, object_init_meets F.bm_called.init.lookup F.bm_called.made (by decide) prog w A.in1 _ s₁ ⟨h₁.1, rfl, h₁.2⟩⟩
theorem call_bytes_zeros {n : Int} {t : Tok} {Q : Value → Shared → Prop} (h0 : 0 ≤ n) (h1 : n ≤ 1000) (hQ : ∀ t k, Q (.bytes (Array.replicate n.toNat 0) t) { s with toks := k }) : wpAny (model prog w) A (call (.type "bytes") [.int n t]) Q E s := by
  refine callType_codes (Q₁ := fun obj s₁ => s₁.TypeIs obj "bytes" ∧ Q obj s₁) F.bm_called (F.bm_typeCall _) F.entry_object_init
    (bz_new h0 h1 fun t k => ⟨PySem.W.typeIs_bytes _ _ _, hQ t k⟩) fun obj s₁ h₁ => ?_
  exact ⟨h₁.1, F.args_object_init_2 obj _, object_init_meets F.bm_called.init.lookup F.bm_called.made (by decide) prog w A.in1 _ s₁ ⟨h₁.1, rfl, h₁.2⟩⟩
end
theorem words4 : True := by
  k_with "call type:bytes" => (k_here; (with_reducible show wpAny _ _ (call (Value.type "bytes") [Value.bytes _ _]) _ _ _); k_dflt (refine call_bytes_bytes ?_))
  k_with "call type:bytes" => (k_here; (with_reducible show wpAny _ _ (call (Value.type "bytes") [Value.int _ _]) _ _ _); k_dflt (refine call_bytes_zeros (by omega) (by omega) ?_; intro _ _))
  trivial
structure Frm where
  tg : Int
  sc : Int
  rows : List Row
  kind : Option Int
  pay : Array UInt8
def kindV : Option Int → Tok → Value
  | none, _ => .none
  | some i, t => .int i t
abbrev tupObj (vs : List Value) (n : Nat) : Obj := { cls := .type "tuple", data := .seq vs.toArray n }
abbrev frameDict (P : Params) (tg sc : Int) (T : Addr) (kv : Value) (pay : Array UInt8) (u1 u2 u3 u4 u5 t1 t2 t5 : Tok) : Obj :=
  dictOf [{ hash := PyData.keyHash P (Str.ofString "target"), key := Value.str (Str.ofString "target") u1, val := Value.int tg t1 },
    { hash := PyData.keyHash P (Str.ofString "source"), key := Value.str (Str.ofString "source") u2, val := Value.int sc t2 },
    { hash := PyData.keyHash P (Str.ofString "tags"), key := Value.str (Str.ofString "tags") u3, val := Value.ref T },
    { hash := PyData.keyHash P (Str.ofString "kind"), key := Value.str (Str.ofString "kind") u4, val := kv },
    { hash := PyData.keyHash P (Str.ofString "payload"), key := Value.str (Str.ofString "payload") u5, val := Value.bytes pay t5 }] 5
def TagsAt (P : Params) (news : Led) : List Value → List Row → Prop
  | [], [] => True
  | v :: vs, r :: rs => TagAt P news v r ∧ TagsAt P news vs rs
  | _, _ => False
theorem TagsAt.mono {P : Params} {news news' : Led} (hs : ∀ p ∈ news, p ∈ news') : ∀ {vs : List Value} {rows : List Row}, TagsAt P news vs rows → TagsAt P news' vs rows
  | [], [], _ => trivial
  | _ :: _, _ :: _, h => ⟨h.1.mono hs, TagsAt.mono hs h.2⟩
  | [], _ :: _, h => h.elim
  | _ :: _, [], h => h.elim
theorem TagsAt.length {P : Params} {news : Led} : ∀ {vs : List Value} {rows : List Row}, TagsAt P news vs rows → vs.length = rows.length
  | [], [], _ => rfl
  | _ :: _, _ :: _, h => by rw [List.length_cons, List.length_cons, h.2.length]
  | [], _ :: _, h => h.elim
  | _ :: _, [], h => h.elim
/-- the ledger bears a Frame at v -/
def FrameAt (P : Params) (news : Led) (v : Value) (f : Frm) : Prop :=
  ∃ x dx T vs n kt u1 u2 u3 u4 u5 t1 t2 t5, v = .ref x ∧ (x, instObj 243 dx) ∈ news ∧ (dx, frameDict P f.tg f.sc T (kindV f.kind kt) f.pay u1 u2 u3 u4 u5 t1 t2 t5) ∈ news ∧ (T, tupObj vs n) ∈ news ∧ TagsAt P news vs f.rows
theorem FrameAt.mono {P : Params} {news news' : Led} {v : Value} {f : Frm} (h : FrameAt P news v f) (hs : ∀ p ∈ news, p ∈ news') : FrameAt P news' v f := by
  obtain ⟨x, dx, T, vs, n, kt, u1, u2, u3, u4, u5, t1, t2, t5, e, h1, h2, h3, h4⟩ := h
  exact ⟨x, dx, T, vs, n, kt, u1, u2, u3, u4, u5, t1, t2, t5, e, hs _ h1, hs _ h2, hs _ h3, h4.mono hs⟩
theorem words5 : True := by
  k_with "call type:tuple" => (k_here; (with_reducible show wpAny _ _ (call (Value.type _) [Value.ref _]) _ _ _); k_dflt (refine call_tuple_tup (News.isTup (by k_asm) (by k_mem)) ?_))
  trivial
theorem wtags_c (w : World) (v : Value) (f : Frm) (T' : Addr) (vs' : List Value) (n' : Nat) (rows' : List Row) (news : Led) (hf : FrameAt w.params news v f) (hT : (T', tupObj vs' n') ∈ news) (ht : TagsAt w.params news vs' rows') :
    CallC w (.ref 274) [v, .ref T'] news 16 160 (fun r news' => Grow news news' ∧ FrameAt w.params news' r { f with rows := rows' }) := by
  obtain ⟨tg, sc, rows, kind, pay⟩ := f
  obtain ⟨x, dx, T0, vs, n, kt, u1, u2, u3, u4, u5, t1, t2, t5, e, h1, h2, h3, h4⟩ := hf
  subst e
  unfold CallC
  intro dp un gd cn cs a ccd cl outer A₀ base h₀ L m mean mg mb s Q E B F X N T hk hd hu hret
  cases kind
  all_goals (
    dsimp only [kindV] at h2
    refine wpAny_call ?_
    k_dflt ktr_enter
    k_steps)
  all_goals (refine hret _ _ _ _ (by k_asm) (by k_asm) ⟨Grow.cons2 (by assumption) (by assumption), _, _, _, _, _, kt, _, _, _, _, _, _, _, _, rfl, by k_mem, by k_mem, by k_mem, ht.mono (fun _ h => List.mem_cons_of_mem _ (List.mem_cons_of_mem _ h))⟩)

theorem tagsCons {P : Params} {news : Led} {v : Value} {r : Row} {vs : List Value} {rs : List Row} (h : TagAt P news v r) (h' : TagsAt P news vs rs) : TagsAt P news ([v] ++ vs) (r :: rs) := ⟨h, h'⟩
theorem tup_add {prog : Program} {w : World} {A : Around} {E : Value → Shared → Prop} {s : Shared} {h₀ : Heap} {L : Addr} {m : Str → Option Value} {news : List (Addr × Obj)} {a b : Addr} {xs ys : List Value} {na nb : Nat} {Q : Value → Shared → Prop}
    (F : Fr h₀ L s.heap m) (N : News h₀ L s.heap news) (ha : (a, tupObj xs na) ∈ news) (hb : (b, tupObj ys nb) ∈ news) (hx : xs ≠ []) (hz : xs.length + ys.length ≤ 16384)
    (h : ∀ D k h' tl, Fr h₀ L h' m → News h₀ L h' (tl ++ news) → (∀ p ∈ news, ∀ q ∈ tl, @LT.lt Nat _ p.1 q.1) → (D, tupObj (xs ++ ys) k) ∈ tl ++ news → Q (.ref D) { s with heap := h' }) : wpAny (model prog w) A (binaryOp .Add (.ref a) (.ref b)) Q E s := by
  refine add_tuples F N (News.isTup N ha) (News.isTup N hb) (fun q => absurd q hx) (fun _ q => ?_) (fun _ _ h' F' N' => ?_) (by rw [sizeLine_eq]; omega)
  · subst q
    exact h a na s.heap [] F N (fun _ _ _ hq => nomatch hq) (by simpa using ha)
  · refine h _ 0 h' [(s.heap.objs.size, tupObj (xs ++ ys) 0)] F' N' (fun p hp q hq => ?_) (List.mem_cons_self)
    rw [List.mem_singleton.mp hq]
    exact Heap.lt_size (N p hp).1
theorem words6 : True := by
  k_with "kqd_sub" => (intro p9 h9; k_mem)
  k_with "ktr_rel" => first | assumption | (refine' TagAt.mono ?q17h ?q17s; (case q17h => assumption); (case q17s => kqd_sub)) | (refine' TagsAt.mono ?q17s ?q17h; (case q17h => assumption); (case q17s => kqd_sub)) | (refine' FrameAt.mono ?q17h ?q17s; (case q17h => assumption); (case q17s => kqd_sub)) | (refine' RowAt.mono ?q17h ?q17s; (case q17h => assumption); (case q17s => kqd_sub)) | (refine' tagsCons ?q17u1 ?q17u2; (case q17u1 => ktr_rel); (case q17u2 => ktr_rel)) | exact Grow.refl _ | exact Grow.cons2 (by assumption) (by assumption) | (refine' Grow.trans ?q17a ⟨_, rfl, ?q17b⟩; (case q17b => assumption); (case q17a => ktr_rel)) | (refine' Grow.trans ?q17a (Grow.cons1 ?q17b); (case q17b => first | assumption | exact allLt_to (by assumption)); (case q17a => ktr_rel))
  k_with "binaryOp Add" => (k_here; (with_reducible show wpAny _ _ (binaryOp _ (Value.ref _) (Value.ref _)) _ _ _); k_dflt (refine' tup_add ?q18k1 ?q18k2 ?q18k3 ?q18k4 ?q18k5 ?q18k6 ?_; (case q18k1 => k_asm); (case q18k2 => k_asm); (case q18k3 => k_mem); (case q18k4 => k_mem); (case q18k5 => exact List.cons_ne_nil _ _); (case q18k6 => (simp only [List.length_cons, List.length_nil]; omega))); intro D' k' h' tl' F' N' l' hm')
  k_with "call ref" => (k_here; (with_reducible show wpAny _ _ (call (Value.ref 274) _) _ _ _); k_dflt (refine' CallC.use (wtags_c _ _ _ _ _ _ _ _ ?q19h1 ?q19h2 ?q19h3) ?q19k1 ?q19k2 ?q19k3 ?q19k4 ?q19k5 ?q19k6 ?q19k7 ?q19k8 ?_; (case q19k1 => k_asm); (case q19k2 => k_asm); (case q19k3 => k_asm); (case q19k4 => first | k_asm | exact sw1 (by k_asm) | exact sw2 (by k_asm) | exact sw3 (by k_asm)); (case q19k5 => k_asm); (case q19k6 => first | exact rfl | assumption); (case q19h1 => ktr_rel); (case q19h2 => k_mem); (case q19h3 => ktr_rel); (case q19k7 => ktr_room); (case q19k8 => ktr_units); intro r' h' tk' news' F' N' hP'; (obtain ⟨⟨tl', e1', hg'⟩, hf'⟩ := hP'); subst e1'; (try dsimp only); (try k_fold)))
  trivial
theorem pushed_c (w : World) (v t : Value) (f : Frm) (row : Row) (news : Led) (hf : FrameAt w.params news v f) (ht : TagAt w.params news t row) (hl : f.rows.length ≤ 1000) :
    CallC w (.ref 281) [v, t] news 20 200 (fun r news' => Grow news news' ∧ FrameAt w.params news' r { f with rows := row :: f.rows }) := by
  have hf0 := hf
  have ht0 := ht
  obtain ⟨tg, sc, rows, kind, pay⟩ := f
  obtain ⟨x, dx, T0, vs, n, kt, u1, u2, u3, u4, u5, t1, t2, t5, e, h1, h2, h3, h4⟩ := hf
  obtain ⟨tx, tdx, v1, v2, v3, v4, w1, w2, w3, e', g1, g2⟩ := ht
  subst e e'
  have hlen := h4.length
  dsimp only at hl h4 hlen
  unfold CallC
  intro dp un gd cn cs a ccd cl outer A₀ base h₀ L m mean mg mb s Q E B F X N T hk hd hu hret
  refine wpAny_call ?_
  k_dflt ktr_enter
  k_steps
  all_goals (refine hret _ _ _ _ (by k_asm) (by k_asm) ⟨?_, by assumption⟩; ktr_rel)

section
variable {prog : Program} {w : World} {A : Around} {E : Value → Shared → Prop} {s : Shared} {h₀ : Heap} {L : Addr} {m : Str → Option Value} {news : List (Addr × Obj)} {a b : Addr} {xs : List Value} {na nb : Nat} {Q : Value → Shared → Prop}
theorem isTuple_of (N : News h₀ L s.heap news) (ha : (a, tupObj xs na) ∈ news) : s.heap.IsTuple a xs.toArray := ⟨_, (N _ ha).1, rfl, _, rfl⟩
theorem tup_eq0 (N : News h₀ L s.heap news) (ha : (a, tupObj xs na) ∈ news) (hb : (b, tupObj [] nb) ∈ news) (hu : A.units < cLine) (h : Q (.bool xs.isEmpty) s) : wpAny (model prog w) A (compareOp .Eq (.ref a) (.ref b)) Q E s := by
  refine SeqAt.eq_tupleAt (e := fun _ => true) (isTuple_of N ha) (isTuple_of N hb) hu (fun j h1 h2 => absurd h2 (by simp)) ?_
  have e : ((List.range (min xs.toArray.size ([] : List Value).toArray.size)).all (fun _ => true) && xs.toArray.size == ([] : List Value).toArray.size) = xs.isEmpty := by cases xs <;> simp
  rw [e]; exact h
theorem tup_ne0 (N : News h₀ L s.heap news) (ha : (a, tupObj xs na) ∈ news) (hb : (b, tupObj [] nb) ∈ news) (hu : A.units < cLine) (h : Q (.bool (!xs.isEmpty)) s) : wpAny (model prog w) A (compareOp .NotEq (.ref a) (.ref b)) Q E s := by
  refine SeqAt.RcNeAt.tuples (e := fun _ => true) (isTuple_of N ha) (isTuple_of N hb) hu (fun j h1 h2 => absurd h2 (by simp)) prog w E Q ?_
  have e : ((List.range (min xs.toArray.size ([] : List Value).toArray.size)).all (fun _ => true) && xs.toArray.size == ([] : List Value).toArray.size) = xs.isEmpty := by cases xs <;> simp
  rw [e]; exact h
theorem tup_head {value slice : PySem.Expr} {v : Value} {vs : List Value} {u : Tok} (N : News h₀ L s.heap news) (ha : (a, tupObj (v :: vs) na) ∈ news) (hl : vs.length ≤ 1000) (h : Q v s)
    (hs : subscripted slice false (.ref a) (.int 0 u) = operate [.ref a, .int 0 u] (getItem (.ref a) (.int 0 u)) := by with_unfolding_all rfl) :
    wpAny (model prog w) A (subscriptTail value slice (.ref a) (.int 0 u)) Q E s :=
  item_tupleT (j := 0) (News.isTup N ha) (by decide) (by decide) (by simp [seqIndex?]) rfl h hs
end
theorem words7 : True := by
  k_with "compareOp Eq ref ref" => (k_here; (with_reducible show wpAny _ _ (compareOp CmpOp.Eq (Value.ref _) (Value.ref _)) _ _ _); k_dflt (refine' tup_eq0 ?q20k1 ?q20k2 ?q20k3 ?q20k4 ?_; (case q20k1 => k_asm); (case q20k2 => k_mem); (case q20k3 => k_mem); (case q20k4 => ktr_units)); (try dsimp only [List.isEmpty]))
  k_with "compareOp NotEq ref ref" => (k_here; (with_reducible show wpAny _ _ (compareOp CmpOp.NotEq (Value.ref _) (Value.ref _)) _ _ _); k_dflt (refine' tup_ne0 ?q21k1 ?q21k2 ?q21k3 ?q21k4 ?_; (case q21k1 => k_asm); (case q21k2 => k_mem); (case q21k3 => k_mem); (case q21k4 => ktr_units)); (try dsimp only [List.isEmpty, Bool.not_true, Bool.not_false]))
  k_with "subscriptTail" => (k_here; (with_reducible show wpAny _ _ (subscriptTail _ _ (Value.ref _) (Value.int _ _)) _ _ _); k_dflt (refine' tup_head ?q22k1 ?q22k2 ?q22k3 ?_ ?q22k6; (case q22k1 => k_asm); (case q22k2 => k_mem); (case q22k3 => assumption); (case q22k6 => with_unfolding_all rfl); k_whole))
  trivial
theorem outer_c (w : World) (v : Value) (tg sc : Int) (row : Row) (rows : List Row) (kind : Option Int) (pay : Array UInt8) (news : Led) (hl : rows.length ≤ 1000) (hf : FrameAt w.params news v ⟨tg, sc, row :: rows, kind, pay⟩) :
    CallC w (.ref 288) [v] news 20 200 (fun r news' => Grow news news' ∧ TagAt w.params news' r row) := by
  have hf0 := hf
  obtain ⟨x, dx, T0, vs, n, kt, u1, u2, u3, u4, u5, t1, t2, t5, e, h1, h2, h3, h4⟩ := hf
  subst e
  cases vs with
  | nil => exact h4.elim
  | cons v0 vs =>
  obtain ⟨h4, h5⟩ := h4
  have h40 := h4
  have hl' : vs.length ≤ 1000 := by rw [h5.length]; exact hl
  obtain ⟨tx, tdx, v1, v2, v3, v4, w1, w2, w3, e', g1, g2⟩ := h4
  subst e'
  unfold CallC
  intro dp un gd cn cs a ccd cl outer A₀ base h₀ L m mean mg mb s Q E B F X N T hk hd hu hret
  refine wpAny_call ?_
  k_dflt ktr_enter
  k_steps
  all_goals (refine hret _ _ _ _ (by k_asm) (by k_asm) ⟨?_, ?_⟩ <;> ktr_rel)

theorem words8 : True := by
  k_with "call ref" => (k_here; (with_reducible show wpAny _ _ (call (Value.ref 288) _) _ _ _); k_dflt (refine' CallC.use (outer_c _ _ _ _ _ _ _ _ _ ?q23h1 ?q23h2) ?q23k1 ?q23k2 ?q23k3 ?q23k4 ?q23k5 ?q23k6 ?q23k7 ?q23k8 ?_; (case q23k1 => k_asm); (case q23k2 => k_asm); (case q23k3 => k_asm); (case q23k4 => first | k_asm | exact sw1 (by k_asm) | exact sw2 (by k_asm) | exact sw3 (by k_asm)); (case q23k5 => k_asm); (case q23k6 => first | exact rfl | assumption); (case q23h2 => ktr_rel); (case q23h1 => assumption); (case q23k7 => ktr_room); (case q23k8 => ktr_units); intro r' h' tk' news' F' N' hP'; (obtain ⟨⟨tl', e1', hg'⟩, ht'⟩ := hP'); subst e1'; (try dsimp only); (try k_fold)))
  trivial
def vlan0 : List Row → Int
  | [] => 0
  | r :: _ => r.vlan
def prio0 : List Row → Int
  | [] => 0
  | r :: _ => r.prio
theorem ovlan_c (w : World) (v : Value) (tg sc : Int) (rows : List Row) (kind : Option Int) (pay : Array UInt8) (news : Led) (hl : rows.length ≤ 1000) (hf : FrameAt w.params news v ⟨tg, sc, rows, kind, pay⟩) :
    CallC w (.ref 302) [v] news 20 200 (fun r news' => Grow news news' ∧ ∃ t, r = .int (vlan0 rows) t) := by
  have hf0 := hf
  obtain ⟨x, dx, T0, vs, n, kt, u1, u2, u3, u4, u5, t1, t2, t5, e, h1, h2, h3, h4⟩ := hf
  subst e
  cases rows with
  | nil =>
    cases vs with
    | cons v0 vs => exact h4.elim
    | nil =>
    unfold CallC
    intro dp un gd cn cs a ccd cl outer A₀ base h₀ L m mean mg mb s Q E B F X N T hk hd hu hret
    refine wpAny_call ?_
    k_dflt ktr_enter
    k_steps
    all_goals (refine hret _ _ _ _ (by k_asm) (by k_asm) ⟨?_, _, rfl⟩ <;> ktr_rel)
  | cons row rows =>
    cases vs with
    | nil => exact h4.elim
    | cons v0 vs =>
    obtain ⟨h4, h5⟩ := h4
    obtain ⟨tx, tdx, v1, v2, v3, v4, w1, w2, w3, e', g1, g2⟩ := h4
    subst e'
    have hl' : vs.length ≤ 1000 := by rw [h5.length]; exact Nat.le_of_succ_le hl
    unfold CallC
    intro dp un gd cn cs a ccd cl outer A₀ base h₀ L m mean mg mb s Q E B F X N T hk hd hu hret
    refine wpAny_call ?_
    k_dflt ktr_enter
    k_steps
    all_goals (refine hret _ _ _ _ (by k_asm) (by k_asm) ⟨?_, _, rfl⟩ <;> ktr_rel)
theorem prio_c (w : World) (v : Value) (tg sc : Int) (rows : List Row) (kind : Option Int) (pay : Array UInt8) (news : Led) (hl : rows.length ≤ 1000) (hf : FrameAt w.params news v ⟨tg, sc, rows, kind, pay⟩) :
    CallC w (.ref 309) [v] news 20 200 (fun r news' => Grow news news' ∧ ∃ t, r = .int (prio0 rows) t) := by
  have hf0 := hf
  obtain ⟨x, dx, T0, vs, n, kt, u1, u2, u3, u4, u5, t1, t2, t5, e, h1, h2, h3, h4⟩ := hf
  subst e
  cases rows with
  | nil =>
    cases vs with
    | cons v0 vs => exact h4.elim
    | nil =>
    unfold CallC
    intro dp un gd cn cs a ccd cl outer A₀ base h₀ L m mean mg mb s Q E B F X N T hk hd hu hret
    refine wpAny_call ?_
    k_dflt ktr_enter
    k_steps
    all_goals (refine hret _ _ _ _ (by k_asm) (by k_asm) ⟨?_, _, rfl⟩ <;> ktr_rel)
  | cons row rows =>
    cases vs with
    | nil => exact h4.elim
    | cons v0 vs =>
    obtain ⟨h4, h5⟩ := h4
    obtain ⟨tx, tdx, v1, v2, v3, v4, w1, w2, w3, e', g1, g2⟩ := h4
    subst e'
    have hl' : vs.length ≤ 1000 := by rw [h5.length]; exact Nat.le_of_succ_le hl
    unfold CallC
    intro dp un gd cn cs a ccd cl outer A₀ base h₀ L m mean mg mb s Q E B F X N T hk hd hu hret
    refine wpAny_call ?_
    k_dflt ktr_enter
    k_steps
    all_goals (refine hret _ _ _ _ (by k_asm) (by k_asm) ⟨?_, _, rfl⟩ <;> ktr_rel)

theorem tup_tail {prog : Program} {w : World} {A : Around} {E : Value → Shared → Prop} {s : Shared} {h₀ : Heap} {L : Addr} {m : Str → Option Value} {news : List (Addr × Obj)} {a : Addr} {v : Value} {vs : List Value} {na : Nat} {u : Tok} {value slice : PySem.Expr} {Q : Value → Shared → Prop}
    (F : Fr h₀ L s.heap m) (N : News h₀ L s.heap news) (ha : (a, tupObj (v :: vs) na) ∈ news) (hl : vs.length ≤ 1000)
    (h : ∀ D h', Fr h₀ L h' m → News h₀ L h' ((D, tupObj vs 0) :: news) → (∀ p ∈ news, @LT.lt Nat _ p.1 D) → Q (.ref D) { s with heap := h' })
    (hs : subscripted slice false (.ref a) (.ref s.heap.objs.size) = operate [.ref s.heap.objs.size, .ref a] (getItem (.ref a) (.ref s.heap.objs.size)) := by with_unfolding_all rfl)
    (hg : ∀ r, letTemporaryGo value (.ref a) r = pure () := by intro _; with_unfolding_all rfl) :
    wpAny (model prog w) A (subscriptTail value slice (.ref a) (.ref s.heap.objs.size)) Q E { s with heap := s.heap.push { cls := .type "slice", data := .fields #[.int 1 u, .none, .none] } } := by
  refine slice_tuple_from (a := 1) F N (News.isTup N ha) (Nat.le_refl _) (by simp) (fun h' F' N' => h _ h' F' N' fun p hp => Nat.lt_succ_of_lt (Heap.lt_size (N p hp).1)) hs hg ?_
  rw [List.size_toArray, sizeLine_eq, List.length_cons]; omega
theorem words9 : True := by
  k_with "subscriptTail Name Slice ref ref" => (k_here; (with_reducible show wpAny _ _ (subscriptTail _ (PySem.Expr.Slice _ none none _) (Value.ref _) (Value.ref _)) _ _ _); k_dflt (refine' tup_tail ?q24F ?q24N ?q24l ?q24z ?_ ?q24s ?q24t; (case q24F => k_asm); (case q24N => k_asm); (case q24l => k_mem); (case q24z => assumption); (case q24s => with_unfolding_all rfl); (case q24t => (intro _; with_unfolding_all rfl))); intro D' h' F' N' l1; (try k_lt l1))
  trivial
theorem pop_c (w : World) (v : Value) (tg sc : Int) (row : Row) (rows : List Row) (kind : Option Int) (pay : Array UInt8) (news : Led) (hl : rows.length ≤ 1000) (hf : FrameAt w.params news v ⟨tg, sc, row :: rows, kind, pay⟩) :
    CallC w (.ref 295) [v] news 40 400 (fun r news' => Grow news news' ∧ FrameAt w.params news' r ⟨tg, sc, rows, kind, pay⟩) := by
  have hf0 := hf
  have hf1 := hf
  obtain ⟨x, dx, T0, vs, n, kt, u1, u2, u3, u4, u5, t1, t2, t5, e, h1, h2, h3, h4⟩ := hf
  subst e
  cases vs with
  | nil => exact h4.elim
  | cons v0 vs =>
  obtain ⟨h4, h5⟩ := h4
  have h40 := h4
  have hlen := h5.length
  have hl' : vs.length ≤ 1000 := by rw [h5.length]; exact hl
  obtain ⟨tx, tdx, v1, v2, v3, v4, w1, w2, w3, e', g1, g2⟩ := h4
  subst e'
  unfold CallC
  intro dp un gd cn cs a ccd cl outer A₀ base h₀ L m mean mg mb s Q E B F X N T hk hd hu hret
  refine wpAny_call ?_
  k_dflt ktr_enter
  k_steps
  all_goals (refine hret _ _ _ _ (by k_asm) (by k_asm) ⟨?_, ?_⟩ <;> ktr_rel)

theorem tagMk {P : Params} {news : Led} {x dx : Addr} {k p i : Int} {d : Bool} {u1 u2 u3 u4 t1 t2 t3 : Tok} (h1 : (x, instObj 209 dx) ∈ news)
    (h2 : (dx, dictOf [{ hash := PyData.keyHash P (Str.ofString "kind"), key := Value.str (Str.ofString "kind") u1, val := Value.int k t1 },
    { hash := PyData.keyHash P (Str.ofString "priority"), key := Value.str (Str.ofString "priority") u2, val := Value.int p t2 },
    { hash := PyData.keyHash P (Str.ofString "may_drop"), key := Value.str (Str.ofString "may_drop") u3, val := Value.bool d },
    { hash := PyData.keyHash P (Str.ofString "vlan"), key := Value.str (Str.ofString "vlan") u4, val := Value.int i t3 }] 4) ∈ news) : TagAt P news (.ref x) ⟨k, p, d, i⟩ :=
  ⟨x, dx, u1, u2, u3, u4, t1, t2, t3, rfl, h1, h2⟩
theorem words10 : True := by
  k_with "ktr_rel" => first | (refine' tagMk ?q25h ?q25s; (case q25h => k_mem); (case q25s => k_mem)) | (refine' Grow.trans ?q25a (Grow.cons2 ?q25b ?q25c); (case q25c => assumption); (case q25b => first | assumption | exact allLt_to (by assumption)); (case q25a => ktr_rel))
  k_with "call ref" => (k_here; (with_reducible show wpAny _ _ (call (Value.ref 288) _) _ _ _); k_dflt (refine' CallC.use (outer_c _ _ _ _ _ _ _ _ _ ?q26h1 ?q26h2) ?q26k1 ?q26k2 ?q26k3 ?q26k4 ?q26k5 ?q26k6 ?q26k7 ?q26k8 ?_; (case q26k1 => k_asm); (case q26k2 => k_asm); (case q26k3 => k_asm); (case q26k4 => first | k_asm | exact sw1 (by k_asm) | exact sw2 (by k_asm) | exact sw3 (by k_asm)); (case q26k5 => k_asm); (case q26k6 => first | exact rfl | assumption); (case q26h2 => ktr_rel); (case q26h1 => assumption); (case q26k7 => ktr_room); (case q26k8 => ktr_units); intro r' h' tk' news' F' N' hP'; (obtain ⟨⟨tl', e1', hg'⟩, x', dx', u1', u2', u3', u4', t1', t2', t3', e2', g1', g2'⟩ := hP'); subst e1'; subst e2'; (try dsimp only); (try k_fold)))
  trivial
theorem wvlan_c (w : World) (v : Value) (i : Int) (ti : Tok) (tg sc : Int) (row : Row) (rows : List Row) (kind : Option Int) (pay : Array UInt8) (news : Led) (hl : rows.length ≤ 1000) (hf : FrameAt w.params news v ⟨tg, sc, row :: rows, kind, pay⟩) :
    CallC w (.ref 316) [v, .int i ti] news 40 400 (fun r news' => Grow news news' ∧ FrameAt w.params news' r ⟨tg, sc, ⟨row.kind, row.prio, row.drop, i⟩ :: rows, kind, pay⟩) := by
  have hf0 := hf
  obtain ⟨x, dx, T0, vs, n, kt, u1, u2, u3, u4, u5, t1, t2, t5, e, h1, h2, h3, h4⟩ := hf
  subst e
  cases vs with
  | nil => exact h4.elim
  | cons v0 vs =>
  obtain ⟨h4, h5⟩ := h4
  have hlen := h5.length
  have hl' : vs.length ≤ 1000 := by rw [h5.length]; exact hl
  unfold CallC
  intro dp un gd cn cs a ccd cl outer A₀ base h₀ L m mean mg mb s Q E B F X N T hk hd hu hret
  refine wpAny_call ?_
  k_dflt ktr_enter
  k_steps
  all_goals (refine hret _ _ _ _ (by k_asm) (by k_asm) ⟨?_, ?_⟩ <;> ktr_rel)
theorem wprio_c (w : World) (v : Value) (i : Int) (ti : Tok) (tg sc : Int) (row : Row) (rows : List Row) (kind : Option Int) (pay : Array UInt8) (news : Led) (hl : rows.length ≤ 1000) (hf : FrameAt w.params news v ⟨tg, sc, row :: rows, kind, pay⟩) :
    CallC w (.ref 323) [v, .int i ti] news 40 400 (fun r news' => Grow news news' ∧ FrameAt w.params news' r ⟨tg, sc, ⟨row.kind, i, row.drop, row.vlan⟩ :: rows, kind, pay⟩) := by
  have hf0 := hf
  obtain ⟨x, dx, T0, vs, n, kt, u1, u2, u3, u4, u5, t1, t2, t5, e, h1, h2, h3, h4⟩ := hf
  subst e
  cases vs with
  | nil => exact h4.elim
  | cons v0 vs =>
  obtain ⟨h4, h5⟩ := h4
  have hlen := h5.length
  have hl' : vs.length ≤ 1000 := by rw [h5.length]; exact hl
  unfold CallC
  intro dp un gd cn cs a ccd cl outer A₀ base h₀ L m mean mg mb s Q E B F X N T hk hd hu hret
  refine wpAny_call ?_
  k_dflt ktr_enter
  k_steps
  all_goals (refine hret _ _ _ _ (by k_asm) (by k_asm) ⟨?_, ?_⟩ <;> ktr_rel)

section
variable {prog : Program} {w : World} {M : Model} {A : Around} {E : Value → Shared → Prop} {R : Result → Shared → Prop} {h : Heap} {g : Array GenState} {d : Drawn} {t : Nat} {os : OsState}
variable {nm q : Str} {C N : Addr} {bs bm : List Value} {hdct : Bool} {sn : List Str} {sub : List Value} {ab : Bool} {col : Option Bool} {dd : Option Addr} {k0 k1 k2 k3 k5 : Option Value}

theorem exc_check_new {rest : List Value} {Q : Unit → Shared → Prop} (hcB : (Value.ref C :: bm).contains (.type "Exception") = true) (hC : h.get? C = some (excClassObj nm q C N bs bm hdct sn sub ab col dd k0 k1 k2 k3 k5 "Exception.__new__"))
    (hq : Q () ⟨h, g, d, t, os⟩) : wpAny M A (checkBuiltinCall "Exception.__new__" ⟨.ref C :: rest, []⟩) Q E ⟨h, g, d, t, os⟩ := by
  have F := PySem.F.excBase_Exception
  have hstar := F.noStar
  simp only [checkBuiltinCall, F.newKind, F.newSplit, F.newRow]
  repeat (first | refine wpAny_loadPart_at hC ?_ | (refine wpAny_isSubtype_exc hC ?_; rw [hcB]) | refine wpAny_staticBase_exc hC ?_ | refine wpAny_madeBy_exc hC ?_ | simp only [bne_self_eq_false, Bool.false_eq_true, if_false] | wp_step)
  exact hq
theorem exc_new {rest : List Value} (hcB : (Value.ref C :: bm).contains (.type "Exception") = true) (hcA : (Value.ref C :: bm).contains (.type "AttributeError") = false) (hcN : (Value.ref C :: bm).contains (.type "NameError") = false)
    (hC : h.get? C = some (excClassObj nm q C N bs bm hdct sn sub ab col dd k0 k1 k2 k3 k5 "Exception.__new__"))
    (hq : R (.ok (.ret (.ref (h.objs.size + 1)))) ⟨(h.push { cls := .type "tuple", data := .seq rest.toArray }).push
      { cls := .ref C, data := .fields #[.ref h.objs.size, .none, .none, .none, .bool false, .none] }, g, d, t, os⟩) (hrest : rest.length ≤ sizeLine) :
    codeAny (model prog w) A (.builtin "Exception.__new__" ⟨.ref C :: rest, []⟩) R ⟨h, g, d, t, os⟩ := by
  have F := PySem.F.excBase_Exception
  have hends := F.ends
  refine PySem.codeAny_builtinAt F.entry ?_
  unfold Builtin.«BaseException.__new__»
  refine PySem.wpAt_bind ?_
  show PySem.wpAt _ _ _ (stack >>= _) _ _ _
  refine PySem.wpAt_bind (PySem.wpAt_stack fun p below => PySem.wpAt_of_wpAny ?_)
  wp_walk
  refine PySem.wpAt_of_wpAny ?_
  rw [F.owner]
  repeat (first | with_reducible refine wpAny_madeHere_exc F.canon hC ?_ | with_reducible refine wpAny_loadPart_at hC ?_ | (with_reducible refine wpAny_isSubtype_exc hC ?_; first | rw [hcB] | rw [hcA] | rw [hcN]) | wp_step)
  show R _ _
  rw [Heap.size_push]
  exact hq
end

abbrev excObj (C tp : Addr) : Obj := { cls := .ref C, data := .fields #[.ref tp, .none, .none, .none, .bool false, .none] }
section
variable {prog : Program} {w : World} {A : Around} {R : Result → Shared → Prop} {h : Heap} {g : Array GenState} {d : Drawn} {t : Nat} {os : OsState} {K : Frag}
variable {nm q : Str} {C N fI : Addr} {bs bm : List Value} {hdct : Bool} {sn : List Str} {sub : List Value} {col : Option Bool} {dd : Option Addr} {k0 k1 k2 k3 k5 : Option Value}
theorem exc_core {rest : List Value} (X : K.In h) (hcB : (Value.ref C :: bm).contains (.type "Exception") = true) (hcA : (Value.ref C :: bm).contains (.type "AttributeError") = false) (hcN : (Value.ref C :: bm).contains (.type "NameError") = false)
    (hC : h.get? C = some (excClassObj nm q C N bs bm hdct sn sub false col dd k0 k1 k2 k3 k5 "Exception.__new__"))
    (hcall : specialIn K (.ref C) "__call__" = some (some (.builtin "type.__call__"))) (htyp : instIn K (.ref C) (.type "type") = some true) (hi : findIn K (.ref C) "__init__" = some (some (.ref fI))) (hf : typeIn K (.ref fI) = some (.type "function"))
    (hq : codeAny (model prog w) (A.under (.builtin "type.__call__" ⟨.ref C :: rest, []⟩)) (.call (.ref fI) ⟨.ref (h.objs.size + 1) :: rest, []⟩) (InitBack (h.objs.size + 1) R)
      ⟨(h.push { cls := .type "tuple", data := .seq rest.toArray }).push (excObj C h.objs.size), g, d, t, os⟩) (hrest : rest.length ≤ sizeLine) :
    codeAny (model prog w) A (.call (.ref C) ⟨rest, []⟩) R ⟨h, g, d, t, os⟩ := by
  have call : Looks (model prog w) h (specialOf (.ref C) "__call__") (some (.builtin "type.__call__")) := looks_specialIn X hcall
  have typ : Looks (model prog w) h (isInstance (.ref C) (.type "type")) true := looks_instIn X htyp
  have hi' : Looks (model prog w) h (typeLookup (.ref C) "__init__") (some (.ref fI)) := looks_findIn X hi
  have hb : ∀ self, Looks (model prog w) h (bindSpecial (.ref fI) self) (.ref fI, [self]) := fun self => bind_fn X self hf
  have made : Looks (model prog w) h (Bind.madeBy (.ref C)) (some "Exception.__new__") := fun A Q E s k q => by
    obtain ⟨hp, g', d', t', os'⟩ := s
    exact wpAny_madeBy_exc (k _ _ hC) q
  have self : Looks (model prog w) h (isSubtype (.ref C) (.ref C)) true := fun A Q E s k q => by
    obtain ⟨hp, g', d', t', os'⟩ := s
    refine wpAny_isSubtype_exc (k _ _ hC) ?_
    rw [show (Value.ref C :: bm).contains (.ref C) = true by simp]
    exact q
  refine codeAny_of_tree ?_
  show wpAny _ _ (callAny (.ref C) _) _ _ _
  refine nd_load hC ?_
  show wpAny _ _ (callAny.viaDunder (.ref C) _) _ _ _
  unfold callAny.viaDunder
  refine wpAny_bind (call.at ?_)
  dsimp only
  rw [tc_bind]
  refine wpAny_bind (wpAny_pure (wpAny_bind (wpAny_pure ?_)))
  refine wpAny_pure (a := PySem.Fin.again (.call (.builtin "type.__call__") ⟨.ref C :: rest, []⟩)) (And.intro rfl ?_)
  refine codeAny_call_builtin_at (Code.quiet_builtin _ (by decide +kernel)) entry_typeCall (check_slot tc_kind tc_split typ (tc_args _ _ _) ?_)
  unfold Builtin.«type.__call__»
  have hm : Looks (model prog w) h (mroOf (.ref C)) (.ref C :: bm) := ((Looks.ld (part := none) hC).andThen .now).andThen .now
  repeat (first | with_reducible refine wpAny_call ?_ | lk)
  refine codeAny_call_builtin_code (Code.quiet_builtin _ PySem.F.excBase_Exception.quiet) (exc_check_new hcB hC ?_)
  refine exc_new hcB hcA hcN hC ?_ hrest
  have k : ∀ b o, h.get? b = some o → ((h.push { cls := .type "tuple", data := .seq rest.toArray }).push (excObj C h.objs.size)).get? b = some o := fun b o e => Heap.get?_push_of_some _ (Heap.get?_push_of_some _ e)
  have hx : ((h.push { cls := .type "tuple", data := .seq rest.toArray }).push (excObj C h.objs.size)).get? (h.objs.size + 1) = some (excObj C h.objs.size) := by heap_get
  have t1 : Looks (model prog w) ((h.push { cls := .type "tuple", data := .seq rest.toArray }).push (excObj C h.objs.size)) (typeOf (.ref (h.objs.size + 1))) (.ref C) := (Looks.ld hx).andThen .now
  have s1 := self.keeps k
  have i1 := hi'.keeps k
  have b1 := (hb (.ref (h.objs.size + 1))).keeps k
  unfold isInstance callSpecial? specialOf
  repeat (first | with_reducible refine wpAny_call ?_ | lk)
  refine codeAny_mono hq fun r s' z => ?_
  rcases r with e | (v | _ | _ | _) <;> first | exact z | exact z.elim | skip
  obtain ⟨rfl, z⟩ := z
  exact wpAny_pure (wpAny_pure z)
end

abbrev excObjD (C tp d : Addr) : Obj := { cls := .ref C, dict := some d, data := .fields #[.ref tp, .none, .none, .none, .bool false, .none] }
theorem meta_exc : typeOf (.type "Exception") = pure (.type "type") := by
  first | kernel_rfl | (unfold typeOf; kernel_rfl)
theorem front_upd {h₀ h : Heap} {L e : Addr} {o : Obj} {rest : Led} {h' : Heap} {o' : Obj} (N : News h₀ L h ((e, o) :: rest)) (hoff : ∀ p ∈ rest, p.1 ≠ e) (hk : ∀ b ob, b ≠ e → h.get? b = some ob → h'.get? b = some ob) (he : h'.get? e = some o') :
    News h₀ L h' ((e, o') :: rest) := fun p hp => by
  rcases List.mem_cons.mp hp with rfl | hp
  · exact ⟨he, (N (e, o) (.head _)).2⟩
  · exact ⟨hk _ _ (hoff p hp) (N p (.tail _ hp)).1, (N p (.tail _ hp)).2⟩
theorem fr_upd {h₀ h h' : Heap} {L e : Addr} {m : Str → Option Value} (F : Fr h₀ L h m) (hL : e ≠ L) (hn : h₀.get? e = none) (hk : ∀ b ob, b ≠ e → h.get? b = some ob → h'.get? b = some ob) : Fr h₀ L h' m :=
  ⟨F.ns.at' fun o q => hk L o (Ne.symm hL) q, fun b o q => hk b o (fun z => by rw [z, hn] at q; cases q) (F.keep b o q), F.above⟩
section
variable {prog : Program} {w : World} {A : Around} {E : Value → Shared → Prop} {s : Shared} {h₀ : Heap} {L e C tp : Addr} {m : Str → Option Value} {rest : Led} {K : Frag}
theorem exc_check_init {M : Model} {h : Heap} {g : Array GenState} {d : Drawn} {t : Nat} {os : OsState} {nm q : Str} {N : Addr} {bs bm : List Value} {hdct : Bool} {sn : List Str} {sub : List Value} {ab : Bool} {col : Option Bool} {dd : Option Addr} {k0 k1 k2 k3 k5 : Option Value} {newId : String} {oe : Obj} {rest : List Value} {Q : Unit → Shared → Prop}
    (hcB : (Value.ref C :: bm).contains (.type "Exception") = true) (hC : h.get? C = some (excClassObj nm q C N bs bm hdct sn sub ab col dd k0 k1 k2 k3 k5 newId)) (he : h.get? e = some oe) (hcls : oe.cls = .ref C) (hq : Q () ⟨h, g, d, t, os⟩) :
    wpAny M A (checkBuiltinCall "Exception.__init__" ⟨.ref e :: rest, []⟩) Q E ⟨h, g, d, t, os⟩ := by
  have F := PySem.F.excBase_Exception
  have hshort := F.noStar
  simp only [checkBuiltinCall, F.initKind, F.initSplit, F.initRow]
  repeat (first | (with_reducible refine wpAny_loadPart_at he ?_; rw [hcls]) | with_reducible refine wpAny_loadPart_at hC ?_ | (with_reducible refine wpAny_isSubtype_exc hC ?_; rw [hcB]) | wp_step)
  refine wpAny_onRaise ?_
  rw [show ∀ (a b : String) (n : Nat), Bind.check ⟨.positional, "*", "Exception", .self, [⟨"args", .varPos, false⟩]⟩ a b n (List.map (fun x => x.fst) ({ pos := Value.ref e :: rest } : Args).kw) = pure () from
    fun a b n => check_star_args _ _ _ _ _ _]
  exact wpAny_pure hq
theorem exc_init_K {nm q : Str} {N₀ : Addr} {bs bm : List Value} {hdct : Bool} {sn : List Str} {sub : List Value} {ab : Bool} {col : Option Bool} {dd : Option Addr} {k0 k1 k2 k3 k5 : Option Value} {newId : String} {msg : Value} {Q : Value → Shared → Prop} (F : Fr h₀ L s.heap m) (N : News h₀ L s.heap ((e, excObj C tp) :: rest)) (hoff : ∀ p ∈ rest, p.1 ≠ e)
    (hcB : (Value.ref C :: bm).contains (.type "Exception") = true) (hC : s.heap.get? C = some (excClassObj nm q C N₀ bs bm hdct sn sub ab col dd k0 k1 k2 k3 k5 newId))
    (h : ∀ t2 h', Fr h₀ L h' m → News h₀ L h' ((e, excObj C t2) :: rest) → Q .none { s with heap := h' }) : wpAny (model prog w) A (call (.builtin "Exception.__init__") [.ref e, msg]) Q E s := by
  have FF := PySem.F.excBase_Exception
  have z := N (e, excObj C tp) (.head _)
  obtain ⟨hp, g, d, tk, os⟩ := s
  dsimp only at z F N h hC ⊢
  refine wpAny_call (codeAny_call_builtin FF.init.plain FF.initEntry (exc_check_init hcB hC z.1 rfl ?_))
  unfold Builtin.«BaseException.__init__»
  refine bm_if_false rfl ?_
  refine wpAny_bind (wpAny_newTuple ?_ (by rw [sizeLine_eq]; exact Nat.le_of_ble_eq_true rfl))
  have hne : hp.objs.size ≠ e := Nat.ne_of_gt (Heap.lt_size z.1)
  have z2 : (hp.push { cls := .type "tuple", data := .seq [msg].toArray }).get? e = some (excObj C tp) := Heap.get?_push_of_some _ z.1
  unfold Builtin.BaseException.bexcPut
  refine wpAny_bind (wpAny_bind (wpAny_field z2 rfl rfl (wpAny_bind (wpAny_setField z2 rfl (Nat.le_of_ble_eq_true rfl) ?_))))
  dsimp only
  refine wpAny_letGo (wpAny_pure ?_)
  have hk : ∀ b ob, b ≠ e → hp.get? b = some ob → ((hp.push { cls := .type "tuple", data := .seq [msg].toArray }).update e (Obj.mapFields (·.setIfInBounds 0 (Value.ref hp.objs.size)))).get? b = some ob := fun b ob hb q => by
    rw [Heap.get?_update_other _ _ (Ne.symm hb)]
    exact Heap.get?_push_of_some _ q
  refine h hp.objs.size _ (fr_upd F z.2.1 z.2.2 hk) (front_upd N hoff hk ?_)
  rw [Heap.get?_update_self _ z2 rfl]
  rfl
theorem exc_set_K {nm q : Str} {N₀ : Addr} {bs bm : List Value} {sn : List Str} {sub : List Value} {ab : Bool} {col : Option Bool} {dd : Option Addr} {k0 k1 k2 k3 k5 : Option Value} {newId : String} {C2 : Addr} {name : Str} {v : Value} {Q : Unit → Shared → Prop} (F : Fr h₀ L s.heap m) (X₀ : K.In h₀) (N : News h₀ L s.heap ((e, excObj C tp) :: rest)) (hoff : ∀ p ∈ rest, p.1 ≠ e)
    (hbm : bm = .ref C2 :: [.type "Exception", .type "BaseException", .type "object"]) (hC : s.heap.get? C = some (excClassObj nm q C N₀ bs bm true sn sub ab col dd k0 k1 k2 k3 k5 newId))
    (hs : findIn K (.ref C) "__setattr__" = some (some (.builtin "object.__setattr__"))) (ht : findIn K (.ref C) name = some none) (hsub : subIn K (.ref C) (.type "object") = some true)
    (h : ∀ d h' tk, Fr h₀ L h' m → News h₀ L h' ((e, excObjD C tp d) :: rest) → Q () { s with heap := h', toks := tk }) : wpAny (model prog w) A (setAttr (.ref e) name v) Q E s := by
  subst hbm
  have X := X₀.keeps F.keep
  have z := N (e, excObj C tp) (.head _)
  have I : W.InstAt s.heap e (excObj C tp) C none := ⟨z.1, rfl, rfl, trivial⟩
  refine set_plain X I hs ?_
  obtain ⟨hp, g, d, tk, os⟩ := s
  dsimp only at z F N h hC X I ⊢
  have SF := PySem.F.store_object
  have hsb : Looks (model prog w) hp (isInstance (.ref e) (.type "object")) true := I.type.andThen (looks_subIn X hsub)
  refine codeAny_call_builtin SF.slot.plain SF.entry (@check_slot (model prog w) _ _ ⟨hp, g, d, tk + 1, os⟩ "object.__setattr__" "object" "__setattr__" (.ref e) [.str name tk, v] [] _ SF.kind SF.split hsb (SF.args (.ref e) (.str name tk) v) ?_)
  have hm : Looks (model prog w) hp (mroOf (.ref C)) (.ref C :: .ref C2 :: [.type "Exception", .type "BaseException", .type "object"]) := ((Looks.ld (part := none) hC).andThen .now).andThen .now
  rw [osa_eq, PySem.refuse_eq]
  refine wpAny_bind (wpAny_bind (I.type.here (wpAny_bind (hm.here ?_))))
  rw [refuseLoop_ref, refuseLoop_ref, PySem.F.store_Exception.passes]
  have L3 : Looks (model prog w) hp (Builtin.ObjectAttr.storeTaker? none) none := .now
  refine wpAny_pure (wpAny_bind (I.type.here (wpAny_bind ((looks_findIn X ht).here (wpAny_bind (L3.here ?_))))))
  have hcd : Looks (model prog w) hp (classData C) { name := nm, bases := bs, mro := .ref C :: .ref C2 :: [.type "Exception", .type "BaseException", .type "object"], ns := N₀, qualname := q, hasDict := true, slotNames := sn, subclasses := sub, abstract := ab, collection := col, hasDel := false } := (Looks.ld (part := none) hC).andThen .now
  refine wpAny_bind (wpAny_pure (wpAny_bind (wpAny_bind (wpAny_loadPart z.1 (wpAny_bind (hcd.here ?_))))))
  refine bm_if_false rfl ?_
  refine bm_if_false rfl ?_
  have hxs : e ≠ hp.objs.size := Nat.ne_of_lt (Heap.lt_size z.1)
  have hx₁ : (hp.push { cls := .type "dict", data := .dict #[] }).get? e = some (excObj C tp) := Heap.get?_push_of_some _ z.1
  refine wpAny_bind (wpAny_alloc (wpAny_bind (wpAny_update hx₁ (wpAny_pure ?_))))
  have hgd : ((hp.push { cls := .type "dict", data := .dict #[] }).update e fun o => { cls := o.cls, dict := some hp.objs.size, data := o.data, slots := o.slots }).get? hp.objs.size
      = some { cls := .type "dict", data := .dict #[] } :=
    (Heap.get?_update_ne _ _ _ _ hxs.symm).trans (Heap.get?_push_at rfl rfl)
  have hnd : ((hp.push { cls := .type "dict", data := .dict #[] }).update e fun o => { cls := o.cls, dict := some hp.objs.size, data := o.data, slots := o.slots }).Ns hp.objs.size (fun _ => none) :=
    ⟨_, #[], _, hgd, rfl, fun e he => absurd he (by simp), fun _ => rfl⟩
  have hge : ((hp.push { cls := .type "dict", data := .dict #[] }).update e fun o => { cls := o.cls, dict := some hp.objs.size, data := o.data, slots := o.slots }).get? e = some (excObjD C tp hp.objs.size) :=
    Heap.get?_update_self _ hx₁ rfl
  show wpAny _ _ (Builtin.ObjectAttr.storeInDict hp.objs.size (.str name tk) name v) _ _ _
  unfold Builtin.ObjectAttr.storeInDict Builtin.ObjectAttr.newKeyGuard
  refine wpAny_bind (wpAny_pure (wpAny_bind (wpAny_nsSet1 (Heap.Ns1.of_empty hnd) fun h' hn' hs => ?_)))
  obtain ⟨oD, esD, epD, hoD, hdD, hcD⟩ := hn'.count (Within.cons name v Within.nil)
  refine wpAny_bind (wpAny_lookBehind hoD (by rw [hdD]; exact pastItsLine_dict (Nat.le_trans hcD (by rw [List.length_cons, List.length_nil, sizeLine_eq]; omega))) ?_)
  refine wpAny_pure ?_
  have hk : ∀ b ob, b ≠ e → hp.get? b = some ob → h'.get? b = some ob := fun b ob hb q =>
    (hs.2 b (Nat.ne_of_lt (Heap.lt_size q))).trans ((Heap.get?_update_ne _ _ _ _ hb).trans (Heap.get?_push_of_some _ q))
  exact h hp.objs.size h' _ (fr_upd F z.2.1 z.2.2 hk) (front_upd N hoff hk ((hs.2 e hxs).trans hge))
end

theorem cls44 {w : World} {h : Heap} (X : (hd.heap_1 w.params).In h) : ∃ nm q bs sn sub col dd k0 k1 k2 k3 k5, h.get? 44 = some (excClassObj nm q 44 43 bs (.ref 31 :: [.type "Exception", .type "BaseException", .type "object"]) true sn sub false col dd k0 k1 k2 k3 k5 "Exception.__new__") :=
  ⟨_, _, _, _, _, _, _, _, _, _, _, _, X 44 _ rfl⟩
theorem words11 : True := by
  k_with "getMethod type:Exception" => (k_here; refine' method_type ?q27F ?q27X ?q27m (by decide +kernel) ?q27e ?q27h ?_; (case q27F => k_asm); (case q27X => k_asm); (case q27m => exact meta_exc); (case q27e => k_dflt k_is); (case q27h => k_handed))
  k_with "call builtin:Exception.__init__" => (k_here; k_dflt (refine' exc_init_K ?q28F ?q28N ?q28o ?q28b ?q28c ?_; (case q28F => k_asm); (case q28N => k_asm); (case q28c => exact Frag.In.keeps (K := Mine.hd.heap_1 _) (by k_asm) (Fr.keep (by k_asm)) 44 _ rfl); (case q28b => rfl); (case q28o => assumption)); intro t' h' F' N')
  k_with "setAttr ref" => (k_here; k_dflt (refine' exc_set_K ?q29F ?q29X ?q29N ?q29o ?q29b ?q29c ?q29s ?q29t ?q29u ?_; (case q29F => k_asm); (case q29X => k_asm); (case q29N => k_asm); (case q29o => assumption); (case q29c => exact Frag.In.keeps (K := Mine.hd.heap_1 _) (by k_asm) (Fr.keep (by k_asm)) 44 _ rfl); (case q29b => rfl); (case q29s => k_is); (case q29t => k_is); (case q29u => k_is)); intro d' h' tk' F' N')
  trivial
theorem form_c (w : World) (msg : Str) (tt : Tok) (news : Led) :
    CallC w (.ref 44) [.str msg tt] news 20 200 (fun r news' => ∃ e tp d, r = .ref e ∧ news' = (e, excObjD 44 tp d) :: news ∧ ∀ p ∈ news, @LT.lt Nat _ p.1 e) := by
  unfold CallC
  intro dp un gd cn cs a ccd cl outer A₀ base h₀ L m mean mg mb s Q E B F X N T hk hd hu hret
  have X₁ := X.keeps F.keep
  obtain ⟨nm, q, bs, sn, sub, col, dd, k0, k1, k2, k3, k5, hC⟩ := cls44 X₁
  refine wpAny_call ?_
  obtain ⟨hh, g, d, t, os⟩ := s
  refine exc_core X₁ rfl rfl rfl hC (by k_is) (by k_is) (by k_is) (by k_is) ?_ (by rw [sizeLine_eq]; exact Nat.le_of_ble_eq_true rfl)
  have N₁ := (N.push F { cls := .type "tuple", data := .seq [Value.str msg tt].toArray }).push (F.push _) (excObj 44 hh.objs.size)
  rw [Heap.size_push] at N₁
  have F₁ := (F.push { cls := .type "tuple", data := .seq [Value.str msg tt].toArray }).push (excObj 44 hh.objs.size)
  have hlt : ∀ p ∈ news, @LT.lt Nat _ p.1 (hh.objs.size + 1) := fun p hp => Nat.lt_succ_of_lt (Heap.lt_size (N p hp).1)
  have hoff : ∀ p ∈ news, p.1 ≠ hh.objs.size + 1 := fun p hp => Nat.ne_of_lt (hlt p hp)
  have N₂ := drops (b := (hh.objs.size + 1, excObj 44 hh.objs.size) :: news) N₁ (fun p hp => by rcases List.mem_cons.mp hp with e | hp; exact e ▸ List.mem_cons_self; exact List.mem_cons_of_mem _ (List.mem_cons_of_mem _ hp))
  clear N₁ N
  k_dflt ktr_enter
  k_steps
  all_goals (refine hret _ _ _ _ (by k_asm) (by k_asm) ⟨_, _, _, rfl, rfl, hlt⟩)

/-- a call of f upon vs, where the ledger is news, ends by a FormError in flight -/
def CallR (w : World) (f : Value) (vs : List Value) (news : Led) (d u : Nat) : Prop :=
  ∀ (dp un : Nat) (gd : Option (List Code)) (cn : Str) (cs : Scope) (a : Addr) (ccd : Value) (cl : List (Str × Addr)) (outer : List Env) (A₀ : Around) (base h₀ : Heap) (L : Addr) (m : Str → Option Value) (mean : ExcName → Option Value) (mg mb : Str → Option Value) (s : Shared)
    (Q E : Value → Shared → Prop),
    Below A₀ base outer h₀ → Fr h₀ L s.heap m → (hd.heap_1 w.params).In h₀ → News h₀ L s.heap news →
    Top topProg lawLoose mean mg mb h₀ → cs.kind = .function → dp + d < recursionLimit → un + u < cLine →
    (∀ g e h' tk', Fr h₀ L g m → RaisedSN base g (envX cn cs L a ccd cl :: outer) e (.ref 44) news h' → g.UpToSlots h' → E (.ref e) { s with heap := h', toks := tk' }) →
    wpAny (model PySem.Challenge.rw_pb0543_01.row.prog w) (ktrTop dp un gd cn cs L a ccd cl outer) (call f vs) Q E s
theorem CallR.use {w : World} {f : Value} {vs : List Value} {news : Led} {d u : Nat} (C : CallR w f vs news d u)
    {dp un : Nat} {gd : Option (List Code)} {cn : Str} {cs : Scope} {a : Addr} {ccd : Value} {cl : List (Str × Addr)} {outer : List Env} {A₀ : Around} {base h₀ : Heap} {L : Addr} {m : Str → Option Value} {mean : ExcName → Option Value} {mg mb : Str → Option Value} {s : Shared}
    {Q E : Value → Shared → Prop}
    (B : Below A₀ base outer h₀) (F : Fr h₀ L s.heap m) (X : (hd.heap_1 w.params).In h₀) (N : News h₀ L s.heap news)
    (T : Top topProg lawLoose mean mg mb h₀) (hk : cs.kind = .function) (hd : dp + d < recursionLimit) (hu : un + u < cLine)
    (ret : ∀ g e h' tk', Fr h₀ L g m → RaisedSN base g (envX cn cs L a ccd cl :: outer) e (.ref 44) news h' → g.UpToSlots h' → E (.ref e) { s with heap := h', toks := tk' }) :
    wpAny (model PySem.Challenge.rw_pb0543_01.row.prog w) (ktrTop dp un gd cn cs L a ccd cl outer) (call f vs) Q E s := by
  unfold CallR at C
  have C1 := C dp un gd cn cs a ccd cl outer A₀ base h₀ L m mean mg mb s Q E
  clear C
  have C2 := C1 B
  have C3 := C2 F
  have C4 := C3 X
  have C5 := C4 N
  have C6 := C5 T
  have C7 := C6 hk
  have C8 := C7 hd
  have C9 := C8 hu
  have C10 := C9 ret
  exact C10

def OwnRaised (K : Frag) (C : Addr) (E : Value → Shared → Prop) (v : Value) (s₁ : Shared) : Prop := ∃ a tp d, v = .ref a ∧ s₁.heap.get? a = some (excObjD C tp d) ∧ K.In s₁.heap ∧ E (.ref a) s₁
/-- raise of an object of an own exception class -/
theorem raise_own {prog : Program} {w : World} {A : Around} {E : Value → Shared → Prop} {s : Shared} {env : Env} {e : PySem.Expr} {pos : Pos} {K : Frag} {h₀ : Heap} {C : Addr} {Q : Flow → Shared → Prop} (_X₀ : K.In h₀) (hh : A.handled = none)
    (hsub : subIn K (.ref C) (.type "BaseException") = some true) (hty : typeIn K (.ref C) = some (.type "type"))
    (h : wpAny (model prog w) A (eval e env) (OwnRaised K C E) E s) : wpAny (model prog w) A (exec (.Raise (some e) none pos) env) Q E s := by
  show wpAny (model prog w) A (do standAt pos; raiseStmt env (some (do let v ← eval e env; standAt pos; pure v)) none) Q E s
  refine wpAny_bind (wpAny_standAt ?_)
  unfold raiseStmt
  dsimp only
  refine wpAny_bind (wpAny_bind (wpAny_mono h (fun v s₁ h₁ => wpAny_bind (wpAny_standAt (wpAny_pure ?_))) fun _ _ x => x))
  obtain ⟨a, tp, d, rfl, ha, X, hE⟩ := h₁
  have LT : Looks (model prog w) s₁.heap (typeOf (.ref a)) (.ref C) := (Looks.ld ha).andThen .now
  have hb : Looks (model prog w) s₁.heap (isInstance (.ref a) (.type "BaseException")) true := LT.andThen (looks_subIn X hsub)
  have hnt : ∀ {Q' : Bool → Shared → Prop}, Q' false s₁ → wpAny (model prog w) A (isType (.ref a)) Q' E s₁ := by
    intro Q' hq
    simp only [isType, loadHead]
    exact wpAny_bind (wpAny_loadPart ha (wpAny_pure hq))
  refine wpAny_bind (wpAny_pure ?_)
  dsimp only
  refine wpAny_bind (wpAny_holding ?_)
  unfold excFromValue isExcClass
  refine wpAny_bind (wpAny_bind (hnt ?_))
  simp only [Bool.false_eq_true, if_false]
  refine wpAny_pure ?_
  simp only [Bool.false_eq_true, if_false]
  refine wpAny_bind (hb.here ?_)
  simp only [if_true]
  refine wpAny_pure ?_
  refine wpAny_bind (hnt ?_)
  simp only [Bool.false_eq_true, if_false]
  unfold raisedInstance
  refine wpAny_bind (wpAny_bind (LT.here (wpAny_bind ((looks_typeIn X hty).here ?_))))
  refine bm_if_true (by decide) ?_
  refine wpAny_pure ?_
  unfold setFlight raiseNew
  refine wpAny_bind (wpAny_bind (wpAny_field (x := .none) ha rfl rfl ?_))
  rw [if_neg (by decide)]
  refine wpAny_pure (wpAny_bind (wpAny_handled ?_))
  rw [hh]
  exact wpAny_bind (wpAny_pure (wpAny_throw hE))
/-- the frame in which it was raised is left -/
theorem leave_first {M : Model} {A : Around} {E : Value → Shared → Prop} {s' : Shared} {base g : Heap} {outer : List Env} {L e tp d C : Addr} {m : Str → Option Value} {env : Env} {Q : Unit → Shared → Prop} {news : List (Addr × Obj)}
    (K : Below A base outer g) (F : Fr g L s'.heap m) (N : News g L s'.heap ((e, excObjD C tp d) :: news)) (hoff : ∀ p ∈ news, p.1 ≠ e) (hf : env.frame = some L) (hk : env.scope.kind = .function)
    (hQ : ∀ h', RaisedSN base g outer e (.ref C) news h' → g.UpToSlots h' → Q () { s' with heap := h' }) :
    wpAny M (A.deeper env) (leaving env (.ref e)) Q E s' := by
  have K' := pushX K F hf hk
  have z := N (e, excObjD C tp d) (.head _)
  have hin : ∀ env' ∈ (env :: outer), ∀ b, env'.frame = some b → b ∈ e :: (env :: outer).filterMap (·.frame) := fun env' he b hb => List.mem_cons_of_mem _ (List.mem_filterMap.mpr ⟨env', he, hb⟩)
  have mem : ∀ {b : Addr}, b ∈ (env :: outer).filterMap (·.frame) → b = L ∨ b ∈ outer.filterMap (·.frame) := fun {b} hm => by
    obtain ⟨env', he, hf'⟩ := List.mem_filterMap.mp hm
    rcases List.mem_cons.mp he with rfl | he
    · exact .inl (Option.some.inj (hf'.symm.trans hf))
    · exact .inr (List.mem_filterMap.mpr ⟨env', he, hf'⟩)
  have be : base.get? e = none := fresh_of_stays K.stays z.2.2
  have st : base.StaysIn (hideAll s'.heap (e :: (env :: outer).filterMap (·.frame))) := fun b o q => hideAll_get _ (K'.stays b o q) fun hm => by
    rcases List.mem_cons.mp hm with rfl | hm
    · rw [be] at q; cases q
    · rw [(K'.frames.mem hm).1] at q; cases q
  have sg : ∀ b o, g.get? b = some o → b ∉ outer.filterMap (·.frame) → (hideAll s'.heap (e :: (env :: outer).filterMap (·.frame))).get? b = some o := fun b o q nm => hideAll_get _ (F.keep b o q) fun hm => by
    rcases List.mem_cons.mp hm with rfl | hm
    · rw [z.2.2] at q; cases q
    · rcases mem hm with y | y
      · rw [y, kts_self F] at q; cases q
      · exact nm y
  have hl : ∀ q ∈ news, (hideAll s'.heap (e :: (env :: outer).filterMap (·.frame))).get? q.1 = some q.2 ∧ g.get? q.1 = none ∧ base.get? q.1 = none := fun q hq => by
    have y := N q (.tail _ hq)
    refine ⟨hideAll_get _ y.1 fun hm => ?_, y.2.2, fresh_of_stays K.stays y.2.2⟩
    rcases List.mem_cons.mp hm with e1 | hm
    · exact hoff q hq e1
    · rcases mem hm with x | x
      · exact y.2.1 x
      · obtain ⟨o, ho, _⟩ := (K.frames.mem x).2
        rw [y.2.2] at ho; cases ho
  have hen : (hideAll s'.heap (e :: (env :: outer).filterMap (·.frame))).get? e = none := hideAll_none _ (.head _)
  refine wpAny_leaving_firstW (a0 := .ref tp) K'.stack (funFrames_hide K'.frames hin) hf z.1 (fun b o hb => of_hideAll _ hb) hen rfl rfl rfl fun h' hL => ?_
  obtain ⟨k1, ⟨_, _, k2⟩, k3, k4⟩ := hL
  exact hQ h' ⟨_, .ref tp, st, sg, hl, k1, hen, k2, k3⟩ ((Heap.UpToSlots.of_keeps F.keep).trans k4)
/-- a frame that the exception passes is left -/
theorem leave_next {M : Model} {A : Around} {E : Value → Shared → Prop} {s' : Shared} {base g g₂ : Heap} {outer : List Env} {L e : Addr} {cls : Value} {m : Str → Option Value} {env : Env} {Q : Unit → Shared → Prop} {news : List (Addr × Obj)}
    (K : Below A base outer g) (F : Fr g L g₂ m) (hf : env.frame = some L) (R : RaisedSN base g₂ (env :: outer) e cls news s'.heap) (hsm : g₂.UpToSlots s'.heap)
    (hQ : ∀ h', RaisedSN base g outer e cls news h' → g.UpToSlots h' → Q () { s' with heap := h' }) :
    wpAny M (A.deeper env) (leaving env (.ref e)) Q E s' := by
  obtain ⟨B, a0, hB, hBG, hl, hfl⟩ := R
  have mem : ∀ {b : Addr}, b ∈ (env :: outer).filterMap (·.frame) → b = L ∨ b ∈ outer.filterMap (·.frame) := fun {b} hm => by
    obtain ⟨env', he, hf'⟩ := List.mem_filterMap.mp hm
    rcases List.mem_cons.mp he with rfl | he
    · exact .inl (Option.some.inj (hf'.symm.trans hf))
    · exact .inr (List.mem_filterMap.mpr ⟨env', he, hf'⟩)
  exact wpAny_leaves_onW (Around.frames_deeper K.stack) hf hfl fun h' x1 x2 =>
    hQ h' ⟨B, a0, hB, fun b o q nm => hBG b o (F.keep b o q) (fun hm => by
      rcases mem hm with z | z
      · rw [z, kts_self F] at q
        cases q
      · exact nm z), fun q hq => ⟨(hl q hq).1, kts_none F.keep (hl q hq).2.1, (hl q hq).2.2⟩, x1⟩ ((Heap.UpToSlots.of_keeps F.keep).trans (hsm.trans x2))

theorem words12 : True := by
  k_with "call ref" => (k_here; (with_reducible show wpAny _ _ (call (Value.ref 44) _) _ _ _); k_dflt (refine' CallC.use (form_c _ _ _ _) ?q30k1 ?q30k2 ?q30k3 ?q30k4 ?q30k5 ?q30k6 ?q30k7 ?q30k8 ?_; (case q30k1 => k_asm); (case q30k2 => k_asm); (case q30k3 => k_asm); (case q30k4 => first | k_asm | exact sw1 (by k_asm) | exact sw2 (by k_asm) | exact sw3 (by k_asm)); (case q30k5 => k_asm); (case q30k6 => first | exact rfl | assumption); (case q30k7 => ktr_room); (case q30k8 => ktr_units); intro r' h' tk' news' F' N' hP'; (obtain ⟨e', tp', d', e1', e2', hl'⟩ := hP'); subst e1'; subst e2'; (try dsimp only); (try k_fold)))
  k_with "exec Raise some none" => (k_here; k_dflt (refine' raise_own (C := 44) ?q31X ?q31a ?q31b ?q31c ?_; (case q31X => k_asm); (case q31a => exact rfl); (case q31b => k_is); (case q31c => k_is)); (try k_fold))
  trivial
theorem raised_drop {base G : Heap} {l : List Env} {e : Addr} {cls : Value} {news b : Led} {h : Heap} (R : RaisedSN base G l e cls news h) (hs : ∀ p ∈ b, p ∈ news) : RaisedSN base G l e cls b h := by
  obtain ⟨B, a0, h1, h2, h3, h4⟩ := R
  exact ⟨B, a0, h1, h2, fun q hq => h3 q (hs q hq), h4⟩
theorem outer_r (w : World) (v : Value) (tg sc : Int) (kind : Option Int) (pay : Array UInt8) (news : Led) (hf : FrameAt w.params news v ⟨tg, sc, [], kind, pay⟩) :
    CallR w (.ref 288) [v] news 40 400 := by
  obtain ⟨x, dx, T0, vs, n, kt, u1, u2, u3, u4, u5, t1, t2, t5, e, h1, h2, h3, h4⟩ := hf
  subst e
  cases vs with
  | cons v0 vs => exact h4.elim
  | nil =>
  unfold CallR
  intro dp un gd cn cs a ccd cl outer A₀ base h₀ L m mean mg mb s Q E B F X N T hk hd hu hret
  refine wpAny_call ?_
  k_dflt ktr_enter
  k_steps
  all_goals (
    rename News _ _ _ ((_, excObjD _ _ _) :: _) => kN
    rename Fr _ _ _ (fun _ => _) => kF
    rename Below _ _ (_ :: _) _ => kB
    rename Frag.In _ _ => kX
    rename Fr h₀ L _ m => kG
    refine ⟨_, _, _, rfl, (kN _ List.mem_cons_self).1, kX.keeps kF.keep, ?_⟩
    refine leave_first kB kF kN ?_ rfl rfl ?_
    · rename ∀ p ∈ _, @LT.lt Nat _ _ _ => hl
      exact fun p hp => Nat.ne_of_lt (hl p hp)
    · intro h' R U
      exact hret _ _ _ _ kG (raised_drop R (by kqd_sub)) U)

theorem words13 : True := by
  k_with "call ref" => (k_here; (with_reducible show wpAny _ _ (call (Value.ref 288) _) _ _ _); k_dflt (refine' CallR.use (outer_r _ _ _ _ _ _ _ ?q32h1) ?q32k1 ?q32k2 ?q32k3 ?q32k4 ?q32k5 ?q32k6 ?q32k7 ?q32k8 ?_; (case q32k1 => k_asm); (case q32k2 => k_asm); (case q32k3 => k_asm); (case q32k4 => k_asm); (case q32k5 => k_asm); (case q32k6 => first | exact rfl | assumption); (case q32h1 => ktr_rel); (case q32k7 => ktr_room); (case q32k8 => ktr_units); intro g' e' h' tk' FG' R' U'))
  trivial
theorem pop_r (w : World) (v : Value) (tg sc : Int) (kind : Option Int) (pay : Array UInt8) (news : Led) (hf : FrameAt w.params news v ⟨tg, sc, [], kind, pay⟩) :
    CallR w (.ref 295) [v] news 60 600 := by
  unfold CallR
  intro dp un gd cn cs a ccd cl outer A₀ base h₀ L m mean mg mb s Q E B F X N T hk hd hu hret
  refine wpAny_call ?_
  k_dflt ktr_enter
  k_steps
  all_goals (
    rename RaisedSN _ _ _ _ _ _ _ => R
    rename Heap.UpToSlots _ _ => U
    rename Below _ _ (_ :: _) _ => kB
    rename Fr h₀ L _ m => kG
    rename Fr _ _ _ _ => kF
    refine leave_next kB kF rfl R U ?_
    intro h' R' U'
    exact hret _ _ _ _ kG R' U')
theorem wvlan_r (w : World) (v x : Value) (tg sc : Int) (kind : Option Int) (pay : Array UInt8) (news : Led) (hf : FrameAt w.params news v ⟨tg, sc, [], kind, pay⟩) :
    CallR w (.ref 316) [v, x] news 60 600 := by
  unfold CallR
  intro dp un gd cn cs a ccd cl outer A₀ base h₀ L m mean mg mb s Q E B F X N T hk hd hu hret
  refine wpAny_call ?_
  k_dflt ktr_enter
  k_steps
  all_goals (
    rename RaisedSN _ _ _ _ _ _ _ => R
    rename Heap.UpToSlots _ _ => U
    rename Below _ _ (_ :: _) _ => kB
    rename Fr h₀ L _ m => kG
    rename Fr _ _ _ _ => kF
    refine leave_next kB kF rfl R U ?_
    intro h' R' U'
    exact hret _ _ _ _ kG R' U')
theorem wprio_r (w : World) (v x : Value) (tg sc : Int) (kind : Option Int) (pay : Array UInt8) (news : Led) (hf : FrameAt w.params news v ⟨tg, sc, [], kind, pay⟩) :
    CallR w (.ref 323) [v, x] news 60 600 := by
  unfold CallR
  intro dp un gd cn cs a ccd cl outer A₀ base h₀ L m mean mg mb s Q E B F X N T hk hd hu hret
  refine wpAny_call ?_
  k_dflt ktr_enter
  k_steps
  all_goals (
    rename RaisedSN _ _ _ _ _ _ _ => R
    rename Heap.UpToSlots _ _ => U
    rename Below _ _ (_ :: _) _ => kB
    rename Fr h₀ L _ m => kG
    rename Fr _ _ _ _ => kF
    refine leave_next kB kF rfl R U ?_
    intro h' R' U'
    exact hret _ _ _ _ kG R' U')

theorem codeHd_of {w : World} {h : Heap} (X : (hd.heap_1 w.params).In h) : CodeHd h 378 374 :=
  ⟨_, _, _, _, _, _, _, _, _, X 378 _ rfl, rfl, rfl, rfl, rfl, rfl, rfl, rfl, rfl, by decide⟩
abbrev lamQ : Str := Str.ofString "_law_deed" ++ Str.ofString ".<locals>." ++ Str.ofString "<lambda>"
/-- the code table of _law_deed: triples, each code with its record in the ledger -/
def TabInv (news : Led) (ps : Array Value) : Prop :=
  TriplesOk ps.toList ∧ ∀ pos cv, codeAmong pos ps.toList = some cv → ∃ c oc vs t, cv = .ref c ∧ (c, oc) ∈ news ∧ oc.data = .fields vs ∧ vs[1]? = some (.str lamQ t)
theorem TabInv.nil (news : Led) : TabInv news #[] := ⟨trivial, fun _ _ h => nomatch h⟩
theorem TabInv.mono {news news' : Led} {ps : Array Value} (h : TabInv news ps) (hs : ∀ p ∈ news, p ∈ news') : TabInv news' ps :=
  ⟨h.1, fun pos cv e => let ⟨c, oc, vs, t, a, b, d, f⟩ := h.2 pos cv e; ⟨c, oc, vs, t, a, hs _ b, d, f⟩⟩
theorem among_push {pos : Pos} {a b : Int} {t u : Tok} {c cv : Value} : ∀ (l : List Value), TriplesOk l → codeAmong pos (l ++ [.int a t, .int b u, c]) = some cv → codeAmong pos l = some cv ∨ cv = c := by
  intro l
  fun_induction TriplesOk l with
  | case1 =>
    intro _ e
    rw [List.nil_append, codeAmong] at e
    split at e
    · exact .inr (Option.some.inj e).symm
    · cases e
  | case2 i t' j u' x rest ih =>
    intro h e
    rw [List.cons_append, List.cons_append, List.cons_append, codeAmong] at e
    rw [codeAmong]
    split at e
    · rename_i q; rw [if_pos q]; exact .inl e
    · rename_i q; rw [if_neg q]; exact ih h e
  | case3 => intro h; exact h.elim
theorem triples_push {a b : Int} {t u : Tok} {c : Value} : ∀ (l : List Value), TriplesOk l → TriplesOk (l ++ [.int a t, .int b u, c]) := by
  intro l
  fun_induction TriplesOk l with
  | case1 => intro _; exact trivial
  | case2 _ _ _ _ _ rest ih => intro h; exact ih h
  | case3 => intro h; exact h.elim
theorem lam_any {M : Model} {A : Around} {E : Value → Shared → Prop} {s : Shared} {h₀ : Heap} {L a : Addr} {m mg mb : Str → Option Value} {cn : Str} {cs : Scope} {cl : List (Str × Addr)} {rest : Led}
    {p : Program} {loose : List Str} {mean : ExcName → Option Value} {name : Str} {params : Arguments} {body : PySem.Expr} {scope : Scope} {ps : Array Value} {pos : Pos} {firstLine : Nat} {clos : List (Str × Addr)} {Q : Value → Shared → Prop}
    (F : Fr h₀ L s.heap m) (N : News h₀ L s.heap ((374, tabObj ps) :: rest)) (T : Top p loose mean mg mb h₀) (C : CodeHd h₀ 378 374) (I : TabInv rest ps) (hoff : ∀ p ∈ rest, p.1 ≠ 374)
    (hcl : closureFor scope (envX cn cs L a (.ref 378) cl) = pure clos)
    (h : ∀ f c' oc vs t ctv ps' tl h' tk, Fr h₀ L h' m →
      News h₀ L h' ((f, kla_obj name lamQ params body scope clos ((mg "__name__").getD .none) c' ctv) :: (374, tabObj ps') :: (tl ++ rest)) → TabInv (tl ++ rest) ps' → (c', oc) ∈ tl ++ rest → oc.data = .fields vs → vs[1]? = some (.str lamQ t) →
      (∀ q ∈ (374, tabObj ps) :: rest, ∀ p ∈ tl, @LT.lt Nat _ q.1 p.1) → (∀ q ∈ (374, tabObj ps) :: rest, @LT.lt Nat _ q.1 f) → Q (.ref f) { s with heap := h', toks := tk }) :
    wpAny M A (makeFunction name lamQ params (.expr body) scope (envX cn cs L a (.ref 378) cl) [] [] [] pos firstLine) Q E s := by
  cases hc : codeAmong pos ps.toList with
  | none =>
    refine kla_nest (ps := ps) F N T C rfl (UpdF.head hoff) I.1 hc hcl fun f c' oc vs t ctv h' tk F' N' d1 d2 l1 l2 => ?_
    refine h f c' oc vs t ctv (ps ++ #[rawInt pos.line, rawInt pos.col, .ref c']) [(c', oc)] h' tk F' (drops N' ?_) ⟨?_, ?_⟩ (List.mem_cons_self) d1 d2 ?_ (fun q hq => Nat.lt_trans (l1 q hq) l2)
    · intro q hq
      simp only [List.mem_cons, List.cons_append, List.nil_append] at hq ⊢
      rcases hq with h1 | h1 | h1 | h1
      · exact .inl h1
      · exact .inr (.inr (.inl h1))
      · exact .inr (.inl h1)
      · exact .inr (.inr (.inr h1))
    · rw [Array.toList_append]
      exact triples_push _ I.1
    · intro pos' cv e
      rw [Array.toList_append] at e
      rcases among_push _ I.1 e with e | e
      · obtain ⟨c1, oc1, vs1, t1, a1, b1, x1, y1⟩ := I.2 pos' cv e
        exact ⟨c1, oc1, vs1, t1, a1, List.mem_cons_of_mem _ b1, x1, y1⟩
      · exact ⟨c', oc, vs, t, e, List.mem_cons_self, d1, d2⟩
    · intro q hq p hp
      rw [List.mem_singleton.mp hp]
      exact l1 q hq
  | some cv =>
    obtain ⟨c', oc, vs, t, e, hm, d1, d2⟩ := I.2 pos cv hc
    subst e
    exact kla_hit F N T C rfl (List.mem_cons_self) I.1 hc hcl fun f ctv h' tk F' N' l1 =>
      h f c' oc vs t ctv ps [] h' tk F' N' I hm d1 d2 (fun _ _ _ hp => nomatch hp) l1

def RowsAt (news : Led) : List Value → List Row → Prop
  | [], [] => True
  | v :: vs, r :: rs => RowAt news v r ∧ RowsAt news vs rs
  | _, _ => False
theorem RowsAt.mono {news news' : Led} (hs : ∀ p ∈ news, p ∈ news') : ∀ {vs : List Value} {rows : List Row}, RowsAt news vs rows → RowsAt news' vs rows
  | [], [], _ => trivial
  | _ :: _, _ :: _, h => ⟨h.1.mono hs, RowsAt.mono hs h.2⟩
  | [], _ :: _, h => h.elim
  | _ :: _, [], h => h.elim
theorem RowsAt.length {news : Led} : ∀ {vs : List Value} {rows : List Row}, RowsAt news vs rows → vs.length = rows.length
  | [], [], _ => rfl
  | _ :: _, _ :: _, h => by rw [List.length_cons, List.length_cons, h.2.length]
  | [], _ :: _, h => h.elim
  | _ :: _, [], h => h.elim
section
variable {prog : Program} {w : World} {A : Around} {E : Value → Shared → Prop} {s : Shared} {h₀ : Heap} {L : Addr} {m : Str → Option Value} {news : List (Addr × Obj)} {a b : Addr} {xs ys : List Value} {na nb : Nat} {Q : Value → Shared → Prop}
theorem isList_of (N : News h₀ L s.heap news) (ha : (a, listOf xs.toArray na) ∈ news) : s.heap.IsList a xs.toArray := PySem.IsL.isList (n := na) (N _ ha).1
theorem list_add (F : Fr h₀ L s.heap m) (N : News h₀ L s.heap news) (ha : (a, listOf xs.toArray na) ∈ news) (hb : (b, listOf ys.toArray nb) ∈ news) (hz : xs.length + ys.length ≤ 16384)
    (h : ∀ D h', Fr h₀ L h' m → News h₀ L h' ((D, listOf (xs ++ ys).toArray 0) :: news) → (∀ p ∈ news, @LT.lt Nat _ p.1 D) → Q (.ref D) { s with heap := h' }) : wpAny (model prog w) A (binaryOp .Add (.ref a) (.ref b)) Q E s :=
  add_lists F N (isList_of N ha) (isList_of N hb) (fun h' F' N' => h _ h' F' N' fun p hp => Heap.lt_size (N p hp).1) (by rw [sizeLine_eq]; omega)
theorem list_ne0 (N : News h₀ L s.heap news) (ha : (a, listOf xs.toArray na) ∈ news) (hb : (b, listOf (List.toArray []) nb) ∈ news) (hu : A.units < cLine) (h : Q (.bool (!xs.isEmpty)) s) : wpAny (model prog w) A (compareOp .NotEq (.ref a) (.ref b)) Q E s := by
  cases xs with
  | nil =>
    refine SeqAt.RcNeAt.lists (e := fun _ => true) (isList_of N ha) (isList_of (xs := []) N hb) rfl hu (fun j h1 h2 => absurd h2 (by simp)) prog w E Q ?_
    simpa using h
  | cons x xs =>
    refine SeqAt.RcNeAt.lists_lengths (isList_of N ha) (isList_of (xs := []) N hb) (by simp) hu prog w E Q ?_
    simpa using h
theorem pick_tail (v : Value) (vs : List Value) : slicePick (v :: vs).toArray (some 1) none none = vs.toArray := by
  have e : sliceBounds (some 1) none none (v :: vs).toArray.size = (((1 : Nat) : Int), ((vs.length + 1 : Nat) : Int), 1) := by
    simp only [sliceBounds, Option.getD_none, show (1 : Int) > 0 by decide, if_true, if_neg (show ¬ ((1 : Int) < 0) by decide), List.size_toArray, List.length_cons]
    congr 1
    omega
  rw [kmk_pick_nat _ e]
  simp
theorem list_tail {v : Value} {vs : List Value} {u : Tok} {value slice : PySem.Expr} (F : Fr h₀ L s.heap m) (N : News h₀ L s.heap news) (ha : (a, listOf (v :: vs).toArray na) ∈ news) (hl : vs.length ≤ 1000)
    (h : ∀ D h', Fr h₀ L h' m → News h₀ L h' ((D, listOf vs.toArray 0) :: news) → (∀ p ∈ news, @LT.lt Nat _ p.1 D) → Q (.ref D) { s with heap := h' })
    (hs : subscripted slice false (.ref a) (.ref s.heap.objs.size) = operate [.ref s.heap.objs.size, .ref a] (getItem (.ref a) (.ref s.heap.objs.size)) := by with_unfolding_all rfl)
    (hg : ∀ r, letTemporaryGo value (.ref a) r = pure () := by intro _; with_unfolding_all rfl) :
    wpAny (model prog w) A (subscriptTail value slice (.ref a) (.ref s.heap.objs.size)) Q E { s with heap := s.heap.push { cls := .type "slice", data := .fields #[.int 1 u, .none, .none] } } := by
  refine slice_list F N (isList_of N ha) (.int 1 u) .none (fun h' F' N' => h _ h' F' ?_ fun p hp => Nat.lt_succ_of_lt (Heap.lt_size (N p hp).1)) hs hg ?_
  · rw [pick_tail] at N'; exact N'
  · rw [List.size_toArray, sizeLine_eq, List.length_cons]; omega
end
theorem words14 : True := by
  k_with "ktr_rel" => (refine' RowsAt.mono ?q33s ?q33h; (case q33h => assumption); (case q33s => kqd_sub))
  k_with "binaryOp Add ref ref" => (k_here; (with_reducible show wpAny _ _ (binaryOp _ (Value.ref _) (Value.ref _)) _ _ _); k_dflt (refine' list_add ?q34k1 ?q34k2 ?q34k3 ?q34k4 ?q34k6 ?_; (case q34k1 => k_asm); (case q34k2 => k_asm); (case q34k3 => k_mem); (case q34k4 => k_mem); (case q34k6 => (simp only [List.length_cons, List.length_nil]; omega))); intro D' h' F' N' l1; (try k_lt l1); (try dsimp only); (try k_fold))
  k_with "compareOp NotEq ref ref" => (k_here; (with_reducible show wpAny _ _ (compareOp CmpOp.NotEq (Value.ref _) (Value.ref _)) _ _ _); k_dflt (refine' list_ne0 ?q35k1 ?q35k2 ?q35k3 ?q35k4 ?_; (case q35k1 => k_asm); (case q35k2 => k_mem); (case q35k3 => k_mem); (case q35k4 => ktr_units)); (try dsimp only [List.isEmpty, Bool.not_true, Bool.not_false]))
  k_with "subscriptTail Name Slice ref ref" => (k_here; (with_reducible show wpAny _ _ (subscriptTail _ (PySem.Expr.Slice _ none none _) (Value.ref _) (Value.ref _)) _ _ _); k_dflt (refine' list_tail ?q36F ?q36N ?q36l ?q36z ?_ ?q36s ?q36t; (case q36F => k_asm); (case q36N => k_asm); (case q36l => k_mem); (case q36z => assumption); (case q36s => with_unfolding_all rfl); (case q36t => (intro _; with_unfolding_all rfl))); intro D' h' F' N' l1; (try k_lt l1); (try dsimp only); (try k_fold))
  trivial
def Under (d : Addr) (l : Led) : Prop := ∀ p ∈ l, @LT.lt Nat _ p.1 d
theorem Under.ne {d X : Addr} {l : Led} (h : Under d l) (hd : @LE.le Nat _ d X) : ∀ p ∈ l, p.1 ≠ X := fun p hp e => by
  have := h p hp
  rw [e] at this
  exact absurd (Nat.lt_of_lt_of_le this hd) (Nat.lt_irrefl _)
theorem words15 : True := by
  k_with "k_all" => exact Under.ne (by assumption) (by omega)
  k_with "call ref" => (k_here; (with_reducible show wpAny _ _ (call (Value.ref 351) _) _ _ _); k_dflt (refine' CallC.use (tag_c _ _ _ _ _ _ _ _ ?q38h1 ?q38h2) ?q38k1 ?q38k2 ?q38k3 ?q38k4 ?q38k5 ?q38k6 ?q38k7 ?q38k8 ?_; (case q38k1 => k_asm); (case q38k2 => k_asm); (case q38k3 => k_asm); (case q38k4 => first | k_asm | exact sw1 (by k_asm) | exact sw2 (by k_asm) | exact sw3 (by k_asm)); (case q38k5 => k_asm); (case q38k6 => first | exact rfl | assumption); (case q38h1 => assumption); (case q38h2 => k_all); (case q38k7 => ktr_room); (case q38k8 => ktr_units); intro r' h' tk' news' F' N' hP'; (obtain ⟨a', row', t1', t2', t3', x', y', ta', tb', n', e1', e2', hr', hS', hl', hs'⟩ := hP'); subst e1'; subst e2'; (try k_lt hl'); (try dsimp only); (try k_fold)))
  trivial
theorem sw4 {h₀ h : Heap} {L : Addr} {p0 p1 p2 p3 q : Addr × Obj} {r : Led} (N : News h₀ L h (p0 :: p1 :: p2 :: p3 :: q :: r)) : News h₀ L h (q :: p0 :: p1 :: p2 :: p3 :: r) := fun x hx => N x (by simp only [List.mem_cons] at hx ⊢; rcases hx with h | h | h | h | h | h <;> simp [h])
theorem sw5 {h₀ h : Heap} {L : Addr} {p0 p1 p2 p3 p4 q : Addr × Obj} {r : Led} (N : News h₀ L h (p0 :: p1 :: p2 :: p3 :: p4 :: q :: r)) : News h₀ L h (q :: p0 :: p1 :: p2 :: p3 :: p4 :: r) := fun x hx => N x (by simp only [List.mem_cons] at hx ⊢; rcases hx with h | h | h | h | h | h | h <;> simp [h])
theorem sw6 {h₀ h : Heap} {L : Addr} {p0 p1 p2 p3 p4 p5 q : Addr × Obj} {r : Led} (N : News h₀ L h (p0 :: p1 :: p2 :: p3 :: p4 :: p5 :: q :: r)) : News h₀ L h (q :: p0 :: p1 :: p2 :: p3 :: p4 :: p5 :: r) := fun x hx => N x (by simp only [List.mem_cons] at hx ⊢; rcases hx with h | h | h | h | h | h | h | h <;> simp [h])
theorem sw7 {h₀ h : Heap} {L : Addr} {p0 p1 p2 p3 p4 p5 p6 q : Addr × Obj} {r : Led} (N : News h₀ L h (p0 :: p1 :: p2 :: p3 :: p4 :: p5 :: p6 :: q :: r)) : News h₀ L h (q :: p0 :: p1 :: p2 :: p3 :: p4 :: p5 :: p6 :: r) := fun x hx => N x (by simp only [List.mem_cons] at hx ⊢; rcases hx with h | h | h | h | h | h | h | h | h <;> simp [h])
theorem sw8 {h₀ h : Heap} {L : Addr} {p0 p1 p2 p3 p4 p5 p6 p7 q : Addr × Obj} {r : Led} (N : News h₀ L h (p0 :: p1 :: p2 :: p3 :: p4 :: p5 :: p6 :: p7 :: q :: r)) : News h₀ L h (q :: p0 :: p1 :: p2 :: p3 :: p4 :: p5 :: p6 :: p7 :: r) := fun x hx => N x (by simp only [List.mem_cons] at hx ⊢; rcases hx with h | h | h | h | h | h | h | h | h | h <;> simp [h])
theorem sw9 {h₀ h : Heap} {L : Addr} {p0 p1 p2 p3 p4 p5 p6 p7 p8 q : Addr × Obj} {r : Led} (N : News h₀ L h (p0 :: p1 :: p2 :: p3 :: p4 :: p5 :: p6 :: p7 :: p8 :: q :: r)) : News h₀ L h (q :: p0 :: p1 :: p2 :: p3 :: p4 :: p5 :: p6 :: p7 :: p8 :: r) := fun x hx => N x (by simp only [List.mem_cons] at hx ⊢; rcases hx with h | h | h | h | h | h | h | h | h | h | h <;> simp [h])
theorem sw10 {h₀ h : Heap} {L : Addr} {p0 p1 p2 p3 p4 p5 p6 p7 p8 p9 q : Addr × Obj} {r : Led} (N : News h₀ L h (p0 :: p1 :: p2 :: p3 :: p4 :: p5 :: p6 :: p7 :: p8 :: p9 :: q :: r)) : News h₀ L h (q :: p0 :: p1 :: p2 :: p3 :: p4 :: p5 :: p6 :: p7 :: p8 :: p9 :: r) := fun x hx => N x (by simp only [List.mem_cons] at hx ⊢; rcases hx with h | h | h | h | h | h | h | h | h | h | h | h <;> simp [h])
theorem sw11 {h₀ h : Heap} {L : Addr} {p0 p1 p2 p3 p4 p5 p6 p7 p8 p9 p10 q : Addr × Obj} {r : Led} (N : News h₀ L h (p0 :: p1 :: p2 :: p3 :: p4 :: p5 :: p6 :: p7 :: p8 :: p9 :: p10 :: q :: r)) : News h₀ L h (q :: p0 :: p1 :: p2 :: p3 :: p4 :: p5 :: p6 :: p7 :: p8 :: p9 :: p10 :: r) := fun x hx => N x (by simp only [List.mem_cons] at hx ⊢; rcases hx with h | h | h | h | h | h | h | h | h | h | h | h | h <;> simp [h])
theorem sw12 {h₀ h : Heap} {L : Addr} {p0 p1 p2 p3 p4 p5 p6 p7 p8 p9 p10 p11 q : Addr × Obj} {r : Led} (N : News h₀ L h (p0 :: p1 :: p2 :: p3 :: p4 :: p5 :: p6 :: p7 :: p8 :: p9 :: p10 :: p11 :: q :: r)) : News h₀ L h (q :: p0 :: p1 :: p2 :: p3 :: p4 :: p5 :: p6 :: p7 :: p8 :: p9 :: p10 :: p11 :: r) := fun x hx => N x (by simp only [List.mem_cons] at hx ⊢; rcases hx with h | h | h | h | h | h | h | h | h | h | h | h | h | h <;> simp [h])
theorem words16 : True := by
  k_with "ktr_rel" => (refine' TabInv.mono ?q39h ?q39s; (case q39h => assumption); (case q39s => kqd_sub))
  k_with "eval Lambda" => (k_here; k_dflt (refine' kla_eval ?q40d0 ?_; (case q40d0 => exact rfl)); k_dflt (refine' lam_any ?q40F ?q40N ?q40T ?q40C ?q40I ?q40o ?q40cl ?_; (case q40F => k_asm); (case q40N => first | k_asm | exact sw1 (by k_asm) | exact sw2 (by k_asm) | exact sw3 (by k_asm) | exact sw4 (by k_asm) | exact sw5 (by k_asm) | exact sw6 (by k_asm) | exact sw7 (by k_asm) | exact sw8 (by k_asm) | exact sw9 (by k_asm) | exact sw10 (by k_asm) | exact sw11 (by k_asm) | exact sw12 (by k_asm)); (case q40T => k_asm); (case q40C => exact codeHd_of (by k_asm)); (case q40I => ktr_rel); (case q40o => k_all); (case q40cl => exact rfl)); intro f' c' oc' vs' t' ct' ps' tl' h' tk' F' N' I' m1' d1' d2' l1 l2; (try dsimp only at N'); (try k_lt l2))
  k_with "call ref" => (k_here; (with_reducible show wpAny _ _ (call (Value.ref 281) _) _ _ _); k_dflt (refine' CallC.use (pushed_c _ _ _ _ _ _ ?q41h1 ?q41h2 ?q41h3) ?q41k1 ?q41k2 ?q41k3 ?q41k4 ?q41k5 ?q41k6 ?q41k7 ?q41k8 ?_; (case q41k1 => k_asm); (case q41k2 => k_asm); (case q41k3 => k_asm); (case q41k4 => first | k_asm | exact sw1 (by k_asm) | exact sw2 (by k_asm) | exact sw3 (by k_asm)); (case q41k5 => k_asm); (case q41k6 => first | exact rfl | assumption); (case q41h1 => ktr_rel); (case q41h2 => ktr_rel); (case q41h3 => first | assumption | (dsimp only; omega)); (case q41k7 => ktr_room); (case q41k8 => ktr_units); intro r' h' tk' news' F' N' hP'; (obtain ⟨⟨tl', e1', hg'⟩, hf'⟩ := hP'); subst e1'; (try dsimp only); (try k_fold)))
  k_with "call ref" => (k_here; (with_reducible show wpAny _ _ (call (Value.ref 358) _) _ _ _); k_dflt (refine' CallC.use (made_c _ _ _ _ _ _ _ ?q42h1) ?q42k1 ?q42k2 ?q42k3 ?q42k4 ?q42k5 ?q42k6 ?q42k7 ?q42k8 ?_; (case q42k1 => k_asm); (case q42k2 => k_asm); (case q42k3 => k_asm); (case q42k4 => first | k_asm | exact sw1 (by k_asm) | exact sw2 (by k_asm) | exact sw3 (by k_asm)); (case q42k5 => k_asm); (case q42k6 => first | exact rfl | assumption); (case q42h1 => k_mem); (case q42k7 => ktr_room); (case q42k8 => ktr_units); intro r' h' tk' news' F' N' hP'; (obtain ⟨⟨tl', e1', hg'⟩, x', dx', u1', u2', u3', u4', t1', t2', t3', e2', g1', g2'⟩ := hP'); subst e1'; subst e2'; (try dsimp only); (try k_fold)))
  k_with "call ref" => (k_here; (with_reducible show wpAny _ _ (call (Value.ref 295) _) _ _ _); k_dflt (refine' CallC.use (pop_c _ _ _ _ _ _ _ _ _ ?q43h1 ?q43h2) ?q43k1 ?q43k2 ?q43k3 ?q43k4 ?q43k5 ?q43k6 ?q43k7 ?q43k8 ?_; (case q43k1 => k_asm); (case q43k2 => k_asm); (case q43k3 => k_asm); (case q43k4 => first | k_asm | exact sw1 (by k_asm) | exact sw2 (by k_asm) | exact sw3 (by k_asm)); (case q43k5 => k_asm); (case q43k6 => first | exact rfl | assumption); (case q43h2 => ktr_rel); (case q43h1 => assumption); (case q43k7 => ktr_room); (case q43k8 => ktr_units); intro r' h' tk' news' F' N' hP'; (obtain ⟨⟨tl', e1', hg'⟩, hf'⟩ := hP'); subst e1'; (try dsimp only); (try k_fold)))
  k_with "call ref" => (k_here; (with_reducible show wpAny _ _ (call (Value.ref 316) _) _ _ _); k_dflt (refine' CallC.use (wvlan_c _ _ _ _ _ _ _ _ _ _ _ ?q44h1 ?q44h2) ?q44k1 ?q44k2 ?q44k3 ?q44k4 ?q44k5 ?q44k6 ?q44k7 ?q44k8 ?_; (case q44k1 => k_asm); (case q44k2 => k_asm); (case q44k3 => k_asm); (case q44k4 => first | k_asm | exact sw1 (by k_asm) | exact sw2 (by k_asm) | exact sw3 (by k_asm)); (case q44k5 => k_asm); (case q44k6 => first | exact rfl | assumption); (case q44h2 => ktr_rel); (case q44h1 => assumption); (case q44k7 => ktr_room); (case q44k8 => ktr_units); intro r' h' tk' news' F' N' hP'; (obtain ⟨⟨tl', e1', hg'⟩, hf'⟩ := hP'); subst e1'; (try dsimp only); (try k_fold)))
  k_with "call ref" => (k_here; (with_reducible show wpAny _ _ (call (Value.ref 323) _) _ _ _); k_dflt (refine' CallC.use (wprio_c _ _ _ _ _ _ _ _ _ _ _ ?q45h1 ?q45h2) ?q45k1 ?q45k2 ?q45k3 ?q45k4 ?q45k5 ?q45k6 ?q45k7 ?q45k8 ?_; (case q45k1 => k_asm); (case q45k2 => k_asm); (case q45k3 => k_asm); (case q45k4 => first | k_asm | exact sw1 (by k_asm) | exact sw2 (by k_asm) | exact sw3 (by k_asm)); (case q45k5 => k_asm); (case q45k6 => first | exact rfl | assumption); (case q45h2 => ktr_rel); (case q45h1 => assumption); (case q45k7 => ktr_room); (case q45k8 => ktr_units); intro r' h' tk' news' F' N' hP'; (obtain ⟨⟨tl', e1', hg'⟩, hf'⟩ := hP'); subst e1'; (try dsimp only); (try k_fold)))
  trivial
section
variable {prog : Program} {w : World} {A : Around} {E : Value → Shared → Prop} {s : Shared} {h₀ : Heap} {L : Addr} {m : Str → Option Value} {news : List (Addr × Obj)} {a : Addr} {Q : Value → Shared → Prop} {value slice : PySem.Expr} {row : Row} {t1 t2 t3 u : Tok}
theorem row_item0 (N : News h₀ L s.heap news) (ha : (a, rowObj row t1 t2 t3) ∈ news) (h : Q (.int row.kind t1) s)
    (hs : subscripted slice false (.ref a) (.int 0 u) = operate [.ref a, .int 0 u] (getItem (.ref a) (.int 0 u)) := by with_unfolding_all rfl) :
    wpAny (model prog w) A (subscriptTail value slice (.ref a) (.int 0 u)) Q E s := item_tupleT (j := 0) (News.isTup N ha) (by decide) (by decide) (by simp [seqIndex?]) rfl h hs
theorem row_item1 (N : News h₀ L s.heap news) (ha : (a, rowObj row t1 t2 t3) ∈ news) (h : Q (.int row.prio t2) s)
    (hs : subscripted slice false (.ref a) (.int 1 u) = operate [.ref a, .int 1 u] (getItem (.ref a) (.int 1 u)) := by with_unfolding_all rfl) :
    wpAny (model prog w) A (subscriptTail value slice (.ref a) (.int 1 u)) Q E s := item_tupleT (j := 1) (News.isTup N ha) (by decide) (by decide) (by simp [seqIndex?]) rfl h hs
theorem row_item2 (N : News h₀ L s.heap news) (ha : (a, rowObj row t1 t2 t3) ∈ news) (h : Q (.bool row.drop) s)
    (hs : subscripted slice false (.ref a) (.int 2 u) = operate [.ref a, .int 2 u] (getItem (.ref a) (.int 2 u)) := by with_unfolding_all rfl) :
    wpAny (model prog w) A (subscriptTail value slice (.ref a) (.int 2 u)) Q E s := item_tupleT (j := 2) (News.isTup N ha) (by decide) (by decide) (by simp [seqIndex?]) rfl h hs
theorem row_item3 (N : News h₀ L s.heap news) (ha : (a, rowObj row t1 t2 t3) ∈ news) (h : Q (.int row.vlan t3) s)
    (hs : subscripted slice false (.ref a) (.int 3 u) = operate [.ref a, .int 3 u] (getItem (.ref a) (.int 3 u)) := by with_unfolding_all rfl) :
    wpAny (model prog w) A (subscriptTail value slice (.ref a) (.int 3 u)) Q E s := item_tupleT (j := 3) (News.isTup N ha) (by decide) (by decide) (by simp [seqIndex?]) rfl h hs
end
theorem words17 : True := by
  k_with "subscriptTail" => (k_here; (with_reducible show wpAny _ _ (subscriptTail _ _ (Value.ref _) (Value.int 0 _)) _ _ _); k_dflt (refine' row_item0 ?q46k1 ?q46k2 ?_ ?q46k6; (case q46k1 => k_asm); (case q46k2 => k_mem); (case q46k6 => with_unfolding_all rfl); k_whole))
  k_with "subscriptTail" => (k_here; (with_reducible show wpAny _ _ (subscriptTail _ _ (Value.ref _) (Value.int 1 _)) _ _ _); k_dflt (refine' row_item1 ?q47k1 ?q47k2 ?_ ?q47k6; (case q47k1 => k_asm); (case q47k2 => k_mem); (case q47k6 => with_unfolding_all rfl); k_whole))
  k_with "subscriptTail" => (k_here; (with_reducible show wpAny _ _ (subscriptTail _ _ (Value.ref _) (Value.int 2 _)) _ _ _); k_dflt (refine' row_item2 ?q48k1 ?q48k2 ?_ ?q48k6; (case q48k1 => k_asm); (case q48k2 => k_mem); (case q48k6 => with_unfolding_all rfl); k_whole))
  k_with "subscriptTail" => (k_here; (with_reducible show wpAny _ _ (subscriptTail _ _ (Value.ref _) (Value.int 3 _)) _ _ _); k_dflt (refine' row_item3 ?q49k1 ?q49k2 ?_ ?q49k6; (case q49k1 => k_asm); (case q49k2 => k_mem); (case q49k6 => with_unfolding_all rfl); k_whole))
  k_with "subscriptTail Name Constant ref int" => (k_here; (with_reducible show wpAny _ _ (subscriptTail _ _ (Value.ref _) (Value.int 0 _)) _ _ _); k_dflt (refine' row_item0 ?q50k1 ?q50k2 ?_ ?q50k6; (case q50k1 => k_asm); (case q50k2 => k_mem); (case q50k6 => with_unfolding_all rfl); k_whole))
  k_with "subscriptTail Name Constant ref int" => (k_here; (with_reducible show wpAny _ _ (subscriptTail _ _ (Value.ref _) (Value.int 1 _)) _ _ _); k_dflt (refine' row_item1 ?q51k1 ?q51k2 ?_ ?q51k6; (case q51k1 => k_asm); (case q51k2 => k_mem); (case q51k6 => with_unfolding_all rfl); k_whole))
  k_with "subscriptTail Name Constant ref int" => (k_here; (with_reducible show wpAny _ _ (subscriptTail _ _ (Value.ref _) (Value.int 2 _)) _ _ _); k_dflt (refine' row_item2 ?q52k1 ?q52k2 ?_ ?q52k6; (case q52k1 => k_asm); (case q52k2 => k_mem); (case q52k6 => with_unfolding_all rfl); k_whole))
  k_with "subscriptTail Name Constant ref int" => (k_here; (with_reducible show wpAny _ _ (subscriptTail _ _ (Value.ref _) (Value.int 3 _)) _ _ _); k_dflt (refine' row_item3 ?q53k1 ?q53k2 ?_ ?q53k6; (case q53k1 => k_asm); (case q53k2 => k_mem); (case q53k6 => with_unfolding_all rfl); k_whole))
  trivial
theorem words18 : True := by
  k_with "eval Name" => (k_here; k_dflt (refine' nameX_F ?q54N ?q54c ?q54m ?q54d ?_ ?q54a ?q54b; (case q54a => rfl); (case q54b => rfl); (case q54N => k_asm); (case q54c => rfl); (case q54m => k_mem); (case q54d => assumption); k_whole))
  trivial
abbrev noArgs : Arguments := { posonlyargs := [], args := [], vararg := none, kwonlyargs := [], kw_defaults := [], kwarg := none, defaults := [] }
abbrev lamSc (names : List (Str × NameKind)) : Scope := { kind := .function, names, isGenerator := false, isCoroutine := false }
abbrev lam1 (p1 p2 p3 p4 p5 p6 : Pos) : PySem.Expr := .Call (.Name (Str.ofString "pushed") p1) [.Name (Str.ofString "frame") p2, .Call (.Name (Str.ofString "_law_made") p3) [.Name (Str.ofString "tag") p4] [] p5] [] p6
abbrev lam2 (p1 p2 p3 : Pos) : PySem.Expr := .Call (.Name (Str.ofString "popped") p1) [.Name (Str.ofString "frame") p2] [] p3
abbrev lam3 (p1 p2 p3 p4 p5 p6 : Pos) : PySem.Expr := .Call (.Name (Str.ofString "with_vlan") p1) [.Name (Str.ofString "frame") p2, .Subscript (.Name (Str.ofString "tag") p3) (.Constant (.int 3) 0 p4) p5] [] p6
abbrev lam4 (p1 p2 p3 p4 p5 p6 : Pos) : PySem.Expr := .Call (.Name (Str.ofString "with_priority") p1) [.Name (Str.ofString "frame") p2, .Subscript (.Name (Str.ofString "tag") p3) (.Constant (.int 1) 0 p4) p5] [] p6
abbrev sc1 : Scope := lamSc [(Str.ofString "frame", .free), (Str.ofString "tag", .free), (Str.ofString "pushed", .globalImplicit), (Str.ofString "_law_made", .globalImplicit)]
abbrev sc2 : Scope := lamSc [(Str.ofString "frame", .free), (Str.ofString "popped", .globalImplicit)]
abbrev sc3 : Scope := lamSc [(Str.ofString "frame", .free), (Str.ofString "tag", .free), (Str.ofString "with_vlan", .globalImplicit)]
abbrev sc4 : Scope := lamSc [(Str.ofString "frame", .free), (Str.ofString "tag", .free), (Str.ofString "with_priority", .globalImplicit)]
set_option maxHeartbeats 400000 in
theorem lam1_c (w : World) (f c' cf : Addr) (oc ofr : Obj) (vs : Array Value) (t : Tok) (pm ctv v : Value) (ct a1 : Addr) (ot : Obj) (tagr : Row) (t1 t2 t3 : Tok) (tg sc : Int) (rows : List Row) (kind : Option Int) (pay : Array UInt8) (news : Led) (p1 p2 p3 p4 p5 p6 : Pos) (hc : (c', oc) ∈ news) (d1 : oc.data = .fields vs) (d2 : vs[1]? = some (.str lamQ t)) (hcf : (cf, ofr) ∈ news) (df : ofr.data = .cell (some v)) (hct : (ct, ot) ∈ news) (dt : ot.data = .cell (some (.ref a1))) (hm : (a1, rowObj tagr t1 t2 t3) ∈ news) (hf : FrameAt w.params news v ⟨tg, sc, rows, kind, pay⟩) (hl : rows.length ≤ 998) :
    CallC w (.ref f) [] ((f, kla_obj (Str.ofString "<lambda>") lamQ noArgs (lam1 p1 p2 p3 p4 p5 p6) sc1 [(Str.ofString "tag", ct), (Str.ofString "frame", cf)] pm c' ctv) :: news) 60 600 (fun r news' => Grow ((f, kla_obj (Str.ofString "<lambda>") lamQ noArgs (lam1 p1 p2 p3 p4 p5 p6) sc1 [(Str.ofString "tag", ct), (Str.ofString "frame", cf)] pm c' ctv) :: news) news' ∧ FrameAt w.params news' r ⟨tg, sc, tagr :: rows, kind, pay⟩) := by
  have hf0 := hf.mono (fun p hp => List.mem_cons_of_mem (f, kla_obj (Str.ofString "<lambda>") lamQ noArgs (lam1 p1 p2 p3 p4 p5 p6) sc1 [(Str.ofString "tag", ct), (Str.ofString "frame", cf)] pm c' ctv) hp)
  have hl2 : rows.length ≤ 1000 := by omega
  unfold CallC
  intro dp un gd cn cs a ccd cl outer A₀ base h₀ L m mean mg mb s Q E B F X N T hk hd hu hret
  refine wpAny_call ?_
  k_dflt (refine' kla_code ?k1 ?k2 ?k3 ?k4 ?k5 ?kA ?kF ?kK ?k6 ?k7 ?k8 ?k9 ?kB ?_ ?c2 ?c3 ?c4 ?c5; (case kA => exact rfl); (case kF => exact rfl); (case kK => assumption); (case k1 => k_asm); (case k2 => k_asm); (case k3 => k_asm); (case k4 => k_asm); (case k5 => k_asm); (case k6 => exact List.mem_cons_self); (case k7 => exact codeRec_news (by k_asm) (List.mem_cons_of_mem _ hc) d1 d2); (case k8 => ktr_room); (case k9 => exact rfl); (case c5 => decide); (case kB => exact locs rfl); (case c2 => exact rfl); (case c3 => exact rfl); (case c4 => exact rfl); k_whole; intro g' L' h' FG' F' N' B' X' T'; (try dsimp only); (try k_fold))
  k_steps
  all_goals (refine hret _ _ _ _ (by k_asm) (by k_asm) ⟨?_, ?_⟩ <;> ktr_rel)
set_option maxHeartbeats 400000 in
theorem lam2_c (w : World) (f c' cf : Addr) (oc ofr : Obj) (vs : Array Value) (t : Tok) (pm ctv v : Value) (tg sc : Int) (row : Row) (rows : List Row) (kind : Option Int) (pay : Array UInt8) (news : Led) (p1 p2 p3 : Pos) (hc : (c', oc) ∈ news) (d1 : oc.data = .fields vs) (d2 : vs[1]? = some (.str lamQ t)) (hcf : (cf, ofr) ∈ news) (df : ofr.data = .cell (some v)) (hf : FrameAt w.params news v ⟨tg, sc, row :: rows, kind, pay⟩) (hl : rows.length ≤ 998) :
    CallC w (.ref f) [] ((f, kla_obj (Str.ofString "<lambda>") lamQ noArgs (lam2 p1 p2 p3) sc2 [(Str.ofString "frame", cf)] pm c' ctv) :: news) 60 600 (fun r news' => Grow ((f, kla_obj (Str.ofString "<lambda>") lamQ noArgs (lam2 p1 p2 p3) sc2 [(Str.ofString "frame", cf)] pm c' ctv) :: news) news' ∧ FrameAt w.params news' r ⟨tg, sc, rows, kind, pay⟩) := by
  have hf0 := hf.mono (fun p hp => List.mem_cons_of_mem (f, kla_obj (Str.ofString "<lambda>") lamQ noArgs (lam2 p1 p2 p3) sc2 [(Str.ofString "frame", cf)] pm c' ctv) hp)
  have hl2 : rows.length ≤ 1000 := by omega
  unfold CallC
  intro dp un gd cn cs a ccd cl outer A₀ base h₀ L m mean mg mb s Q E B F X N T hk hd hu hret
  refine wpAny_call ?_
  k_dflt (refine' kla_code ?k1 ?k2 ?k3 ?k4 ?k5 ?kA ?kF ?kK ?k6 ?k7 ?k8 ?k9 ?kB ?_ ?c2 ?c3 ?c4 ?c5; (case kA => exact rfl); (case kF => exact rfl); (case kK => assumption); (case k1 => k_asm); (case k2 => k_asm); (case k3 => k_asm); (case k4 => k_asm); (case k5 => k_asm); (case k6 => exact List.mem_cons_self); (case k7 => exact codeRec_news (by k_asm) (List.mem_cons_of_mem _ hc) d1 d2); (case k8 => ktr_room); (case k9 => exact rfl); (case c5 => decide); (case kB => exact locs rfl); (case c2 => exact rfl); (case c3 => exact rfl); (case c4 => exact rfl); k_whole; intro g' L' h' FG' F' N' B' X' T'; (try dsimp only); (try k_fold))
  k_steps
  all_goals (refine hret _ _ _ _ (by k_asm) (by k_asm) ⟨?_, ?_⟩ <;> ktr_rel)
set_option maxHeartbeats 400000 in
theorem lam3_c (w : World) (f c' cf : Addr) (oc ofr : Obj) (vs : Array Value) (t : Tok) (pm ctv v : Value) (ct a1 : Addr) (ot : Obj) (tagr : Row) (t1 t2 t3 : Tok) (tg sc : Int) (row : Row) (rows : List Row) (kind : Option Int) (pay : Array UInt8) (news : Led) (p1 p2 p3 p4 p5 p6 : Pos) (hc : (c', oc) ∈ news) (d1 : oc.data = .fields vs) (d2 : vs[1]? = some (.str lamQ t)) (hcf : (cf, ofr) ∈ news) (df : ofr.data = .cell (some v)) (hct : (ct, ot) ∈ news) (dt : ot.data = .cell (some (.ref a1))) (hm : (a1, rowObj tagr t1 t2 t3) ∈ news) (hf : FrameAt w.params news v ⟨tg, sc, row :: rows, kind, pay⟩) (hl : rows.length ≤ 998) :
    CallC w (.ref f) [] ((f, kla_obj (Str.ofString "<lambda>") lamQ noArgs (lam3 p1 p2 p3 p4 p5 p6) sc3 [(Str.ofString "tag", ct), (Str.ofString "frame", cf)] pm c' ctv) :: news) 60 600 (fun r news' => Grow ((f, kla_obj (Str.ofString "<lambda>") lamQ noArgs (lam3 p1 p2 p3 p4 p5 p6) sc3 [(Str.ofString "tag", ct), (Str.ofString "frame", cf)] pm c' ctv) :: news) news' ∧ FrameAt w.params news' r ⟨tg, sc, ⟨row.kind, row.prio, row.drop, tagr.vlan⟩ :: rows, kind, pay⟩) := by
  have hf0 := hf.mono (fun p hp => List.mem_cons_of_mem (f, kla_obj (Str.ofString "<lambda>") lamQ noArgs (lam3 p1 p2 p3 p4 p5 p6) sc3 [(Str.ofString "tag", ct), (Str.ofString "frame", cf)] pm c' ctv) hp)
  have hl2 : rows.length ≤ 1000 := by omega
  unfold CallC
  intro dp un gd cn cs a ccd cl outer A₀ base h₀ L m mean mg mb s Q E B F X N T hk hd hu hret
  refine wpAny_call ?_
  k_dflt (refine' kla_code ?k1 ?k2 ?k3 ?k4 ?k5 ?kA ?kF ?kK ?k6 ?k7 ?k8 ?k9 ?kB ?_ ?c2 ?c3 ?c4 ?c5; (case kA => exact rfl); (case kF => exact rfl); (case kK => assumption); (case k1 => k_asm); (case k2 => k_asm); (case k3 => k_asm); (case k4 => k_asm); (case k5 => k_asm); (case k6 => exact List.mem_cons_self); (case k7 => exact codeRec_news (by k_asm) (List.mem_cons_of_mem _ hc) d1 d2); (case k8 => ktr_room); (case k9 => exact rfl); (case c5 => decide); (case kB => exact locs rfl); (case c2 => exact rfl); (case c3 => exact rfl); (case c4 => exact rfl); k_whole; intro g' L' h' FG' F' N' B' X' T'; (try dsimp only); (try k_fold))
  k_steps
  all_goals (refine hret _ _ _ _ (by k_asm) (by k_asm) ⟨?_, ?_⟩ <;> ktr_rel)
set_option maxHeartbeats 400000 in
theorem lam4_c (w : World) (f c' cf : Addr) (oc ofr : Obj) (vs : Array Value) (t : Tok) (pm ctv v : Value) (ct a1 : Addr) (ot : Obj) (tagr : Row) (t1 t2 t3 : Tok) (tg sc : Int) (row : Row) (rows : List Row) (kind : Option Int) (pay : Array UInt8) (news : Led) (p1 p2 p3 p4 p5 p6 : Pos) (hc : (c', oc) ∈ news) (d1 : oc.data = .fields vs) (d2 : vs[1]? = some (.str lamQ t)) (hcf : (cf, ofr) ∈ news) (df : ofr.data = .cell (some v)) (hct : (ct, ot) ∈ news) (dt : ot.data = .cell (some (.ref a1))) (hm : (a1, rowObj tagr t1 t2 t3) ∈ news) (hf : FrameAt w.params news v ⟨tg, sc, row :: rows, kind, pay⟩) (hl : rows.length ≤ 998) :
    CallC w (.ref f) [] ((f, kla_obj (Str.ofString "<lambda>") lamQ noArgs (lam4 p1 p2 p3 p4 p5 p6) sc4 [(Str.ofString "tag", ct), (Str.ofString "frame", cf)] pm c' ctv) :: news) 60 600 (fun r news' => Grow ((f, kla_obj (Str.ofString "<lambda>") lamQ noArgs (lam4 p1 p2 p3 p4 p5 p6) sc4 [(Str.ofString "tag", ct), (Str.ofString "frame", cf)] pm c' ctv) :: news) news' ∧ FrameAt w.params news' r ⟨tg, sc, ⟨row.kind, tagr.prio, row.drop, row.vlan⟩ :: rows, kind, pay⟩) := by
  have hf0 := hf.mono (fun p hp => List.mem_cons_of_mem (f, kla_obj (Str.ofString "<lambda>") lamQ noArgs (lam4 p1 p2 p3 p4 p5 p6) sc4 [(Str.ofString "tag", ct), (Str.ofString "frame", cf)] pm c' ctv) hp)
  have hl2 : rows.length ≤ 1000 := by omega
  unfold CallC
  intro dp un gd cn cs a ccd cl outer A₀ base h₀ L m mean mg mb s Q E B F X N T hk hd hu hret
  refine wpAny_call ?_
  k_dflt (refine' kla_code ?k1 ?k2 ?k3 ?k4 ?k5 ?kA ?kF ?kK ?k6 ?k7 ?k8 ?k9 ?kB ?_ ?c2 ?c3 ?c4 ?c5; (case kA => exact rfl); (case kF => exact rfl); (case kK => assumption); (case k1 => k_asm); (case k2 => k_asm); (case k3 => k_asm); (case k4 => k_asm); (case k5 => k_asm); (case k6 => exact List.mem_cons_self); (case k7 => exact codeRec_news (by k_asm) (List.mem_cons_of_mem _ hc) d1 d2); (case k8 => ktr_room); (case k9 => exact rfl); (case c5 => decide); (case kB => exact locs rfl); (case c2 => exact rfl); (case c3 => exact rfl); (case c4 => exact rfl); k_whole; intro g' L' h' FG' F' N' B' X' T'; (try dsimp only); (try k_fold))
  k_steps
  all_goals (refine hret _ _ _ _ (by k_asm) (by k_asm) ⟨?_, ?_⟩ <;> ktr_rel)

theorem words19 : True := by
  k_with "callWith ref" => (k_here; (with_reducible show wpAny _ _ (callWith _ (Value.ref _) [] (backTo _ (starEach [] _)) []) _ _ _); k_dflt (refine' callWith_F0 ?q55k1 ?_; (case q55k1 => exact FnAt.of (by k_asm) (by assumption)); k_whole); (try dsimp only [List.nil_append]))
  k_with "call ref" => (k_here; (with_reducible show wpAny _ _ (call (Value.ref _) []) _ _ _); (rename CallC _ _ [] _ _ _ _ => hCallee); k_dflt (refine' CallC.use hCallee ?q56k1 ?q56k2 ?q56k3 ?q56k4 ?q56k5 ?q56k6 ?q56k7 ?q56k8 ?_; (case q56k1 => k_asm); (case q56k2 => k_asm); (case q56k3 => k_asm); (case q56k4 => k_asm); (case q56k5 => k_asm); (case q56k6 => first | exact rfl | assumption); (case q56k7 => ktr_room); (case q56k8 => ktr_units); intro r' h' tk' news' F' N' hP'; (try dsimp only); (try k_fold)))
  trivial
theorem done_c (w : World) (f : Addr) (oc : Value) (od : Option Addr) (fd : FuncData) (sl : Array (Option Value)) (news : Led) (Post : Value → Led → Prop) (hfm : (f, (⟨oc, od, .func fd, sl⟩ : Obj)) ∈ news) (hC : CallC w (.ref f) [] news 60 600 Post) : CallC w (.ref 372) [.ref f] news 70 700 Post := by
  have hC0 := hC
  unfold CallC
  intro dp un gd cn cs a ccd cl outer A₀ base h₀ L m mean mg mb s Q E B F X N T hk hd hu hret
  refine wpAny_call ?_
  k_dflt ktr_enter
  k_steps
  all_goals (exact hret _ _ _ _ (by k_asm) (by k_asm) (by assumption))

/-- how a call is left, in which an exception may have been caught: the outer frames' slots may have turned -/
def LeaveT (env : Env) (A₀ : Around) (base : Heap) (outer : List Env) (K : Frag) (p : Program) (loose : List Str) (mean : ExcName → Option Value) (mg mb : Str → Option Value) (h₀ : Heap) (L : Addr) (m : Str → Option Value) (g : Heap) (R : Result → Shared → Prop) (v : Value) (s' : Shared) : Prop :=
  ∃ g' L' m' news', KtsTurn ((env :: outer).filterMap (·.frame)) g g' ∧ Fr g' L' s'.heap m' ∧ News g' L' s'.heap news' ∧ ∀ h₁, KtsTurn (outer.filterMap (·.frame)) h₀ h₁ → Fr h₁ L s'.heap m → News h₁ L s'.heap news' → Below A₀ base outer h₁ → K.In h₁ →
    Top p loose mean mg mb h₁ → KtsDicts (outer.filterMap (·.frame)) h₁ → R (.ok (.ret v)) s'
theorem frames_mem {env : Env} {L b : Addr} {outer : List Env} (hf : env.frame = some L) (hm : b ∈ (env :: outer).filterMap (·.frame)) : b = L ∨ b ∈ outer.filterMap (·.frame) := by
  obtain ⟨env', he, hf'⟩ := List.mem_filterMap.mp hm
  rcases List.mem_cons.mp he with rfl | he
  · exact .inl (Option.some.inj (hf'.symm.trans hf))
  · exact .inr (List.mem_filterMap.mpr ⟨env', he, hf'⟩)
section
variable {A₀ A : Around} {s : Shared} {base h₀ : Heap} {outer : List Env} {L : Addr} {m : Str → Option Value} {env : Env} {news : List (Addr × Obj)} {K : Frag} {p : Program} {loose : List Str} {mean : ExcName → Option Value} {mg mb : Str → Option Value} {R : Result → Shared → Prop}
theorem groundS (B : Below A₀ base outer h₀) (F : Fr h₀ L s.heap m) (N : News h₀ L s.heap news) (hA : A.frames = some (env :: outer)) (hf : env.frame = some L) (hke : env.scope.kind = .function)
    (XB : K.In base) (TB : Top p loose mean mg mb base) (D : KtsDicts (outer.filterMap (·.frame)) h₀) :
    KtsDicts ((env :: outer).filterMap (·.frame)) (hideAll s.heap (news.map (·.1))) ∧
      ∀ v s', LeaveT env A₀ base outer K p loose mean mg mb h₀ L m (hideAll s.heap (news.map (·.1))) R v s' → R (.ok (.ret v)) s' := by
  obtain ⟨FG, _, st, _⟩ := groundX (R := R) B F N hA hf hke
  obtain ⟨oL, es, ep, hLg, hLd, hLk, hLf⟩ := FG.ns
  have nL₀ : h₀.get? L = none := kts_self F
  refine ⟨fun b hb => ?_, fun v s' hl => ?_⟩
  · rcases frames_mem hf hb with rfl | hb
    · exact ⟨oL, es, ep, hLg, hLd⟩
    · obtain ⟨o, es', n', ho', hd'⟩ := D b hb
      exact ⟨o, es', n', st b o ho', hd'⟩
  · obtain ⟨g', L', m', news', T', F', N', k⟩ := hl
    obtain ⟨sl, hs⟩ := T'.up hLg
    obtain ⟨T₁, S₁⟩ := kts_turn_at (h := s'.heap) (fs := outer.filterMap (·.frame)) (g := h₀)
      (fun b hb => let ⟨_, o, ho', _⟩ := B.frames.mem hb; ⟨o, ho'⟩)
      (fun b o e nmem => F'.keep b o (T'.other b o (st b o e) (fun q => by
        rcases frames_mem hf q with z | z
        · rw [z, nL₀] at e; cases e
        · exact nmem z)))
      (fun b o e _ => let ⟨sl', hs'⟩ := T'.up (st b o e); ⟨sl', F'.keep _ _ hs'⟩)
    have B₃ : Below A₀ base outer (ktsHeap s'.heap (outer.filterMap (·.frame)) h₀) := ⟨B.stack, fun b o e => T₁.other b o (B.stays b o e) (fun hm => by
      rw [(B.frames.mem hm).1] at e; cases e), B.frames.of_keeps fun b o e _ => let ⟨sl', hs'⟩ := T₁.up e; ⟨_, hs', rfl⟩⟩
    refine k _ T₁ ⟨⟨_, es, ep, F'.keep _ _ hs, hLd, hLk, hLf⟩, S₁, by rw [T₁.size]; exact F.above⟩ (fun q hq => ⟨(N' q hq).1, fun e => ?_, ?_⟩) B₃ (XB.keeps B₃.stays) (TB.keeps B₃.stays) (D.turn T₁)
    · have := (N' q hq).2.2; rw [e, hs] at this; cases this
    · refine T₁.none_ _ ?_
      cases z : h₀.get? q.1 with
      | none => rfl
      | some o =>
        obtain ⟨sl', hs'⟩ := T'.up (st _ _ z)
        have := (N' q hq).2.2
        rw [hs'] at this; cases this
end
section
variable {prog : Program} {w : World} {A₀ A : Around} {s : Shared} {base h₀ : Heap} {outer : List Env} {L : Addr} {m : Str → Option Value} {env : Env} {news : List (Addr × Obj)} {K : Frag} {p : Program} {loose : List Str} {mean : ExcName → Option Value} {mg mb : Str → Option Value}
  {R : Result → Shared → Prop} {name qual : Str} {params : Arguments} {body : List Stmt} {scope : Scope} {dV kV doc pm cdv ct oc : Value} {an od : Option Addr} {osl : Array (Option Value)} {f : Addr} {args : Args} {binds : List (Str × Value)}
theorem enterS (B : Below A₀ base outer h₀) (F : Fr h₀ L s.heap m) (X₀ : K.In h₀) (N : News h₀ L s.heap news) (T : Top p loose mean mg mb h₀) (XB : K.In base) (TB : Top p loose mean mg mb base) (D : KtsDicts (outer.filterMap (·.frame)) h₀)
    (hA : A.frames = some (env :: outer)) (hf : env.frame = some L) (hke : env.scope.kind = .function)
    (ho : K.lookup f = some ⟨oc, od, .func (fnOf name qual params body scope dV kV doc pm an cdv ct), osl⟩) (hcd : codeIn K cdv qual = true) (hroom : A.depth < recursionLimit)
    (hbind : BindsTo s (fnOf name qual params body scope dV kV doc pm an cdv ct) args binds) (hloc : ∀ y ∈ binds, scope.names.lookup y.1 = some .local)
    (h : ∀ g L' h₁, Fr h₀ L g m → Fr g L' h₁ (fun y => binds.reverse.lookup y) → News g L' h₁ news → Below A base (env :: outer) g → K.In g → Top p loose mean mg mb g → KtsDicts ((env :: outer).filterMap (·.frame)) g →
      wpAny (model prog w) (A.deeper (envOf qual scope L' f cdv)) (execs body (envOf qual scope L' f cdv))
        (fun fl s' => LeaveT env A₀ base outer K p loose mean mg mb h₀ L m g R (match fl with | .ret v => v | _ => .none) s')
        (fun e s' => wpAny (model prog w) (A.deeper (envOf qual scope L' f cdv)) (leaving (envOf qual scope L' f cdv) e) (fun _ s'' => R (.error e) s'') (fun e' s'' => R (.error e') s'') s')
        { s with heap := h₁, toks := s.toks + binds.length })
    (hco : scope.isCoroutine = false) (hgen : scope.isGenerator = false) (hk : scope.kind = .function)
    (hcell : ∀ x ∈ scope.names, x.2 ≠ .cell) : codeAny (model prog w) A (.call (.ref f) args) R s := by
  have X := X₀.keeps F.keep
  obtain ⟨FG, BG, st, _⟩ := groundX (R := R) B F N hA hf hke
  obtain ⟨DG, lv⟩ := groundS (R := R) B F N hA hf hke XB TB D
  refine codeAny_call_def (fd := fnOf name qual params body scope dV kV doc pm an cdv ct) (body := body) (binds := binds) hroom (X _ _ ho) rfl (T.nolimit.keeps F.keep) (codeRec_of X hcd) rfl hbind hcell hloc (fun h₁ hns hk₁ => ?_) hco hgen hk
  exact wpAny_mono (h _ s.heap.objs.size h₁ FG ⟨hns, fun b o e => hk₁ b o (of_hideAll _ e), Nat.le_of_eq (hideAll_size _ _)⟩
    (fun p hp => ⟨hk₁ _ _ (N p hp).1, Nat.ne_of_lt (Heap.lt_size (N p hp).1), hideAll_none _ (List.mem_map_of_mem hp)⟩) BG (X₀.keeps st) (T.keeps st) DG) (fun fl s' hl => lv _ _ hl) fun _ _ y => y
theorem enterSC (B : Below A₀ base outer h₀) (F : Fr h₀ L s.heap m) (X₀ : K.In h₀) (N : News h₀ L s.heap news) (T : Top p loose mean mg mb h₀) (XB : K.In base) (TB : Top p loose mean mg mb base) (D : KtsDicts (outer.filterMap (·.frame)) h₀)
    (hA : A.frames = some (env :: outer)) (hf : env.frame = some L) (hke : env.scope.kind = .function)
    (ho : K.lookup f = some ⟨oc, od, .func (fnOf name qual params body scope dV kV doc pm an cdv ct), osl⟩) (hcd : codeIn K cdv qual = true) (hroom : A.depth < recursionLimit)
    (hbind : BindsTo s (fnOf name qual params body scope dV kV doc pm an cdv ct) args binds) (hkind : (binds.all fun y => scope.names.lookup y.1 == some .local || scope.names.lookup y.1 == some .cell) = true)
    (hnd : ((cellsFrom 0 scope.names []).map (·.1)).Nodup)
    (h : ∀ g L' h₁ tk cells, Fr h₀ L g m → Fr g L' h₁ (bindL (envOfC qual scope L' f cdv).kindOf binds fun _ => none) → News g L' h₁ (cells ++ news) →
      CellsAre (bindC (envOfC qual scope L' f cdv).kindOf binds fun _ => none) (cellsFrom (L' + 1) scope.names []) cells → Below A base (env :: outer) g → K.In g → Top p loose mean mg mb g → KtsDicts ((env :: outer).filterMap (·.frame)) g → (∀ p ∈ news, p.1 < L') →
      wpAny (model prog w) (A.deeper (envOfC qual scope L' f cdv)) (execs body (envOfC qual scope L' f cdv))
        (fun fl s' => LeaveT env A₀ base outer K p loose mean mg mb h₀ L m g R (match fl with | .ret v => v | _ => .none) s')
        (fun e s' => wpAny (model prog w) (A.deeper (envOfC qual scope L' f cdv)) (leaving (envOfC qual scope L' f cdv) e) (fun _ s'' => R (.error e) s'') (fun e' s'' => R (.error e') s'') s')
        { s with heap := h₁, toks := tk })
    (hco : scope.isCoroutine = false) (hgen : scope.isGenerator = false) (hk : scope.kind = .function) : codeAny (model prog w) A (.call (.ref f) args) R s := by
  have X := X₀.keeps F.keep
  obtain ⟨FG, BG, st, _⟩ := groundX (R := R) B F N hA hf hke
  obtain ⟨DG, lv⟩ := groundS (R := R) B F N hA hf hke XB TB D
  refine codeAny_call_function hroom (X _ _ ho) rfl hco hgen rfl (codeRec_of X hcd) (hbind _ _ _ _ ?_)
  refine wpAny_newFunctionEnv_cells hk (kindsX hkind _) fun env' he s' x => ?_
  subst he
  refine ⟨(T.nolimit.keeps F.keep).keeps x.toInCall.keep, codeAny_func ?_⟩
  obtain ⟨h₁, tk, rfl, _⟩ := x.done
  have hk₁ := x.toInCall.keep
  obtain ⟨cells, NC, Y⟩ := Cl.news (h₀ := s.heap) (Nat.le_refl _) fun n c hm => ⟨x.cell n c (lookup_of_mem_nodup (cellsFrom_names scope.names 0 (s.heap.objs.size + 1) [] [] rfl ▸ hnd) hm), x.above n c hm⟩
  refine wpAny_mono (h _ s.heap.objs.size h₁ tk cells FG ⟨x.toInCall.ns, fun b o e => hk₁ b o (of_hideAll _ e), Nat.le_of_eq (hideAll_size _ _)⟩ (fun p hp => ?_) Y BG (X₀.keeps st) (T.keeps st) DG (fun p hp => Heap.lt_size (N p hp).1)) (fun fl s' hl => lv _ _ hl) fun _ _ y => y
  rcases List.mem_append.mp hp with hp | hp
  · refine ⟨(NC p hp).1, (NC p hp).2.1, ?_⟩
    cases q : (hideAll s.heap (news.map (·.1))).get? p.1 with
    | none => rfl
    | some o => have := of_hideAll _ q; rw [(NC p hp).2.2] at this; cases this
  · exact ⟨hk₁ _ _ (N p hp).1, Nat.ne_of_lt (Heap.lt_size (N p hp).1), hideAll_none _ (List.mem_map_of_mem hp)⟩
end

theorem words20 : True := by
  k_with "call ref" => (k_here; (with_reducible show wpAny _ _ (call (Value.ref 295) _) _ _ _); k_dflt (refine' CallR.use (pop_r _ _ _ _ _ _ _ ?q57h1) ?q57k1 ?q57k2 ?q57k3 ?q57k4 ?q57k5 ?q57k6 ?q57k7 ?q57k8 ?_; (case q57k1 => k_asm); (case q57k2 => k_asm); (case q57k3 => k_asm); (case q57k4 => k_asm); (case q57k5 => k_asm); (case q57k6 => first | exact rfl | assumption); (case q57h1 => ktr_rel); (case q57k7 => ktr_room); (case q57k8 => ktr_units); intro g' e' h' tk' FG' R' U'))
  k_with "call ref" => (k_here; (with_reducible show wpAny _ _ (call (Value.ref 316) _) _ _ _); k_dflt (refine' CallR.use (wvlan_r _ _ _ _ _ _ _ _ ?q58h1) ?q58k1 ?q58k2 ?q58k3 ?q58k4 ?q58k5 ?q58k6 ?q58k7 ?q58k8 ?_; (case q58k1 => k_asm); (case q58k2 => k_asm); (case q58k3 => k_asm); (case q58k4 => k_asm); (case q58k5 => k_asm); (case q58k6 => first | exact rfl | assumption); (case q58h1 => ktr_rel); (case q58k7 => ktr_room); (case q58k8 => ktr_units); intro g' e' h' tk' FG' R' U'))
  k_with "call ref" => (k_here; (with_reducible show wpAny _ _ (call (Value.ref 323) _) _ _ _); k_dflt (refine' CallR.use (wprio_r _ _ _ _ _ _ _ _ ?q59h1) ?q59k1 ?q59k2 ?q59k3 ?q59k4 ?q59k5 ?q59k6 ?q59k7 ?q59k8 ?_; (case q59k1 => k_asm); (case q59k2 => k_asm); (case q59k3 => k_asm); (case q59k4 => k_asm); (case q59k5 => k_asm); (case q59k6 => first | exact rfl | assumption); (case q59h1 => ktr_rel); (case q59k7 => ktr_room); (case q59k8 => ktr_units); intro g' e' h' tk' FG' R' U'))
  trivial
set_option maxHeartbeats 400000 in
theorem lam2_r (w : World) (f c' cf : Addr) (oc ofr : Obj) (vs : Array Value) (t : Tok) (pm ctv v : Value) (tg sc : Int) (kind : Option Int) (pay : Array UInt8) (news : Led) (p1 p2 p3 : Pos) (hc : (c', oc) ∈ news) (d1 : oc.data = .fields vs) (d2 : vs[1]? = some (.str lamQ t)) (hcf : (cf, ofr) ∈ news) (df : ofr.data = .cell (some v)) (hf : FrameAt w.params news v ⟨tg, sc, [], kind, pay⟩) :
    CallR w (.ref f) [] ((f, kla_obj (Str.ofString "<lambda>") lamQ noArgs (lam2 p1 p2 p3) sc2 [(Str.ofString "frame", cf)] pm c' ctv) :: news) 80 800 := by
  have hf0 := hf.mono (fun p hp => List.mem_cons_of_mem (f, kla_obj (Str.ofString "<lambda>") lamQ noArgs (lam2 p1 p2 p3) sc2 [(Str.ofString "frame", cf)] pm c' ctv) hp)
  unfold CallR
  intro dp un gd cn cs a ccd cl outer A₀ base h₀ L m mean mg mb s Q E B F X N T hk hd hu hret
  refine wpAny_call ?_
  k_dflt (refine' kla_code ?k1 ?k2 ?k3 ?k4 ?k5 ?kA ?kF ?kK ?k6 ?k7 ?k8 ?k9 ?kB ?_ ?c2 ?c3 ?c4 ?c5; (case kA => exact rfl); (case kF => exact rfl); (case kK => assumption); (case k1 => k_asm); (case k2 => k_asm); (case k3 => k_asm); (case k4 => k_asm); (case k5 => k_asm); (case k6 => exact List.mem_cons_self); (case k7 => exact codeRec_news (by k_asm) (List.mem_cons_of_mem _ hc) d1 d2); (case k8 => ktr_room); (case k9 => exact rfl); (case c5 => decide); (case kB => exact locs rfl); (case c2 => exact rfl); (case c3 => exact rfl); (case c4 => exact rfl); k_whole; intro g' L' h' FG' F' N' B' X' T'; (try dsimp only); (try k_fold))
  k_steps
  all_goals (
    rename RaisedSN _ _ _ _ _ _ _ => R
    rename Heap.UpToSlots _ _ => U
    rename Below _ _ (_ :: _) _ => kB
    rename Fr h₀ L _ m => kG
    rename Fr _ _ _ _ => kF
    refine leave_next kB kF rfl R U ?_
    intro h' R' U'
    exact hret _ _ _ _ kG R' U')
set_option maxHeartbeats 400000 in
theorem lam3_r (w : World) (f c' cf : Addr) (oc ofr : Obj) (vs : Array Value) (t : Tok) (pm ctv v : Value) (ct a1 : Addr) (ot : Obj) (tagr : Row) (t1 t2 t3 : Tok) (tg sc : Int) (kind : Option Int) (pay : Array UInt8) (news : Led) (p1 p2 p3 p4 p5 p6 : Pos) (hc : (c', oc) ∈ news) (d1 : oc.data = .fields vs) (d2 : vs[1]? = some (.str lamQ t)) (hcf : (cf, ofr) ∈ news) (df : ofr.data = .cell (some v)) (hct : (ct, ot) ∈ news) (dt : ot.data = .cell (some (.ref a1))) (hm : (a1, rowObj tagr t1 t2 t3) ∈ news) (hf : FrameAt w.params news v ⟨tg, sc, [], kind, pay⟩) :
    CallR w (.ref f) [] ((f, kla_obj (Str.ofString "<lambda>") lamQ noArgs (lam3 p1 p2 p3 p4 p5 p6) sc3 [(Str.ofString "tag", ct), (Str.ofString "frame", cf)] pm c' ctv) :: news) 80 800 := by
  have hf0 := hf.mono (fun p hp => List.mem_cons_of_mem (f, kla_obj (Str.ofString "<lambda>") lamQ noArgs (lam3 p1 p2 p3 p4 p5 p6) sc3 [(Str.ofString "tag", ct), (Str.ofString "frame", cf)] pm c' ctv) hp)
  unfold CallR
  intro dp un gd cn cs a ccd cl outer A₀ base h₀ L m mean mg mb s Q E B F X N T hk hd hu hret
  refine wpAny_call ?_
  k_dflt (refine' kla_code ?k1 ?k2 ?k3 ?k4 ?k5 ?kA ?kF ?kK ?k6 ?k7 ?k8 ?k9 ?kB ?_ ?c2 ?c3 ?c4 ?c5; (case kA => exact rfl); (case kF => exact rfl); (case kK => assumption); (case k1 => k_asm); (case k2 => k_asm); (case k3 => k_asm); (case k4 => k_asm); (case k5 => k_asm); (case k6 => exact List.mem_cons_self); (case k7 => exact codeRec_news (by k_asm) (List.mem_cons_of_mem _ hc) d1 d2); (case k8 => ktr_room); (case k9 => exact rfl); (case c5 => decide); (case kB => exact locs rfl); (case c2 => exact rfl); (case c3 => exact rfl); (case c4 => exact rfl); k_whole; intro g' L' h' FG' F' N' B' X' T'; (try dsimp only); (try k_fold))
  k_steps
  all_goals (
    rename RaisedSN _ _ _ _ _ _ _ => R
    rename Heap.UpToSlots _ _ => U
    rename Below _ _ (_ :: _) _ => kB
    rename Fr h₀ L _ m => kG
    rename Fr _ _ _ _ => kF
    refine leave_next kB kF rfl R U ?_
    intro h' R' U'
    exact hret _ _ _ _ kG R' U')
set_option maxHeartbeats 400000 in
theorem lam4_r (w : World) (f c' cf : Addr) (oc ofr : Obj) (vs : Array Value) (t : Tok) (pm ctv v : Value) (ct a1 : Addr) (ot : Obj) (tagr : Row) (t1 t2 t3 : Tok) (tg sc : Int) (kind : Option Int) (pay : Array UInt8) (news : Led) (p1 p2 p3 p4 p5 p6 : Pos) (hc : (c', oc) ∈ news) (d1 : oc.data = .fields vs) (d2 : vs[1]? = some (.str lamQ t)) (hcf : (cf, ofr) ∈ news) (df : ofr.data = .cell (some v)) (hct : (ct, ot) ∈ news) (dt : ot.data = .cell (some (.ref a1))) (hm : (a1, rowObj tagr t1 t2 t3) ∈ news) (hf : FrameAt w.params news v ⟨tg, sc, [], kind, pay⟩) :
    CallR w (.ref f) [] ((f, kla_obj (Str.ofString "<lambda>") lamQ noArgs (lam4 p1 p2 p3 p4 p5 p6) sc4 [(Str.ofString "tag", ct), (Str.ofString "frame", cf)] pm c' ctv) :: news) 80 800 := by
  have hf0 := hf.mono (fun p hp => List.mem_cons_of_mem (f, kla_obj (Str.ofString "<lambda>") lamQ noArgs (lam4 p1 p2 p3 p4 p5 p6) sc4 [(Str.ofString "tag", ct), (Str.ofString "frame", cf)] pm c' ctv) hp)
  unfold CallR
  intro dp un gd cn cs a ccd cl outer A₀ base h₀ L m mean mg mb s Q E B F X N T hk hd hu hret
  refine wpAny_call ?_
  k_dflt (refine' kla_code ?k1 ?k2 ?k3 ?k4 ?k5 ?kA ?kF ?kK ?k6 ?k7 ?k8 ?k9 ?kB ?_ ?c2 ?c3 ?c4 ?c5; (case kA => exact rfl); (case kF => exact rfl); (case kK => assumption); (case k1 => k_asm); (case k2 => k_asm); (case k3 => k_asm); (case k4 => k_asm); (case k5 => k_asm); (case k6 => exact List.mem_cons_self); (case k7 => exact codeRec_news (by k_asm) (List.mem_cons_of_mem _ hc) d1 d2); (case k8 => ktr_room); (case k9 => exact rfl); (case c5 => decide); (case kB => exact locs rfl); (case c2 => exact rfl); (case c3 => exact rfl); (case c4 => exact rfl); k_whole; intro g' L' h' FG' F' N' B' X' T'; (try dsimp only); (try k_fold))
  k_steps
  all_goals (
    rename RaisedSN _ _ _ _ _ _ _ => R
    rename Heap.UpToSlots _ _ => U
    rename Below _ _ (_ :: _) _ => kB
    rename Fr h₀ L _ m => kG
    rename Fr _ _ _ _ => kF
    refine leave_next kB kF rfl R U ?_
    intro h' R' U'
    exact hret _ _ _ _ kG R' U')

theorem words21 : True := by
  k_with "call ref" => (k_here; (with_reducible show wpAny _ _ (call (Value.ref _) []) _ _ _); (rename CallR _ _ [] _ _ _ => hCallee); k_dflt (refine' CallR.use hCallee ?q60k1 ?q60k2 ?q60k3 ?q60k4 ?q60k5 ?q60k6 ?q60k7 ?q60k8 ?_; (case q60k1 => k_asm); (case q60k2 => k_asm); (case q60k3 => k_asm); (case q60k4 => k_asm); (case q60k5 => k_asm); (case q60k6 => first | exact rfl | assumption); (case q60k7 => ktr_room); (case q60k8 => ktr_units); intro g' e' h' tk' FG' R' U'; (try dsimp only); (try k_fold)))
  trivial
theorem done_r (w : World) (f : Addr) (oc : Value) (od : Option Addr) (fd : FuncData) (sl : Array (Option Value)) (news : Led) (hfm : (f, (⟨oc, od, .func fd, sl⟩ : Obj)) ∈ news) (hR : CallR w (.ref f) [] news 80 800)
    (dp un : Nat) (gd : Option (List Code)) (cn : Str) (cs : Scope) (a : Addr) (ccd : Value) (cl : List (Str × Addr)) (outer : List Env) (A₀ : Around) (base h₀ : Heap) (L : Addr) (m : Str → Option Value) (mean : ExcName → Option Value) (mg mb : Str → Option Value) (s : Shared)
    (Q E : Value → Shared → Prop)
    (B : Below A₀ base outer h₀) (F : Fr h₀ L s.heap m) (X : (hd.heap_1 w.params).In h₀) (N : News h₀ L s.heap news)
    (T : Top topProg lawLoose mean mg mb h₀) (XB : (hd.heap_1 w.params).In base)
    (TB : Top topProg lawLoose mean mg mb base) (D : KtsDicts (outer.filterMap (·.frame)) h₀)
    (hk : cs.kind = .function) (hdp : dp + 100 < recursionLimit) (hu : un + 1000 < cLine)
    (hret : ∀ h₁ h' tk', KtsTurn (outer.filterMap (·.frame)) h₀ h₁ → Fr h₁ L h' m → News h₁ L h' news → Below A₀ base outer h₁ → (hd.heap_1 w.params).In h₁ →
      Top topProg lawLoose mean mg mb h₁ → KtsDicts (outer.filterMap (·.frame)) h₁ → Q .none { s with heap := h', toks := tk' }) :
    wpAny (model PySem.Challenge.rw_pb0543_01.row.prog w) (ktrTop dp un gd cn cs L a ccd cl outer) (call (.ref 372) [.ref f]) Q E s := by
  have hR0 := hR
  revert X
  intro X
  refine wpAny_call ?_
  k_dflt (refine' enterS ?k1 ?k2 ?k3 ?k4 ?k5 ?xb ?tb ?dd ?kA ?kF ?kK ?k6 ?k7 ?k8 ?k9 ?kB ?_ ?c2 ?c3 ?c4 ?c5; (case kA => exact rfl); (case kF => exact rfl); (case kK => assumption); (case k1 => k_asm); (case k2 => k_asm); (case k3 => exact X); (case k4 => k_asm); (case k5 => exact T); (case xb => exact XB); (case tb => exact TB); (case dd => exact D); (case k6 => k_is); (case k7 => k_is); (case k8 => ktr_room); (case k9 => exact BindsTo.of_eq rfl); (case c5 => decide); (case kB => exact locs rfl); (case c2 => exact rfl); (case c3 => exact rfl); (case c4 => exact rfl); k_whole; intro g' L' h' FG' F' N' B' X' T' D'; (try dsimp only); (try k_fold))
  k_steps
  all_goals (
    rename KtsTurn _ _ _ => kT
    dsimp only
    refine ⟨_, _, _, _, kT, by assumption, by assumption, fun h₁ T1 F1 N1 B1 X1 P1 D1 => ?_⟩
    exact hret h₁ _ _ T1 F1 N1 B1 X1 P1 D1)

def off (src : Addr) (l : Led) : Led := l.filter (fun p => decide (@Ne Nat p.1 src ∧ @Ne Nat p.1 374))
theorem off_sub {src : Addr} {l : Led} {p : Addr × Obj} (h : p ∈ off src l) : p ∈ l ∧ p.1 ≠ src ∧ p.1 ≠ 374 := by
  have := List.mem_filter.mp h
  exact ⟨this.1, of_decide_eq_true this.2⟩
theorem off_mem {src : Addr} {l : Led} {p : Addr × Obj} (h : p ∈ l) (h1 : p.1 ≠ src) (h2 : p.1 ≠ 374) : p ∈ off src l := List.mem_filter.mpr ⟨h, decide_eq_true ⟨h1, h2⟩⟩
theorem news_ne {h₀ h : Heap} {L : Addr} {l : Led} (N : News h₀ L h l) {p q : Addr × Obj} (hp : p ∈ l) (hq : q ∈ l) (hne : p.2 ≠ q.2) : p.1 ≠ q.1 := fun e => hne (by
  have a := (N p hp).1
  rw [e, (N q hq).1] at a
  exact (Option.some.inj a).symm)
theorem ty_ne {a b : String} (h : a ≠ b) : Value.type a ≠ Value.type b := fun e => h (by injection e)
def OffK (src : Addr) (l : Led) : Prop := ∀ p ∈ l, p.2.cls ≠ .type "list" → p.2.cls ≠ .none → p ∈ off src l
theorem offK_of {h₀ h : Heap} {L src : Addr} {l : Led} {xs : Array Value} {n : Nat} {ps : Array Value} (N : News h₀ L h l) (hs : (src, listOf xs n) ∈ l) (ht : (374, tabObj ps) ∈ l) : OffK src l := fun p hp h1 h2 =>
  off_mem hp (news_ne N hp hs fun e => h1 (by rw [e])) (news_ne N hp ht fun e => h2 (by rw [e]))
theorem TagAt.off {P : Params} {src : Addr} {l : Led} {v : Value} {row : Row} (O : OffK src l) (h : TagAt P l v row) : TagAt P (off src l) v row := by
  obtain ⟨x, dx, u1, u2, u3, u4, t1, t2, t3, e, h1, h2⟩ := h
  exact ⟨x, dx, u1, u2, u3, u4, t1, t2, t3, e, O _ h1 nofun nofun, O _ h2 (ty_ne (by decide)) nofun⟩
theorem TagsAt.off {P : Params} {src : Addr} {l : Led} (O : OffK src l) : ∀ {vs : List Value} {rows : List Row}, TagsAt P l vs rows → TagsAt P (off src l) vs rows
  | [], [], _ => trivial
  | _ :: _, _ :: _, h => ⟨h.1.off O, TagsAt.off O h.2⟩
  | [], _ :: _, h => h.elim
  | _ :: _, [], h => h.elim
theorem FrameAt.off {P : Params} {src : Addr} {l : Led} {v : Value} {f : Frm} (O : OffK src l) (h : FrameAt P l v f) : FrameAt P (off src l) v f := by
  obtain ⟨x, dx, T, vs, n, kt, u1, u2, u3, u4, u5, t1, t2, t5, e, h1, h2, h3, h4⟩ := h
  exact ⟨x, dx, T, vs, n, kt, u1, u2, u3, u4, u5, t1, t2, t5, e, O _ h1 nofun nofun, O _ h2 (ty_ne (by decide)) nofun, O _ h3 (ty_ne (by decide)) nofun, h4.off O⟩
theorem RowsAt.off {src : Addr} {l : Led} (O : OffK src l) : ∀ {vs : List Value} {rows : List Row}, RowsAt l vs rows → RowsAt (off src l) vs rows
  | [], [], _ => trivial
  | _ :: _, _ :: _, h => ⟨let ⟨a, t1, t2, t3, e, h1⟩ := h.1; ⟨a, t1, t2, t3, e, O _ h1 (ty_ne (by decide)) nofun⟩, RowsAt.off O h.2⟩
  | [], _ :: _, h => h.elim
  | _ :: _, [], h => h.elim
theorem triples_1 : ∀ {l : List Value}, TriplesOk l → ∀ q t, l[1]? ≠ some (.str q t)
  | [], _, _, _ => nofun
  | [_], h, _, _ => by simp
  | .int _ _ :: .int _ _ :: _ :: _, _, _, _ => by simp
  | [_, _], h, _, _ => by simp [TriplesOk] at h
  | _ :: .str _ _ :: _ :: _, h, _, _ => by simp [TriplesOk] at h
  | _ :: .none :: _ :: _, _, _, _ => by simp
  | _ :: .bool _ :: _ :: _, _, _, _ => by simp
  | _ :: .ref _ :: _ :: _, _, _, _ => by simp
  | _ :: .type _ :: _ :: _, _, _, _ => by simp
  | a :: b :: c :: r, h, q, t => by
    intro e
    simp only [List.getElem?_cons_succ, List.getElem?_cons_zero, Option.some.injEq] at e
    subst e
    simp [TriplesOk] at h
theorem TabInv.off {h₀ h : Heap} {L src : Addr} {l : Led} {xs : Array Value} {n : Nat} {ps : Array Value} (N : News h₀ L h l) (hs : (src, listOf xs n) ∈ l) (ht : (374, tabObj ps) ∈ l) (I : TabInv l ps) : TabInv (off src l) ps := by
  refine ⟨I.1, fun pos cv e => ?_⟩
  obtain ⟨c, oc, vs, t, e1, hm, d1, d2⟩ := I.2 pos cv e
  refine ⟨c, oc, vs, t, e1, off_mem hm (news_ne N hm hs fun z => ?_) (news_ne N hm ht fun z => ?_), d1, d2⟩
  · dsimp only at z; rw [z] at d1; cases d1
  · dsimp only at z; rw [z] at d1
    injection d1 with d1
    subst d1
    exact triples_1 I.1 lamQ t (by rw [Array.getElem?_toList]; exact d2)
/-- what a deed gives -/
def DeedPost (P : Params) (src : Addr) (news : Led) (f : Frm) (r : Value) (news' : Led) : Prop :=
  ∃ (D : Addr) (told due : Value) (nD : Nat) (x' y' : Int) (ta' tb' : Tok) (n' : Nat) (ps' : Array Value) (rest : Led), r = .ref D ∧ news' = (src, listOf #[.int x' ta', .int y' tb'] n') :: (374, tabObj ps') :: rest ∧ SrcOk x' y' ∧ (∀ p ∈ news, p ∈ rest) ∧ (∀ p ∈ rest, p.1 ≠ src ∧ p.1 ≠ 374) ∧ TabInv rest ps' ∧ (D, tupObj [told, due] nD) ∈ rest ∧
    ((told = .none ∧ due = .none) ∨ ∃ (rl' : Addr) (nr' : Nat) (vs' : List Value) (rows' : List Row), due = .ref rl' ∧ (rl', listOf vs'.toArray nr') ∈ rest ∧ RowsAt rest vs' rows' ∧ FrameAt P rest told { f with rows := rows' } ∧ (∀ r ∈ rows', r.Ok) ∧ rows'.length ≤ f.rows.length + 1)
theorem deed_fin {P : Params} {h₀ h : Heap} {L src D : Addr} {l news : Led} {f : Frm} {told due : Value} {nD : Nat} {x' y' : Int} {ta' tb' : Tok} {n' : Nat} {ps' : Array Value} (N : News h₀ L h l) (hD : (D, tupObj [told, due] nD) ∈ l) (hs : (src, listOf #[.int x' ta', .int y' tb'] n') ∈ l) (ht : (374, tabObj ps') ∈ l)
    (S : SrcOk x' y') (hn : ∀ p ∈ news, p ∈ l) (ho : ∀ p ∈ news, p.1 ≠ src) (ho2 : ∀ p ∈ news, p.1 ≠ 374) (I : TabInv l ps')
    (hres : (told = .none ∧ due = .none) ∨ ∃ (rl' : Addr) (nr' : Nat) (vs' : List Value) (rows' : List Row), due = .ref rl' ∧ (rl', listOf vs'.toArray nr') ∈ l ∧ @Ne Nat rl' src ∧ @Ne Nat rl' 374 ∧ RowsAt l vs' rows' ∧ FrameAt P l told { f with rows := rows' } ∧ (∀ r ∈ rows', r.Ok) ∧ rows'.length ≤ f.rows.length + 1) :
    ∃ news', News h₀ L h news' ∧ DeedPost P src news f (.ref D) news' := by
  have O := offK_of N hs ht
  refine ⟨(src, listOf #[.int x' ta', .int y' tb'] n') :: (374, tabObj ps') :: off src l, drops N fun p hp => ?_, D, told, due, nD, x', y', ta', tb', n', ps', off src l, rfl, rfl, S, fun p hp => off_mem (hn p hp) (ho p hp) (ho2 p hp), fun p hp => (off_sub hp).2, I.off N hs ht, O _ hD (ty_ne (by decide)) nofun, ?_⟩
  · rcases List.mem_cons.mp hp with e | hp
    · rw [e]; exact hs
    · rcases List.mem_cons.mp hp with e | hp
      · rw [e]; exact ht
      · exact (off_sub hp).1
  · rcases hres with e | ⟨rl', nr', vs', rows', e, h1, h2, h3, h4, h5, h6, h7⟩
    · exact .inl e
    · exact .inr ⟨rl', nr', vs', rows', e, off_mem h1 h2 h3, h4.off O, h5.off O, h6, h7⟩

theorem words22 : True := by
  k_with "call ref" => (k_here; (with_reducible show wpAny _ _ (call (Value.ref 372) _) _ _ _); k_dflt (refine' CallC.use (done_c _ _ _ _ _ _ _ _ ?q61h0 (lam4_c _ _ _ _ _ _ _ _ _ _ _ _ _ _ _ _ _ _ _ _ _ _ _ _ _ _ _ _ _ _ _ ?q61hc ?q61d1 ?q61d2 ?q61hcf ?q61df ?q61hct ?q61dt ?q61hm ?q61hf ?q61hl)) ?q61k1 ?q61k2 ?q61k3 ?q61k4 ?q61k5 ?q61k6 ?q61k7 ?q61k8 ?_; (case q61k1 => k_asm); (case q61k2 => k_asm); (case q61k3 => k_asm); (case q61k4 => k_asm); (case q61k5 => k_asm); (case q61k6 => first | exact rfl | assumption); (case q61h0 => exact List.mem_cons_self); (case q61hc => k_mem); (case q61d1 => assumption); (case q61d2 => assumption); (case q61hcf => k_mem); (case q61df => assumption); (case q61hct => k_mem); (case q61dt => assumption); (case q61hm => k_mem); (case q61hf => ktr_rel); (case q61hl => first | omega | (simp only [List.length_cons]; omega) | exact Nat.zero_le _); (case q61k7 => ktr_room); (case q61k8 => ktr_units); intro r' h' tk' news' F' N' hP'; (obtain ⟨⟨tl', e1', hg'⟩, hf'⟩ := hP'); subst e1'; (try dsimp only); (try k_fold)))
  k_with "call ref" => (k_here; (with_reducible show wpAny _ _ (call (Value.ref 372) _) _ _ _); k_dflt (refine' CallC.use (done_c _ _ _ _ _ _ _ _ ?q62h0 (lam3_c _ _ _ _ _ _ _ _ _ _ _ _ _ _ _ _ _ _ _ _ _ _ _ _ _ _ _ _ _ _ _ ?q62hc ?q62d1 ?q62d2 ?q62hcf ?q62df ?q62hct ?q62dt ?q62hm ?q62hf ?q62hl)) ?q62k1 ?q62k2 ?q62k3 ?q62k4 ?q62k5 ?q62k6 ?q62k7 ?q62k8 ?_; (case q62k1 => k_asm); (case q62k2 => k_asm); (case q62k3 => k_asm); (case q62k4 => k_asm); (case q62k5 => k_asm); (case q62k6 => first | exact rfl | assumption); (case q62h0 => exact List.mem_cons_self); (case q62hc => k_mem); (case q62d1 => assumption); (case q62d2 => assumption); (case q62hcf => k_mem); (case q62df => assumption); (case q62hct => k_mem); (case q62dt => assumption); (case q62hm => k_mem); (case q62hf => ktr_rel); (case q62hl => first | omega | (simp only [List.length_cons]; omega) | exact Nat.zero_le _); (case q62k7 => ktr_room); (case q62k8 => ktr_units); intro r' h' tk' news' F' N' hP'; (obtain ⟨⟨tl', e1', hg'⟩, hf'⟩ := hP'); subst e1'; (try dsimp only); (try k_fold)))
  k_with "call ref" => (k_here; (with_reducible show wpAny _ _ (call (Value.ref 372) _) _ _ _); k_dflt (refine' CallC.use (done_c _ _ _ _ _ _ _ _ ?q63h0 (lam2_c _ _ _ _ _ _ _ _ _ _ _ _ _ _ _ _ _ _ _ _ _ ?q63hc ?q63d1 ?q63d2 ?q63hcf ?q63df ?q63hf ?q63hl)) ?q63k1 ?q63k2 ?q63k3 ?q63k4 ?q63k5 ?q63k6 ?q63k7 ?q63k8 ?_; (case q63k1 => k_asm); (case q63k2 => k_asm); (case q63k3 => k_asm); (case q63k4 => k_asm); (case q63k5 => k_asm); (case q63k6 => first | exact rfl | assumption); (case q63h0 => exact List.mem_cons_self); (case q63hc => k_mem); (case q63d1 => assumption); (case q63d2 => assumption); (case q63hcf => k_mem); (case q63df => assumption); (case q63hf => ktr_rel); (case q63hl => first | omega | (simp only [List.length_cons]; omega) | exact Nat.zero_le _); (case q63k7 => ktr_room); (case q63k8 => ktr_units); intro r' h' tk' news' F' N' hP'; (obtain ⟨⟨tl', e1', hg'⟩, hf'⟩ := hP'); subst e1'; (try dsimp only); (try k_fold)))
  k_with "call ref" => (k_here; (with_reducible show wpAny _ _ (call (Value.ref 372) _) _ _ _); k_dflt (refine' CallC.use (done_c _ _ _ _ _ _ _ _ ?q64h0 (lam1_c _ _ _ _ _ _ _ _ _ _ _ _ _ _ _ _ _ _ _ _ _ _ _ _ _ _ _ _ _ _ ?q64hc ?q64d1 ?q64d2 ?q64hcf ?q64df ?q64hct ?q64dt ?q64hm ?q64hf ?q64hl)) ?q64k1 ?q64k2 ?q64k3 ?q64k4 ?q64k5 ?q64k6 ?q64k7 ?q64k8 ?_; (case q64k1 => k_asm); (case q64k2 => k_asm); (case q64k3 => k_asm); (case q64k4 => k_asm); (case q64k5 => k_asm); (case q64k6 => first | exact rfl | assumption); (case q64h0 => exact List.mem_cons_self); (case q64hc => k_mem); (case q64d1 => assumption); (case q64d2 => assumption); (case q64hcf => k_mem); (case q64df => assumption); (case q64hct => k_mem); (case q64dt => assumption); (case q64hm => k_mem); (case q64hf => ktr_rel); (case q64hl => first | omega | (simp only [List.length_cons]; omega) | exact Nat.zero_le _); (case q64k7 => ktr_room); (case q64k8 => ktr_units); intro r' h' tk' news' F' N' hP'; (obtain ⟨⟨tl', e1', hg'⟩, hf'⟩ := hP'); subst e1'; (try dsimp only); (try k_fold)))
  trivial
theorem lt_at {l : Led} {d X : Addr} {o : Obj} (h : ∀ p ∈ l, @LT.lt Nat _ p.1 d) (hm : (X, o) ∈ l) : @LT.lt Nat _ X d := h _ hm
theorem lt_at2 {l : Led} {d X : Addr} {o : Obj} {a : Prop} (h : a ∧ AllLt d l) (hm : (X, o) ∈ l) : @LT.lt Nat _ X d := allLt_to h.2 _ hm
theorem Row.Ok.vlan {r q : Row} (h : r.Ok) (h' : q.Ok) : Row.Ok ⟨r.kind, r.prio, r.drop, q.vlan⟩ := ⟨h.1, h.2.1, h.2.2.1, h'.2.2.2⟩
theorem Row.Ok.prio {r q : Row} (h : r.Ok) (h' : q.Ok) : Row.Ok ⟨r.kind, q.prio, r.drop, r.vlan⟩ := ⟨h.1, h'.2.1, h'.2.2.1, h.2.2.2⟩
theorem RowsAt.cons {l : Led} {v : Value} {vs : List Value} {r : Row} {rs : List Row} (h : RowAt l v r) (h' : RowsAt l vs rs) : RowsAt l (v :: vs) (r :: rs) := And.intro h h'
theorem deed_end {P : Params} {h₀ h : Heap} {L src D : Addr} {m : Str → Option Value} {s : Shared} {Q : Value → Shared → Prop} {tk : Nat} {l news : Led} {tg sc : Int} {rows0 : List Row} {kind : Option Int} {pay : Array UInt8}
    (hret : ∀ r h' tk' news', Fr h₀ L h' m → News h₀ L h' news' → DeedPost P src news ⟨tg, sc, rows0, kind, pay⟩ r news' → Q r { s with heap := h', toks := tk' })
    {told due : Value} {nD : Nat} {x' y' : Int} {ta' tb' : Tok} {n' : Nat} {ps' : Array Value} (F : Fr h₀ L h m) (N : News h₀ L h l) (hD : (D, tupObj [told, due] nD) ∈ l) (hs : (src, listOf #[.int x' ta', .int y' tb'] n') ∈ l) (ht : (374, tabObj ps') ∈ l)
    (S : SrcOk x' y') (hn : ∀ p ∈ news, p ∈ l) (ho : ∀ p ∈ news, p.1 ≠ src) (ho2 : ∀ p ∈ news, p.1 ≠ 374) (I : TabInv l ps') {rl' : Addr} {nr' : Nat} {vs' : List Value} {rows' : List Row}
    (e : due = .ref rl') (h1 : (rl', listOf vs'.toArray nr') ∈ l) (h2 : @LT.lt Nat _ src rl') (h3 : @LT.lt Nat _ 374 rl') (h5 : FrameAt P l told ⟨tg, sc, rows', kind, pay⟩) (h4 : RowsAt l vs' rows') (h6 : ∀ r ∈ rows', r.Ok) (h7 : rows'.length ≤ rows0.length + 1) :
    Q (.ref D) { s with heap := h, toks := tk } := by
  obtain ⟨news', N2, hP⟩ := deed_fin (P := P) (f := ⟨tg, sc, rows0, kind, pay⟩) N hD hs ht S hn ho ho2 I (.inr ⟨rl', nr', vs', rows', e, h1, (Nat.ne_of_lt h2).symm, (Nat.ne_of_lt h3).symm, h4, h5, h6, h7⟩)
  exact hret _ _ _ news' F N2 hP
theorem deed_cons (w : World) (src : Addr) (x y : Int) (ta tb : Tok) (n : Nat) (ps : Array Value) (v : Value) (rl : Addr) (vs : List Value) (nr : Nat) (tg sc : Int) (row : Row) (rows : List Row) (kind : Option Int) (pay : Array UInt8) (news : Led) (hs : SrcOk x y) (hok : ∀ r ∈ row :: rows, r.Ok) (hoff : ∀ p ∈ news, p.1 ≠ src) (hoff2 : ∀ p ∈ news, p.1 ≠ 374) (hne : @LT.lt Nat _ 374 src) (hT : TabInv news ps) (hl : rows.length ≤ 900) (hf : FrameAt w.params news v ⟨tg, sc, row :: rows, kind, pay⟩) (hrl : (rl, listOf vs.toArray nr) ∈ news) (hr : RowsAt news vs (row :: rows)) :
    CallC w (.ref 379) [.ref src, v, .ref rl] ((src, listOf #[.int x ta, .int y tb] n) :: (374, tabObj ps) :: news) 100 1000 (DeedPost w.params src news ⟨tg, sc, row :: rows, kind, pay⟩) := by
  cases vs with
  | nil => exact hr.elim
  | cons v0 vs =>
  have hr0 := hr
  obtain ⟨⟨ra, ra1, ra2, ra3, e0, hra⟩, hr⟩ := hr
  subst e0
  have hlen := hr.length
  have hl2 : vs.length ≤ 1000 := by omega
  have hl3 : rows.length ≤ 1000 := by omega
  have hf0 := hf
  obtain ⟨xx, dx, T0, tvs, nn, kt, u1, u2, u3, u4, u5, t1, t2, t5, e, h1, h2, h3, h4⟩ := hf
  subst e
  unfold CallC
  intro dp un gd cn cs a ccd cl outer A₀ base h₀ L m mean mg mb s Q E B F X N T hk hd hu hret
  refine wpAny_call ?_
  k_dflt (refine' code_defC ?k1 ?k2 ?k3 ?k4 ?k5 ?kA ?kF ?kK ?k6 ?k7 ?k8 ?k9 ?kB ?kD ?_ ?c2 ?c3 ?c4; (case kA => exact rfl); (case kF => exact rfl); (case kK => assumption); (case k1 => k_asm); (case k2 => k_asm); (case k3 => k_asm); (case k4 => k_asm); (case k5 => k_asm); (case k6 => k_is); (case k7 => k_is); (case k8 => ktr_room); (case k9 => exact BindsTo.of_eq rfl); (case kB => exact rfl); (case kD => decide +kernel); (case c2 => exact rfl); (case c3 => exact rfl); (case c4 => exact rfl); k_whole; intro g' L' h' tk' cells' FG' F' N' Y' B' X' T' l1; (have hU9 : Under L' news := fun p hp => l1 p (List.mem_cons_of_mem _ (List.mem_cons_of_mem _ hp))); (try k_lt l1); k_cells Y'; (try simp only [List.cons_append, List.nil_append] at N'); (try dsimp only); (try k_fold))
  k_steps
  all_goals (refine' deed_end hret (by k_asm) (by k_asm) List.mem_cons_self ?hs ?ht ?S (by kqd_sub) hoff hoff2 ?I rfl ?h1 ?h2 ?h3 ?h5 ?_ ?_ ?_; (case hs => k_mem); (case ht => k_mem); (case S => assumption); (case I => ktr_rel); (case h1 => k_mem); (case h2 => first | omega | exact lt_at2 (by assumption) (by k_mem)); (case h3 => first | omega | exact lt_at2 (by assumption) (by k_mem)); (case h5 => ktr_rel))
  all_goals first
    | (show _ ≤ _; simp only [List.length_cons]; omega)
    | (show RowsAt _ _ _; first | (refine RowsAt.mono (by kqd_sub) hr) | (refine RowsAt.cons ⟨_, _, _, _, rfl, by k_mem⟩ (RowsAt.mono (by kqd_sub) hr0)) | (refine RowsAt.cons ⟨_, _, _, _, rfl, by k_mem⟩ (RowsAt.mono (by kqd_sub) hr)))
    | exact List.forall_mem_cons.mpr ⟨by assumption, hok⟩
    | exact fun r hr => hok r (List.mem_cons_of_mem _ hr)
    | exact List.forall_mem_cons.mpr ⟨Row.Ok.vlan (hok _ List.mem_cons_self) (by assumption), fun r hr => hok r (List.mem_cons_of_mem _ hr)⟩
    | exact List.forall_mem_cons.mpr ⟨Row.Ok.prio (hok _ List.mem_cons_self) (by assumption), fun r hr => hok r (List.mem_cons_of_mem _ hr)⟩

theorem fr_back {h₀ h₁ h : Heap} {L : Addr} {m : Str → Option Value} (T : KtsTurn [] h₀ h₁) (F : Fr h₁ L h m) : Fr h₀ L h m := ⟨F.ns, fun b o e => F.keep b o (T.other b o e (by simp)), by rw [← T.size]; exact F.above⟩
theorem news_back {h₀ h₁ h : Heap} {L : Addr} {l : Led} (T : KtsTurn [] h₀ h₁) (N : News h₁ L h l) : News h₀ L h l := fun p hp => ⟨(N p hp).1, (N p hp).2.1, by
  cases z : h₀.get? p.1 with
  | none => rfl
  | some o =>
    have := T.other _ _ z (by simp)
    rw [(N p hp).2.2] at this; cases this⟩
/-- a call contract for a caller at the bottom -/
def Call0 (w : World) (f : Value) (vs : List Value) (news : Led) (d u : Nat) (Post : Value → Led → Prop) : Prop :=
  ∀ (dp un : Nat) (gd : Option (List Code)) (cn : Str) (cs : Scope) (a : Addr) (ccd : Value) (cl : List (Str × Addr)) (A₀ : Around) (base h₀ : Heap) (L : Addr) (m : Str → Option Value) (mean : ExcName → Option Value) (mg mb : Str → Option Value) (s : Shared)
    (Q E : Value → Shared → Prop),
    Below A₀ base [] h₀ → Fr h₀ L s.heap m → (hd.heap_1 w.params).In h₀ → News h₀ L s.heap news →
    Top topProg lawLoose mean mg mb h₀ → cs.kind = .function → dp + d < recursionLimit → un + u < cLine →
    (∀ r h' tk' news', Fr h₀ L h' m → News h₀ L h' news' → Post r news' → Q r { s with heap := h', toks := tk' }) →
    wpAny (model PySem.Challenge.rw_pb0543_01.row.prog w) (ktrTop dp un gd cn cs L a ccd cl []) (call f vs) Q E s
theorem CallC.to0 {w : World} {f : Value} {vs : List Value} {news : Led} {d u d' u' : Nat} {Post : Value → Led → Prop} (C : CallC w f vs news d u Post) (hd' : d ≤ d') (hu' : u ≤ u') : Call0 w f vs news d' u' Post :=
  fun dp un gd cn cs a ccd cl A₀ base h₀ L m mean mg mb s Q E B F X N T hk hdp hup hret => C.use B F X N T hk (by omega) (by omega) hret
theorem below_self {A₀ : Around} {base h₀ : Heap} (B : Below A₀ base [] h₀) : Below A₀ h₀ [] h₀ := ⟨B.stack, fun _ _ e => e, trivial⟩
theorem deed_out {P : Params} {env : Env} {A₀ : Around} {base h₀ g g' h : Heap} {K : Frag} {p : Program} {loose : List Str} {mean : ExcName → Option Value} {mg mb : Str → Option Value} {R : Result → Shared → Prop} {L L' src D : Addr} {m m' : Str → Option Value} {s : Shared} {Q : Value → Shared → Prop} {tk : Nat} {l news : Led} {f : Frm}
    (hret : ∀ r h' tk' news', Fr h₀ L h' m → News h₀ L h' news' → DeedPost P src news f r news' → Q r { s with heap := h', toks := tk' })
    (hR : ∀ v s', Q v s' → R (.ok (.ret v)) s') (T' : KtsTurn ([env].filterMap (·.frame)) g g')
    {told due : Value} {nD : Nat} {x' y' : Int} {ta' tb' : Tok} {n' : Nat} {ps' : Array Value} (F : Fr g' L' h m') (N : News g' L' h l) (hD : (D, tupObj [told, due] nD) ∈ l) (hs : (src, listOf #[.int x' ta', .int y' tb'] n') ∈ l) (ht : (374, tabObj ps') ∈ l)
    (S : SrcOk x' y') (hn : ∀ p ∈ news, p ∈ l) (ho : ∀ p ∈ news, p.1 ≠ src) (ho2 : ∀ p ∈ news, p.1 ≠ 374) (I : TabInv l ps')
    (hres : (told = .none ∧ due = .none) ∨ ∃ (rl' : Addr) (nr' : Nat) (vs' : List Value) (rows' : List Row), due = .ref rl' ∧ (rl', listOf vs'.toArray nr') ∈ l ∧ @Ne Nat rl' src ∧ @Ne Nat rl' 374 ∧ RowsAt l vs' rows' ∧ FrameAt P l told { f with rows := rows' } ∧ (∀ r ∈ rows', r.Ok) ∧ rows'.length ≤ f.rows.length + 1) :
    LeaveT env A₀ base [] K p loose mean mg mb h₀ L m g R (.ref D) { s with heap := h, toks := tk } := by
  obtain ⟨news', N2, hP⟩ := deed_fin (P := P) N hD hs ht S hn ho ho2 I hres
  exact ⟨g', L', m', news', T', F, N2, fun h₁ T1 F1 N1 _ _ _ _ => hR _ _ (hret _ _ _ news' (fr_back T1 F1) (news_back T1 N1) hP)⟩
theorem words23 : True := by
  k_with "call ref" => (k_here; (with_reducible show wpAny _ _ (call (Value.ref 372) _) _ _ _); (rename KtsDicts _ _ => kdX); k_dflt (refine' done_r _ _ _ _ _ _ _ ?q65h0 (lam4_r _ _ _ _ _ _ _ _ _ _ _ _ _ _ _ _ _ _ _ _ _ _ _ _ _ _ _ _ _ ?q65hc ?q65d1 ?q65d2 ?q65hcf ?q65df ?q65hct ?q65dt ?q65hm ?q65hf) _ _ _ _ _ _ _ _ _ _ _ _ _ _ _ _ _ _ _ _ ?q65k1 ?q65k2 ?q65k3 ?q65k4 ?q65k5 ?q65xb ?q65tb ?q65dd ?q65k6 ?q65k7 ?q65k8 ?_; (case q65k1 => k_asm); (case q65k2 => k_asm); (case q65k3 => k_asm); (case q65k4 => k_asm); (case q65k5 => k_asm); (case q65xb => assumption); (case q65tb => assumption); (case q65dd => exact kdX); (case q65k6 => first | exact rfl | assumption); (case q65h0 => exact List.mem_cons_self); (case q65hc => k_mem); (case q65d1 => assumption); (case q65d2 => assumption); (case q65hcf => k_mem); (case q65df => assumption); (case q65hct => k_mem); (case q65dt => assumption); (case q65hm => k_mem); (case q65hf => ktr_rel); (case q65k7 => ktr_room); (case q65k8 => ktr_units); intro g9 h9 tk9 T9 F9 N9 B9 X9 P9 D9; (try dsimp only); (try k_fold)))
  k_with "call ref" => (k_here; (with_reducible show wpAny _ _ (call (Value.ref 372) _) _ _ _); (rename KtsDicts _ _ => kdX); k_dflt (refine' done_r _ _ _ _ _ _ _ ?q66h0 (lam3_r _ _ _ _ _ _ _ _ _ _ _ _ _ _ _ _ _ _ _ _ _ _ _ _ _ _ _ _ _ ?q66hc ?q66d1 ?q66d2 ?q66hcf ?q66df ?q66hct ?q66dt ?q66hm ?q66hf) _ _ _ _ _ _ _ _ _ _ _ _ _ _ _ _ _ _ _ _ ?q66k1 ?q66k2 ?q66k3 ?q66k4 ?q66k5 ?q66xb ?q66tb ?q66dd ?q66k6 ?q66k7 ?q66k8 ?_; (case q66k1 => k_asm); (case q66k2 => k_asm); (case q66k3 => k_asm); (case q66k4 => k_asm); (case q66k5 => k_asm); (case q66xb => assumption); (case q66tb => assumption); (case q66dd => exact kdX); (case q66k6 => first | exact rfl | assumption); (case q66h0 => exact List.mem_cons_self); (case q66hc => k_mem); (case q66d1 => assumption); (case q66d2 => assumption); (case q66hcf => k_mem); (case q66df => assumption); (case q66hct => k_mem); (case q66dt => assumption); (case q66hm => k_mem); (case q66hf => ktr_rel); (case q66k7 => ktr_room); (case q66k8 => ktr_units); intro g9 h9 tk9 T9 F9 N9 B9 X9 P9 D9; (try dsimp only); (try k_fold)))
  k_with "call ref" => (k_here; (with_reducible show wpAny _ _ (call (Value.ref 372) _) _ _ _); (rename KtsDicts _ _ => kdX); k_dflt (refine' done_r _ _ _ _ _ _ _ ?q67h0 (lam2_r _ _ _ _ _ _ _ _ _ _ _ _ _ _ _ _ _ _ _ ?q67hc ?q67d1 ?q67d2 ?q67hcf ?q67df ?q67hf) _ _ _ _ _ _ _ _ _ _ _ _ _ _ _ _ _ _ _ _ ?q67k1 ?q67k2 ?q67k3 ?q67k4 ?q67k5 ?q67xb ?q67tb ?q67dd ?q67k6 ?q67k7 ?q67k8 ?_; (case q67k1 => k_asm); (case q67k2 => k_asm); (case q67k3 => k_asm); (case q67k4 => k_asm); (case q67k5 => k_asm); (case q67xb => assumption); (case q67tb => assumption); (case q67dd => exact kdX); (case q67k6 => first | exact rfl | assumption); (case q67h0 => exact List.mem_cons_self); (case q67hc => k_mem); (case q67d1 => assumption); (case q67d2 => assumption); (case q67hcf => k_mem); (case q67df => assumption); (case q67hf => ktr_rel); (case q67k7 => ktr_room); (case q67k8 => ktr_units); intro g9 h9 tk9 T9 F9 N9 B9 X9 P9 D9; (try dsimp only); (try k_fold)))
  trivial
theorem deed_nil (w : World) (src : Addr) (x y : Int) (ta tb : Tok) (n : Nat) (ps : Array Value) (v : Value) (rl : Addr) (nr : Nat) (tg sc : Int) (kind : Option Int) (pay : Array UInt8) (news : Led) (hs : SrcOk x y) (hoff : ∀ p ∈ news, p.1 ≠ src) (hoff2 : ∀ p ∈ news, p.1 ≠ 374) (hne : @LT.lt Nat _ 374 src) (hT : TabInv news ps) (hf : FrameAt w.params news v ⟨tg, sc, [], kind, pay⟩) (hrl : (rl, listOf (List.toArray []) nr) ∈ news) :
    Call0 w (.ref 379) [.ref src, v, .ref rl] ((src, listOf #[.int x ta, .int y tb] n) :: (374, tabObj ps) :: news) 150 1500 (DeedPost w.params src news ⟨tg, sc, [], kind, pay⟩) := by
  have hf0 := hf
  obtain ⟨xx, dx, T0, tvs, nn, kt, u1, u2, u3, u4, u5, t1, t2, t5, e, h1, h2, h3, h4⟩ := hf
  subst e
  unfold Call0
  intro dp un gd cn cs a ccd cl A₀ base h₀ L m mean mg mb s Q E B F X N T hk hd hu hret
  have B0 := below_self B
  clear B
  refine wpAny_call ?_
  k_dflt (refine' enterSC (base := h₀) ?k1 ?k2 ?k3 ?k4 ?k5 ?xb ?tb ?dd ?kA ?kF ?kK ?k6 ?k7 ?k8 ?k9 ?kB ?kD ?_ ?c2 ?c3 ?c4; (case kA => exact rfl); (case kF => exact rfl); (case kK => assumption); (case k1 => exact B0); (case k2 => k_asm); (case k3 => exact X); (case k4 => k_asm); (case k5 => exact T); (case xb => exact X); (case tb => exact T); (case dd => exact ktsDicts_nil); (case k6 => k_is); (case k7 => k_is); (case k8 => ktr_room); (case k9 => exact BindsTo.of_eq rfl); (case kB => exact rfl); (case kD => decide +kernel); (case c2 => exact rfl); (case c3 => exact rfl); (case c4 => exact rfl); k_whole; intro g' L' h' tk' cells' FG' F' N' Y' B' X' T' D' l1; (have hU9 : Under L' news := fun p hp => l1 p (List.mem_cons_of_mem _ (List.mem_cons_of_mem _ hp))); (try k_lt l1); k_cells Y'; (try simp only [List.cons_append, List.nil_append] at N'); (try dsimp only); (try k_fold))
  k_steps
  all_goals first
    | (rename KtsTurn _ _ _ => kT; refine' deed_out hret (fun _ _ q => q) kT (by assumption) (by assumption) List.mem_cons_self ?hs ?ht ?S (by kqd_sub) hoff hoff2 ?I (.inl ⟨rfl, rfl⟩); (case hs => k_mem); (case ht => k_mem); (case S => assumption); (case I => ktr_rel))
    | (refine' deed_out hret (fun _ _ q => q) KtsTurn.refl (by assumption) (by assumption) List.mem_cons_self ?hs ?ht ?S (by kqd_sub) hoff hoff2 ?I (.inr ⟨_, _, _, _, rfl, ?h1, ?h2, ?h3, ?h4, ?h5, ?h6, ?h7⟩); (case hs => k_mem); (case ht => k_mem); (case S => assumption); (case I => ktr_rel); (case h1 => k_mem); (case h2 => exact (Nat.ne_of_lt (by first | omega | exact lt_at2 (by assumption) (by k_mem))).symm); (case h3 => exact (Nat.ne_of_lt (by first | omega | exact lt_at2 (by assumption) (by k_mem))).symm); (case h5 => ktr_rel); (case h4 => exact RowsAt.cons ⟨_, _, _, _, rfl, by k_mem⟩ trivial); (case h6 => exact List.forall_mem_cons.mpr ⟨by assumption, nofun⟩); (case h7 => exact Nat.le_refl _))

section
variable {prog : Program} {w : World} {A : Around} {E : Value → Shared → Prop} {s : Shared} {h₀ : Heap} {L : Addr} {m : Str → Option Value} {env : Env} {elt iter : PySem.Expr} {x : Str} {px : Pos} {scope : Scope} {cl : List (Str × Addr)} {pos : Pos}
theorem compRest_ind {S : Led → Prop} {P : Nat → Value → Prop} {Fin : List Value → Led → Prop} {n : Nat} (Inv : Nat → List Value → Led → Prop) (hS : ∀ i ys news, Inv i ys news → S news)
    (turn : ∀ i ys news v I oI C oC D m₂ h tk (E' : Value → Shared → Prop), i < n → Inv i ys news → P i v → LCg.NsObj oC m₂ → m₂ x = some v → Fr h₀ L h m → News h₀ L h ((I, oI) :: (C, oC) :: (D, LCg.lst ys) :: news) → LCg.Off3 I C D news → ((@Ne Nat I C) ∧ (@Ne Nat I D) ∧ (@Ne Nat C D)) →
      wpAny (model prog w) A (eval elt (compEnvC scope cl C env)) (fun y s' => ∃ h' tk' news', s' = { s with heap := h', toks := tk' } ∧ Fr h₀ L h' m ∧ News h₀ L h' ((I, oI) :: (C, oC) :: (D, LCg.lst ys) :: news') ∧ LCg.Off3 I C D news' ∧ Inv (i + 1) (ys ++ [y]) news') E' { s with heap := h, toks := tk })
    (fin : ∀ ys news, Inv n ys news → Fin ys news) : ∀ k i ys news, i + k = n → Inv i ys news → LCg.CompRest prog w A h₀ L m env elt x scope cl s S P Fin k i ys news := by
  intro k
  induction k with
  | zero =>
    intro i ys news hi hI
    have e : i = n := by omega
    subst e
    exact LCg.CompRest.zero (fin ys news hI)
  | succ k ih =>
    intro i ys news hi hI
    refine LCg.CompRest.succ ?_
    intro v I oI C oC D m₂ h tk E' hv hC hx F N off ne
    refine wpAny_mono (turn i ys news v I oI C oC D m₂ h tk E' (by omega) hI hv hC hx F N off ne) (fun y s₂ hq => ?_) fun _ _ e => e
    obtain ⟨h', tk', nw, e, F', N', off', hI'⟩ := hq
    exact ⟨h', tk', nw, e, F', N', off', hS _ _ _ hI', ih (i + 1) _ _ (by omega) hI'⟩
/-- the source of a comprehension is a tuple of the ledger -/
def SrcT (prog : Program) (w : World) (A : Around) (h₀ : Heap) (L : Addr) (m : Str → Option Value) (env : Env) (elt : PySem.Expr) (x : Str) (scope : Scope) (cl : List (Str × Addr)) (Q : Value → Shared → Prop) (xv : Value) (s₁ : Shared) : Prop :=
  ∃ ax vs nn news, xv = .ref ax ∧ A.handled = none ∧ Fr h₀ L s₁.heap m ∧ News h₀ L s₁.heap news ∧ (ax, tupObj vs nn) ∈ news ∧ vs.length ≤ sizeLine ∧
      ∀ g, LCg.CompRest prog w A h₀ L m env elt x scope cl { s₁ with heap := g } (fun nw => (ax, tupObj vs nn) ∈ nw) (fun i v => vs[i]? = some v) (LCg.FinE h₀ L m { s₁ with heap := g } Q) vs.length 0 [] news
theorem ListComp_T {Q : Value → Shared → Prop} (F₀ : Fr h₀ L s.heap m)
    (hclos : closureFor scope env = pure cl) (hcell : ∀ y ∈ scope.names, y.2 ≠ .cell) (hkind : scope.kind = .function)
    (hnames : ∀ y ∈ scope.names, y.2 = .local → scope.names.lookup y.1 = some .local) (hx : scope.names.lookup x = some .local)
    (h : wpAny (model prog w) A (eval iter env) (SrcT prog w A h₀ L m env elt x scope cl Q) E s)
    (hs : ∀ x, foldedSetIterable iter env x = pure x := by intro _; rfl) :
    wpAny (model prog w) A (eval (.ListComp elt [⟨.Name x px, iter, [], 0⟩] scope pos) env) Q E s := by
  rw [eval_ListComp]
  refine wpAny_comprehension_free (use := none) rfl hs hclos hkind hnames (wpAny_mono h (fun xv s₁ h₁ => ?_) fun _ _ e => e)
  obtain ⟨ax, vs, nn, news, rfl, hh, F, N, S, hsz, R⟩ := h₁
  have hl : s₁.heap.IsTuple ax vs.toArray := isTuple_of N S
  have hlt : ax < s₁.heap.objs.size := by obtain ⟨_, e, _⟩ := hl; exact Heap.lt_size e
  refine wpAny_pyIter_tuple hl ?_
  have up : ∀ b o, s₁.heap.get? b = some o → (s₁.heap.push { cls := .type "tuple_iterator", data := .fields #[.ref ax, .int 0 0] }).get? b = some o := fun b o e => Heap.get?_push_of_some _ e
  have W := Walks.tuple (prog := prog) (w := w) (A := A) hh s₁.heap.objs.size ax (Nat.ne_of_lt hlt) vs.toArray
  have e9 : (fun (i : Nat) (v : Value) => vs.toArray[i]? = some v) = (fun i v => vs[i]? = some v) := by funext i v; simp
  rw [e9] at W
  have W' : Walks prog w A s₁.heap.objs.size [s₁.heap.objs.size, ax] [s₁.heap.objs.size] vs.length (fun i v => vs[i]? = some v) (fun i h => h.IsTupleIter s₁.heap.objs.size ax i ∧ h.IsTuple ax vs.toArray) := W
  refine LCg.block_U W' hsz (fun i h st => by obtain ⟨o, e, _⟩ := st.1; exact ⟨o, e⟩) (S := fun nw => (ax, tupObj vs nn) ∈ nw) (fun i h h' o nw st e e' _ N' S' => ⟨by obtain ⟨o', q, r⟩ := st.1; rw [e] at q; cases q; exact ⟨o, e', r⟩, isTuple_of (s := { s₁ with heap := h' }) N' S'⟩)
    hcell hkind hx ⟨⟨_, Heap.get?_push_size _ rfl, rfl, rfl⟩, hl.push _⟩ (fun b hb => ?_) (F.keeps up) (N.grown up) (Nat.ne_of_lt F.ns.lt) (next_is_new F) (fun p hp => Nat.ne_of_lt (Heap.lt_size (N p hp).1)) S (R _) ?_
  · show b < (s₁.heap.push _).objs.size
    rw [Heap.size_push]
    rcases List.mem_cons.mp hb with rfl | hb
    · exact Nat.lt_succ_self _
    · rw [List.mem_singleton.mp hb]; exact Nat.lt_succ_of_lt hlt
  · intro D C h tk m' ys news' F' N' o1 hn hC₀ hD₀ hCL hDL hCD offC fin
    refine ⟨m', hn, fun h'' hs'' => fin D h'' tk (F'.change hs'' hCL hC₀) (fun p hp => ?_) o1⟩
    refine ⟨hs''.extBut _ _ ?_ (N' p hp).1, (N' p hp).2⟩
    rcases List.mem_cons.mp hp with rfl | hp
    · exact Ne.symm hCD
    · exact offC p hp
end
theorem turn_grow {news all : Led} {I C D : Addr} {oI oC oD : Obj} (G : Grow ((I, oI) :: (C, oC) :: (D, oD) :: news) all) (off : LCg.Off3 I C D news) :
    ∃ news', (∀ p ∈ (I, oI) :: (C, oC) :: (D, oD) :: news', p ∈ all) ∧ (∀ p ∈ all, p ∈ (I, oI) :: (C, oC) :: (D, oD) :: news') ∧ LCg.Off3 I C D news' ∧ Grow news news' := by
  obtain ⟨tl, rfl, l⟩ := G
  refine ⟨tl ++ news, fun p hp => ?_, fun p hp => ?_, LCg.Off3.of fun p hp => ?_, tl, rfl, fun p hp q hq => l p (List.mem_cons_of_mem _ (List.mem_cons_of_mem _ (List.mem_cons_of_mem _ hp))) q hq⟩
  · simp only [List.mem_cons, List.mem_append] at hp ⊢
    rcases hp with h | h | h | h | h <;> simp [h]
  · simp only [List.mem_cons, List.mem_append] at hp ⊢
    rcases hp with h | h | h | h | h <;> simp [h]
  · rcases List.mem_append.mp hp with hp | hp
    · have a := l (I, oI) List.mem_cons_self p hp
      have b := l (C, oC) (List.mem_cons_of_mem _ List.mem_cons_self) p hp
      have c := l (D, oD) (List.mem_cons_of_mem _ (List.mem_cons_of_mem _ List.mem_cons_self)) p hp
      exact ⟨(Nat.ne_of_lt a).symm, (Nat.ne_of_lt b).symm, (Nat.ne_of_lt c).symm⟩
    · exact off.mem p hp

theorem TagsAt.get {P : Params} {news : Led} : ∀ {vs : List Value} {rows : List Row} {i : Nat} {v : Value}, TagsAt P news vs rows → vs[i]? = some v → ∃ row, rows[i]? = some row ∧ TagAt P news v row
  | [], [], _, _, _, e => by simp at e
  | a :: vs, r :: rs, 0, v, h, e => ⟨r, rfl, by simp at e; rw [← e]; exact h.1⟩
  | a :: vs, r :: rs, i + 1, v, h, e => TagsAt.get (i := i) h.2 (by simpa using e)
  | [], _ :: _, _, _, h, _ => h.elim
  | _ :: _, [], _, _, h, _ => h.elim
theorem RowsAt.snoc {news : Led} {v : Value} {r : Row} : ∀ {vs : List Value} {rows : List Row}, RowsAt news vs rows → RowAt news v r → RowsAt news (vs ++ [v]) (rows ++ [r])
  | [], [], _, h => ⟨h, trivial⟩
  | _ :: _, _ :: _, h, h' => ⟨h.1, RowsAt.snoc h.2 h'⟩
  | [], _ :: _, h, _ => h.elim
  | _ :: _, [], h, _ => h.elim
def ToldAt (news : Led) (r : Value) (f : Frm) : Prop := ∃ a TT t1 t2 t5 kt vs n n2, r = .ref a ∧ (a, tupObj [.int f.tg t1, .int f.sc t2, .ref TT, kindV f.kind kt, .bytes f.pay t5] n) ∈ news ∧ (TT, tupObj vs n2) ∈ news ∧ RowsAt news vs f.rows
def TurnEnd (h₀ : Heap) (L : Addr) (m : Str → Option Value) (s : Shared) (I C D : Addr) (oI oC oD : Obj) (Inv : Value → Led → Prop) (y : Value) (s' : Shared) : Prop :=
  ∃ h' tk' news', s' = { s with heap := h', toks := tk' } ∧ Fr h₀ L h' m ∧ News h₀ L h' ((I, oI) :: (C, oC) :: (D, oD) :: news') ∧ LCg.Off3 I C D news' ∧ Inv y news'
theorem tup_of_list {prog : Program} {w : World} {A : Around} {E : Value → Shared → Prop} {s : Shared} {h₀ : Heap} {L l : Addr} {m : Str → Option Value} {news : Led} {xs : List Value} {n : Nat} {Q : Value → Shared → Prop} (F : Fr h₀ L s.heap m) (N : News h₀ L s.heap news) (hm : (l, listOf xs.toArray n) ∈ news) (hz : xs.length ≤ 16384)
    (h : ∀ D h', Fr h₀ L h' m → News h₀ L h' ((D, tupObj xs 0) :: news) → (∀ p ∈ news, @LT.lt Nat _ p.1 D) → Q (.ref D) { s with heap := h' }) : wpAny (model prog w) A (call (.type "tuple") [.ref l]) Q E s :=
  kde_tupleOf F N (isList_of N hm) (by rw [List.size_toArray]; exact hz) (by simp) h
theorem ttold_d (w : World) (v : Value) (row : Row) (news : Led) (hm : TagAt w.params news v row) :
    CallC w (.ref 206) [v] news 12 120 (fun r news' => ∃ a t1 t2 t3, r = .ref a ∧ news' = (a, rowObj row t1 t2 t3) :: news ∧ ∀ p ∈ news, @LT.lt Nat _ p.1 a) := by
  obtain ⟨x, dx, u1, u2, u3, u4, t1, t2, t3, e, h1, h2⟩ := hm
  subst e
  unfold CallC
  intro dp un gd cn cs a ccd cl outer A₀ base h₀ L m mean mg mb s Q E B F X N T hk hd hu hret
  refine wpAny_call ?_
  k_dflt ktr_enter
  k_steps
  all_goals (refine hret _ _ _ _ (by k_asm) (by k_asm) ⟨_, _, _, _, rfl, rfl, by assumption⟩)
theorem turn_row {news : Led} {I C D a : Addr} {oI oC oD : Obj} {row : Row} {t1 t2 t3 : Tok} (hl : ∀ p ∈ (I, oI) :: (C, oC) :: (D, oD) :: news, @LT.lt Nat _ p.1 a) (off : LCg.Off3 I C D news) :
    (∀ p ∈ (I, oI) :: (C, oC) :: (D, oD) :: (a, rowObj row t1 t2 t3) :: news, p ∈ (a, rowObj row t1 t2 t3) :: (I, oI) :: (C, oC) :: (D, oD) :: news) ∧ LCg.Off3 I C D ((a, rowObj row t1 t2 t3) :: news) ∧ Grow news ((a, rowObj row t1 t2 t3) :: news) := by
  have h1 := hl _ List.mem_cons_self
  have h2 := hl _ (List.mem_cons_of_mem _ List.mem_cons_self)
  have h3 := hl _ (List.mem_cons_of_mem _ (List.mem_cons_of_mem _ List.mem_cons_self))
  refine ⟨fun p hp => ?_, ⟨⟨(Nat.ne_of_lt h1).symm, (Nat.ne_of_lt h2).symm, (Nat.ne_of_lt h3).symm⟩, off⟩, Grow.cons1 fun q hq => hl q (List.mem_cons_of_mem _ (List.mem_cons_of_mem _ (List.mem_cons_of_mem _ hq)))⟩
  simp only [List.mem_cons] at hp ⊢
  rcases hp with h | h | h | h | h <;> simp [h]
theorem told_grow {news nw : Led} {T5 TT D : Addr} {o5 oT oD : Obj} (l5 : @LT.lt Nat _ TT T5 ∧ @LT.lt Nat _ D T5 ∧ AllLt T5 nw) (lT : @LT.lt Nat _ D TT ∧ AllLt TT nw) (G : Grow news nw) :
    (∀ p ∈ (T5, o5) :: (TT, oT) :: nw, p ∈ (T5, o5) :: (TT, oT) :: (D, oD) :: nw) ∧ Grow news ((T5, o5) :: (TT, oT) :: nw) := by
  refine ⟨fun p hp => ?_, G.trans (Grow.cons2 (allLt_to lT.2) l5.1)⟩
  simp only [List.mem_cons] at hp ⊢
  rcases hp with h | h | h <;> simp [h]
theorem words24 : True := by
  k_with "call ref" => (k_here; (with_reducible show wpAny _ _ (call (Value.ref 206) _) _ _ _); k_dflt (refine' CallC.use (ttold_d _ _ _ _ ?q68h1) ?q68k1 ?q68k2 ?q68k3 ?q68k4 ?q68k5 ?q68k6 ?q68k7 ?q68k8 ?_; (case q68k1 => k_asm); (case q68k2 => k_asm); (case q68k3 => k_asm); (case q68k4 => k_asm); (case q68k5 => k_asm); (case q68k6 => first | exact rfl | assumption); (case q68h1 => ktr_rel); (case q68k7 => ktr_room); (case q68k8 => ktr_units); intro r' h' tk' news' F' N' hP'; (obtain ⟨a', t1', t2', t3', e1', e2', l1'⟩ := hP'); subst e1'; subst e2'; (try dsimp only); (try k_fold)))
  k_with "call type:tuple" => (k_here; (with_reducible show wpAny _ _ (call (Value.type _) [Value.ref _]) _ _ _); k_dflt (refine' tup_of_list ?q69k1 ?q69k2 ?q69k3 ?q69k4 ?_; (case q69k1 => k_asm); (case q69k2 => k_asm); (case q69k3 => k_mem); (case q69k4 => first | assumption | omega)); intro D' h' F' N' l1; (try k_lt l1); (try dsimp only); (try k_fold))
  k_with "eval ListComp" => (k_here; (with_reducible show wpAny _ _ (eval (PySem.Expr.ListComp _ [⟨_, PySem.Expr.Attribute _ _ _, _, _⟩] _ _) _) _ _ _); k_dflt (refine ListComp_T (F₀ := by k_asm) (by rfl) (by decide) (by rfl) (by decide) (by rfl) ?_))
  trivial
set_option maxHeartbeats 1000000 in
theorem ftold_c (w : World) (v : Value) (f : Frm) (news : Led) (hl : f.rows.length ≤ 1000) (hf : FrameAt w.params news v f) :
    CallC w (.ref 232) [v] news 30 300 (fun r news' => Grow news news' ∧ ToldAt news' r f) := by
  obtain ⟨tg, sc, rows, kind, pay⟩ := f
  obtain ⟨x, dx, T0, vs, n, kt, u1, u2, u3, u4, u5, t1, t2, t5, e, h1, h2, h3, h4⟩ := hf
  subst e
  have hlen := h4.length
  unfold CallC
  intro dp un gd cn cs a ccd cl outer A₀ base h₀ L m mean mg mb s Q E B F X N T hk hd hu hret
  refine wpAny_call ?_
  k_dflt ktr_enter
  k_steps
  refine ⟨T0, vs, n, _, rfl, rfl, by k_asm, by k_asm, by k_mem, by rw [PySem.sizeLine_eq, hlen]; exact Nat.le_trans hl (by decide), fun g9 => ?_⟩
  refine compRest_ind (fun i ys nw => Grow news nw ∧ RowsAt nw ys (rows.take i)) (fun i ys nw hI => hI.1.sub _ h3) ?turn ?fin vs.length 0 [] _ (Nat.zero_add _) ⟨Grow.refl _, trivial⟩
  case turn =>
    intro i ys nw v I oI C oC D m₂ h tk E' hi hI hv hC hx F9 N9 off ne
    obtain ⟨row, hrow, ht⟩ := TagsAt.get (h4.mono hI.1.sub) hv
    have ht0 : TagAt w.params ((I, oI) :: (C, oC) :: (D, LCg.lst ys) :: nw) v row := ht.mono (fun p hp => List.mem_cons_of_mem _ (List.mem_cons_of_mem _ (List.mem_cons_of_mem _ hp)))
    obtain ⟨x1, dx1, q1, q2, q3, q4, q5, q6, q7, e1, g1, g2⟩ := ht
    subst e1
    show wpAny _ _ _ (TurnEnd _ _ _ _ I C D oI oC (LCg.lst ys) (fun y nw' => Grow news nw' ∧ RowsAt nw' (ys ++ [y]) (rows.take (i + 1)))) _ _
    k_steps
    rename ∀ p ∈ (I, oI) :: _, @LT.lt Nat _ _ _ => hl9
    obtain ⟨s1, off2, G2⟩ := turn_row hl9 off
    refine ⟨_, _, _, rfl, by assumption, drops (by assumption) s1, off2, hI.1.trans G2, ?_⟩
    rw [List.take_add_one, hrow]
    exact RowsAt.snoc (RowsAt.mono G2.sub hI.2) ⟨_, _, _, _, rfl, List.mem_cons_self⟩
  case fin =>
    intro ys nw hI
    intro D h tk F9 N9 o1
    have hy := hI.2.length
    have hy2 : ys.length ≤ 1000 := by rw [hy, List.length_take]; omega
    have hI1 := hI.1.sub
    have h1' := hI1 _ h1
    have h2' := hI1 _ h2
    cases kind
    all_goals (dsimp only [kindV] at h2')
    all_goals k_steps
    all_goals (
      obtain ⟨s1, G1⟩ := told_grow (by assumption) (by assumption) hI.1
      refine hret _ _ _ _ (by k_asm) (drops (by k_asm) s1) ⟨G1, _, _, _, _, _, kt, _, _, _, rfl, List.mem_cons_self, List.mem_cons_of_mem _ List.mem_cons_self, ?_⟩
      have e9 : rows.take vs.length = rows := by rw [hlen]; exact List.take_length
      rw [e9] at hI
      exact RowsAt.mono (fun p hp => List.mem_cons_of_mem _ (List.mem_cons_of_mem _ hp)) hI.2)

section
variable {A : Around} {s : Shared} {h₀ : Heap} {L : Addr} {news : Led}
theorem eq_bytes_at (b : Array UInt8) (t u : Tok) : SeqAt.EqAt A s (.bytes b t) (.bytes b u) true := fun prog w E Q h => by
  unfold eqBool
  refine wpAny_holding ?_
  refine wpAny_ite_split (fun _ => wpAny_bind (wpAny_rule (wpAny_pure h))) (fun _ => ?_)
  have e : (b.toList == b.toList) = true := beq_self_eq_true _
  exact wpAny_bind (eq_bytes (E := E) (Q := _) (by rw [e]; exact wpAny_truthy_bool h))
theorem int_at (a : Int) (t u : Tok) : SeqAt.EqAt A s (.int a t) (.int a u) true := by
  have := SeqAt.EqAt.int_int (A := A) (s := s) a t a u
  rwa [beq_self_eq_true] at this
theorem kind_at (k : Option Int) (t u : Tok) : SeqAt.EqAt A s (kindV k t) (kindV k u) true := by
  cases k with
  | none => exact SeqAt.EqAt.same _
  | some i => exact int_at i t u
theorem all_true (n : Nat) : (List.range n).all (fun _ => true) = true := by simp
theorem tuples_at {a b : Addr} {xs ys : List Value} {na nb : Nat} (N : News h₀ L s.heap news) (ha : (a, tupObj xs na) ∈ news) (hb : (b, tupObj ys nb) ∈ news) (hu : A.units < cLine) (hl : xs.length = ys.length)
    (he : ∀ j (h1 : j < xs.length) (h2 : j < ys.length), SeqAt.EqAt A.in1 s xs[j] ys[j] true) : SeqAt.EqAt A s (.ref a) (.ref b) true := by
  by_cases e : a = b
  · subst e; exact SeqAt.EqAt.same _
  · refine SeqAt.EqAt.of_refs e ?_
    have := SeqAt.RcAt.tuples (e := fun _ => true) (isTuple_of N ha) (isTuple_of N hb) hu (fun j h1 h2 => by simpa using he j (by simpa using h1) (by simpa using h2))
    rw [all_true] at this
    simpa [hl] using this
theorem row_at {row : Row} {v u : Value} (N : News h₀ L s.heap news) (hu : A.units < cLine) (h : RowAt news v row) (h' : RowAt news u row) : SeqAt.EqAt A s v u true := by
  obtain ⟨a, t1, t2, t3, e, ha⟩ := h
  obtain ⟨b, u1, u2, u3, e', hb⟩ := h'
  subst e e'
  refine tuples_at (xs := [.int row.kind t1, .int row.prio t2, .bool row.drop, .int row.vlan t3]) (ys := [.int row.kind u1, .int row.prio u2, .bool row.drop, .int row.vlan u3]) (na := 0) (nb := 0) N ha hb hu rfl (fun j h1 h2 => ?_)
  match j, h1, h2 with
  | 0, _, _ => exact int_at _ _ _
  | 1, _, _ => exact int_at _ _ _
  | 2, _, _ => exact SeqAt.EqAt.same _
  | 3, _, _ => exact int_at _ _ _
theorem rows_get {l : Led} : ∀ {vs us : List Value} {rows : List Row} (j : Nat) (h1 : j < vs.length) (h2 : j < us.length), RowsAt l vs rows → RowsAt l us rows → ∃ row, RowAt l vs[j] row ∧ RowAt l us[j] row
  | v :: vs, u :: us, r :: rs, 0, _, _, h, h' => ⟨r, h.1, h'.1⟩
  | v :: vs, u :: us, r :: rs, j + 1, h1, h2, h, h' => rows_get j (by simpa using h1) (by simpa using h2) h.2 h'.2
theorem rows_at {rows : List Row} {a b : Addr} {vs us : List Value} {na nb : Nat} (N : News h₀ L s.heap news) (hu : A.units < cLine) (hu2 : A.in1.units < cLine) (ha : (a, tupObj vs na) ∈ news) (hb : (b, tupObj us nb) ∈ news) (h : RowsAt news vs rows) (h' : RowsAt news us rows) : SeqAt.EqAt A s (.ref a) (.ref b) true :=
  tuples_at N ha hb hu (h.length.trans h'.length.symm) fun j h1 h2 => let ⟨_, r1, r2⟩ := rows_get j h1 h2 h h'; row_at N hu2 r1 r2
theorem told_ne {prog : Program} {w : World} {E : Value → Shared → Prop} {Q : Value → Shared → Prop} {f : Frm} {a b TT UU : Addr} {vs us : List Value} {n n2 n3 n4 : Nat} {t1 t2 t5 kt u1 u2 u5 ku : Tok} (N : News h₀ L s.heap news) (hu : A.units < cLine) (hu2 : A.in1.units < cLine) (hu3 : A.in1.in1.units < cLine)
    (ha : (a, tupObj [.int f.tg t1, .int f.sc t2, .ref TT, kindV f.kind kt, .bytes f.pay t5] n) ∈ news) (hb : (b, tupObj [.int f.tg u1, .int f.sc u2, .ref UU, kindV f.kind ku, .bytes f.pay u5] n2) ∈ news)
    (hT : (TT, tupObj vs n3) ∈ news) (hU : (UU, tupObj us n4) ∈ news) (h : RowsAt news vs f.rows) (h' : RowsAt news us f.rows) (hQ : Q (.bool false) s) : wpAny (model prog w) A (compareOp .NotEq (.ref a) (.ref b)) Q E s := by
  refine SeqAt.RcNeAt.tuples (e := fun _ => true) (isTuple_of N ha) (isTuple_of N hb) hu (fun j h1 h2 => ?_) prog w E Q ?_
  · match j, h1, h2 with
    | 0, _, _ => exact int_at _ _ _
    | 1, _, _ => exact int_at _ _ _
    | 2, _, _ => exact rows_at N hu2 hu3 hT hU h h'
    | 3, _, _ => exact kind_at _ _ _
    | 4, _, _ => exact eq_bytes_at _ _ _
  · rw [all_true]; exact hQ
end

set_option maxHeartbeats 1000000 in
theorem pool_c (w : World) (sl : Addr) (vs : List Value) (ns : List Int) (k : Int) (tk0 : Tok) (news : Led) (hI : IntsAre vs ns) (hlen : ns.length ≤ 63) (hk0 : 0 ≤ k) (hk3 : k < 3)
    (dp un : Nat) (gd : Option (List Code)) (cn : Str) (cs : Scope) (a : Addr) (ccd : Value) (cl : List (Str × Addr)) (outer : List Env) (A₀ : Around) (base h₀ : Heap) (L : Addr) (m : Str → Option Value) (mean : ExcName → Option Value) (mg mb : Str → Option Value) (s : Shared)
    (Q E : Value → Shared → Prop)
    (B : Below A₀ base outer h₀) (F : Fr h₀ L s.heap m) (N : News h₀ L s.heap news)
    (T : Top topProg lawLoose mean mg mb h₀)
    (hl : h₀.IsList sl vs.toArray)
    (hk : cs.kind = .function) (hdp : dp + 20 < recursionLimit) (hu : un + 200 < cLine)
    (hret : ∀ r x y ta tb n h' tk', SrcOk x y → Fr h₀ L h' m → News h₀ L h' ((r, listOf #[.int x ta, .int y tb] n) :: news) → (∀ p ∈ news, @LT.lt Nat _ p.1 r) → Q (.ref r) { s with heap := h', toks := tk' }) :
    (hd.heap_1 w.params).In h₀ → wpAny (model PySem.Challenge.rw_pb0543_01.row.prog w) (ktrTop dp un gd cn cs L a ccd cl outer) (call (.ref 330) [.ref sl, .int k tk0]) Q E s := by
  intro X
  have hvl : vs.length = ns.length := hI.length
  refine wpAny_call ?_
  k_dflt ktr_enter
  rename Fr h₀ L _ m => kG
  have hl2 := (show ∃ o, _ from hl)
  obtain ⟨o9, e9, r9⟩ := hl2
  have hl3 : (_ : Heap).IsList sl vs.toArray := ⟨o9, kG.keep _ _ e9, r9⟩
  k_steps
  all_goals (refine hret _ _ _ _ _ _ _ _ ⟨?_, ?_, ?_⟩ (by k_asm) (by k_asm) (by assumption) <;> omega)

/-- the source of a comprehension is a range of any step -/
def SrcD (prog : Program) (w : World) (A : Around) (h₀ : Heap) (L : Addr) (m : Str → Option Value) (env : Env) (elt : PySem.Expr) (x : Str) (scope : Scope) (cl : List (Str × Addr)) (Q : Value → Shared → Prop) (xv : Value) (s₁ : Shared) : Prop :=
  ∃ r a b c t u v n news, xv = .ref r ∧ A.handled = none ∧ Fr h₀ L s₁.heap m ∧ News h₀ L s₁.heap news ∧ IsRange s₁.heap r a b c t u v ∧ Builtin.Range.small a b c = true ∧ Builtin.Range.rangeSize a b c = ((n : Nat) : Int) ∧ n ≤ sizeLine ∧
      ∀ g, LCg.CompRest prog w A h₀ L m env elt x scope cl { s₁ with heap := g } (fun _ => True) (fun i v => ∃ t, v = .int (a + (i : Int) * c) t) (LCg.FinE h₀ L m { s₁ with heap := g } Q) n 0 [] news
section
variable {prog : Program} {w : World} {A : Around} {E : Value → Shared → Prop} {s : Shared} {h₀ : Heap} {L : Addr} {m : Str → Option Value} {env : Env} {elt iter : PySem.Expr} {x : Str} {px : Pos} {scope : Scope} {cl : List (Str × Addr)} {pos : Pos}
theorem ListComp_D {Q : Value → Shared → Prop} (F₀ : Fr h₀ L s.heap m)
    (hclos : closureFor scope env = pure cl) (hcell : ∀ y ∈ scope.names, y.2 ≠ .cell) (hkind : scope.kind = .function)
    (hnames : ∀ y ∈ scope.names, y.2 = .local → scope.names.lookup y.1 = some .local) (hx : scope.names.lookup x = some .local)
    (h : wpAny (model prog w) A (eval iter env) (SrcD prog w A h₀ L m env elt x scope cl Q) E s)
    (hs : ∀ x, foldedSetIterable iter env x = pure x := by intro _; rfl) :
    wpAny (model prog w) A (eval (.ListComp elt [⟨.Name x px, iter, [], 0⟩] scope pos) env) Q E s := by
  rw [eval_ListComp]
  refine wpAny_comprehension_free (use := none) rfl hs hclos hkind hnames (wpAny_mono h (fun xv s₁ h₁ => ?_) fun _ _ e => e)
  obtain ⟨r, a, b, c, t, u, v, n, news, rfl, hh, F, N, hr, hsm, hn, hsz, R⟩ := h₁
  refine wpAny_pyIter_range hr hsm ?_
  refine LCg.block_U (Walks.range hh s₁.heap.objs.size a c n) hsz (fun i h st => ⟨_, st⟩) (S := fun _ => True) (fun i h h' o nw st e e' _ _ _ => by
      have st' : h.get? s₁.heap.objs.size = some _ := st
      show h'.get? s₁.heap.objs.size = some _
      rw [e', ← e]; exact st') hcell hkind hx (by show IsRangeIter _ _ _ _ _; rw [hn]; simpa using Heap.get?_push_size _ rfl) (fun b hb => ?_)
    (F.keeps fun _ _ e => Heap.get?_push_of_some _ e) (N.grown fun _ _ e => Heap.get?_push_of_some _ e) (Nat.ne_of_lt F.ns.lt) (next_is_new F) (fun p hp => Nat.ne_of_lt (Heap.lt_size (N p hp).1)) trivial (R _) ?_
  · rw [List.mem_singleton.mp hb]
    show s₁.heap.objs.size < (s₁.heap.push _).objs.size
    rw [Heap.size_push]; exact Nat.lt_succ_self _
  · intro D C h tk m' ys news' F' N' o1 hn hC₀ hD₀ hCL hDL hCD offC fin
    refine ⟨m', hn, fun h'' hs'' => fin D h'' tk (F'.change hs'' hCL hC₀) (fun p hp => ?_) o1⟩
    refine ⟨hs''.extBut _ _ ?_ (N' p hp).1, (N' p hp).2⟩
    rcases List.mem_cons.mp hp with rfl | hp
    · exact Ne.symm hCD
    · exact offC p hp
end

section
variable {prog : Program} {w : World} {A : Around} {E : Value → Shared → Prop} {s : Shared} {t u : Tok} {Q : Value → Shared → Prop}
theorem lsh16 (h : Q (.int 65536 s.toks) { s with toks := s.toks + 1 }) : wpAny (model prog w) A (binaryOp .LShift (.int 1 t) (.int (8 * 2) u)) Q E s :=
  lshift_int_small (by decide) (by decide) (by decide) h
theorem lsh48 (h : Q (.int 281474976710656 s.toks) { s with toks := s.toks + 1 }) : wpAny (model prog w) A (binaryOp .LShift (.int 1 t) (.int (8 * 6) u)) Q E s :=
  lshift_int_small (by decide) (by decide) (by decide) h
end
theorem words25 : True := by
  k_with "eval ListComp" => (k_here; (with_reducible show wpAny _ _ (eval (PySem.Expr.ListComp _ [⟨_, PySem.Expr.Call _ [_, _, _] _ _, _, _⟩] _ _) _) _ _ _); k_dflt (refine ListComp_D (F₀ := by k_asm) (by with_unfolding_all rfl) (by decide) (by rfl) (by decide) (by rfl) ?_))
  k_with "binaryOp LShift int int" => (k_here; (first | (with_reducible refine lsh16 ?_) | (with_reducible refine lsh48 ?_)))
  k_with "CompEnd" => (k_here; refine LCg.CompEnd.intro (by assumption) (by assumption) _ (fun p hp => hp) (by assumption) True.intro ?_)
  trivial
def oct (ns : List Int) : Array UInt8 := (ns.map fun n => n.toNat.toUInt8).toArray
theorem band_in (z : Int) : 0 ≤ Builtin.bitAnd z 255 ∧ Builtin.bitAnd z 255 < 256 := by rw [bitAnd_m8]; omega
theorem ints1 {a : Int} {t : Tok} {vs : List Value} {ns : List Int} (h : IntsAre vs ns) : IntsAre (.int a t :: vs) (a :: ns) := .cons _ _ h
theorem bytes_list {prog : Program} {w : World} {A : Around} {E : Value → Shared → Prop} {s : Shared} {h₀ : Heap} {L l : Addr} {m : Str → Option Value} {news : Led} {vs : List Value} {ns : List Int} {n : Nat} {Q : Value → Shared → Prop} (F : Fr h₀ L s.heap m) (N : News h₀ L s.heap news) (hm : (l, listOf vs.toArray n) ∈ news) (hi : IntsAre vs ns) (hr : ∀ n ∈ ns, 0 ≤ n ∧ n < 256) (hz : vs.length ≤ 1000) (hh : A.handled = none)
    (h : ∀ h' t k, Fr h₀ L h' m → News h₀ L h' news → Q (.bytes (oct ns) t) { s with heap := h', toks := k }) : wpAny (model prog w) A (call (.type "bytes") [.ref l]) Q E s :=
  bytes_K F N (isList_of N hm) hi hr (by rw [PySem.sizeLine_eq]; omega) hh fun h' t k F' N' _ => h h' t k F' N'
theorem words26 : True := by
  k_with "call type:bytes" => (k_here; (with_reducible show wpAny _ _ (call (Value.type _) [Value.ref _]) _ _ _); k_dflt (refine' bytes_list ?q74k1 ?q74k2 ?q74k3 ?q74k4 ?q74k5 ?q74k6 ?q74k7 ?_; (case q74k1 => k_asm); (case q74k2 => k_asm); (case q74k3 => k_mem); (case q74k4 => first | exact ints1 (ints1 (IntsAre.nil)) | exact ints1 (ints1 (ints1 (ints1 (IntsAre.nil)))) | exact ints1 (ints1 (ints1 (ints1 (ints1 (ints1 (IntsAre.nil))))))); (case q74k5 => (repeat (first | exact List.forall_mem_nil _ | refine List.forall_mem_cons.mpr ⟨by first | exact band_in _ | omega, ?_⟩))); (case q74k6 => first | exact Nat.le_of_ble_eq_true rfl | (simp only [List.length_cons, List.length_nil]; omega)); (case q74k7 => exact rfl)); intro h' t' k' F' N'; (try dsimp only); (try k_fold))
  trivial
theorem oct_ints {ns : List Int} (hr : ∀ n ∈ ns, 0 ≤ n ∧ n < 256) : KBw.bInts (oct ns) = ns := by
  have h := allB_of hr
  unfold KBw.bInts oct
  rw [List.map_map]
  clear hr
  induction ns with
  | nil => rfl
  | cons n r ih => rw [List.map_cons, ih h.tail]; exact congrArg (· :: r) h.head
theorem put2_ints (x : Int) (h0 : 0 ≤ x) (h1 : x < 65536) : KBw.bInts (oct [Builtin.bitAnd (x.fdiv (2 ^ (8 * (2 - 1 + ((0 : Nat) : Int) * -1)).toNat)) 255, Builtin.bitAnd (x.fdiv (2 ^ (8 * (2 - 1 + ((0 + 1 : Nat) : Int) * -1)).toNat)) 255]) = [x / 256, x % 256] := by
  rw [oct_ints (List.forall_mem_cons.mpr ⟨band_in _, List.forall_mem_cons.mpr ⟨band_in _, List.forall_mem_nil _⟩⟩)]
  rw [bitAnd_m8, bitAnd_m8]
  have e1 : x.fdiv (2 ^ (8 * (2 - 1 + ((0 : Nat) : Int) * -1)).toNat) = x / 256 := Int.fdiv_eq_ediv_of_nonneg x (by decide)
  have e2 : x.fdiv (2 ^ (8 * (2 - 1 + ((0 + 1 : Nat) : Int) * -1)).toNat) = x / 1 := Int.fdiv_eq_ediv_of_nonneg x (by decide)
  rw [e1, e2]
  congr 1
  · omega
  · congr 1; omega
set_option maxHeartbeats 1000000 in
theorem put2_c (w : World) (x : Int) (tx tm : Tok) (news : Led) (h0 : 0 ≤ x) (h1 : x < 65536) :
    CallC w (.ref 170) [.int x tx, .int 2 tm] news 30 300 (fun r news' => news' = news ∧ ∃ b t, r = .bytes b t ∧ KBw.bInts b = [x / 256, x % 256]) := by
  unfold CallC
  intro dp un gd cn cs a ccd cl outer A₀ base h₀ L m mean mg mb s Q E B F X N T hk hd hu hret
  refine wpAny_call ?_
  k_dflt (refine' code_defC ?k1 ?k2 ?k3 ?k4 ?k5 ?kA ?kF ?kK ?k6 ?k7 ?k8 ?k9 ?kB ?kD ?_ ?c2 ?c3 ?c4; (case kA => exact rfl); (case kF => exact rfl); (case kK => assumption); (case k1 => k_asm); (case k2 => k_asm); (case k3 => k_asm); (case k4 => k_asm); (case k5 => k_asm); (case k6 => k_is); (case k7 => k_is); (case k8 => ktr_room); (case k9 => exact BindsTo.of_eq rfl); (case kB => exact rfl); (case kD => decide +kernel); (case c2 => exact rfl); (case c3 => exact rfl); (case c4 => exact rfl); k_whole; intro g' L' h' tk' cells' FG' F' N' Y' B' X' T' l1; (try k_lt l1); k_cells Y'; (try simp only [List.cons_append, List.nil_append] at N'); (try dsimp only); (try k_fold))
  k_steps
  refine ⟨_, _, _, _, _, _, _, 2, _, rfl, rfl, by k_asm, by k_asm, by assumption, by decide, rfl, by rw [PySem.sizeLine_eq]; decide, fun g9 => ?_⟩
  k_steps
  all_goals (refine hret _ _ _ news (by k_asm) (drops (by k_asm) (by kqd_sub)) ⟨rfl, _, _, rfl, put2_ints x h0 h1⟩)
set_option maxHeartbeats 1000000 in
theorem put6_c (w : World) (x : Int) (tx tm : Tok) (news : Led) (h0 : 0 ≤ x) (h1 : x < 281474976710656) :
    CallC w (.ref 170) [.int x tx, .int 6 tm] news 30 300 (fun r news' => news' = news ∧ ∃ b t, r = .bytes b t ∧ b.size = 6) := by
  unfold CallC
  intro dp un gd cn cs a ccd cl outer A₀ base h₀ L m mean mg mb s Q E B F X N T hk hd hu hret
  refine wpAny_call ?_
  k_dflt (refine' code_defC ?k1 ?k2 ?k3 ?k4 ?k5 ?kA ?kF ?kK ?k6 ?k7 ?k8 ?k9 ?kB ?kD ?_ ?c2 ?c3 ?c4; (case kA => exact rfl); (case kF => exact rfl); (case kK => assumption); (case k1 => k_asm); (case k2 => k_asm); (case k3 => k_asm); (case k4 => k_asm); (case k5 => k_asm); (case k6 => k_is); (case k7 => k_is); (case k8 => ktr_room); (case k9 => exact BindsTo.of_eq rfl); (case kB => exact rfl); (case kD => decide +kernel); (case c2 => exact rfl); (case c3 => exact rfl); (case c4 => exact rfl); k_whole; intro g' L' h' tk' cells' FG' F' N' Y' B' X' T' l1; (try k_lt l1); k_cells Y'; (try simp only [List.cons_append, List.nil_append] at N'); (try dsimp only); (try k_fold))
  k_steps
  refine ⟨_, _, _, _, _, _, _, 6, _, rfl, rfl, by k_asm, by k_asm, by assumption, by decide, rfl, by rw [PySem.sizeLine_eq]; decide, fun g9 => ?_⟩
  k_steps
  all_goals (refine hret _ _ _ news (by k_asm) (drops (by k_asm) (by kqd_sub)) ⟨rfl, _, _, rfl, rfl⟩)
theorem words27 : True := by
  k_with "call ref" => (k_here; (with_reducible show wpAny _ _ (call (Value.ref 170) [Value.int _ _, Value.int 2 _]) _ _ _); k_dflt (refine' CallC.use (put2_c _ _ _ _ _ ?q75h1 ?q75h2) ?q75k1 ?q75k2 ?q75k3 ?q75k4 ?q75k5 ?q75k6 ?q75k7 ?q75k8 ?_; (case q75k1 => k_asm); (case q75k2 => k_asm); (case q75k3 => k_asm); (case q75k4 => k_asm); (case q75k5 => k_asm); (case q75k6 => first | exact rfl | assumption); (case q75h1 => first | assumption | omega); (case q75h2 => first | assumption | omega); (case q75k7 => ktr_room); (case q75k8 => ktr_units); intro r' h' tk' news' F' N' hP'; (obtain ⟨e1', b', t', e2', hb'⟩ := hP'); subst news'; subst e2'; (try dsimp only); (try k_fold)))
  k_with "call ref" => (k_here; (with_reducible show wpAny _ _ (call (Value.ref 170) [Value.int _ _, Value.int 6 _]) _ _ _); k_dflt (refine' CallC.use (put6_c _ _ _ _ _ ?q76h1 ?q76h2) ?q76k1 ?q76k2 ?q76k3 ?q76k4 ?q76k5 ?q76k6 ?q76k7 ?q76k8 ?_; (case q76k1 => k_asm); (case q76k2 => k_asm); (case q76k3 => k_asm); (case q76k4 => k_asm); (case q76k5 => k_asm); (case q76k6 => first | exact rfl | assumption); (case q76h1 => first | assumption | omega); (case q76h2 => first | assumption | omega); (case q76k7 => ktr_room); (case q76k8 => ktr_units); intro r' h' tk' news' F' N' hP'; (obtain ⟨e1', b', t', e2', hb'⟩ := hP'); subst news'; subst e2'; (try dsimp only); (try k_fold)))
  trivial
theorem put16_c (w : World) (x : Int) (tx : Tok) (news : Led) (h0 : 0 ≤ x) (h1 : x < 65536) :
    CallC w (.ref 177) [.int x tx] news 40 400 (fun r news' => news' = news ∧ ∃ b t, r = .bytes b t ∧ KBw.bInts b = [x / 256, x % 256]) := by
  unfold CallC
  intro dp un gd cn cs a ccd cl outer A₀ base h₀ L m mean mg mb s Q E B F X N T hk hd hu hret
  refine wpAny_call ?_
  k_dflt ktr_enter
  k_steps
  all_goals (refine hret _ _ _ news (by k_asm) (by k_asm) ⟨rfl, _, _, rfl, by assumption⟩)
theorem put48_c (w : World) (x : Int) (tx : Tok) (news : Led) (h0 : 0 ≤ x) (h1 : x < 281474976710656) :
    CallC w (.ref 184) [.int x tx] news 40 400 (fun r news' => news' = news ∧ ∃ b t, r = .bytes b t ∧ b.size = 6) := by
  unfold CallC
  intro dp un gd cn cs a ccd cl outer A₀ base h₀ L m mean mg mb s Q E B F X N T hk hd hu hret
  refine wpAny_call ?_
  k_dflt ktr_enter
  k_steps
  all_goals (refine hret _ _ _ news (by k_asm) (by k_asm) ⟨rfl, _, _, rfl, by assumption⟩)

theorem bj_slot : Slot "bytes" "join" "bytes.join" :=
  .of (owner := "bytes") (n := "join") (by rw [typeLookup_type, builtinLookup_eq_fast]; kernel_rfl) (by decide +kernel) (by decide +kernel) (by decide +kernel)
    (by first | exact .inl (by decide +kernel) | exact .inr (by decide +kernel)) (by rw [isSubtype_type]; kernel_rfl)
theorem bj_type : typeOf (.builtin "bytes.join") = pure (.type "method_descriptor") := by show builtinType _ = _; rw [builtinType_eq_fast]; kernel_rfl
theorem bj_entry : entryFor table "bytes.join" = some Builtin.«bytes.join» := entryFor_of_tree (by kernel_rfl)
theorem bj_args (a b : Value) : argsOk "bytes.join" ⟨[a, b], []⟩ := by unfold argsOk; kernel_rfl
/-- values that are bytes -/
def BytesAre : List Value → List (Array UInt8) → Prop
  | [], [] => True
  | v :: vs, b :: bs => (∃ t, v = .bytes b t) ∧ BytesAre vs bs
  | _, _ => False
theorem BytesAre.length : ∀ {vs : List Value} {bs : List (Array UInt8)}, BytesAre vs bs → vs.length = bs.length
  | [], [], _ => rfl
  | _ :: _, _ :: _, h => by rw [List.length_cons, List.length_cons, h.2.length]
  | [], _ :: _, h => h.elim
  | _ :: _, [], h => h.elim
theorem BytesAre.get : ∀ {vs : List Value} {bs : List (Array UInt8)} {i : Nat}, BytesAre vs bs → i < vs.length → ∃ b t, vs[i]? = some (.bytes b t) ∧ bs[i]? = some b
  | v :: vs, b :: bs, 0, h, _ => by obtain ⟨⟨t, e⟩, _⟩ := h; exact ⟨b, t, by rw [e]; rfl, rfl⟩
  | v :: vs, b :: bs, i + 1, h, hl => by
    obtain ⟨b', t, h1, h2⟩ := BytesAre.get (i := i) h.2 (by simpa using hl)
    exact ⟨b', t, by simpa using h1, by simpa using h2⟩
  | [], _, _, _, hl => absurd hl (by simp)
  | _ :: _, [], _, h, _ => h.elim
theorem BytesAre.snoc : ∀ {vs : List Value} {bs : List (Array UInt8)} {v : Value} {b : Array UInt8}, BytesAre vs bs → (∃ t, v = .bytes b t) → BytesAre (vs ++ [v]) (bs ++ [b])
  | [], [], _, _, _, h => ⟨h, trivial⟩
  | _ :: _, _ :: _, _, _, h, h' => ⟨h.1, BytesAre.snoc h.2 h'⟩
  | [], _ :: _, _, _, h, _ => h.elim
  | _ :: _, [], _, _, h, _ => h.elim
def glue (bs : List (Array UInt8)) : Array UInt8 := bs.foldl (· ++ ·) #[]
theorem joined_nil (bs : List (Array UInt8)) : Builtin.Bytes.joined #[] bs = glue bs := by
  unfold Builtin.Bytes.joined glue
  have key : ∀ (l : List (Array UInt8)) (k : Nat) (acc : Array UInt8), ((l.zipIdx k).foldl (fun out (x : Array UInt8 × Nat) => (if x.2 > 0 then out ++ (#[] : Array UInt8) else out) ++ x.1) acc) = l.foldl (· ++ ·) acc := by
    intro l
    induction l with
    | nil => intro k acc; rfl
    | cons x l ih =>
      intro k acc
      rw [List.zipIdx_cons, List.foldl_cons, List.foldl_cons, ih]
      congr 1
      split <;> simp
  exact key bs 0 #[]
section
variable {prog : Program} {w : World} {A : Around} {E : Value → Shared → Prop} {s : Shared}
theorem bj_takes {M : Model} {A : Around} {id : String} {b : Array UInt8} {t : Tok} {Q : Option (Array UInt8 × Option Value) → Shared → Prop} (h : Q (some (b, none)) s) : wpAny M A (Builtin.Bytes.takeBufferQuiet? id (.bytes b t) 0) Q E s := by
  unfold Builtin.Bytes.takeBufferQuiet? Builtin.Bytes.takeBuffer?
  rw [show ((0 : Int) == Builtin.Bytes.fullReadOnly) = false by decide]
  rw [KBy.special_eq KBy.look_buffer, KBy.own_buffer, KBy.buffer_eq]
  refine wpAny_bind (wpAny_attempt ?_)
  exact wpAny_pure (wpAny_pure h)
theorem bj_letGo {M : Model} {A : Around} {Q : Unit → Shared → Prop} : ∀ (l : List Value) (keep : List Value), Q () s → wpAny M A (Builtin.Bytes.joinLetGo (l.map fun v => (v, none)) keep) Q E s
  | [], keep, h => by rw [List.map_nil, Builtin.Bytes.joinLetGo]; exact wpAny_pure h
  | x :: l, keep, h => by
    rw [List.map_cons, Builtin.Bytes.joinLetGo]
    · dsimp only
      refine wpAny_bind (wpAny_letGo ?_)
      exact bj_letGo l keep h
    · exact nofun
theorem bj_noheap : ∀ {vs : List Value} {bs : List (Array UInt8)}, BytesAre vs bs → ((vs.map fun v => (v, (none : Option Value))).any (·.1.onHeap)) = false
  | [], [], _ => rfl
  | v :: vs, _ :: _, h => by
    obtain ⟨⟨t, e⟩, h⟩ := h
    subst e
    rw [List.map_cons, List.any_cons, bj_noheap h]
    rfl
  | [], _ :: _, h => h.elim
  | _ :: _, [], h => h.elim
theorem BytesAre.take : ∀ {vs : List Value} {bs : List (Array UInt8)} (i : Nat), BytesAre vs bs → BytesAre (vs.take i) (bs.take i)
  | _, _, 0, _ => by simp [BytesAre]
  | [], [], _ + 1, _ => trivial
  | _ :: _, _ :: _, i + 1, h => ⟨h.1, BytesAre.take i h.2⟩
  | [], _ :: _, _, h => h.elim
  | _ :: _, [], _, h => h.elim
theorem getD_of {l : List Value} {i : Nat} {v d : Value} (h : l[i]? = some v) : l.toArray.getD i d = v := by
  obtain ⟨hl, e⟩ := List.getElem?_eq_some_iff.mp h
  simp [Array.getD, hl, e]
theorem bj_tail {bs : List (Array UInt8)} {l : List Value} {t : Tok} {Q : Value → Shared → Prop} (hz : (glue bs).size ≤ 16777216) (hz2 : bs.foldl (· + ·.size) 0 ≤ 16777216) (h : ∀ t' k, Q (.bytes (glue bs) t') { s with toks := k }) :
    wpAny (model prog w) A.in1 (do
      let sep ← Builtin.Bytes.payload (.bytes #[] t)
      if Builtin.Bytes.tooLong (bs.toArray.foldl (· + ·.size) (sep.size * (bs.toArray.size - 1))) then unsupported s!"{Builtin.Bytes.Kind.bytes.name}.join:memory"
      let result ← Builtin.Bytes.Kind.bytes.new (Builtin.Bytes.joined sep bs.toArray.toList)
      holding (result :: (l.map fun v => (v, (none : Option Value))).flatMap fun (y, u) => y :: u.toList) point
      Builtin.Bytes.joinLetGo (l.map fun v => (v, (none : Option Value))) [result]
      ret result) (fun fin s' => ∃ v, fin = .done (.ret v) ∧ Q v s') E s := by
  refine wpAny_bind (wpAny_of_eq (a := #[]) rfl ?_)
  dsimp only
  refine wpAny_ite_false ?_ ?_
  · rw [KBy.tooLong_not (by simpa using hz2)]
    decide
  refine wpAny_bind (wpAny_mkBytes ?_ (by rw [joined_nil, sizeLine_eq]; exact hz))
  refine wpAny_bind (wpAny_holding (wpAny_point ?_))
  refine wpAny_bind (bj_letGo l _ ?_)
  refine wpAny_pure ⟨_, rfl, ?_⟩
  rw [joined_nil]
  exact h _ _
theorem join_bytes {D : Addr} {vs : List Value} {bs : List (Array UInt8)} {t : Tok} {Q : Value → Shared → Prop} (hl : s.heap.IsList D vs.toArray) (hv : BytesAre vs bs) (hz : (glue bs).size ≤ 16777216) (hz2 : bs.foldl (· + ·.size) 0 ≤ 16777216)
    (h : ∀ t' k, Q (.bytes (glue bs) t') { s with toks := k }) : wpAny (model prog w) A (call (.builtin "bytes.join") [.bytes #[] t, .ref D]) Q E s := by
  refine wpAny_call_entry bj_slot (typeIs_bytes s #[] t) bj_entry ?_ (bj_args _ _)
  obtain ⟨o, hg, hc, n, hd⟩ := hl
  have hT : s.TypeIs (.ref D) "list" := ⟨o, hg, hc⟩
  show wpAny _ _ (Builtin.Bytes.joinM .bytes ⟨[.bytes #[] t, .ref D], []⟩) _ _ s
  unfold Builtin.Bytes.joinM
  refine wpAny_bind (wpAny_of_eq (a := (Value.bytes #[] t, Value.ref D)) rfl ?_)
  dsimp only
  refine wpAny_bind ?_
  unfold Builtin.Bytes.joinItems
  refine wpAny_bind (wpAny_typeOf hT ?_)
  refine wpAny_ite_true (by decide) ?_
  refine wpAny_pure ?_
  refine wpAny_bind (wpAny_seqItems hg hd ?_)
  dsimp only
  refine wpAny_ite_true (by decide) ?_
  rcases vs with _ | ⟨x, _ | ⟨x2, vs⟩⟩
  case cons.nil =>
    cases bs with
    | nil => exact hv.elim
    | cons b bs =>
    cases bs with
    | cons _ _ => exact hv.2.elim
    | nil =>
    obtain ⟨⟨t1, e⟩, _⟩ := hv
    subst e
    refine wpAny_bind (wpAny_typeOf (typeIs_bytes s b t1) ?_)
    refine wpAny_ite_true (by decide) ?_
    refine wpAny_bind (wpAny_rule (wpAny_pure ⟨_, rfl, ?_⟩))
    show Q (.bytes b t1) s
    have := h t1 s.toks
    simpa [glue] using this
  all_goals (
    have hlen := hv.length
    show wpAny _ _ (forIn _ _ _ >>= _) _ _ _
    refine wpAny_bind ?_
    rw [Std.Legacy.Range.forIn_eq_forIn_range']
    simp only [Std.Legacy.Range.size, Nat.sub_zero, Nat.add_sub_cancel, Nat.div_one, List.size_toArray]
    refine wpAny_forIn_list _
      (fun rest b s' => ∃ i l, s' = s ∧ rest = List.range' i (bs.length - i) ∧ i ≤ bs.length ∧ b.1 = (bs.take i).toArray ∧ BytesAre l (bs.take i) ∧ b.2 = l.map fun v => (v, none)) _ ?_ ?_ _ _ ⟨0, [], rfl, by rw [hlen]; rfl, Nat.zero_le _, by simp, trivial, rfl⟩
    · rintro x rest ⟨b1, b2⟩ s' ⟨i, l, rfl, hr, hi, h1, h3, h2⟩
      dsimp only at h1 h2
      subst h1 h2
      have hlt : i < bs.length := by
        rcases Nat.lt_or_ge i bs.length with h | h
        · exact h
        · rw [Nat.sub_eq_zero_of_le h] at hr; simp at hr
      obtain ⟨rfl, hrest⟩ : x = i ∧ rest = List.range' (i + 1) (bs.length - (i + 1)) := by
        have e : bs.length - i = (bs.length - (i + 1)) + 1 := by omega
        rw [e, List.range'_succ] at hr
        injection hr with h1 h2
        exact ⟨h1, h2⟩
      obtain ⟨b, tb, hb1, hb2⟩ := hv.get (i := x) (by rw [hlen]; exact hlt)
      refine wpAny_bind (wpAny_seqItems hg hd ?_)
      dsimp only
      rw [getD_of hb1, bj_noheap h3]
      refine wpAny_ite_false (by decide) ?_
      refine wpAny_bind (wpAny_holding (bj_takes ?_))
      dsimp only
      refine wpAny_bind (wpAny_seqItems hg hd ?_)
      dsimp only
      refine wpAny_ite_false (by simp) ?_
      refine wpAny_pure ⟨x + 1, l ++ [.bytes b tb], rfl, hrest, hlt, ?_, ?_, ?_⟩
      · rw [List.take_add_one, hb2]; simp
      · rw [List.take_add_one, hb2]; exact h3.snoc ⟨tb, rfl⟩
      · simp
    · rintro ⟨b1, b2⟩ s' ⟨i, l, rfl, hr, hi, h1, h3, h2⟩
      dsimp only at h1 h2
      subst h1 h2
      have hin : i = bs.length := by
        rcases Nat.lt_or_ge i bs.length with h | h
        · have e : bs.length - i = (bs.length - (i + 1)) + 1 := by omega
          rw [e, List.range'_succ] at hr; cases hr
        · exact Nat.le_antisymm hi h
      subst hin
      rw [List.take_length] at h3
      rw [List.take_length]
      exact bj_tail hz hz2 h)
end

theorem or_nat {a b : Int} (ha : 0 ≤ a) (hb : 0 ≤ b) : Builtin.bitOr a b = ((a.toNat ||| b.toNat : Nat) : Int) := by
  rw [bitOr_and, bitAnd_pp ha hb]
  have := nat_or_add_and a.toNat b.toNat
  omega
theorem and_disj (c b k : Nat) (hb : b < 2 ^ k) : (c * 2 ^ k) &&& b = 0 := by
  refine Nat.eq_of_testBit_eq fun i => ?_
  rw [Nat.testBit_and, Nat.testBit_mul_two_pow, Nat.zero_testBit]
  by_cases h : k ≤ i
  · rw [Nat.testBit_lt_two_pow (Nat.lt_of_lt_of_le hb (Nat.pow_le_pow_right (by decide) h)), Bool.and_false]
  · simp [h]
theorem or_disj {a b : Int} (c k : Nat) (ha : a = ((c * 2 ^ k : Nat) : Int)) (hb : 0 ≤ b) (hb2 : b < ((2 ^ k : Nat) : Int)) : Builtin.bitOr a b = a + b := by
  have ha0 : 0 ≤ a := by omega
  rw [bitOr_and, bitAnd_pp ha0 hb, ha, Int.toNat_natCast, and_disj c b.toNat k (by omega)]
  omega
theorem xor_bound {a b : Int} (k : Nat) (ha : 0 ≤ a) (hb : 0 ≤ b) (ha2 : a < ((2 ^ k : Nat) : Int)) (hb2 : b < ((2 ^ k : Nat) : Int)) : 0 ≤ Builtin.bitXor a b ∧ Builtin.bitXor a b < ((2 ^ k : Nat) : Int) := by
  rw [bitXor_and, bitAnd_pp ha hb]
  have h1 := nat_or_add_and a.toNat b.toNat
  have h2 : (a.toNat ||| b.toNat) < 2 ^ k := Nat.or_lt_two_pow (by omega) (by omega)
  have h3 : (a.toNat &&& b.toNat) ≤ a.toNat := Nat.and_le_left
  have h4 : (a.toNat &&& b.toNat) ≤ b.toNat := Nat.and_le_right
  omega
theorem xor32 {a b : Int} (ha : 0 ≤ a) (hb : 0 ≤ b) (ha2 : a < 4294967296) (hb2 : b < 4294967296) : 0 ≤ Builtin.bitXor a b ∧ Builtin.bitXor a b < 4294967296 := xor_bound 32 ha hb ha2 hb2
theorem tag_word {p v : Int} {d : Int} (hp : 0 ≤ p) (hp7 : p ≤ 7) (hd : d = 0 ∨ d = 1) (hv : 0 ≤ v) (hv2 : v < 4096) :
    Builtin.bitOr (Builtin.bitOr (p * 8192) (d * 4096)) v = p * 8192 + d * 4096 + v := by
  have e1 : Builtin.bitOr (p * 8192) (d * 4096) = p * 8192 + d * 4096 := or_disj p.toNat 13 (by omega) (by omega) (by omega)
  rw [e1]
  exact or_disj (2 * p.toNat + d.toNat) 12 (by omega) hv (by omega)

theorem tag_w {p v d : Int} (hp : 0 ≤ p) (hp7 : p ≤ 7) (hd : d = 0 ∨ d = 1) (hv : 0 ≤ v) (hv2 : v ≤ 4094) :
    0 ≤ Builtin.bitOr (Builtin.bitOr (p * 2 ^ (13 : Int).toNat) (d * 2 ^ (12 : Int).toNat)) v ∧ Builtin.bitOr (Builtin.bitOr (p * 2 ^ (13 : Int).toNat) (d * 2 ^ (12 : Int).toNat)) v < 65536 ∧
      Builtin.bitOr (Builtin.bitOr (p * 2 ^ (13 : Int).toNat) (d * 2 ^ (12 : Int).toNat)) v = p * 8192 + d * 4096 + v := by
  have e : Builtin.bitOr (Builtin.bitOr (p * 2 ^ (13 : Int).toNat) (d * 2 ^ (12 : Int).toNat)) v = p * 8192 + d * 4096 + v := tag_word hp hp7 hd hv (by omega)
  rw [e]
  refine ⟨?_, ?_, rfl⟩ <;> omega
theorem words28 : True := by
  k_with "call ref" => (k_here; (with_reducible show wpAny _ _ (call (Value.ref 177) _) _ _ _); k_dflt (refine' CallC.use (put16_c _ _ _ _ ?q77h1 ?q77h2) ?q77k1 ?q77k2 ?q77k3 ?q77k4 ?q77k5 ?q77k6 ?q77k7 ?q77k8 ?_; (case q77k1 => k_asm); (case q77k2 => k_asm); (case q77k3 => k_asm); (case q77k4 => k_asm); (case q77k5 => k_asm); (case q77k6 => first | exact rfl | assumption); (case q77h1 => first | assumption | omega | exact (tag_w (by assumption) (by assumption) (by omega) (by assumption) (by assumption)).1); (case q77h2 => first | assumption | omega | exact (tag_w (by assumption) (by assumption) (by omega) (by assumption) (by assumption)).2.1); (case q77k7 => ktr_room); (case q77k8 => ktr_units); intro r' h' tk' news' F' N' hP'; (obtain ⟨e1', b', t', e2', hb'⟩ := hP'); subst news'; subst e2'; (try dsimp only); (try k_fold)))
  k_with "call ref" => (k_here; (with_reducible show wpAny _ _ (call (Value.ref 184) _) _ _ _); k_dflt (refine' CallC.use (put48_c _ _ _ _ ?q78h1 ?q78h2) ?q78k1 ?q78k2 ?q78k3 ?q78k4 ?q78k5 ?q78k6 ?q78k7 ?q78k8 ?_; (case q78k1 => k_asm); (case q78k2 => k_asm); (case q78k3 => k_asm); (case q78k4 => k_asm); (case q78k5 => k_asm); (case q78k6 => first | exact rfl | assumption); (case q78h1 => first | assumption | omega); (case q78h2 => first | assumption | omega); (case q78k7 => ktr_room); (case q78k8 => ktr_units); intro r' h' tk' news' F' N' hP'; (obtain ⟨e1', b', t', e2', hb'⟩ := hP'); subst news'; subst e2'; (try dsimp only); (try k_fold)))
  trivial
theorem kinds185 {w : World} {h : Heap} (X : (hd.heap_1 w.params).In h) : ∃ t u, h.IsTuple 185 #[.int 33024 t, .int 34984 u] :=
  ⟨_, _, _, X 185 _ rfl, rfl, _, rfl⟩
def kindIs (a : Int) : Value → Bool
  | .int b _ => b == a
  | _ => false
section
variable {w : World} {A : Around} {E : Value → Shared → Prop} {s : Shared} {h₀ : Heap} {L : Addr} {m : Str → Option Value} {a : Int} {t : Tok} {Q : Value → Shared → Prop}
theorem kind_at2 {t1 t2 : Tok} : ∀ y, y ∈ #[Value.int 33024 t1, .int 34984 t2] → SeqAt.EqAt A.in1 s y (.int a t) (kindIs a y) := fun y hy => by
  simp only [List.mem_toArray, List.mem_cons, List.not_mem_nil, or_false] at hy
  rcases hy with e | e <;> subst e <;> exact SeqAt.EqAt.int_int _ _ _ _
theorem tag_kind_notin (X : (hd.heap_1 w.params).In h₀) (F : Fr h₀ L s.heap m) (ha : a = 33024 ∨ a = 34984) (h : Q (.bool false) s) : wpAny (model PySem.Challenge.rw_pb0543_01.row.prog w) A (compareOp .NotIn (.int a t) (.ref 185)) Q E s := by
  obtain ⟨t1, t2, hT⟩ := kinds185 (X.keeps F.keep)
  refine SeqAt.notIn_tupleAt (kindIs a) hT kind_at2 ?_
  have e : (!(#[Value.int 33024 t1, .int 34984 t2].any (kindIs a))) = false := by
    rcases ha with e | e <;> subst e <;> simp [kindIs]
  rw [e]; exact h
theorem tag_kind_in (X : (hd.heap_1 w.params).In h₀) (F : Fr h₀ L s.heap m) (ha : a = 2054) (h : Q (.bool false) s) : wpAny (model PySem.Challenge.rw_pb0543_01.row.prog w) A (compareOp .In (.int a t) (.ref 185)) Q E s := by
  obtain ⟨t1, t2, hT⟩ := kinds185 (X.keeps F.keep)
  refine SeqAt.in_tupleAt (kindIs a) hT kind_at2 ?_
  have e : (#[Value.int 33024 t1, .int 34984 t2].any (kindIs a)) = false := by
    subst ha; simp [kindIs]
  rw [e]; exact h
end
theorem words29 : True := by
  k_with "compareOp NotIn int ref" => (k_here; (with_reducible show wpAny _ _ (compareOp CmpOp.NotIn (Value.int _ _) (Value.ref 185)) _ _ _); k_dflt (refine' tag_kind_notin ?q79k1 ?q79k2 ?q79k3 ?_; (case q79k1 => k_asm); (case q79k2 => k_asm); (case q79k3 => first | exact Or.inl rfl | exact Or.inr rfl)))
  k_with "compareOp In int ref" => (k_here; (with_reducible show wpAny _ _ (compareOp CmpOp.In (Value.int _ _) (Value.ref 185)) _ _ _); k_dflt (refine' tag_kind_in ?q80k1 ?q80k2 ?q80k3 ?_; (case q80k1 => k_asm); (case q80k2 => k_asm); (case q80k3 => exact rfl)))
  trivial
def bit (b : Bool) : Int := if b then 1 else 0
def rowInts (r : Row) : List Int := [r.kind / 256, r.kind % 256, 32 * r.prio + 16 * bit r.drop + r.vlan / 256, r.vlan % 256]
theorem row_ints (k p : Int) (b : Bool) (v : Int) : [k / 256, k % 256] ++ [(p * 8192 + bit b * 4096 + v) / 256, (p * 8192 + bit b * 4096 + v) % 256] = rowInts ⟨k, p, b, v⟩ := by
  have e1 : (p * 8192 + bit b * 4096 + v) / 256 = 32 * p + 16 * bit b + v / 256 := by omega
  have e2 : (p * 8192 + bit b * 4096 + v) % 256 = v % 256 := by omega
  rw [e1, e2]
  rfl
theorem ptag_c (w : World) (v : Value) (row : Row) (news : Led) (ok : row.Ok) (hm : TagAt w.params news v row) :
    CallC w (.ref 254) [v] news 60 600 (fun r news' => Grow news news' ∧ ∃ b t, r = .bytes b t ∧ KBw.bInts b = rowInts row) := by
  obtain ⟨kind, prio, drop, vlan⟩ := row
  obtain ⟨x, dx, u1, u2, u3, u4, t1, t2, t3, e, h1, h2⟩ := hm
  obtain ⟨ok1, ok2, ok3, ok4, ok5⟩ := ok
  dsimp only at ok1 ok2 ok3 ok4 ok5
  dsimp only [tagDict] at h2
  subst e
  unfold CallC
  intro dp un gd cn cs a ccd cl outer A₀ base h₀ L m mean mg mb s Q E B F X N T hk hd hu hret
  rcases ok1 with e1 | e1 <;> subst e1 <;> cases drop
  all_goals (
    refine wpAny_call ?_
    k_dflt ktr_enter
    k_steps)
  all_goals (
    rename KBw.bInts (_ ++ _) = _ => happ
    refine hret _ _ _ _ (by k_asm) (by k_asm) ⟨Grow.refl _, _, _, rfl, happ.trans ?_⟩
    rw [(tag_w ok2 ok3 (by decide) ok4 ok5).2.2]
    first | exact row_ints _ _ true _ | exact row_ints _ _ false _)

theorem size2 {b : Array UInt8} {x y : Int} (h : KBw.bInts b = [x, y]) : b.size = 2 := by
  rw [← KBw.ints_length b, h]; rfl
theorem len_small {prog : Program} {w : World} {A : Around} {E : Value → Shared → Prop} {s : Shared} {b : Array UInt8} {t : Tok} {Q : Value → Shared → Prop} (hb : b.size ≤ 1000)
    (h : ∀ n : Nat, n = b.size → Q (.int (n : Int) (s.toks + 1)) { s with toks := s.toks + 1 + 1 }) : wpAny (model prog w) A (call (.builtin "len") [.bytes b t]) Q E s :=
  len_bytes (by omega) (h _ rfl)
theorem words30 : True := by
  k_with "call builtin:len" => (k_here; (with_reducible show wpAny _ _ (call (Value.builtin "len") [Value.bytes _ _]) _ _ _); k_dflt (refine' len_small ?q81k1 ?_; (case q81k1 => first | assumption | omega)); intro n' hn')
  trivial
theorem pkind_c (w : World) (v : Value) (tg sc : Int) (rows : List Row) (kind : Option Int) (pay : Array UInt8) (news : Led) (hk : kind = none ∨ kind = some 2054) (hp : pay.size ≤ 3) (hf : FrameAt w.params news v ⟨tg, sc, rows, kind, pay⟩) :
    CallC w (.ref 261) [v] news 60 600 (fun r news' => Grow news news' ∧ ∃ b t, r = .bytes b t ∧ b.size = 2) := by
  obtain ⟨x, dx, T0, vs, n, kt, u1, u2, u3, u4, u5, t1, t2, t5, e, h1, h2, h3, h4⟩ := hf
  subst e
  have hp9 : pay.size ≤ 1000 := by omega
  unfold CallC
  intro dp un gd cn cs a ccd cl outer A₀ base h₀ L m mean mg mb s Q E B F X N T hk' hd hu hret
  rcases hk with e | e <;> subst e
  all_goals (
    dsimp only [kindV, frameDict] at h2
    refine wpAny_call ?_
    k_dflt ktr_enter
    k_steps)
  all_goals (refine hret _ _ _ _ (by k_asm) (by k_asm) ⟨Grow.refl _, _, _, rfl, size2 (by assumption)⟩)

def okWord : Value → Bool
  | .int k _ => decide (0 ≤ k) && decide (k < 4294967296)
  | _ => false
theorem half153 {w : World} {h : Heap} (X : (hd.heap_1 w.params).In h) : ∃ l : List Value, IsTup h 153 l.toArray ∧ l.length = 16 ∧ l.all okWord = true :=
  ⟨_, ⟨_, X 153 _ rfl, rfl, _, rfl⟩, rfl, rfl⟩
section
variable {w : World} {A : Around} {E : Value → Shared → Prop} {s : Shared} {h₀ : Heap} {L : Addr} {m : Str → Option Value} {t u : Tok} {Q : Value → Shared → Prop}
theorem half_item {value slice : PySem.Expr} {j : Int} (X : (hd.heap_1 w.params).In h₀) (F : Fr h₀ L s.heap m) (h0 : 0 ≤ j) (h1 : j < 16) (h : ∀ k t, 0 ≤ k → k < 4294967296 → Q (.int k t) s)
    (hs : subscripted slice false (.ref 153) (.int j u) = operate [.ref 153, .int j u] (getItem (.ref 153) (.int j u)) := by with_unfolding_all rfl) :
    wpAny (model PySem.Challenge.rw_pb0543_01.row.prog w) A (subscriptTail value slice (.ref 153) (.int j u)) Q E s := by
  obtain ⟨l, hT, hl, ha⟩ := half153 (X.keeps F.keep)
  have hj : j.toNat < l.length := by omega
  have hx : l[j.toNat]? = some l[j.toNat] := List.getElem?_eq_getElem hj
  refine item_tupleT hT (by omega) (by omega) (seqIndex_of h0 (by omega)) hx ?_ hs
  have hok := List.all_eq_true.mp ha _ (List.getElem_mem hj)
  generalize l[j.toNat] = v at hok
  cases v with
  | int k t => simp only [okWord, Bool.and_eq_true, decide_eq_true_eq] at hok; exact h k t hok.1 hok.2
  | _ => simp [okWord] at hok
end
section
variable {prog : Program} {w : World} {A : Around} {E : Value → Shared → Prop} {s : Shared} {t u : Tok} {Q : Value → Shared → Prop} {a b : Int}
theorem xor_word (h1 : 0 ≤ a) (h2 : a < 4294967296) (h3 : 0 ≤ b) (h4 : b < 4294967296) (h : ∀ k, 0 ≤ k → k < 4294967296 → Q (.int k s.toks) { s with toks := s.toks + 1 }) : wpAny (model prog w) A (binaryOp .BitXor (.int a t) (.int b u)) Q E s :=
  xor_int (h _ (xor32 h1 h3 h2 h4).1 (xor32 h1 h3 h2 h4).2)
theorem and15 (h : ∀ k, 0 ≤ k → k < 16 → Q (.int k s.toks) { s with toks := s.toks + 1 }) : wpAny (model prog w) A (binaryOp .BitAnd (.int a t) (.int 15 u)) Q E s :=
  and_int (h _ (by rw [bitAnd_m4]; omega) (by rw [bitAnd_m4]; omega))
theorem rsh4 (h1 : 0 ≤ a) (h2 : a < 4294967296) (h : ∀ k, 0 ≤ k → k < 4294967296 → Q (.int k s.toks) { s with toks := s.toks + 1 }) : wpAny (model prog w) A (binaryOp .RShift (.int a t) (.int 4 u)) Q E s := by
  have e : a.fdiv (2 ^ (4 : Int).toNat) = a / 16 := Int.fdiv_eq_ediv_of_nonneg a (by decide)
  exact rshift_int (by decide) (by rw [e]; exact h _ (by omega) (by omega))
end
section
variable {prog : Program} {w : World} {A : Around} {E : Value → Shared → Prop} {s : Shared} {env : Env} {h₀ : Heap} {x : PySem.Str} {body : List Stmt} {Q : Flow → Shared → Prop} {b : Array UInt8} {tb : Tok}
  {m₀ : PySem.Str → Option Value} {news : List (Addr × Obj)}
def WordPost (P : Int → Prop) (x y : Str) (m₀ : Str → Option Value) (news : Led) (m' : Str → Option Value) (nx : Led) : Prop := nx = news ∧ (∃ k t, m' y = some (.int k t) ∧ P k) ∧ ∀ z, z ≠ x → z ≠ y → m' z = m₀ z
theorem iter_word {y : PySem.Str} {c₀ : Int} {tc : Tok} (P : Int → Prop) (hh : A.handled = none) (F : Fr h₀ env.locals s.heap m₀) (N : News h₀ env.locals s.heap news) (hy : m₀ y = some (.int c₀ tc)) (hP : P c₀)
    (turn : ∀ k t a ta h tk own, 0 ≤ k → k < 256 → P a → OwnOff own (news.map (·.1)) → Fr h₀ env.locals h (fun z => if z = x then some (.int k t) else if z = y then some (.int a ta) else m₀ z) → News h₀ env.locals h (news ++ own) →
      wpAny (model prog w) A (execs body env) (InvPostN h₀ env.locals (WordPost P x y m₀ news) own (news.map (·.1)) { s with heap := h, toks := tk } Q) E { s with heap := h, toks := tk })
    (done : ∀ (v : PySem.Str → Option Value) a t h tk, P a → Fr h₀ env.locals h (fun z => if z = x then v z else if z = y then some (.int a t) else m₀ z) → News h₀ env.locals h news → Q .next { s with heap := h, toks := tk }) :
    wpAny (model prog w) A (pyIter (.bytes b tb)) (fun it s₂ => LoopAtV prog w A h₀ env x body Q E it s₂) E s := by
  refine KBmo.iter_bytesN (fun _ => WordPost P x y m₀ news) rfl hh F N ⟨rfl, ⟨c₀, tc, hy, hP⟩, fun _ _ _ => rfl⟩ ?_ ?_
  · rintro i k t m₁ nx h tk own _ h0 h1 hoff ⟨rfl, ⟨a, ta, ha, hPa⟩, hm⟩ F₁ N₁
    rw [map_one ha hm] at F₁
    exact turn k t a ta h tk own h0 h1 hPa hoff F₁ N₁
  · rintro m₁ nx h tk ⟨rfl, ⟨a, t, ha, hPa⟩, hm⟩ F₁ N₁
    refine done m₁ a t h tk hPa ?_ N₁
    rw [done_one ha hm]; exact F₁
theorem word_end {L : Addr} {P : Int → Prop} {x y : Str} {m₀ m' : Str → Option Value} {news own all : Led} {s₁ : Shared} {h' : Heap} {tk : Nat} {k : Int} {t : Tok}
    (F : Fr h₀ L h' m') (N : News h₀ L h' all) (hk : m' y = some (.int k t)) (hP : P k) (hm : ∀ z, z ≠ x → z ≠ y → m' z = m₀ z) (hs : ∀ p ∈ news, p ∈ all) (ho : ∀ p ∈ own, p ∈ all) :
    InvEndN h₀ L (WordPost P x y m₀ news) own (news.map (·.1)) s₁ { s₁ with heap := h', toks := tk } :=
  InvEndN.intro F N ⟨rfl, ⟨k, t, hk, hP⟩, hm⟩ rfl hs ho
end
def WordOk (k : Int) : Prop := 0 ≤ k ∧ k < 4294967296
theorem words31 : True := by
  k_with "subscriptTail Name BinOp ref int" => (k_here; (with_reducible show wpAny _ _ (subscriptTail _ _ (Value.ref 153) (Value.int _ _)) _ _ _); k_dflt (refine' half_item ?q82k1 ?q82k2 ?q82k3 ?q82k4 ?_ ?q82k6; (case q82k1 => k_asm); (case q82k2 => k_asm); (case q82k3 => assumption); (case q82k4 => assumption); (case q82k6 => with_unfolding_all rfl); k_whole); intro k' t' hk0' hk1')
  k_with "binaryOp BitXor int int" => (k_here; refine xor_word (by omega) (by omega) (by omega) (by omega) ?_; intro k' hk0' hk1'; (try dsimp only))
  k_with "binaryOp BitAnd int int" => (k_here; (with_reducible refine and15 ?_); intro k' hk0' hk1'; (try dsimp only))
  k_with "binaryOp RShift int int" => (k_here; (with_reducible refine rsh4 ?_ ?_ ?_); (focus omega); (focus omega); intro k' hk0' hk1'; (try dsimp only))
  k_with "exec For Name Name cons nil" => (k_here; (rename Fr _ _ _ _ => lF'); (with_unfolding_all refine' For_invVF lF' ?q86k1 ?q86k2 ?_; (case q86k1 => exact rfl); (case q86k2 => exact rfl); k_whole))
  k_with "pyIter bytes" => ((with_reducible show wpAny _ _ (pyIter (Value.bytes _ _)) (fun it s₂ => LoopAtV _ _ _ _ _ _ _ _ _ it s₂) _ _); (rename Fr _ _ _ _ => lF'); (rename News _ _ _ _ => lN'); (with_unfolding_all refine iter_word (y := Str.ofString "word") WordOk (by rfl) lF' lN' (by rfl) ⟨by decide, by decide⟩ (fun k' t' a' ta' h' tk' own' h0' h1' hP' hoff' F' N' => ?_) (fun u' a' t' h' tk' hP' F' N' => ?_)) <;> (clear lF' lN'; obtain ⟨hP1, hP2⟩ := hP'))
  trivial
theorem crc_c (w : World) (b : Array UInt8) (tb : Tok) (news : Led) :
    CallC w (.ref 160) [.bytes b tb] news 40 400 (fun r news' => news' = news ∧ ∃ k t, r = .int k t ∧ 0 ≤ k ∧ k < 4294967296) := by
  unfold CallC
  intro dp un gd cn cs a ccd cl outer A₀ base h₀ L m mean mg mb s Q E B F X N T hk hd hu hret
  refine wpAny_call ?_
  k_dflt ktr_enter
  k_steps
  all_goals first
    | (refine hret _ _ _ _ (by k_asm) (by k_asm) ⟨rfl, _, _, rfl, by assumption, by assumption⟩)
    | (refine' word_end ?F ?N ?hk ⟨?p1, ?p2⟩ ?hm ?hs ?ho; (case F => k_asm); (case N => k_asm); (case hk => with_unfolding_all rfl); (case p1 => assumption); (case p2 => assumption); (case hm => k_same2); (case hs => intro p hp; k_mem); (case ho => intro p hp; k_mem))
theorem words32 : True := by
  k_with "call ref" => (k_here; (with_reducible show wpAny _ _ (call (Value.ref 160) _) _ _ _); k_dflt (refine' CallC.use (crc_c _ _ _ _) ?q88k1 ?q88k2 ?q88k3 ?q88k4 ?q88k5 ?q88k6 ?q88k7 ?q88k8 ?_; (case q88k1 => k_asm); (case q88k2 => k_asm); (case q88k3 => k_asm); (case q88k4 => k_asm); (case q88k5 => k_asm); (case q88k6 => first | exact rfl | assumption); (case q88k7 => ktr_room); (case q88k8 => ktr_units); intro r' h' tk' news' F' N' hP'; (obtain ⟨e1', k', t', e2', hk0', hk1'⟩ := hP'); subst news'; subst e2'; (try dsimp only); (try k_fold)))
  k_with "eval ListComp" => (k_here; (with_reducible show wpAny _ _ (eval (PySem.Expr.ListComp _ [⟨_, PySem.Expr.Call _ [PySem.Expr.Constant _ _ _] _ _, _, _⟩] _ _) _) _ _ _); k_dflt (refine ListComp_D (F₀ := by k_asm) (by with_unfolding_all rfl) (by decide) (by rfl) (by decide) (by rfl) ?_))
  k_with "binaryOp BitXor int int" => (k_here; (with_reducible refine xor_int ?_))
  k_with "binaryOp RShift int int" => (k_here; (try k_fmods); (with_reducible refine rshift_int ?q91kb1 ?_); (case q91kb1 => l_bnd))
  k_with "binaryOp BitAnd int int" => with_reducible refine and_int ?_
  trivial
theorem fsum_c (w : World) (b : Array UInt8) (tb : Tok) (news : Led) :
    CallC w (.ref 165) [.bytes b tb] news 60 600 (fun r news' => news' = news ∧ ∃ c t, r = .bytes c t ∧ c.size = 4) := by
  unfold CallC
  intro dp un gd cn cs a ccd cl outer A₀ base h₀ L m mean mg mb s Q E B F X N T hk hd hu hret
  refine wpAny_call ?_
  k_dflt (refine' code_defC ?k1 ?k2 ?k3 ?k4 ?k5 ?kA ?kF ?kK ?k6 ?k7 ?k8 ?k9 ?kB ?kD ?_ ?c2 ?c3 ?c4; (case kA => exact rfl); (case kF => exact rfl); (case kK => assumption); (case k1 => k_asm); (case k2 => k_asm); (case k3 => k_asm); (case k4 => k_asm); (case k5 => k_asm); (case k6 => k_is); (case k7 => k_is); (case k8 => ktr_room); (case k9 => exact BindsTo.of_eq rfl); (case kB => exact rfl); (case kD => decide +kernel); (case c2 => exact rfl); (case c3 => exact rfl); (case c4 => exact rfl); k_whole; intro g' L' h' tk' cells' FG' F' N' Y' B' X' T' l1; (try k_lt l1); k_cells Y'; (try simp only [List.cons_append, List.nil_append] at N'); (try dsimp only); (try k_fold))
  k_steps
  refine ⟨_, _, _, _, _, _, _, 4, _, rfl, rfl, by k_asm, by k_asm, by assumption, by decide, rfl, by rw [PySem.sizeLine_eq]; decide, fun g9 => ?_⟩
  k_steps
  all_goals (refine hret _ _ _ news (by k_asm) (drops (by k_asm) (by kqd_sub)) ⟨rfl, _, _, rfl, rfl⟩)

def flat (rows : List Row) : List Int := (rows.map rowInts).flatten
theorem glue_acc (bs : List (Array UInt8)) : ∀ acc : Array UInt8, KBw.bInts (bs.foldl (· ++ ·) acc) = KBw.bInts acc ++ (bs.map KBw.bInts).flatten := by
  induction bs with
  | nil => intro acc; simp
  | cons b bs ih => intro acc; rw [List.foldl_cons, ih, KBw.ints_app rfl rfl]; simp
theorem glue_ints (bs : List (Array UInt8)) : KBw.bInts (glue bs) = (bs.map KBw.bInts).flatten := by
  unfold glue
  rw [glue_acc]
  rfl
theorem sum_acc (bs : List (Array UInt8)) : ∀ n : Nat, bs.foldl (· + ·.size) n = n + (bs.map KBw.bInts).flatten.length := by
  induction bs with
  | nil => intro n; simp
  | cons b bs ih => intro n; rw [List.foldl_cons, ih, List.map_cons, List.flatten_cons, List.length_append, KBw.ints_length]; omega
theorem flat_length : ∀ rows : List Row, (flat rows).length = 4 * rows.length
  | [] => rfl
  | r :: rs => by
    show ((rowInts r) ++ flat rs).length = 4 * (rs.length + 1)
    rw [List.length_append, flat_length rs]
    show 4 + 4 * rs.length = _
    omega
def TagB (ys : List Value) (rows : List Row) : Prop := ∃ bs, BytesAre ys bs ∧ bs.map KBw.bInts = rows.map rowInts
theorem TagB.nil : TagB [] [] := ⟨[], trivial, rfl⟩
theorem TagB.snoc {ys : List Value} {rows : List Row} {b : Array UInt8} {t : Tok} {r : Row} (h : TagB ys rows) (hb : KBw.bInts b = rowInts r) : TagB (ys ++ [.bytes b t]) (rows ++ [r]) := by
  obtain ⟨bs, h1, h2⟩ := h
  exact ⟨bs ++ [b], h1.snoc ⟨t, rfl⟩, by rw [List.map_append, List.map_append, h2]; simp [hb]⟩
section
variable {prog : Program} {w : World} {A : Around} {E : Value → Shared → Prop} {s : Shared} {h₀ : Heap} {L : Addr} {news : Led} {t : Tok} {Q : Value → Shared → Prop}
theorem join_rows {D : Addr} {ys : List Value} {rows : List Row} (N : News h₀ L s.heap news) (hm : (D, LCg.lst ys) ∈ news) (hT : TagB ys rows) (hl : rows.length ≤ 4)
    (h : ∀ b t k, KBw.bInts b = flat rows → b.size = 4 * rows.length → Q (.bytes b t) { s with toks := k }) : wpAny (model prog w) A (call (.builtin "bytes.join") [.bytes #[] t, .ref D]) Q E s := by
  obtain ⟨bs, h1, h2⟩ := hT
  have e : (bs.map KBw.bInts).flatten = flat rows := by rw [h2]; rfl
  have hg := glue_ints bs
  rw [e] at hg
  have hs : (glue bs).size = 4 * rows.length := by rw [← KBw.ints_length, hg, flat_length]
  refine join_bytes (isList_of N hm) h1 (by omega) ?_ fun t' k => h _ _ _ hg hs
  rw [sum_acc, e, flat_length]
  omega
theorem get_join {M : Model} {A : Around} {b : Array UInt8} {pl : Sem Bool} {Q : Value × List Value → Shared → Prop} (h : Q (.builtin "bytes.join", [.bytes b t]) s) : wpAny M A (getMethod (.bytes b t) (Str.ofString "join") pl) Q E s := by
  with_reducible exact KBd.method_of (.bytes b t) (typeIs_bytes _ _ _) bj_slot bj_type KBd.noRef h
theorem len_tup {l : Addr} {vs : List Value} {n : Nat} (N : News h₀ L s.heap news) (hm : (l, tupObj vs n) ∈ news) (hx : vs.length ≤ 1000)
    (h : Q (.int (vs.length : Int) (s.toks + 1)) { s with toks := s.toks + 1 + 1 }) : wpAny (model prog w) A (call (.builtin "len") [.ref l]) Q E s := by
  have := len_tuple (E := E) (prog := prog) (w := w) (A := A) (Q := Q) (News.isTup N hm) (by rw [List.size_toArray]; omega)
  rw [List.size_toArray] at this
  exact this h
end
theorem words33 : True := by
  k_with "call ref" => (k_here; (with_reducible show wpAny _ _ (call (Value.ref 254) _) _ _ _); k_dflt (refine' CallC.use (ptag_c _ _ _ _ ?q93h1 ?q93h2) ?q93k1 ?q93k2 ?q93k3 ?q93k4 ?q93k5 ?q93k6 ?q93k7 ?q93k8 ?_; (case q93k1 => k_asm); (case q93k2 => k_asm); (case q93k3 => k_asm); (case q93k4 => k_asm); (case q93k5 => k_asm); (case q93k6 => first | exact rfl | assumption); (case q93h1 => assumption); (case q93h2 => ktr_rel); (case q93k7 => ktr_room); (case q93k8 => ktr_units); intro r' h' tk' news' F' N' hP'; (obtain ⟨⟨tl', e1', hg'⟩, b', t', e2', hb'⟩ := hP'); subst e1'; subst e2'; (try dsimp only); (try k_fold)))
  k_with "call ref" => (k_here; (with_reducible show wpAny _ _ (call (Value.ref 261) _) _ _ _); k_dflt (refine' CallC.use (pkind_c _ _ _ _ _ _ _ _ ?q94h1 ?q94h2 ?q94h3) ?q94k1 ?q94k2 ?q94k3 ?q94k4 ?q94k5 ?q94k6 ?q94k7 ?q94k8 ?_; (case q94k1 => k_asm); (case q94k2 => k_asm); (case q94k3 => k_asm); (case q94k4 => k_asm); (case q94k5 => k_asm); (case q94k6 => first | exact rfl | assumption); (case q94h3 => ktr_rel); (case q94h1 => assumption); (case q94h2 => assumption); (case q94k7 => ktr_room); (case q94k8 => ktr_units); intro r' h' tk' news' F' N' hP'; (obtain ⟨⟨tl', e1', hg'⟩, b', t', e2', hb'⟩ := hP'); subst e1'; subst e2'; (try dsimp only); (try k_fold)))
  k_with "call ref" => (k_here; (with_reducible show wpAny _ _ (call (Value.ref 165) _) _ _ _); k_dflt (refine' CallC.use (fsum_c _ _ _ _) ?q95k1 ?q95k2 ?q95k3 ?q95k4 ?q95k5 ?q95k6 ?q95k7 ?q95k8 ?_; (case q95k1 => k_asm); (case q95k2 => k_asm); (case q95k3 => k_asm); (case q95k4 => k_asm); (case q95k5 => k_asm); (case q95k6 => first | exact rfl | assumption); (case q95k7 => ktr_room); (case q95k8 => ktr_units); intro r' h' tk' news' F' N' hP'; (obtain ⟨e1', b', t', e2', hb'⟩ := hP'); subst news'; subst e2'; (try dsimp only); (try k_fold)))
  k_with "call builtin:len" => (k_here; (with_reducible show wpAny _ _ (call (Value.builtin "len") [Value.ref _]) _ _ _); k_dflt (refine' len_tup ?q96k1 ?q96k2 ?q96k3 ?_; (case q96k1 => k_asm); (case q96k2 => k_mem); (case q96k3 => omega)))
  k_with "call builtin:len" => (k_here; (with_reducible show wpAny _ _ (call (Value.builtin "len") [Value.bytes _ _]) _ _ _); k_dflt (refine' len_small ?q97k1 ?_; (case q97k1 => ((try simp only [Array.size_append, Array.size_replicate]); omega))); intro n' hn'; (try simp only [Array.size_append, Array.size_replicate] at hn'))
  k_with "getMethod bytes" => (k_here; (with_reducible refine get_join ?_))
  k_with "call builtin:bytes.join" => (k_here; k_dflt (refine' join_rows ?q99k1 ?q99k2 ?q99k3 ?q99k4 ?_; (case q99k1 => k_asm); (case q99k2 => k_mem); (case q99k3 => assumption); (case q99k4 => assumption)); intro b' t' k' hb1 hb2)
  k_with "binaryOp Add bytes bytes" => (k_here; (with_reducible show wpAny _ _ (binaryOp Operator.Add (Value.bytes _ _) (Value.bytes _ _)) _ _ _); (refine KBy.add_bytes ?_ ?_); (focus ((try simp only [Array.size_append, Array.size_replicate]); omega)); intro _ _)
  trivial
theorem pf_ints {a b g c d e f : Array UInt8} {l : List Int} (hg : KBw.bInts g = l) : KBw.bInts (a ++ b ++ g ++ c ++ d ++ e ++ f) = (KBw.bInts a ++ KBw.bInts b) ++ (l ++ (KBw.bInts c ++ (KBw.bInts d ++ (KBw.bInts e ++ KBw.bInts f)))) := by
  have key : ∀ b c : Array UInt8, KBw.bInts (b ++ c) = KBw.bInts b ++ KBw.bInts c := fun b c => KBw.ints_app rfl rfl
  simp only [key, hg, List.append_assoc]
theorem pframe_c (w : World) (v : Value) (tg sc : Int) (rows : List Row) (kind : Option Int) (pay : Array UInt8) (news : Led) (hl : rows.length ≤ 4) (ok : ∀ r ∈ rows, r.Ok) (ht0 : 0 ≤ tg) (ht1 : tg < 281474976710656) (hs0 : 0 ≤ sc) (hs1 : sc < 281474976710656)
    (hkk : kind = none ∨ kind = some 2054) (hp : pay.size ≤ 3) (hf : FrameAt w.params news v ⟨tg, sc, rows, kind, pay⟩) :
    CallC w (.ref 267) [v] news 100 1000 (fun r news' => Grow news news' ∧ ∃ b t pre post, r = .bytes b t ∧ KBw.bInts b = pre ++ (flat rows ++ post) ∧ pre.length = 12 ∧ b.size ≤ 1000) := by
  have hf0 := hf
  obtain ⟨x, dx, T0, vs, n, kt, u1, u2, u3, u4, u5, t1, t2, t5, e, h1, h2, h3, h4⟩ := hf
  subst e
  have hlen := h4.length
  dsimp only at hlen h4
  unfold CallC
  intro dp un gd cn cs a ccd cl outer A₀ base h₀ L m mean mg mb s Q E B F X N T hk hd hu hret
  refine wpAny_call ?_
  k_dflt (refine' code_def ?k1 ?k2 ?k3 ?k4 ?k5 ?kA ?kF ?kK ?k6 ?k7 ?k8 ?k9 ?kB ?_ ?c2 ?c3 ?c4 ?c5; (case kA => exact rfl); (case kF => exact rfl); (case kK => assumption); (case k1 => k_asm); (case k2 => k_asm); (case k3 => k_asm); (case k4 => k_asm); (case k5 => k_asm); (case k6 => k_is); (case k7 => k_is); (case k8 => ktr_room); (case k9 => exact binds_K (X.keeps F.keep) rfl (by k_is) rfl rfl rfl); (case c5 => decide); (case kB => exact locs rfl); (case c2 => exact rfl); (case c3 => exact rfl); (case c4 => exact rfl); k_whole; intro g' L' h' FG' F' N' B' X' T'; (try dsimp only); (try k_fold))
  k_steps
  refine ⟨T0, vs, n, _, rfl, rfl, by k_asm, by k_asm, by k_mem, by rw [PySem.sizeLine_eq, hlen]; omega, fun g9 => ?_⟩
  refine compRest_ind (fun i ys nw => Grow news nw ∧ TagB ys (rows.take i)) (fun i ys nw hI => hI.1.sub _ h3) ?turn ?fin vs.length 0 [] _ (Nat.zero_add _) ⟨Grow.refl _, TagB.nil⟩
  case turn =>
    intro i ys nw v I oI C oC D m₂ h tk E' hi hI hv hC hx F9 N9 off ne
    obtain ⟨row, hrow, ht⟩ := TagsAt.get (h4.mono hI.1.sub) hv
    have hok := ok row (List.mem_of_getElem? hrow)
    have ht0 : TagAt w.params ((I, oI) :: (C, oC) :: (D, LCg.lst ys) :: nw) v row := ht.mono (fun p hp => List.mem_cons_of_mem _ (List.mem_cons_of_mem _ (List.mem_cons_of_mem _ hp)))
    obtain ⟨x1, dx1, q1, q2, q3, q4, q5, q6, q7, e1, g1, g2⟩ := ht
    subst e1
    show wpAny _ _ _ (TurnEnd _ _ _ _ I C D oI oC (LCg.lst ys) (fun y nw' => Grow news nw' ∧ TagB (ys ++ [y]) (rows.take (i + 1)))) _ _
    k_steps
    rename ∀ p ∈ (I, oI) :: _, ∀ q ∈ _, @LT.lt Nat _ _ _ => hg9
    obtain ⟨news9, s1, s2, off2, G2⟩ := turn_grow ⟨_, rfl, hg9⟩ off
    refine ⟨_, _, news9, rfl, by assumption, drops (by assumption) s1, off2, hI.1.trans G2, ?_⟩
    rw [List.take_add_one, hrow]
    exact TagB.snoc hI.2 (by assumption)
  case fin =>
    intro ys nw hI
    intro D h tk F9 N9 o1
    have hT9 : TagB ys rows := by
      have := hI.2
      rwa [hlen, List.take_length] at this
    have hI1 := hI.1.sub
    have h1' := hI1 _ h1
    have h2' := hI1 _ h2
    have hf1 := hf0.mono hI1
    k_steps
    all_goals (
      rename KBw.bInts _ = flat rows => hfl
      refine hret _ _ _ nw (by k_asm) (drops (by k_asm) (by kqd_sub)) ⟨hI.1, _, _, _, _, rfl, pf_ints hfl, ?_, ?_⟩
      · rw [List.length_append, KBw.ints_length, KBw.ints_length]; omega
      · simp only [Array.size_append, Array.size_replicate]
        omega)

theorem map_set {m : Str → Option Value} {y : Str} {v : Value} (h : m y = some v) : m = fun z => if z = y then some v else m z := by
  funext z
  by_cases e : z = y
  · subst e; simp [h]
  · simp [e]
theorem oct_size (ns : List Int) : (oct ns).size = ns.length := by simp [oct]
section
variable {prog : Program} {w : World} {A : Around} {E : Value → Shared → Prop} {s : Shared} {env : Env} {h₀ : Heap} {target : PySem.Expr} {body : List Stmt} {Q : Flow → Shared → Prop}
def LaidRest (news : Led) (J : List Row → (Str → Option Value) → Prop) (d : List Row) (m' : Str → Option Value) (n' : Led) : Prop := n' = news ∧ J d m'
theorem items_ind {I : Addr} {keep news : Led} {rows : List Row} (J : List Row → (Str → Option Value) → Prop) (hk : SubL keep news)
    (turn : ∀ v row d rest m h tk (o : Obj), RowAt news v row → d ++ row :: rest = rows → J d m → Fr h₀ env.locals h m → o.cls = .type "list_iterator" → News h₀ env.locals h ((I, o) :: news) →
      wpAny (model prog w) A (assign target env v) (fun _ s₂ => wpAny (model prog w) A (execs body env) (UnrPostW h₀ env.locals { s with heap := h, toks := tk } [(I, o)] (LaidRest news J (d ++ [row])) Q) E s₂) E { s with heap := h, toks := tk })
    (fin : ∀ m h tk, J rows m → Fr h₀ env.locals h m → News h₀ env.locals h news → Q .next { s with heap := h, toks := tk }) :
    ∀ (us : List Value) (rs d : List Row) (m : Str → Option Value), RowsAt news us rs → d ++ rs = rows → J d m → ItemsRest prog w A E h₀ env target body Q s [(I, "list_iterator")] keep (us.map .val) m news := by
  intro us
  induction us with
  | nil =>
    intro rs d m hr e hJ
    cases rs with
    | cons _ _ => exact hr.elim
    | nil =>
    rw [List.append_nil] at e
    subst e
    exact ItemsRest.zero fun h tk F N => fin m h tk hJ F N
  | cons u us ih =>
    intro rs d m hr e hJ
    cases rs with
    | nil => exact hr.elim
    | cons r rs =>
    refine ItemsRest.val fun h tk F => AllObj.cons fun o ho => AllObj.nil fun N => ?_
    refine wpAny_mono (turn u r d rs m h tk o hr.1 e hJ F ho N) (fun _ s₂ h₂ => wpAny_mono h₂ (fun f s₃ h₃ => ?_) fun _ _ z => z) fun _ _ z => z
    have go : UnrEndW h₀ env.locals { s with heap := h, toks := tk } [(I, o)] (LaidRest news J (d ++ [r])) s₃ →
        UnrEndW h₀ env.locals { s with heap := h, toks := tk } [(I, o)] (fun m' n' => SubL keep n' ∧ ItemsRest prog w A E h₀ env target body Q s [(I, "list_iterator")] keep (us.map .val) m' n') s₃ := by
      rintro ⟨h', tk', m', n', e1, F', N', hoff, e2, hJ'⟩
      subst e2
      exact ⟨h', tk', m', _, e1, F', N', hoff, hk, ih rs (d ++ [r]) m' hr.2 (by rw [List.append_assoc]; exact e) hJ'⟩
    cases f with
    | ret v => exact h₃
    | brk => exact h₃
    | next => exact go h₃
    | cont => exact go h₃
theorem items_end {L : Addr} {s₁ : Shared} {I : Addr} {o : Obj} {news all : Led} {J : List Row → (Str → Option Value) → Prop} {d : List Row} {h' : Heap} {tk : Nat} {m' : Str → Option Value} (F : Fr h₀ L h' m') (N : News h₀ L h' all) (hI : ∀ p ∈ news, @LT.lt Nat _ p.1 I) (hs : ∀ p ∈ (I, o) :: news, p ∈ all) (hJ : J d m') :
    UnrEndW h₀ L s₁ [(I, o)] (LaidRest news J d) { s₁ with heap := h', toks := tk } :=
  ⟨h', tk, m', news, rfl, F, fun p hp => N p (hs p hp), fun p hp q hq => by rw [List.mem_singleton.mp hq]; exact Nat.ne_of_lt (hI p hp), rfl, hJ⟩
theorem div256 {a : Int} {t u : Tok} {Q : Value → Shared → Prop} (ha : 0 ≤ a) (h : Q (.int (a / 256) s.toks) { s with toks := s.toks + 1 }) : wpAny (model prog w) A (binaryOp .FloorDiv (.int a t) (.int 256 u)) Q E s := by
  refine div_gen (by decide) (by decide) fun k hk _ => ?_
  rw [Int.fdiv_eq_ediv_of_nonneg a (by decide)] at hk
  subst hk; exact h
theorem mod256 {a : Int} {t u : Tok} {Q : Value → Shared → Prop} (h : Q (.int (a % 256) s.toks) { s with toks := s.toks + 1 }) : wpAny (model prog w) A (binaryOp .Mod (.int a t) (.int 256 u)) Q E s := by
  refine mod_gen (by decide) fun k hk _ _ => ?_
  rw [Int.fmod_eq_emod_of_nonneg a (by decide)] at hk
  subst hk; exact h
end
def FoundIs (d : List Row) (m : Str → Option Value) : Prop := ∃ acc t, m (Str.ofString "found") = some (.bytes acc t) ∧ KBw.bInts acc = flat d
theorem FoundIs.step {d : List Row} {m : Str → Option Value} {acc b : Array UInt8} {t : Tok} {row : Row} (h : m (Str.ofString "found") = some (.bytes (acc ++ b) t)) (ha : KBw.bInts acc = flat d) (hb : KBw.bInts b = rowInts row) : FoundIs (d ++ [row]) m := by
  refine ⟨_, _, h, ?_⟩
  rw [KBw.ints_app ha hb]
  simp [flat]
theorem acc_size {acc : Array UInt8} {d rows rest : List Row} {row : Row} (h : KBw.bInts acc = flat d) (e : d ++ row :: rest = rows) (hl : rows.length ≤ 4) : acc.size ≤ 16 := by
  rw [← KBw.ints_length, h, flat_length]
  have := congrArg List.length e
  simp at this
  omega
theorem words34 : True := by
  k_with "binaryOp FloorDiv int int" => (k_here; (with_reducible refine div256 ?_ ?_); (focus omega))
  k_with "binaryOp Mod int int" => (k_here; (with_reducible refine mod256 ?_))
  k_with "exec For Tuple Name cons nil" => (k_here; (rename Fr _ _ _ _ => lF'); (with_unfolding_all refine' For_turns lF' ?_; k_whole))
  k_with "binaryOp Add bytes bytes" => (k_here; (with_reducible show wpAny _ _ (binaryOp Operator.Add (Value.bytes _ _) (Value.bytes _ _)) _ _ _); (refine KBy.add_bytes ?_ ?_); (focus ((try simp only [Array.size_append, Array.size_replicate, oct_size, List.length_cons, List.length_nil]); omega)); intro _ _)
  trivial
theorem row_oct {k p v x : Int} {b : Bool} (h0 : 0 ≤ k) (h1 : k < 65536) (h2 : 0 ≤ p) (h3 : p ≤ 7) (h4 : 0 ≤ v) (h5 : v ≤ 4094) (hx : x = bit b) : KBw.bInts (oct [k / 256, k % 256, 32 * p + 16 * x + v / 256, v % 256]) = rowInts ⟨k, p, b, v⟩ := by
  have hb : bit b = 0 ∨ bit b = 1 := by cases b <;> simp [bit]
  rw [oct_ints (List.forall_mem_cons.mpr ⟨by omega, List.forall_mem_cons.mpr ⟨by omega, List.forall_mem_cons.mpr ⟨by omega, List.forall_mem_cons.mpr ⟨by omega, List.forall_mem_nil _⟩⟩⟩⟩)]
  subst hx
  rfl
theorem laid_c (w : World) (rl : Addr) (vs : List Value) (nr : Nat) (rows : List Row) (news : Led) (hl : rows.length ≤ 4) (ok : ∀ r ∈ rows, r.Ok) (hm : (rl, listOf vs.toArray nr) ∈ news) (hr : RowsAt news vs rows) :
    CallC w (.ref 365) [.ref rl] news 60 600 (fun r news' => news' = news ∧ ∃ b t, r = .bytes b t ∧ KBw.bInts b = flat rows) := by
  unfold CallC
  intro dp un gd cn cs a ccd cl outer A₀ base h₀ L m mean mg mb s Q E B F X N T hk hd hu hret
  refine wpAny_call ?_
  k_dflt ktr_enter
  k_steps
  refine iter_listTurns (lo := listOf vs.toArray nr) (vs := vs) (by rfl) (by k_asm) (by k_asm) hm (by rfl) (by rfl) fun I l1 => ?_
  refine items_ind (news := news) (rows := rows) (keep := [(rl, listOf vs.toArray nr)]) FoundIs ⟨hm, trivial⟩ ?turn ?fin vs rows [] _ hr rfl ⟨_, _, rfl, rfl⟩
  case turn =>
    intro v row d rest m9 h9 tk9 o hrow e hJ F9 ho N9
    obtain ⟨acc, ta, hm9, hb9⟩ := hJ
    rw [map_set hm9] at F9
    have hsz := acc_size hb9 e hl
    have hok : row.Ok := ok row (by rw [← e]; exact List.mem_append_right _ List.mem_cons_self)
    obtain ⟨ra, ra1, ra2, ra3, e1, hra⟩ := hrow
    subst e1
    obtain ⟨kind, prio, drop, vlan⟩ := row
    obtain ⟨ok1, ok2, ok3, ok4, ok5⟩ := hok
    dsimp only at ok1 ok2 ok3 ok4 ok5
    have ok6 : 0 ≤ kind ∧ kind < 65536 := by omega
    dsimp only [rowObj] at hra
    cases drop
    all_goals k_steps
    all_goals (refine' items_end ?F ?N l1 ?hs (FoundIs.step ?f hb9 (row_oct ok6.1 ok6.2 ok2 ok3 ok4 ok5 ?x)); (case F => k_asm); (case N => k_asm); (case hs => kqd_sub); (case f => with_unfolding_all rfl); (case x => rfl))
  case fin =>
    intro m9 h9 tk9 hJ F9 N9
    obtain ⟨acc, ta, hm9, hb9⟩ := hJ
    rw [map_set hm9] at F9
    k_steps
    all_goals (exact hret _ _ _ _ (by k_asm) (by k_asm) ⟨rfl, _, _, rfl, hb9⟩)

/-- an iterator over a range, as an object -/
def IterObj (o : Obj) : Prop := o.cls = .type "range_iterator" ∧ ∃ a b c, o.data = .fields #[rawInt a, rawInt b, rawInt c]
section
variable {prog : Program} {w : World} {A : Around} {E : Value → Shared → Prop} {s : Shared} {env : Env} {h₀ : Heap} {x : Str} {body : List Stmt} {Q : Flow → Shared → Prop}
/-- how a turn ends: the loop's iterator stands apart from the ledger that the next turn gets -/
def RngEnd (h₀ : Heap) (L : Addr) (J : (Str → Option Value) → Led → Prop) (I : Addr) (oI : Obj) (s₁ s₂ : Shared) : Prop :=
  ∃ h' tk m' nx, s₂ = { s₁ with heap := h', toks := tk } ∧ Fr h₀ L h' m' ∧ News h₀ L h' ((I, oI) :: nx) ∧ (∀ p ∈ nx, p.1 ≠ I) ∧ J m' nx
def RngPost (h₀ : Heap) (L : Addr) (J : (Str → Option Value) → Led → Prop) (I : Addr) (oI : Obj) (s₁ : Shared) (Q : Flow → Shared → Prop) (f : Flow) (s₂ : Shared) : Prop :=
  match f with
  | .ret v => Q (.ret v) s₂
  | .brk => Q .next s₂
  | _ => RngEnd h₀ L J I oI s₁ s₂
theorem rng_inv {r : Addr} {a b : Int} {t u v : Tok} {n : Nat} {m₀ : Str → Option Value} {news : Led} (J : Nat → (Str → Option Value) → Led → Prop)
    (hh : A.handled = none) (hr : IsRange s.heap r a b 1 t u v) (hsm : Builtin.Range.small a b 1 = true) (hn : Builtin.Range.rangeSize a b 1 = (n : Int)) (F : Fr h₀ env.locals s.heap m₀) (N : News h₀ env.locals s.heap news) (hj : J 0 m₀ news)
    (turn : ∀ i t m₁ nx h tk I oI, i < n → IterObj oI → (∀ p ∈ nx, p.1 ≠ I) → J i m₁ nx → Fr h₀ env.locals h (fun y => if y = x then some (.int (a + (i : Int)) t) else m₁ y) → News h₀ env.locals h ((I, oI) :: nx) →
      wpAny (model prog w) A (execs body env) (RngPost h₀ env.locals (J (i + 1)) I oI { s with heap := h, toks := tk } Q) E { s with heap := h, toks := tk })
    (done : ∀ m₁ nx h tk, J n m₁ nx → Fr h₀ env.locals h m₁ → News h₀ env.locals h nx → Q .next { s with heap := h, toks := tk }) :
    wpAny (model prog w) A (pyIter (.ref r)) (fun it s₂ => LoopAtV prog w A h₀ env x body Q E it s₂) E s := by
  refine wpAny_pyIter_range hr hsm ?_
  have W := Walks.range (prog := prog) (w := w) hh s.heap.objs.size a 1 n
  refine ⟨_, _, _, n, _, _, m₀, news, J, rfl, W, ?_, ?_, ?_, by show IsRangeIter _ _ _ _ _; rw [hn]; simpa using Heap.get?_push_size _ rfl, F.push _, (fun p hp => ⟨Heap.get?_push_of_some _ (N p hp).1, (N p hp).2⟩), hj, ?_, ?_⟩
  · intro hm
    exact absurd F.ns.lt ((List.mem_singleton.mp hm) ▸ Nat.lt_irrefl _)
  · intro b hb
    rw [List.mem_singleton.mp hb]
    exact next_is_new F
  · intro p hp hI
    exact absurd (Heap.lt_size (N p hp).1) ((List.mem_singleton.mp hI) ▸ Nat.lt_irrefl _)
  · rintro i v m₁ nx s₁ own ⟨h, tk, rfl⟩ hi ⟨t, rfl⟩ hJ hoff ho1 ho2 hall hst F₁ N₁
    obtain ⟨oI, hoI⟩ : ∃ o : Obj, o = { cls := .type "range_iterator", data := .fields #[rawInt (a + ((i + 1 : Nat) : Int) * 1), rawInt ((n : Int) - ((i + 1 : Nat) : Int)), rawInt 1] } := ⟨_, rfl⟩
    have hst' : h.get? s.heap.objs.size = some oI := by rw [hoI]; exact hst
    have hio : IterObj oI := by rw [hoI]; exact ⟨rfl, _, _, _, rfl⟩
    have hI : (s.heap.objs.size, oI) ∈ own := hall _ List.mem_cons_self (next_is_new F) _ hst'
    have hoff' : ∀ p ∈ nx, p.1 ≠ s.heap.objs.size := fun p hp e => hoff p hp (List.mem_singleton.mpr e)
    have N₂ : News h₀ env.locals h ((s.heap.objs.size, oI) :: nx) := fun p hp => by
      rcases List.mem_cons.mp hp with e | hp
      · rw [e]; exact N₁ _ (List.mem_append_left _ hI)
      · exact N₁ _ (List.mem_append_right _ hp)
    have e1 : a + (i : Int) * 1 = a + (i : Int) := by omega
    dsimp only at F₁
    rw [e1] at F₁
    refine wpAny_mono (turn i t m₁ nx h tk s.heap.objs.size oI hi hio hoff' hJ F₁ N₂) (fun f s₂ p => ?_) fun _ _ e => e
    have hown : ∀ p ∈ own, p = (s.heap.objs.size, oI) := fun p hp => by
      have h1 := List.mem_singleton.mp (ho1 p hp)
      have h2 := ho2 p hp
      rw [h1] at h2
      have h3 : some p.2 = some oI := h2.symm.trans hst'
      exact Prod.ext h1 (Option.some.inj h3)
    have fin : RngEnd h₀ env.locals (J (i + 1)) s.heap.objs.size oI { s with heap := h, toks := tk } s₂ → LoopStepU h₀ env.locals [s.heap.objs.size] own (J (i + 1)) { s with heap := h, toks := tk } .next s₂ := by
      rintro ⟨h', tk', m', nx', e, F', N', ho, hm⟩
      refine ⟨rfl, h', tk', m', nx', e, F', fun p hp => ?_, fun p hp hq => ho p hp (List.mem_singleton.mp hq), hm⟩
      rcases List.mem_append.mp hp with hp | hp
      · rw [hown p hp]; exact N' _ List.mem_cons_self
      · exact N' _ (List.mem_cons_of_mem _ hp)
    cases f with
    | ret v => exact .ret p
    | brk => exact .brk p
    | next => exact .next (fin p)
    | cont => exact .cont (fin p)
  · rintro h' tk m' news' F' N' _ hJ
    exact done m' news' h' tk hJ F' N'
end
/-- the ledger without one address -/
def offI (I : Addr) (l : Led) : Led := l.filter (fun p => decide (@Ne Nat p.1 I))
theorem offI_sub {I : Addr} {l : Led} {p : Addr × Obj} (h : p ∈ offI I l) : p ∈ l ∧ p.1 ≠ I := by
  have := List.mem_filter.mp h
  exact ⟨this.1, of_decide_eq_true this.2⟩
theorem offI_mem {I : Addr} {l : Led} {p : Addr × Obj} (h : p ∈ l) (h1 : p.1 ≠ I) : p ∈ offI I l := List.mem_filter.mpr ⟨h, decide_eq_true h1⟩
theorem offI_obj {h₀ h : Heap} {L I : Addr} {l : Led} {oI : Obj} (N : News h₀ L h l) (hI : (I, oI) ∈ l) {p : Addr × Obj} (hp : p ∈ l) (hne : p.2 ≠ oI) : p ∈ offI I l := offI_mem hp (news_ne N hp hI hne)
/-- what is no iterator stays -/
def Keep (l l' : Led) : Prop := ∀ p ∈ l, p.2.cls ≠ .type "range_iterator" → p ∈ l'
theorem keep_of {h₀ h : Heap} {L I : Addr} {l : Led} {oI : Obj} (N : News h₀ L h l) (hI : (I, oI) ∈ l) (hi : IterObj oI) : Keep l (offI I l) := fun _ hp hne => offI_obj N hI hp fun e => hne (by rw [e]; exact hi.1)
theorem TagAt.keep {P : Params} {l l' : Led} {v : Value} {row : Row} (O : Keep l l') (h : TagAt P l v row) : TagAt P l' v row := by
  obtain ⟨x, dx, u1, u2, u3, u4, t1, t2, t3, e, h1, h2⟩ := h
  exact ⟨x, dx, u1, u2, u3, u4, t1, t2, t3, e, O _ h1 nofun, O _ h2 (ty_ne (by decide))⟩
theorem TagsAt.keep {P : Params} {l l' : Led} (O : Keep l l') : ∀ {vs : List Value} {rows : List Row}, TagsAt P l vs rows → TagsAt P l' vs rows
  | [], [], _ => trivial
  | _ :: _, _ :: _, h => ⟨h.1.keep O, TagsAt.keep O h.2⟩
  | [], _ :: _, h => h.elim
  | _ :: _, [], h => h.elim
theorem FrameAt.keep {P : Params} {l l' : Led} {v : Value} {f : Frm} (O : Keep l l') (h : FrameAt P l v f) : FrameAt P l' v f := by
  obtain ⟨x, dx, T, vs, n, kt, u1, u2, u3, u4, u5, t1, t2, t5, e, h1, h2, h3, h4⟩ := h
  exact ⟨x, dx, T, vs, n, kt, u1, u2, u3, u4, u5, t1, t2, t5, e, O _ h1 nofun, O _ h2 (ty_ne (by decide)), O _ h3 (ty_ne (by decide)), h4.keep O⟩
theorem RowsAt.keep {l l' : Led} (O : Keep l l') : ∀ {vs : List Value} {rows : List Row}, RowsAt l vs rows → RowsAt l' vs rows
  | [], [], _ => trivial
  | _ :: _, _ :: _, h => ⟨let ⟨a, t1, t2, t3, e, h1⟩ := h.1; ⟨a, t1, t2, t3, e, O _ h1 (ty_ne (by decide))⟩, RowsAt.keep O h.2⟩
  | [], _ :: _, h => h.elim
  | _ :: _, [], h => h.elim
theorem TabInv.keepI {h₀ h : Heap} {L I : Addr} {l : Led} {oI : Obj} {ps : Array Value} (N : News h₀ L h l) (hI : (I, oI) ∈ l) (hi : IterObj oI) (T : TabInv l ps) : TabInv (offI I l) ps := by
  refine ⟨T.1, fun pos cv e => ?_⟩
  obtain ⟨c, oc, vs, t, e1, hm, d1, d2⟩ := T.2 pos cv e
  refine ⟨c, oc, vs, t, e1, offI_obj N hI hm fun z => ?_, d1, d2⟩
  obtain ⟨_, a, b, k, hd⟩ := hi
  dsimp only at z
  rw [z, hd] at d1
  injection d1 with d1
  subst d1
  simp [rawInt] at d2
section
variable {prog : Program} {w : World} {A : Around} {E : Value → Shared → Prop} {s : Shared} {h₀ : Heap} {L : Addr} {m : Str → Option Value} {env : Env} {elt iter : PySem.Expr} {x : Str} {px : Pos} {scope : Scope} {cl : List (Str × Addr)} {pos : Pos}
/-- the source of a comprehension is a list of the ledger -/
def SrcL (prog : Program) (w : World) (A : Around) (h₀ : Heap) (L : Addr) (m : Str → Option Value) (env : Env) (elt : PySem.Expr) (x : Str) (scope : Scope) (cl : List (Str × Addr)) (Q : Value → Shared → Prop) (xv : Value) (s₁ : Shared) : Prop :=
  ∃ ax vs nn news, xv = .ref ax ∧ A.handled = none ∧ Fr h₀ L s₁.heap m ∧ News h₀ L s₁.heap news ∧ (ax, listOf (List.toArray vs) nn) ∈ news ∧ vs.length ≤ sizeLine ∧
      ∀ g, LCg.CompRest prog w A h₀ L m env elt x scope cl { s₁ with heap := g } (fun nw => (ax, listOf (List.toArray vs) nn) ∈ nw) (fun i v => vs[i]? = some v) (LCg.FinE h₀ L m { s₁ with heap := g } Q) vs.length 0 [] news
theorem ListComp_L {Q : Value → Shared → Prop} (F₀ : Fr h₀ L s.heap m)
    (hclos : closureFor scope env = pure cl) (hcell : ∀ y ∈ scope.names, y.2 ≠ .cell) (hkind : scope.kind = .function)
    (hnames : ∀ y ∈ scope.names, y.2 = .local → scope.names.lookup y.1 = some .local) (hx : scope.names.lookup x = some .local)
    (h : wpAny (model prog w) A (eval iter env) (SrcL prog w A h₀ L m env elt x scope cl Q) E s)
    (hs : ∀ x, foldedSetIterable iter env x = pure x := by intro _; rfl) :
    wpAny (model prog w) A (eval (.ListComp elt [⟨.Name x px, iter, [], 0⟩] scope pos) env) Q E s := by
  rw [eval_ListComp]
  refine wpAny_comprehension_free (use := none) rfl hs hclos hkind hnames (wpAny_mono h (fun xv s₁ h₁ => ?_) fun _ _ e => e)
  obtain ⟨ax, vs, nn, news, rfl, hh, F, N, S, hsz, R⟩ := h₁
  have hl : s₁.heap.IsList ax vs.toArray := isList_of N S
  have hlt : ax < s₁.heap.objs.size := by obtain ⟨_, e, _⟩ := hl; exact Heap.lt_size e
  refine wpAny_pyIter_list hl ?_
  have up : ∀ b o, s₁.heap.get? b = some o → (s₁.heap.push { cls := .type "list_iterator", data := .fields #[.ref ax, .int 0 0] }).get? b = some o := fun b o e => Heap.get?_push_of_some _ e
  have W := Walks.list (prog := prog) (w := w) (A := A) hh s₁.heap.objs.size ax (Nat.ne_of_lt hlt) vs.toArray
  have e9 : (fun (i : Nat) (v : Value) => vs.toArray[i]? = some v) = (fun i v => vs[i]? = some v) := by funext i v; simp
  rw [e9] at W
  have W' : Walks prog w A s₁.heap.objs.size [s₁.heap.objs.size, ax] [s₁.heap.objs.size] vs.length (fun i v => vs[i]? = some v) (fun i h => h.IsListIter s₁.heap.objs.size ax i ∧ h.IsList ax vs.toArray) := W
  refine LCg.block_U W' hsz (fun i h st => by obtain ⟨o, e, _⟩ := st.1; exact ⟨o, e⟩) (S := fun nw => (ax, listOf (List.toArray vs) nn) ∈ nw) (fun i h h' o nw st e e' _ N' S' => ⟨by obtain ⟨o', q, r⟩ := st.1; rw [e] at q; cases q; exact ⟨o, e', r⟩, isList_of (s := { s₁ with heap := h' }) N' S'⟩)
    hcell hkind hx ⟨⟨_, Heap.get?_push_size _ rfl, rfl, rfl⟩, hl.at fun o e => Heap.get?_push_of_some _ e⟩ (fun b hb => ?_) (F.keeps up) (N.grown up) (Nat.ne_of_lt F.ns.lt) (next_is_new F) (fun p hp => Nat.ne_of_lt (Heap.lt_size (N p hp).1)) S (R _) ?_
  · show b < (s₁.heap.push _).objs.size
    rw [Heap.size_push]
    rcases List.mem_cons.mp hb with rfl | hb
    · exact Nat.lt_succ_self _
    · rw [List.mem_singleton.mp hb]; exact Nat.lt_succ_of_lt hlt
  · intro D C h tk m' ys news' F' N' o1 hn hC₀ hD₀ hCL hDL hCD offC fin
    refine ⟨m', hn, fun h'' hs'' => fin D h'' tk (F'.change hs'' hCL hC₀) (fun p hp => ?_) o1⟩
    refine ⟨hs''.extBut _ _ ?_ (N' p hp).1, (N' p hp).2⟩
    rcases List.mem_cons.mp hp with rfl | hp
    · exact Ne.symm hCD
    · exact offC p hp
end
/-- a deed upon any frame -/
theorem deed_any (w : World) (src : Addr) (x y : Int) (ta tb : Tok) (n : Nat) (ps : Array Value) (v : Value) (rl : Addr) (vs : List Value) (nr : Nat) (tg sc : Int) (rows : List Row) (kind : Option Int) (pay : Array UInt8) (news : Led) (hs : SrcOk x y) (hok : ∀ r ∈ rows, r.Ok) (hoff : ∀ p ∈ news, p.1 ≠ src) (hoff2 : ∀ p ∈ news, p.1 ≠ 374) (hne : @LT.lt Nat _ 374 src) (hT : TabInv news ps) (hl : rows.length ≤ 900) (hf : FrameAt w.params news v ⟨tg, sc, rows, kind, pay⟩) (hrl : (rl, listOf vs.toArray nr) ∈ news) (hr : RowsAt news vs rows) :
    Call0 w (.ref 379) [.ref src, v, .ref rl] ((src, listOf #[.int x ta, .int y tb] n) :: (374, tabObj ps) :: news) 150 1500 (DeedPost w.params src news ⟨tg, sc, rows, kind, pay⟩) := by
  cases rows with
  | nil =>
    cases vs with
    | cons _ _ => exact hr.elim
    | nil => exact deed_nil w src x y ta tb n ps v rl nr tg sc kind pay news hs hoff hoff2 hne hT hf hrl
  | cons row rows =>
    exact (deed_cons w src x y ta tb n ps v rl vs nr tg sc row rows kind pay news hs hok hoff hoff2 hne hT (by simp at hl; omega) hf hrl hr).to0 (by decide) (by decide)
theorem Call0.use {w : World} {f : Value} {vs : List Value} {news : Led} {d u : Nat} {Post : Value → Led → Prop} (C : Call0 w f vs news d u Post)
    {dp un : Nat} {gd : Option (List Code)} {cn : Str} {cs : Scope} {a : Addr} {ccd : Value} {cl : List (Str × Addr)} {A₀ : Around} {base h₀ : Heap} {L : Addr} {m : Str → Option Value} {mean : ExcName → Option Value} {mg mb : Str → Option Value} {s : Shared}
    {Q E : Value → Shared → Prop}
    (B : Below A₀ base [] h₀) (F : Fr h₀ L s.heap m) (X : (hd.heap_1 w.params).In h₀) (N : News h₀ L s.heap news)
    (T : Top topProg lawLoose mean mg mb h₀) (hk : cs.kind = .function) (hd : dp + d < recursionLimit) (hu : un + u < cLine)
    (ret : ∀ r h' tk' news', Fr h₀ L h' m → News h₀ L h' news' → Post r news' → Q r { s with heap := h', toks := tk' }) :
    wpAny (model PySem.Challenge.rw_pb0543_01.row.prog w) (ktrTop dp un gd cn cs L a ccd cl []) (call f vs) Q E s := C _ _ _ _ _ _ _ _ _ _ _ _ _ _ _ _ _ _ _ B F X N T hk hd hu ret

theorem frameMk {P : Params} {news : Led} {x dx T : Addr} {vs : List Value} {n : Nat} {tg sc : Int} {kind : Option Int} {kt : Tok} {rows : List Row} {pay : Array UInt8} {u1 u2 u3 u4 u5 t1 t2 t5 : Tok} (h1 : (x, instObj 243 dx) ∈ news)
    (h2 : (dx, frameDict P tg sc T (kindV kind kt) pay u1 u2 u3 u4 u5 t1 t2 t5) ∈ news) (h3 : (T, tupObj vs n) ∈ news) (h4 : TagsAt P news vs rows) : FrameAt P news (.ref x) ⟨tg, sc, rows, kind, pay⟩ :=
  ⟨x, dx, T, vs, n, kt, u1, u2, u3, u4, u5, t1, t2, t5, rfl, h1, h2, h3, h4⟩
theorem Grow.cons3 {news : Led} {p q r : Addr × Obj} (h : ∀ x ∈ news, @LT.lt Nat _ x.1 r.1) (h1 : @LT.lt Nat _ r.1 q.1) (h2 : @LT.lt Nat _ q.1 p.1) : Grow news (p :: q :: r :: news) := (Grow.cons1 h).trans (Grow.trans (Grow.cons1 (fun x hx => by
    rcases List.mem_cons.mp hx with e | hx
    · rw [e]; exact h1
    · exact Nat.lt_trans (h x hx) h1)) (Grow.cons1 (fun x hx => by
    rcases List.mem_cons.mp hx with e | hx
    · rw [e]; exact h2
    · rcases List.mem_cons.mp hx with e | hx
      · rw [e]; exact Nat.lt_trans h1 h2
      · exact Nat.lt_trans (Nat.lt_trans (h x hx) h1) h2)))
theorem tagnew_c (w : World) (k p i : Int) (d : Bool) (t1 t2 t3 : Tok) (news : Led) :
    CallC w (.ref 209) [.int k t1, .int p t2, .bool d, .int i t3] news 12 120 (fun r news' => Grow news news' ∧ TagAt w.params news' r ⟨k, p, d, i⟩) := by
  unfold CallC
  intro dp un gd cn cs a ccd cl outer A₀ base h₀ L m mean mg mb s Q E B F X N T hk hd hu hret
  obtain ⟨hh, gg, dd, tt, os⟩ := s
  dsimp only at F N hret
  k_dflt (refine' call_cls ?k1 ?k2 ?k3 ?k4 ?k5 ?k6 ?_; (case k1 => k_asm); (case k2 => k_asm); (case k3 => k_asm); (case k4 => k_is); (case k5 => k_is); (case k6 => k_is); k_whole; intro x' d' h' F' N' l1 l2; (try k_lt l1); (try k_lt2 l2); (try k_sweep)); k_dflt ktr_enter
  k_steps
  all_goals (refine hret _ _ _ _ (by k_asm) (by k_asm) ⟨Grow.cons2 (by assumption) (by assumption), _, _, _, _, _, _, _, _, _, rfl, by k_mem, by k_mem⟩)
theorem framenew_t (w : World) (tg sc : Int) (T' : Addr) (vs' : List Value) (n' : Nat) (rows : List Row) (kind : Option Int) (kt : Tok) (pay : Array UInt8) (t1 t2 t5 : Tok) (news : Led) (hT : (T', tupObj vs' n') ∈ news) (ht : TagsAt w.params news vs' rows) :
    CallC w (.ref 243) [.int tg t1, .int sc t2, .ref T', kindV kind kt, .bytes pay t5] news 16 160 (fun r news' => Grow news news' ∧ FrameAt w.params news' r ⟨tg, sc, rows, kind, pay⟩) := by
  unfold CallC
  intro dp un gd cn cs a ccd cl outer A₀ base h₀ L m mean mg mb s Q E B F X N T hk hd hu hret
  obtain ⟨hh, gg, dd, tt, os⟩ := s
  dsimp only at F N hret
  cases kind
  all_goals (
    dsimp only [kindV]
    k_dflt (refine' call_cls ?k1 ?k2 ?k3 ?k4 ?k5 ?k6 ?_; (case k1 => k_asm); (case k2 => k_asm); (case k3 => k_asm); (case k4 => k_is); (case k5 => k_is); (case k6 => k_is); k_whole; intro x' d' h' F' N' l1 l2; (try k_lt l1); (try k_lt2 l2); (try k_sweep)); k_dflt ktr_enter
    k_steps)
  all_goals (refine hret _ _ _ _ (by k_asm) (by k_asm) ⟨Grow.cons2 (by assumption) (by assumption), frameMk (kt := kt) (by k_mem) (by k_mem) (by k_mem) (ht.mono (fun _ h => List.mem_cons_of_mem _ (List.mem_cons_of_mem _ h)))⟩)
theorem framenew_l (w : World) (tg sc : Int) (D : Addr) (vs' : List Value) (n' : Nat) (rows : List Row) (kind : Option Int) (kt : Tok) (pay : Array UInt8) (t1 t2 t5 : Tok) (news : Led) (hl : vs'.length ≤ 1000) (hT : (D, listOf (List.toArray vs') n') ∈ news) (ht : TagsAt w.params news vs' rows) :
    CallC w (.ref 243) [.int tg t1, .int sc t2, .ref D, kindV kind kt, .bytes pay t5] news 16 160 (fun r news' => Grow news news' ∧ FrameAt w.params news' r ⟨tg, sc, rows, kind, pay⟩) := by
  unfold CallC
  intro dp un gd cn cs a ccd cl outer A₀ base h₀ L m mean mg mb s Q E B F X N T hk hd hu hret
  obtain ⟨hh, gg, dd, tt, os⟩ := s
  dsimp only at F N hret
  cases kind
  all_goals (
    dsimp only [kindV]
    k_dflt (refine' call_cls ?k1 ?k2 ?k3 ?k4 ?k5 ?k6 ?_; (case k1 => k_asm); (case k2 => k_asm); (case k3 => k_asm); (case k4 => k_is); (case k5 => k_is); (case k6 => k_is); k_whole; intro x' d' h' F' N' l1 l2; (try k_lt l1); (try k_lt2 l2); (try k_sweep)); k_dflt ktr_enter
    k_steps)
  all_goals (
    rename _ ∧ _ ∧ AllLt _ news => lD
    refine hret _ _ _ _ (by k_asm) (by k_asm) ⟨Grow.cons3 (by assumption) (by assumption) lD.1, frameMk (kt := kt) (by k_mem) (by k_mem) List.mem_cons_self (ht.mono (fun _ h => List.mem_cons_of_mem _ (List.mem_cons_of_mem _ (List.mem_cons_of_mem _ h))))⟩)

theorem made_d (w : World) (a₁ : Addr) (row : Row) (t1 t2 t3 : Tok) (news : Led) (hm : (a₁, rowObj row t1 t2 t3) ∈ news) :
    CallC w (.ref 358) [.ref a₁] news 12 120 (fun r news' => ∃ x dx u1 u2 u3 u4 v1 v2 v3, r = .ref x ∧ news' = (x, instObj 209 dx) :: (dx, tagDict w.params row u1 u2 u3 u4 v1 v2 v3) :: news ∧ (∀ p ∈ news, @LT.lt Nat _ p.1 dx) ∧ @LT.lt Nat _ dx x) := by
  unfold CallC
  intro dp un gd cn cs a ccd cl outer A₀ base h₀ L m mean mg mb s Q E B F X N T hk hd hu hret
  refine wpAny_call ?_
  k_dflt ktr_enter
  k_steps
  all_goals (refine hret _ _ _ _ (by k_asm) (by k_asm) ⟨_, _, _, _, _, _, _, _, _, rfl, rfl, by assumption, by assumption⟩)
theorem RowsAt.get {news : Led} : ∀ {vs : List Value} {rows : List Row} {i : Nat} {v : Value}, RowsAt news vs rows → vs[i]? = some v → ∃ row, rows[i]? = some row ∧ RowAt news v row
  | [], [], _, _, _, e => by simp at e
  | a :: vs, r :: rs, 0, v, h, e => ⟨r, rfl, by simp at e; rw [← e]; exact h.1⟩
  | a :: vs, r :: rs, i + 1, v, h, e => RowsAt.get (i := i) h.2 (by simpa using e)
  | [], _ :: _, _, _, h, _ => h.elim
  | _ :: _, [], _, _, h, _ => h.elim
theorem TagsAt.snoc {P : Params} {news : Led} {v : Value} {r : Row} : ∀ {vs : List Value} {rows : List Row}, TagsAt P news vs rows → TagAt P news v r → TagsAt P news (vs ++ [v]) (rows ++ [r])
  | [], [], _, h => ⟨h, trivial⟩
  | _ :: _, _ :: _, h, h' => ⟨h.1, TagsAt.snoc h.2 h'⟩
  | [], _ :: _, h, _ => h.elim
  | _ :: _, [], h, _ => h.elim
theorem tags_comp {prog : Program} {w : World} {A : Around} {h₀ h7 : Heap} {L Dl : Addr} {m : Str → Option Value} {env : Env} {elt : PySem.Expr} {x : Str} {scope : Scope} {cl : List (Str × Addr)} {s : Shared} {Fin : List Value → Led → Prop} {P0 : Params} {ys : List Value} {rs : List Row} {led : Led} {nn : Nat}
    (_N : News h₀ L h7 led) (hm : (Dl, listOf (List.toArray ys) nn) ∈ led) (hr : RowsAt led ys rs)
    (turn : ∀ zs nw v row I oI C oC D m₂ h tk (E' : Value → Shared → Prop), RowAt nw v row → Grow led nw → LCg.NsObj oC m₂ → m₂ x = some v → Fr h₀ L h m → News h₀ L h ((I, oI) :: (C, oC) :: (D, LCg.lst zs) :: nw) → LCg.Off3 I C D nw → ((@Ne Nat I C) ∧ (@Ne Nat I D) ∧ (@Ne Nat C D)) →
      wpAny (model prog w) A (eval elt (compEnvC scope cl C env)) (TurnEnd h₀ L m { s with heap := h, toks := tk } I C D oI oC (LCg.lst zs) (fun y nw' => Grow nw nw' ∧ TagAt P0 nw' y row)) E' { s with heap := h, toks := tk })
    (fin : ∀ zs nw, Grow led nw → TagsAt P0 nw zs rs → Fin zs nw) :
    LCg.CompRest prog w A h₀ L m env elt x scope cl s (fun nw => (Dl, listOf (List.toArray ys) nn) ∈ nw) (fun i v => ys[i]? = some v) Fin ys.length 0 [] led :=
  compRest_ind (fun i zs nw => Grow led nw ∧ TagsAt P0 nw zs (rs.take i)) (fun _ _ _ hI => hI.1.sub _ hm) (fun i zs nw v I oI C oC D m₂ h tk E' hi hI hv hC hx F N off ne => by
    obtain ⟨row, hrow, ht⟩ := RowsAt.get (hr.mono hI.1.sub) hv
    refine wpAny_mono (turn zs nw v row I oI C oC D m₂ h tk E' ht hI.1 hC hx F N off ne) (fun y s' hq => ?_) fun _ _ e => e
    obtain ⟨h', tk', nw', e, F', N', off', hG, hT⟩ := hq
    refine ⟨h', tk', nw', e, F', N', off', hI.1.trans hG, ?_⟩
    rw [List.take_add_one, hrow]
    exact TagsAt.snoc (hI.2.mono hG.sub) hT) (fun zs nw hI => fin zs nw hI.1 (by
    have := hI.2
    rwa [hr.length, List.take_length] at this)) ys.length 0 [] _ (Nat.zero_add _) ⟨Grow.refl _, trivial⟩
theorem made_turn {P0 : Params} {nw : Led} {I C D a dx : Addr} {oI oC oD : Obj} {row : Row} {u1 u2 u3 u4 v1 v2 v3 : Tok} (hl : ∀ p ∈ (I, oI) :: (C, oC) :: (D, oD) :: nw, @LT.lt Nat _ p.1 dx) (hx : @LT.lt Nat _ dx a) (off : LCg.Off3 I C D nw) :
    LCg.Off3 I C D ((a, instObj 209 dx) :: (dx, tagDict P0 row u1 u2 u3 u4 v1 v2 v3) :: nw) ∧ Grow nw ((a, instObj 209 dx) :: (dx, tagDict P0 row u1 u2 u3 u4 v1 v2 v3) :: nw) ∧ TagAt P0 ((a, instObj 209 dx) :: (dx, tagDict P0 row u1 u2 u3 u4 v1 v2 v3) :: nw) (.ref a) row := by
  have h1 := hl _ List.mem_cons_self
  have h2 := hl _ (List.mem_cons_of_mem _ List.mem_cons_self)
  have h3 := hl _ (List.mem_cons_of_mem _ (List.mem_cons_of_mem _ List.mem_cons_self))
  dsimp only at h1 h2 h3
  have h4 : ∀ p ∈ nw, @LT.lt Nat _ p.1 dx := fun p hp => hl p (List.mem_cons_of_mem _ (List.mem_cons_of_mem _ (List.mem_cons_of_mem _ hp)))
  refine ⟨⟨⟨?_, ?_, ?_⟩, ⟨?_, ?_, ?_⟩, off⟩, Grow.cons2 h4 hx, ⟨a, dx, u1, u2, u3, u4, v1, v2, v3, rfl, List.mem_cons_self, List.mem_cons_of_mem _ List.mem_cons_self⟩⟩
  · exact (Nat.ne_of_lt (Nat.lt_trans h1 hx)).symm
  · exact (Nat.ne_of_lt (Nat.lt_trans h2 hx)).symm
  · exact (Nat.ne_of_lt (Nat.lt_trans h3 hx)).symm
  · exact (Nat.ne_of_lt h1).symm
  · exact (Nat.ne_of_lt h2).symm
  · exact (Nat.ne_of_lt h3).symm
theorem bints_inj {b c : Array UInt8} (h : KBw.bInts b = KBw.bInts c) : b.toList = c.toList := by
  have key : ∀ l l' : List UInt8, l.map (fun x => (x.toNat : Int)) = l'.map (fun x => (x.toNat : Int)) → l = l' := by
    intro l
    induction l with
    | nil => intro l' h; cases l' with
      | nil => rfl
      | cons _ _ => simp at h
    | cons x l ih => intro l' h; cases l' with
      | nil => simp at h
      | cons y l' =>
        rw [List.map_cons, List.map_cons] at h
        injection h with h1 h2
        rw [ih l' h2, UInt8.toNat_inj.mp (Int.ofNat_inj.mp h1)]
  exact key _ _ h
section
variable {prog : Program} {w : World} {A : Around} {E : Value → Shared → Prop} {s : Shared} {h₀ : Heap} {L : Addr} {m : Str → Option Value} {news : Led} {Q : Value → Shared → Prop}
theorem ne_same {b c : Array UInt8} {t u : Tok} (h : KBw.bInts b = KBw.bInts c) (hQ : Q (.bool false) s) : wpAny (model prog w) A (compareOp .NotEq (.bytes b t) (.bytes c u)) Q E s := by
  refine ne_bytes ?_
  rw [bints_inj h]
  simpa using hQ
theorem slice_mid {value slice : PySem.Expr} {b : Array UInt8} {t t1 t2 : Tok} {u : Int} {pre mid post : List Int} (F : Fr h₀ L s.heap m) (N : News h₀ L s.heap news) (hk : KBw.bInts b = pre ++ (mid ++ post)) (hp : pre.length = 12) (hz : b.size ≤ 1000) (hu : u = 12 + (mid.length : Int))
    (h : ∀ h' c t' k, Fr h₀ L h' m → News h₀ L h' news → KBw.bInts c = mid → Q (.bytes c t') { s with heap := h', toks := k })
    (hs : subscripted slice false (.bytes b t) (.ref s.heap.objs.size) = operate [.ref s.heap.objs.size, .bytes b t] (getItem (.bytes b t) (.ref s.heap.objs.size)) := by with_unfolding_all rfl)
    (ht : ∀ r, letTemporaryGo value (.bytes b t) r = pure () := by intro _; with_unfolding_all rfl) :
    wpAny (model prog w) A (subscriptTail value slice (.bytes b t) (.ref s.heap.objs.size)) Q E { s with heap := s.heap.push { cls := .type "slice", data := .fields #[.int 12 t1, .int u t2, .none] } } := by
  have hlen : (pre ++ (mid ++ post)).length = b.size := by rw [← KBw.ints_length, hk]
  have hl3 : pre.length + (mid.length + post.length) = b.size := by rw [← hlen]; simp
  refine KBc.slice_K (lo := some 12) (hi := some u) F N hk (by constructor) (by constructor) (by omega) (fun h' t' k F' N' e => h h' _ t' k F' N' ?_) hs ht
  rw [e]
  have e1 : clipAt (pre ++ (mid ++ post)).length (12 : Int) = 12 := by
    have := KBc.clip_lit (pre ++ (mid ++ post)).length 12
    rw [this, hlen]; omega
  have e2 : clipAt (pre ++ (mid ++ post)).length u = 12 + mid.length := by
    have hu' : u = ((12 + mid.length : Nat) : Int) := by rw [hu]; push_cast; rfl
    rw [hu', clipAt_nat, hlen]; omega
  simp only [Option.elim, e1, e2]
  rw [List.drop_append_of_le_length (by omega), List.drop_of_length_le (by omega), List.nil_append]
  have : 12 + mid.length - 12 = mid.length := by omega
  rw [this, List.take_left']
  rfl
end
/-- between two deeds -/
def InJ (P : Params) (cl sl src En I : Addr) (o oI : Obj) (tg sc : Int) (kind : Option Int) (pay : Array UInt8) (t1 t2 kt t5 : Tok) (i : Nat) (m : Str → Option Value) (nx : Led) : Prop :=
  m (Str.ofString "script") = some (.ref sl) ∧ m (Str.ofString "ends") = some (.ref En) ∧ ∃ vf rl vs nr rows x y ta tb n ps rest, m (Str.ofString "frame") = some vf ∧ m (Str.ofString "rows") = some (.ref rl) ∧
    nx = (src, listOf #[.int x ta, .int y tb] n) :: (374, tabObj ps) :: rest ∧ SrcOk x y ∧ (∀ p ∈ rest, p.1 ≠ src) ∧ (∀ p ∈ rest, p.1 ≠ 374) ∧ TabInv rest ps ∧ (cl, o) ∈ rest ∧ (En, tupObj [.int tg t1, .int sc t2, kindV kind kt, .bytes pay t5] 0) ∈ rest ∧ (I, oI) ∈ rest ∧
    FrameAt P rest vf ⟨tg, sc, rows, kind, pay⟩ ∧ (rl, listOf (List.toArray vs) nr) ∈ rest ∧ RowsAt rest vs rows ∧ (∀ r ∈ rows, r.Ok) ∧ rows.length ≤ 3 + i
theorem map_set4 {m : Str → Option Value} {a b c d : Str} {u v x y : Value} (h1 : m a = some u) (h2 : m b = some v) (h3 : m c = some x) (h4 : m d = some y) : m = fun z => if z = a then some u else if z = b then some v else if z = c then some x else if z = d then some y else m z := by
  funext z
  by_cases e1 : z = a
  · subst e1; simp [h1]
  by_cases e2 : z = b
  · subst e2; simp [e1, h2]
  by_cases e3 : z = c
  · subst e3; simp [e1, e2, h3]
  by_cases e4 : z = d
  · subst e4; simp [e1, e2, e3, h4]
  simp [e1, e2, e3, e4]

def OutJ (cl sl : Addr) (m : Str → Option Value) (nx : Led) : Prop :=
  m (Str.ofString "script") = some (.ref sl) ∧ ∃ o v ps codes, nx = (cl, o) :: (374, tabObj ps) :: codes ∧ o.data = .cell v ∧ TabInv codes ps ∧ (∀ p ∈ codes, @Ne Nat p.1 cl) ∧ (∀ p ∈ codes, @Ne Nat p.1 374)
theorem in0 {P : Params} {g h : Heap} {L src cl En I rl : Addr} {l : Led} {x y : Int} {ta tb : Tok} {n nr : Nat} {ps : Array Value} {o oI : Obj} {v0 : Option Value} {ES vs : List Value} {rows : List Row} {vf : Value} {f : Frm} (N : News g L h l) (hs : (src, listOf #[.int x ta, .int y tb] n) ∈ l) (ht : (374, tabObj ps) ∈ l) (hcl : (cl, o) ∈ l) (hcd : o.data = .cell v0)
    (hE : (En, tupObj ES 0) ∈ l) (hI : (I, oI) ∈ l) (hio : IterObj oI) (hrl : (rl, listOf (List.toArray vs) nr) ∈ l) (hne : @Ne Nat rl src) (hf : FrameAt P l vf f) (hr : RowsAt l vs rows) (hT : TabInv l ps) :
    ∃ rest, News g L h ((src, listOf #[.int x ta, .int y tb] n) :: (374, tabObj ps) :: rest) ∧ (∀ p ∈ rest, p.1 ≠ src) ∧ (∀ p ∈ rest, p.1 ≠ 374) ∧ TabInv rest ps ∧ (cl, o) ∈ rest ∧ (En, tupObj ES 0) ∈ rest ∧ (I, oI) ∈ rest ∧ FrameAt P rest vf f ∧ (rl, listOf (List.toArray vs) nr) ∈ rest ∧ RowsAt rest vs rows := by
  have O := offK_of N hs ht
  refine ⟨off src l, drops N fun p hp => ?_, fun p hp => (off_sub hp).2.1, fun p hp => (off_sub hp).2.2, hT.off N hs ht, ?_, O _ hE (ty_ne (by decide)) nofun, ?_, hf.off O, ?_, hr.off O⟩
  · rcases List.mem_cons.mp hp with e | hp
    · rw [e]; exact hs
    · rcases List.mem_cons.mp hp with e | hp
      · rw [e]; exact ht
      · exact (off_sub hp).1
  · exact off_mem hcl (news_ne N hcl hs fun e => by dsimp only at e; rw [e] at hcd; cases hcd) (news_ne N hcl ht fun e => by dsimp only at e; rw [e] at hcd; cases hcd)
  · exact off_mem hI (news_ne N hI hs fun e => ty_ne (by decide) (hio.1.symm.trans (congrArg Obj.cls e))) (news_ne N hI ht fun e => by have := hio.1.symm.trans (congrArg Obj.cls e); cases this)
  · exact off_mem hrl hne (news_ne N hrl ht fun e => by have := congrArg Obj.cls e; cases this)
theorem in_end {P : Params} {g h : Heap} {L src cl sl En I I5 rl : Addr} {rest all : Led} {x y : Int} {ta tb : Tok} {n nr i tk : Nat} {ps : Array Value} {o oI oI5 : Obj} {v0 : Option Value} {tg sc : Int} {kind : Option Int} {pay : Array UInt8} {t1 t2 kt t5 : Tok} {vs : List Value} {rows : List Row} {vf : Value} {m' : Str → Option Value} {s₁ : Shared}
    (F : Fr g L h m') (N : News g L h all) (hsub : ∀ p ∈ (src, listOf #[.int x ta, .int y tb] n) :: (374, tabObj ps) :: rest, p ∈ all) (h5 : (I5, oI5) ∈ rest) (hio5 : IterObj oI5)
    (hm1 : m' (Str.ofString "script") = some (.ref sl)) (hm2 : m' (Str.ofString "ends") = some (.ref En)) (hm3 : m' (Str.ofString "frame") = some vf) (hm4 : m' (Str.ofString "rows") = some (.ref rl)) (hS : SrcOk x y) (hof : ∀ p ∈ rest, p.1 ≠ src ∧ p.1 ≠ 374) (hT : TabInv rest ps)
    (hcl : (cl, o) ∈ rest) (hcd : o.data = .cell v0) (hE : (En, tupObj [.int tg t1, .int sc t2, kindV kind kt, .bytes pay t5] 0) ∈ rest) (hI : (I, oI) ∈ rest) (hne : @Ne Nat I I5) (hf : FrameAt P rest vf ⟨tg, sc, rows, kind, pay⟩) (hrl : (rl, listOf (List.toArray vs) nr) ∈ rest) (hr : RowsAt rest vs rows) (hok : ∀ r ∈ rows, r.Ok) (hl : rows.length ≤ 3 + (i + 1)) :
    RngEnd g L (InJ P cl sl src En I o oI tg sc kind pay t1 t2 kt t5 (i + 1)) I5 oI5 s₁ { s₁ with heap := h, toks := tk } := by
  have Nr : News g L h rest := drops N fun p hp => hsub _ (List.mem_cons_of_mem _ (List.mem_cons_of_mem _ hp))
  have K := keep_of Nr h5 hio5
  refine ⟨h, tk, m', (src, listOf #[.int x ta, .int y tb] n) :: (374, tabObj ps) :: offI I5 rest, rfl, F, drops N fun p hp => ?_, fun p hp => ?_, hm1, hm2, vf, rl, vs, nr, rows, x, y, ta, tb, n, ps, offI I5 rest, hm3, hm4, rfl, hS, fun p hp => (hof p (offI_sub hp).1).1, fun p hp => (hof p (offI_sub hp).1).2, hT.keepI Nr h5 hio5,
    offI_obj Nr h5 hcl (fun e => ?_), K _ hE (ty_ne (by decide)), offI_mem hI hne, hf.keep K, K _ hrl (ty_ne (by decide)), hr.keep K, hok, hl⟩
  · rcases List.mem_cons.mp hp with e | hp
    · rw [e]; exact hsub _ (List.mem_cons_of_mem _ (List.mem_cons_of_mem _ h5))
    · rcases List.mem_cons.mp hp with e | hp
      · rw [e]; exact hsub _ List.mem_cons_self
      · rcases List.mem_cons.mp hp with e | hp
        · rw [e]; exact hsub _ (List.mem_cons_of_mem _ List.mem_cons_self)
        · exact hsub _ (List.mem_cons_of_mem _ (List.mem_cons_of_mem _ (offI_sub hp).1))
  · rcases List.mem_cons.mp hp with e | hp
    · rw [e]; exact (hof _ h5).1.symm
    · rcases List.mem_cons.mp hp with e | hp
      · rw [e]; exact (hof _ h5).2.symm
      · exact (offI_sub hp).2
  · obtain ⟨_, a, b, k, hd⟩ := hio5
    dsimp only at e
    rw [← e, hcd] at hd; cases hd
theorem out_end {g h : Heap} {L cl sl I1 src : Addr} {rest all : Led} {tk : Nat} {ps : Array Value} {o oI1 os : Obj} {v0 : Option Value} {m' : Str → Option Value} {s₁ : Shared}
    (F : Fr g L h m') (N : News g L h all) (hsub : ∀ p ∈ (src, os) :: (374, tabObj ps) :: rest, p ∈ all) (h5 : (I1, oI1) ∈ rest) (hio : IterObj oI1) (hm1 : m' (Str.ofString "script") = some (.ref sl)) (hof2 : ∀ p ∈ rest, p.1 ≠ 374) (hT : TabInv rest ps) (hcl : (cl, o) ∈ rest) (hcd : o.data = .cell v0) :
    RngEnd g L (OutJ cl sl) I1 oI1 s₁ { s₁ with heap := h, toks := tk } := by
  have Nr : News g L h rest := drops N fun p hp => hsub _ (List.mem_cons_of_mem _ (List.mem_cons_of_mem _ hp))
  have hcI : cl ≠ I1 := news_ne Nr hcl h5 fun e => by
    obtain ⟨_, a, b, k, hd⟩ := hio
    dsimp only at e
    rw [← e, hcd] at hd; cases hd
  refine ⟨h, tk, m', (cl, o) :: (374, tabObj ps) :: (offI I1 rest).filter (fun p => decide (@Ne Nat p.1 cl)), rfl, F, drops N fun p hp => ?_, fun p hp => ?_, hm1, o, v0, ps, _, rfl, hcd, ?_, fun p hp => ?_, fun p hp => ?_⟩
  · rcases List.mem_cons.mp hp with e | hp
    · rw [e]; exact hsub _ (List.mem_cons_of_mem _ (List.mem_cons_of_mem _ h5))
    · rcases List.mem_cons.mp hp with e | hp
      · rw [e]; exact hsub _ (List.mem_cons_of_mem _ (List.mem_cons_of_mem _ hcl))
      · rcases List.mem_cons.mp hp with e | hp
        · rw [e]; exact hsub _ (List.mem_cons_of_mem _ List.mem_cons_self)
        · exact hsub _ (List.mem_cons_of_mem _ (List.mem_cons_of_mem _ (offI_sub (List.mem_filter.mp hp).1).1))
  · rcases List.mem_cons.mp hp with e | hp
    · rw [e]; exact hcI
    · rcases List.mem_cons.mp hp with e | hp
      · rw [e]; exact (hof2 _ h5).symm
      · exact (offI_sub (List.mem_filter.mp hp).1).2
  · have T1 := hT.keepI Nr h5 hio
    refine ⟨T1.1, fun pos cv e => ?_⟩
    obtain ⟨c, oc, vs, t, e1, hm, d1, d2⟩ := T1.2 pos cv e
    refine ⟨c, oc, vs, t, e1, List.mem_filter.mpr ⟨hm, decide_eq_true ?_⟩, d1, d2⟩
    exact news_ne Nr (offI_sub hm).1 hcl fun e => by dsimp only at e; rw [e, hcd] at d1; cases d1
  · exact of_decide_eq_true (List.mem_filter.mp hp).2
  · exact hof2 _ (offI_sub (List.mem_filter.mp hp).1).1

theorem tagsNil {P : Params} {news : Led} : TagsAt P news [] [] := trivial
theorem ToldAt.mono {news news' : Led} {v : Value} {f : Frm} (h : ToldAt news v f) (hs : ∀ p ∈ news, p ∈ news') : ToldAt news' v f := by
  obtain ⟨a, TT, t1, t2, t5, kt, vs, n, n2, e, h1, h2, h3⟩ := h
  exact ⟨a, TT, t1, t2, t5, kt, vs, n, n2, e, hs _ h1, hs _ h2, h3.mono hs⟩
theorem told_ne2 {prog : Program} {w : World} {A : Around} {s : Shared} {h₀ : Heap} {L : Addr} {news : Led} {E : Value → Shared → Prop} {Q : Value → Shared → Prop} {f : Frm} {v : Value} {b UU : Addr} {us : List Value} {n2 n4 : Nat} {u1 u2 u5 ku : Tok} (N : News h₀ L s.heap news) (hu : A.units < cLine) (hu2 : A.in1.units < cLine) (hu3 : A.in1.in1.units < cLine)
    (ht : ToldAt news v f) (hb : (b, tupObj [.int f.tg u1, .int f.sc u2, .ref UU, kindV f.kind ku, .bytes f.pay u5] n2) ∈ news)
    (hU : (UU, tupObj us n4) ∈ news) (h' : RowsAt news us f.rows) (hQ : Q (.bool false) s) : wpAny (model prog w) A (compareOp .NotEq v (.ref b)) Q E s := by
  obtain ⟨a, TT, t1, t2, t5, kt, vs, n, n3, e, h1, h2, h3⟩ := ht
  subst e
  exact told_ne N hu hu2 hu3 h1 hb h2 hU h3 h' hQ
theorem len_scr {prog : Program} {w : World} {A : Around} {s : Shared} {h₀ : Heap} {L l : Addr} {m : Str → Option Value} {E : Value → Shared → Prop} {Q : Value → Shared → Prop} {vs : List Value} {ns : List Int} (hl : h₀.IsList l vs.toArray) (hI : IntsAre vs ns) (hlen : ns.length ≤ 63) (F : Fr h₀ L s.heap m)
    (h : ∀ n : Nat, n ≤ 63 → Q (.int (n : Int) (s.toks + 1)) { s with toks := s.toks + 1 + 1 }) : wpAny (model prog w) A (call (.builtin "len") [.ref l]) Q E s := by
  have hl' : s.heap.IsList l vs.toArray := hl.at fun o e => F.keep l o e
  have e := hI.length
  refine len_list hl' (by rw [List.size_toArray]; omega) ?_
  exact h _ (by rw [List.size_toArray]; omega)
section
variable {prog : Program} {w : World} {A : Around} {E : Value → Shared → Prop} {s : Shared} {h₀ : Heap} {L : Addr} {news : Led} {a : Addr} {Q : Value → Shared → Prop} {value slice : PySem.Expr} {v0 v1 v2 v3 : Value} {n : Nat} {u : Tok}
theorem tup4_0 (N : News h₀ L s.heap news) (ha : (a, tupObj [v0, v1, v2, v3] n) ∈ news) (h : Q v0 s)
    (hs : subscripted slice false (.ref a) (.int 0 u) = operate [.ref a, .int 0 u] (getItem (.ref a) (.int 0 u)) := by with_unfolding_all rfl) :
    wpAny (model prog w) A (subscriptTail value slice (.ref a) (.int 0 u)) Q E s := item_tupleT (j := 0) (News.isTup N ha) (by decide) (by decide) (by simp [seqIndex?]) rfl h hs
theorem tup4_1 (N : News h₀ L s.heap news) (ha : (a, tupObj [v0, v1, v2, v3] n) ∈ news) (h : Q v1 s)
    (hs : subscripted slice false (.ref a) (.int 1 u) = operate [.ref a, .int 1 u] (getItem (.ref a) (.int 1 u)) := by with_unfolding_all rfl) :
    wpAny (model prog w) A (subscriptTail value slice (.ref a) (.int 1 u)) Q E s := item_tupleT (j := 1) (News.isTup N ha) (by decide) (by decide) (by simp [seqIndex?]) rfl h hs
theorem tup4_2 (N : News h₀ L s.heap news) (ha : (a, tupObj [v0, v1, v2, v3] n) ∈ news) (h : Q v2 s)
    (hs : subscripted slice false (.ref a) (.int 2 u) = operate [.ref a, .int 2 u] (getItem (.ref a) (.int 2 u)) := by with_unfolding_all rfl) :
    wpAny (model prog w) A (subscriptTail value slice (.ref a) (.int 2 u)) Q E s := item_tupleT (j := 2) (News.isTup N ha) (by decide) (by decide) (by simp [seqIndex?]) rfl h hs
theorem tup4_3 (N : News h₀ L s.heap news) (ha : (a, tupObj [v0, v1, v2, v3] n) ∈ news) (h : Q v3 s)
    (hs : subscripted slice false (.ref a) (.int 3 u) = operate [.ref a, .int 3 u] (getItem (.ref a) (.int 3 u)) := by with_unfolding_all rfl) :
    wpAny (model prog w) A (subscriptTail value slice (.ref a) (.int 3 u)) Q E s := item_tupleT (j := 3) (News.isTup N ha) (by decide) (by decide) (by simp [seqIndex?]) rfl h hs
end
theorem mul4 {prog : Program} {w : World} {A : Around} {s : Shared} {E : Value → Shared → Prop} {Q : Value → Shared → Prop} {a : Int} {t u : Tok} (h0 : 0 ≤ a) (h1 : a < 2147483648) (h : Q (.int (4 * a) s.toks) { s with toks := s.toks + 1 }) : wpAny (model prog w) A (binaryOp .Mult (.int 4 t) (.int a u)) Q E s :=
  mul_int h (PySem.IntMulOk.of_right (PySem.intBits_le_64 (by omega) (by omega)))
/-- a goal that the walk is to leave alone -/
def Held (p : Prop) : Prop := p
theorem Held.out {p : Prop} (h : Held p) : p := h
theorem words35 : True := by
  k_with "k_ownIn" => first | assumption | exact trivial | (refine RowsAt.cons ⟨_, _, _, _, rfl, by k_mem⟩ ?_; k_ownIn) | (refine' RowsAt.mono ?q105s ?q105h; (case q105h => assumption); (case q105s => kqd_sub))
  k_with "call ref" => (k_here; (with_reducible show wpAny _ _ (call (Value.ref 209) _) _ _ _); k_dflt (refine' CallC.use (tagnew_c _ _ _ _ _ _ _ _ _) ?q106k1 ?q106k2 ?q106k3 ?q106k4 ?q106k5 ?q106k6 ?q106k7 ?q106k8 ?_; (case q106k1 => k_asm); (case q106k2 => k_asm); (case q106k3 => k_asm); (case q106k4 => k_asm); (case q106k5 => k_asm); (case q106k6 => first | exact rfl | assumption); (case q106k7 => ktr_room); (case q106k8 => ktr_units); intro r' h' tk' news' F' N' hP'; (obtain ⟨⟨tl', e1', hg'⟩, ht'⟩ := hP'); subst e1'; (try dsimp only); (try k_fold)))
  k_with "call ref" => (k_here; (with_reducible show wpAny _ _ (call (Value.ref 243) _) _ _ _); k_dflt (refine' CallC.use (framenew_t _ 1 2 _ _ _ [⟨33024, 3, false, 7⟩] (some 2048) _ _ _ _ _ _ ?q107h1 ?q107h2) ?q107k1 ?q107k2 ?q107k3 ?q107k4 ?q107k5 ?q107k6 ?q107k7 ?q107k8 ?_; (case q107k1 => k_asm); (case q107k2 => k_asm); (case q107k3 => k_asm); (case q107k4 => k_asm); (case q107k5 => k_asm); (case q107k6 => first | exact rfl | assumption); (case q107h1 => k_mem); (case q107h2 => refine' ⟨TagAt.mono ?q107h ?q107s, trivial⟩; (case q107h => assumption); (case q107s => kqd_sub)); (case q107k7 => ktr_room); (case q107k8 => ktr_units); intro r' h' tk' news' F' N' hP'; (obtain ⟨⟨tl', e1', hg'⟩, hf'⟩ := hP'); subst e1'; (try dsimp only); (try k_fold)))
  k_with "call ref" => (k_here; (with_reducible show wpAny _ _ (call (Value.ref 281) _) _ _ _); k_dflt (refine' CallC.use (pushed_c _ _ _ ⟨1, 2, [⟨33024, 3, false, 7⟩], some 2048, _⟩ ⟨34984, 1, true, 9⟩ _ ?q108h1 ?q108h2 ?q108h3) ?q108k1 ?q108k2 ?q108k3 ?q108k4 ?q108k5 ?q108k6 ?q108k7 ?q108k8 ?_; (case q108k1 => k_asm); (case q108k2 => k_asm); (case q108k3 => k_asm); (case q108k4 => k_asm); (case q108k5 => k_asm); (case q108k6 => first | exact rfl | assumption); (case q108h1 => (refine' FrameAt.mono ?q108h ?q108s; (case q108h => assumption); (case q108s => kqd_sub))); (case q108h2 => (refine' TagAt.mono ?q108h ?q108s; (case q108h => assumption); (case q108s => kqd_sub))); (case q108h3 => exact Nat.le_of_ble_eq_true rfl); (case q108k7 => ktr_room); (case q108k8 => ktr_units); intro r' h' tk' news' F' N' hP'; (obtain ⟨⟨tl', e1', hg'⟩, hf'⟩ := hP'); subst e1'; (have hf9 := hf'); (obtain ⟨x', dx', T', vs', n', kt', u1', u2', u3', u4', u5', t1', t2', t5', e2', g1', g2', g3', g4'⟩ := hf9); subst e2'; (try dsimp only); (try k_fold)))
  k_with "call ref" => (k_here; (with_reducible show wpAny _ _ (call (Value.ref 232) _) _ _ _); k_dflt (refine' CallC.use (ftold_c _ _ _ _ ?q109h1 ?q109h2) ?q109k1 ?q109k2 ?q109k3 ?q109k4 ?q109k5 ?q109k6 ?q109k7 ?q109k8 ?_; (case q109k1 => k_asm); (case q109k2 => k_asm); (case q109k3 => k_asm); (case q109k4 => k_asm); (case q109k5 => k_asm); (case q109k6 => first | exact rfl | assumption); (case q109h2 => first | assumption | (refine' FrameAt.mono ?q109h ?q109s; (case q109h => assumption); (case q109s => kqd_sub))); (case q109h1 => first | exact Nat.le_of_ble_eq_true rfl | (dsimp only; omega)); (case q109k7 => ktr_room); (case q109k8 => ktr_units); intro r' h' tk' news' F' N' hP'; (obtain ⟨⟨tl', e1', hg'⟩, ht'⟩ := hP'); subst e1'; (have ht9 := ht'); (obtain ⟨a', TT', t1', t2', t5', kt', vs', n', n2', e2', g1', g2', g3'⟩ := ht9); subst e2'; (try dsimp only); (try k_fold)))
  k_with "compareOp NotEq ref ref" => (k_here; (with_reducible show wpAny _ _ (compareOp CmpOp.NotEq (Value.ref _) (Value.ref _)) _ _ _); k_dflt (refine' told_ne2 ?q110k1 ?q110k2 ?q110k3 ?q110k4 ?q110ht ?q110hb ?q110hU ?q110h' ?_; (case q110k1 => k_asm); (case q110k2 => ktr_units); (case q110k3 => ktr_units); (case q110k4 => ktr_units); (case q110ht => (refine' ToldAt.mono ?q110h ?q110s; (case q110h => assumption); (case q110s => kqd_sub))); (case q110hb => k_mem); (case q110hU => k_mem); (case q110h' => k_ownIn)))
  k_with "call builtin:len" => (k_here; (with_reducible show wpAny _ _ (call (Value.builtin "len") [Value.ref _]) _ _ _); (rename Heap.IsList (ghostOf _ _) _ _ => hIs); refine' len_scr hIs ?q111k2 ?q111k3 ?q111k4 ?_; (case q111k2 => assumption); (case q111k3 => assumption); (case q111k4 => k_asm); intro n' hn')
  k_with "exec For Name Call cons nil" => (k_here; (rename Fr _ _ _ _ => lF'); (with_unfolding_all refine' For_invVF lF' ?q112k1 ?q112k2 ?_; (case q112k1 => exact rfl); (case q112k2 => exact rfl); k_whole))
  k_with "CompSrc" => (refine Held.out ?_)
  k_with "pyIter ref" => ((with_reducible show wpAny _ _ (pyIter (Value.ref _)) (fun it s₂ => LoopAtV _ _ _ _ _ _ _ _ _ it s₂) _ _); refine Held.out ?_)
  trivial
def FinOk (g : Heap) (L : Addr) (s : Shared) (f : Flow) (s' : Shared) : Prop := f = .ret (.bool true) ∧ ∃ h tk m led ps, s' = { s with heap := h, toks := tk } ∧ Fr g L h m ∧ News g L h ((374, tabObj ps) :: led)
theorem cutQ {M : Model} {A : Around} {t : Sem Flow} {Q : Flow → Shared → Prop} {E : Value → Shared → Prop} {s : Shared} {g : Heap} {L : Addr} {m : Str → Option Value} (_F : Fr g L s.heap m) (h : ∀ (Q' : Flow → Shared → Prop), (∀ f s', FinOk g L s f s' → Q' f s') → wpAny M A t Q' (fun _ _ => False) s) (hQ : ∀ f s', FinOk g L s f s' → Q f s') : wpAny M A t Q E s :=
  wpAny_mono (h Q hQ) (fun _ _ x => x) fun _ _ x => x.elim
theorem cut_rest {M : Model} {A : Around} {env : Env} {st : Stmt} {rest : List Stmt} {Q : Flow → Shared → Prop} {E : Value → Shared → Prop} {s : Shared} (h : ∀ r, r = rest → wpAny M A (execs (st :: r) env) Q E s) : wpAny M A (execs (st :: rest) env) Q E s := h rest rfl
theorem rng_law {prog : Program} {w : World} {A : Around} {E : Value → Shared → Prop} {s : Shared} {env : Env} {h₀ : Heap} {x : Str} {body : List Stmt} {Q : Flow → Shared → Prop} {r : Addr} {b : Int} {t u v : Tok} {m₀ : Str → Option Value} {news : Led} (J : Nat → (Str → Option Value) → Led → Prop)
    (hh : A.handled = none) (hr : IsRange s.heap r 0 b 1 t u v) (hb0 : 0 ≤ b) (hb1 : b ≤ 1000) (F : Fr h₀ env.locals s.heap m₀) (N : News h₀ env.locals s.heap news) (hj : J 0 m₀ news)
    (turn : ∀ (i : Nat) t m₁ nx h tk I oI, (0 : Int) ≤ 0 + (i : Int) → 0 + (i : Int) < b → IterObj oI → (∀ p ∈ nx, @Ne Nat p.1 I) → J i m₁ nx → Fr h₀ env.locals h (fun y => if y = x then some (.int (0 + (i : Int)) t) else m₁ y) → News h₀ env.locals h ((I, oI) :: nx) →
      wpAny (model prog w) A (execs body env) (RngPost h₀ env.locals (J (i + 1)) I oI { s with heap := h, toks := tk } Q) E { s with heap := h, toks := tk })
    (done : ∀ (i : Nat) m₁ nx h tk, J i m₁ nx → Fr h₀ env.locals h m₁ → News h₀ env.locals h nx → Q .next { s with heap := h, toks := tk }) :
    wpAny (model prog w) A (pyIter (.ref r)) (fun it s₂ => LoopAtV prog w A h₀ env x body Q E it s₂) E s := by
  have hn : Builtin.Range.rangeSize 0 b 1 = ((b.toNat : Nat) : Int) := by rw [rangeSize_nat]; congr 1; omega
  refine rng_inv J hh hr (small_one (by decide) (by decide) (by omega) (by omega)) hn F N hj (fun i t m₁ nx h tk I oI hi ho hoff hJ F₁ N₁ => turn i t m₁ nx h tk I oI (by omega) (by omega) ho hoff hJ F₁ N₁) (done b.toNat)
def Mark (_l : Led) : Prop := True
theorem rng_out {prog : Program} {w : World} {A : Around} {E : Value → Shared → Prop} {s : Shared} {env : Env} {h₀ : Heap} {x : Str} {body : List Stmt} {Q : Flow → Shared → Prop} {r cl sl : Addr} {b : Int} {t u v : Tok} {m₀ : Str → Option Value} {news : Led}
    (hj : OutJ cl sl m₀ news) (hh : A.handled = none) (hr : IsRange s.heap r 0 b 1 t u v) (hb0 : 0 ≤ b) (hb1 : b ≤ 1000) (F : Fr h₀ env.locals s.heap m₀) (N : News h₀ env.locals s.heap news)
    (turn : ∀ (i : Nat) t m₁ nx h tk I oI, (0 : Int) ≤ 0 + (i : Int) → 0 + (i : Int) < b → IterObj oI → (∀ p ∈ nx, @Ne Nat p.1 I) → OutJ cl sl m₁ nx → Fr h₀ env.locals h (fun y => if y = x then some (.int (0 + (i : Int)) t) else m₁ y) → News h₀ env.locals h ((I, oI) :: nx) →
      wpAny (model prog w) A (execs body env) (RngPost h₀ env.locals (OutJ cl sl) I oI { s with heap := h, toks := tk } Q) E { s with heap := h, toks := tk })
    (done : ∀ m₁ nx h tk, OutJ cl sl m₁ nx → Fr h₀ env.locals h m₁ → News h₀ env.locals h nx → Q .next { s with heap := h, toks := tk }) :
    wpAny (model prog w) A (pyIter (.ref r)) (fun it s₂ => LoopAtV prog w A h₀ env x body Q E it s₂) E s :=
  rng_law (fun _ => OutJ cl sl) hh hr hb0 hb1 F N hj turn fun _ => done
theorem out0 {g : Heap} {cl sl : Addr} {vs : List Value} {m : Str → Option Value} {o : Obj} {v : Option Value} (_hl : g.IsList sl vs.toArray) (hm : m (Str.ofString "script") = some (.ref sl)) (_M : Mark [(cl, o), (374, tabObj #[])]) (ho : o.data = .cell v) : OutJ cl sl m [(cl, o), (374, tabObj #[])] :=
  ⟨hm, o, v, #[], [], rfl, ho, TabInv.nil _, fun _ h => absurd h List.not_mem_nil, fun _ h => absurd h List.not_mem_nil⟩
theorem mark_of {g h0 : Heap} {L : Addr} {l : Led} (_N0 : News g L h0 l) : Mark l := trivial
theorem led_like {g h : Heap} {L : Addr} {l all : Led} (_M : Mark l) (N : News g L h all) (hs : ∀ p ∈ l, p ∈ all) : News g L h l := drops N hs
theorem words36 : True := by
  k_with "call ref" => (k_here; (with_reducible show wpAny _ _ (call (Value.ref 358) _) _ _ _); k_dflt (refine' CallC.use (made_d _ _ _ _ _ _ _ ?q115h1) ?q115k1 ?q115k2 ?q115k3 ?q115k4 ?q115k5 ?q115k6 ?q115k7 ?q115k8 ?_; (case q115k1 => k_asm); (case q115k2 => k_asm); (case q115k3 => k_asm); (case q115k4 => k_asm); (case q115k5 => k_asm); (case q115k6 => first | exact rfl | assumption); (case q115h1 => k_mem); (case q115k7 => ktr_room); (case q115k8 => ktr_units); intro r' h' tk' news' F' N' hP'; (obtain ⟨x', dx', u1', u2', u3', u4', v1', v2', v3', e1', e2', lx', lx2'⟩ := hP'); subst e1'; subst e2'; (try dsimp only); (try k_fold)))
  k_with "call ref" => (k_here; (with_reducible show wpAny _ _ (call (Value.ref 243) _) _ _ _); k_dflt (refine' CallC.use (framenew_l _ _ _ _ _ _ _ _ _ _ _ _ _ _ ?q116h0 ?q116h1 ?q116h2) ?q116k1 ?q116k2 ?q116k3 ?q116k4 ?q116k5 ?q116k6 ?q116k7 ?q116k8 ?_; (case q116k1 => k_asm); (case q116k2 => k_asm); (case q116k3 => k_asm); (case q116k4 => k_asm); (case q116k5 => k_asm); (case q116k6 => first | exact rfl | assumption); (case q116h1 => k_mem); (case q116h2 => (refine' TagsAt.mono ?q116s ?q116h; (case q116h => assumption); (case q116s => kqd_sub))); (case q116h0 => assumption); (case q116k7 => ktr_room); (case q116k8 => ktr_units); intro r' h' tk' news' F' N' hP'; (obtain ⟨⟨tl', e1', hg'⟩, hf'⟩ := hP'); subst e1'; (try dsimp only); (try k_fold)))
  k_with "call ref" => (k_here; (with_reducible show wpAny _ _ (call (Value.ref 302) _) _ _ _); k_dflt (refine' CallC.use (ovlan_c _ _ _ _ _ _ _ _ ?q117hl ?q117hf) ?q117k1 ?q117k2 ?q117k3 ?q117k4 ?q117k5 ?q117k6 ?q117k7 ?q117k8 ?_; (case q117k1 => k_asm); (case q117k2 => k_asm); (case q117k3 => k_asm); (case q117k4 => k_asm); (case q117k5 => k_asm); (case q117k6 => first | exact rfl | assumption); (case q117hf => first | assumption | (refine' FrameAt.mono ?q117h ?q117s; (case q117h => assumption); (case q117s => kqd_sub))); (case q117hl => (simp only [List.length_cons, List.length_nil] at *; omega)); (case q117k7 => ktr_room); (case q117k8 => ktr_units); intro r' h' tk' news' F' N' hP'; (obtain ⟨⟨tl', e1', hg'⟩, t', e2'⟩ := hP'); subst e1'; subst e2'; (dsimp only [vlan0]); (try dsimp only); (try k_fold)))
  k_with "call ref" => (k_here; (with_reducible show wpAny _ _ (call (Value.ref 309) _) _ _ _); k_dflt (refine' CallC.use (prio_c _ _ _ _ _ _ _ _ ?q118hl ?q118hf) ?q118k1 ?q118k2 ?q118k3 ?q118k4 ?q118k5 ?q118k6 ?q118k7 ?q118k8 ?_; (case q118k1 => k_asm); (case q118k2 => k_asm); (case q118k3 => k_asm); (case q118k4 => k_asm); (case q118k5 => k_asm); (case q118k6 => first | exact rfl | assumption); (case q118hf => first | assumption | (refine' FrameAt.mono ?q118h ?q118s; (case q118h => assumption); (case q118s => kqd_sub))); (case q118hl => (simp only [List.length_cons, List.length_nil] at *; omega)); (case q118k7 => ktr_room); (case q118k8 => ktr_units); intro r' h' tk' news' F' N' hP'; (obtain ⟨⟨tl', e1', hg'⟩, t', e2'⟩ := hP'); subst e1'; subst e2'; (dsimp only [prio0]); (try dsimp only); (try k_fold)))
  k_with "call ref" => (k_here; (with_reducible show wpAny _ _ (call (Value.ref 267) _) _ _ _); k_dflt (refine' CallC.use (pframe_c _ _ _ _ _ _ _ _ ?q119hl ?q119ok ?q119a ?q119b ?q119c ?q119d ?q119e ?q119p ?q119hf) ?q119k1 ?q119k2 ?q119k3 ?q119k4 ?q119k5 ?q119k6 ?q119k7 ?q119k8 ?_; (case q119k1 => k_asm); (case q119k2 => k_asm); (case q119k3 => k_asm); (case q119k4 => k_asm); (case q119k5 => k_asm); (case q119k6 => first | exact rfl | assumption); (case q119hf => first | assumption | (refine' FrameAt.mono ?q119h ?q119s; (case q119h => assumption); (case q119s => kqd_sub))); (case q119hl => (simp only [List.length_cons, List.length_nil] at *; omega)); (case q119ok => assumption); (case q119a => assumption); (case q119b => assumption); (case q119c => assumption); (case q119d => assumption); (case q119e => assumption); (case q119p => assumption); (case q119k7 => ktr_room); (case q119k8 => ktr_units); intro r' h' tk' news' F' N' hP'; (obtain ⟨⟨tl', e1', hg'⟩, b', t', pre', post', e2', hb1', hb2', hb3'⟩ := hP'); subst e1'; subst e2'; (try dsimp only); (try k_fold)))
  k_with "call ref" => (k_here; (with_reducible show wpAny _ _ (call (Value.ref 365) _) _ _ _); k_dflt (refine' CallC.use (laid_c _ _ _ _ _ _ ?q120hl ?q120ok ?q120hm ?q120hr) ?q120k1 ?q120k2 ?q120k3 ?q120k4 ?q120k5 ?q120k6 ?q120k7 ?q120k8 ?_; (case q120k1 => k_asm); (case q120k2 => k_asm); (case q120k3 => k_asm); (case q120k4 => k_asm); (case q120k5 => k_asm); (case q120k6 => first | exact rfl | assumption); (case q120hm => k_mem); (case q120hr => (refine' RowsAt.mono ?q120s ?q120h; (case q120h => assumption); (case q120s => kqd_sub))); (case q120hl => (simp only [List.length_cons, List.length_nil] at *; omega)); (case q120ok => assumption); (case q120k7 => ktr_room); (case q120k8 => ktr_units); intro r' h' tk' news' F' N' hP'; (obtain ⟨e1', b', t', e2', hb1'⟩ := hP'); subst news'; subst e2'; (try dsimp only); (try k_fold)))
  k_with "binaryOp Mult int int" => (k_here; (with_reducible refine mul4 ?_ ?_ ?_); (focus omega); (focus omega))
  k_with "call ref" => (k_here; (with_reducible show wpAny _ _ (call (Value.ref 379) _) _ _ _); refine Held.out ?_)
  k_with "compareOp NotEq bytes bytes" => (k_here; (refine ne_same ?_ ?_); (focus (apply Eq.trans; assumption; apply Eq.symm; assumption)))
  k_with "subscriptTail" => (k_here; (with_reducible show wpAny _ _ (subscriptTail _ (PySem.Expr.Slice _ _ none _) (Value.bytes _ _) (Value.ref _)) _ _ _); (with_reducible rename Fr _ _ _ _ => F'); (with_reducible rename News _ _ _ _ => N'); k_dflt (refine' slice_mid (s := ⟨_, _, _, _, _⟩) F' N' ?q124hk ?q124hp ?q124hz ?q124hu ?_; (case q124hk => assumption); (case q124hp => assumption); (case q124hz => assumption); (case q124hu => (rw [flat_length]; (simp only [List.length_cons, List.length_nil] at *); omega))); intro h' c' t' k' F' N' hc')
  k_with "RngPost" => (dsimp only [RngPost])
  k_with "subscriptTail" => (k_here; (with_reducible show wpAny _ _ (subscriptTail _ _ (Value.ref _) (Value.int 0 _)) _ _ _); k_dflt (refine' tup4_0 ?q126k1 ?q126k2 ?_ ?q126k6; (case q126k1 => k_asm); (case q126k2 => first | assumption | exact List.mem_cons_self | exact List.mem_append_right _ List.mem_cons_self | exact List.mem_cons_of_mem _ (by assumption) | exact List.mem_append_right _ (by assumption) | exact List.mem_append_right _ (List.mem_cons_of_mem _ (by assumption)) | k_mem); (case q126k6 => with_unfolding_all rfl); k_whole))
  k_with "subscriptTail Name Constant ref int" => (k_here; (with_reducible show wpAny _ _ (subscriptTail _ _ (Value.ref _) (Value.int 0 _)) _ _ _); k_dflt (refine' tup4_0 ?q127k1 ?q127k2 ?_ ?q127k6; (case q127k1 => k_asm); (case q127k2 => first | assumption | exact List.mem_cons_self | exact List.mem_append_right _ List.mem_cons_self | exact List.mem_cons_of_mem _ (by assumption) | exact List.mem_append_right _ (by assumption) | exact List.mem_append_right _ (List.mem_cons_of_mem _ (by assumption)) | k_mem); (case q127k6 => with_unfolding_all rfl); k_whole))
  k_with "subscriptTail" => (k_here; (with_reducible show wpAny _ _ (subscriptTail _ _ (Value.ref _) (Value.int 1 _)) _ _ _); k_dflt (refine' tup4_1 ?q128k1 ?q128k2 ?_ ?q128k6; (case q128k1 => k_asm); (case q128k2 => first | assumption | exact List.mem_cons_self | exact List.mem_append_right _ List.mem_cons_self | exact List.mem_cons_of_mem _ (by assumption) | exact List.mem_append_right _ (by assumption) | exact List.mem_append_right _ (List.mem_cons_of_mem _ (by assumption)) | k_mem); (case q128k6 => with_unfolding_all rfl); k_whole))
  k_with "subscriptTail Name Constant ref int" => (k_here; (with_reducible show wpAny _ _ (subscriptTail _ _ (Value.ref _) (Value.int 1 _)) _ _ _); k_dflt (refine' tup4_1 ?q129k1 ?q129k2 ?_ ?q129k6; (case q129k1 => k_asm); (case q129k2 => first | assumption | exact List.mem_cons_self | exact List.mem_append_right _ List.mem_cons_self | exact List.mem_cons_of_mem _ (by assumption) | exact List.mem_append_right _ (by assumption) | exact List.mem_append_right _ (List.mem_cons_of_mem _ (by assumption)) | k_mem); (case q129k6 => with_unfolding_all rfl); k_whole))
  k_with "subscriptTail" => (k_here; (with_reducible show wpAny _ _ (subscriptTail _ _ (Value.ref _) (Value.int 2 _)) _ _ _); k_dflt (refine' tup4_2 ?q130k1 ?q130k2 ?_ ?q130k6; (case q130k1 => k_asm); (case q130k2 => first | assumption | exact List.mem_cons_self | exact List.mem_append_right _ List.mem_cons_self | exact List.mem_cons_of_mem _ (by assumption) | exact List.mem_append_right _ (by assumption) | exact List.mem_append_right _ (List.mem_cons_of_mem _ (by assumption)) | k_mem); (case q130k6 => with_unfolding_all rfl); k_whole))
  k_with "subscriptTail Name Constant ref int" => (k_here; (with_reducible show wpAny _ _ (subscriptTail _ _ (Value.ref _) (Value.int 2 _)) _ _ _); k_dflt (refine' tup4_2 ?q131k1 ?q131k2 ?_ ?q131k6; (case q131k1 => k_asm); (case q131k2 => first | assumption | exact List.mem_cons_self | exact List.mem_append_right _ List.mem_cons_self | exact List.mem_cons_of_mem _ (by assumption) | exact List.mem_append_right _ (by assumption) | exact List.mem_append_right _ (List.mem_cons_of_mem _ (by assumption)) | k_mem); (case q131k6 => with_unfolding_all rfl); k_whole))
  k_with "subscriptTail" => (k_here; (with_reducible show wpAny _ _ (subscriptTail _ _ (Value.ref _) (Value.int 3 _)) _ _ _); k_dflt (refine' tup4_3 ?q132k1 ?q132k2 ?_ ?q132k6; (case q132k1 => k_asm); (case q132k2 => first | assumption | exact List.mem_cons_self | exact List.mem_append_right _ List.mem_cons_self | exact List.mem_cons_of_mem _ (by assumption) | exact List.mem_append_right _ (by assumption) | exact List.mem_append_right _ (List.mem_cons_of_mem _ (by assumption)) | k_mem); (case q132k6 => with_unfolding_all rfl); k_whole))
  k_with "subscriptTail Name Constant ref int" => (k_here; (with_reducible show wpAny _ _ (subscriptTail _ _ (Value.ref _) (Value.int 3 _)) _ _ _); k_dflt (refine' tup4_3 ?q133k1 ?q133k2 ?_ ?q133k6; (case q133k1 => k_asm); (case q133k2 => first | assumption | exact List.mem_cons_self | exact List.mem_append_right _ List.mem_cons_self | exact List.mem_cons_of_mem _ (by assumption) | exact List.mem_append_right _ (by assumption) | exact List.mem_append_right _ (List.mem_cons_of_mem _ (by assumption)) | k_mem); (case q133k6 => with_unfolding_all rfl); k_whole))
  k_with "call ref" => (k_here; (with_reducible show wpAny _ _ (call (Value.ref 330) _) _ _ _); (rename IntsAre _ _ => hIs); (rename Heap.IsList (ghostOf _ _) _ _ => hLs); k_dflt (refine' pool_c _ _ _ _ _ _ _ hIs ?q134hl ?q134h0 ?q134h3 _ _ _ _ _ _ _ _ _ _ _ _ _ _ _ _ _ _ _ _ ?q134k1 ?q134k2 ?q134k4 ?q134k5 hLs ?q134k6 ?q134k7 ?q134k8 ?_ ?q134k3; (case q134hl => assumption); (case q134h0 => omega); (case q134h3 => omega); (case q134k1 => k_asm); (case q134k2 => k_asm); (case q134k3 => k_asm); (case q134k4 => k_asm); (case q134k5 => k_asm); (case q134k6 => exact rfl); (case q134k7 => ktr_room); (case q134k8 => ktr_units); intro r' x' y' ta' tb' n' h' tk' hS' F' N' l1; (try k_lt l1); (try dsimp only); (try k_fold)))
  k_with "eval ListComp" => (k_here; (with_reducible show wpAny _ _ (eval (PySem.Expr.ListComp _ [⟨_, PySem.Expr.Call _ [PySem.Expr.Call _ _ _ _] _ _, _, _⟩] _ _) _) _ _ _); k_dflt (refine ListComp_D (F₀ := by k_asm) (by with_unfolding_all rfl) (by decide) (by rfl) (by decide) (by rfl) ?_))
  k_with "eval ListComp" => (k_here; (with_reducible show wpAny _ _ (eval (PySem.Expr.ListComp _ [⟨_, PySem.Expr.Name _ _, _, _⟩] _ _) _) _ _ _); k_dflt (refine ListComp_L (F₀ := by k_asm) (by with_unfolding_all rfl) (by decide) (by rfl) (by decide) (by rfl) ?_))
  trivial
theorem assign_seq {M : Model} {A : Around} {env : Env} {E : Value → Shared → Prop} {s : Shared} {x : Str} {pos' pos : Pos} {value : PySem.Expr} {rest : List Stmt} {Q : Flow → Shared → Prop} (hs : swapsWith value (some (.Name x pos')) pos.line env = pure false)
    (h : wpAny M A (eval value env) (fun v s₁ => wpAny M A (storeName env x v) (fun _ s₂ => wpAny M A (execs rest env) Q E s₂) E s₁) E s) : wpAny M A (execs (.Assign [.Name x pos'] value pos :: rest) env) Q E s := wpAny_execs_cons (wpAny_Assign_Name h hs)
abbrev paramsOf {P : Params} {h : Heap} (_ : (hd.heap_1 P).In h) : Params := P
theorem sw2' {h₀ h : Heap} {L : Addr} {p q r : Addr × Obj} {l : Led} (N : News h₀ L h (p :: q :: r :: l)) : News h₀ L h (q :: r :: p :: l) := fun x hx => N x (by simp only [List.mem_cons] at hx ⊢; rcases hx with h | h | h | h <;> simp [h])
def RowsInv (src : Addr) (fixed : Led) (i : Nat) (ys : List Value) (nw : Led) : Prop :=
  ∃ x y ta tb n rest rs, nw = (src, listOf #[.int x ta, .int y tb] n) :: rest ∧ SrcOk x y ∧ (∀ p ∈ rest, p.1 ≠ src) ∧ (∀ p ∈ fixed, p ∈ rest) ∧ RowsAt rest ys rs ∧ (∀ r ∈ rs, r.Ok) ∧ rs.length = i
theorem rows_turn {src I C D a : Addr} {os : Obj} {row : Row} {t1 t2 t3 : Tok} {rest : Led} (off : LCg.Off3 I C D ((src, os) :: rest)) (hl : @LT.lt Nat _ I a ∧ @LT.lt Nat _ C a ∧ @LT.lt Nat _ D a ∧ AllLt a rest) (os' : Obj) :
    LCg.Off3 I C D ((src, os') :: (a, rowObj row t1 t2 t3) :: rest) := ⟨off.1, ⟨(Nat.ne_of_lt hl.1).symm, (Nat.ne_of_lt hl.2.1).symm, (Nat.ne_of_lt hl.2.2.1).symm⟩, off.2⟩
theorem kind_of {r : Value} {t : Tok} (h : r ∈ [Value.none, .int 2054 t]) : ∃ kind kt, r = kindV kind kt ∧ (kind = none ∨ kind = some 2054) := by
  simp only [List.mem_cons, List.not_mem_nil, or_false] at h
  rcases h with e | e
  · exact ⟨none, 0, e, .inl rfl⟩
  · exact ⟨some 2054, t, e, .inr rfl⟩
theorem rows_inv {src a : Addr} {fixed rest : Led} {i : Nat} {ys : List Value} {rs : List Row} {row : Row} {t1 t2 t3 : Tok} {x y : Int} {ta tb : Tok} {n : Nat} (hS : SrcOk x y) (ho : ∀ p ∈ rest, p.1 ≠ src) (hf : ∀ p ∈ fixed, p ∈ rest) (hr : RowsAt rest ys rs) (hok : ∀ r ∈ rs, r.Ok) (hl : rs.length = i) (hrow : row.Ok) (hlt : @LT.lt Nat _ src a) :
    RowsInv src fixed (i + 1) (ys ++ [.ref a]) ((src, listOf #[.int x ta, .int y tb] n) :: (a, rowObj row t1 t2 t3) :: rest) :=
  ⟨x, y, ta, tb, n, _, rs ++ [row], rfl, hS, fun p hp => by
    rcases List.mem_cons.mp hp with e | hp
    · rw [e]; exact (Nat.ne_of_lt hlt).symm
    · exact ho p hp, fun p hp => List.mem_cons_of_mem _ (hf p hp), RowsAt.snoc (hr.mono fun _ h => List.mem_cons_of_mem _ h) ⟨a, t1, t2, t3, rfl, List.mem_cons_self⟩, fun r hr' => by
    rcases List.mem_append.mp hr' with h | h
    · exact hok r h
    · rw [List.mem_singleton.mp h]; exact hrow, by rw [List.length_append, hl]; rfl⟩
theorem rows_comp {prog : Program} {w : World} {A : Around} {h₀ h7 : Heap} {L src : Addr} {m : Str → Option Value} {env : Env} {elt : PySem.Expr} {x : Str} {scope : Scope} {cl : List (Str × Addr)} {s : Shared} {P : Nat → Value → Prop} {Fin : List Value → Led → Prop} {n nl : Nat} {a b : Int} {ta tb : Tok} {fixed : Led}
    (_N : News h₀ L h7 ((src, listOf #[.int a ta, .int b tb] nl) :: fixed)) (hS : SrcOk a b) (hoff : ∀ p ∈ fixed, p.1 ≠ src)
    (turn : ∀ i ys nw v I oI C oC D m₂ h tk (E' : Value → Shared → Prop), i < n → RowsInv src fixed i ys nw → P i v → LCg.NsObj oC m₂ → m₂ x = some v → Fr h₀ L h m → News h₀ L h ((I, oI) :: (C, oC) :: (D, LCg.lst ys) :: nw) → LCg.Off3 I C D nw → ((@Ne Nat I C) ∧ (@Ne Nat I D) ∧ (@Ne Nat C D)) →
      wpAny (model prog w) A (eval elt (compEnvC scope cl C env)) (TurnEnd h₀ L m { s with heap := h, toks := tk } I C D oI oC (LCg.lst ys) (fun y nw' => RowsInv src fixed (i + 1) (ys ++ [y]) nw')) E' { s with heap := h, toks := tk })
    (fin : ∀ ys nw, RowsInv src fixed n ys nw → Fin ys nw) :
    LCg.CompRest prog w A h₀ L m env elt x scope cl s (fun _ => True) P Fin n 0 [] ((src, listOf #[.int a ta, .int b tb] nl) :: fixed) :=
  compRest_ind (RowsInv src fixed) (fun _ _ _ _ => trivial) (fun i ys nw v I oI C oC D m₂ h tk E' hi hI hv hC hx F N off ne => by
    refine wpAny_mono (turn i ys nw v I oI C oC D m₂ h tk E' hi hI hv hC hx F N off ne) (fun y s' hq => ?_) fun _ _ e => e
    obtain ⟨h', tk', nw', e, F', N', off', hI'⟩ := hq
    exact ⟨h', tk', nw', e, F', N', off', hI'⟩) fin n 0 [] _ (Nat.zero_add _) ⟨a, b, ta, tb, nl, fixed, [], rfl, hS, hoff, fun _ h => h, trivial, fun _ h => absurd h List.not_mem_nil, rfl⟩

def forBody : Stmt → List Stmt
  | .For _ _ b _ _ => b
  | _ => []
noncomputable def lawBody : List Stmt := match (recsOf hd.view_39).find? (fun d => d.name == Str.ofString "law") with
  | some d => d.body
  | none => []
noncomputable def lawScope : Scope := match (recsOf hd.view_39).find? (fun d => d.name == Str.ofString "law") with
  | some d => d.scope
  | none => { kind := .function, names := [], isGenerator := false, isCoroutine := false }
noncomputable def lawLoop : List Stmt := match lawBody with
  | [_, _, f, _] => forBody f
  | _ => []
noncomputable def deedLoop : List Stmt := match lawLoop with
  | [_, _, _, _, f] => forBody f
  | _ => []
noncomputable def deedTail : List Stmt := match deedLoop with
  | [_, _, _, a, b, c, d] => [a, b, c, d]
  | _ => []
set_option maxHeartbeats 4000000 in
theorem tail_turn (w : World) (fa L : Addr) (cd : Value) (g : Heap) (mean : ExcName → Option Value) (mg mb : Str → Option Value) (X : (hd.heap_1 w.params).In g) (T : Top topProg lawLoose mean mg mb g) (K : Below callerA g [] g) (sl src En I : Addr) (o oI : Obj) (tg sc : Int) (kind : Option Int) (pay : Array UInt8) (t1 t2 kt t5 : Tok) (v0 : Option Value)
    (hcd : o.data = .cell v0) (htg0 : 0 ≤ tg) (htg1 : tg < 281474976710656) (hsc0 : 0 ≤ sc) (hsc1 : sc < 281474976710656) (hkk : kind = none ∨ kind = some 2054) (hpay : pay.size ≤ 3)
    (i : Nat) (m1 : Str → Option Value) (h : Heap) (tk : Nat) (I5 : Addr) (oI5 : Obj) (hi : 0 + (i : Int) < 9) (hio5 : IterObj oI5) (hne : @Ne Nat I I5) (vf : Value) (rl : Addr) (vs : List Value) (nr : Nat) (rows : List Row) (x9 y9 : Int) (ta9 tb9 : Tok) (n9 : Nat) (ps9 : Array Value) (rest9 : Led)
    (hm1 : m1 (Str.ofString "script") = some (.ref sl)) (hm2 : m1 (Str.ofString "ends") = some (.ref En)) (hm3 : m1 (Str.ofString "frame") = some vf) (hm4 : m1 (Str.ofString "rows") = some (.ref rl)) (hS9 : SrcOk x9 y9) (hoff9 : ∀ p ∈ rest9, p.1 ≠ src ∧ p.1 ≠ 374) (hTI9 : TabInv rest9 ps9)
    (hcl9 : (L + 1, o) ∈ rest9) (hE9 : (En, tupObj [.int tg t1, .int sc t2, kindV kind kt, .bytes pay t5] 0) ∈ rest9) (hI9 : (I, oI) ∈ rest9) (hI59 : (I5, oI5) ∈ rest9) (hf9 : FrameAt w.params rest9 vf ⟨tg, sc, rows, kind, pay⟩) (hrl9 : (rl, listOf (List.toArray vs) nr) ∈ rest9) (hr9 : RowsAt rest9 vs rows) (hok : ∀ r ∈ rows, r.Ok) (hl : rows.length ≤ 3 + (i + 1))
    (F5 : Fr g L h m1) (N5 : News g L h ((src, listOf #[.int x9 ta9, .int y9 tb9] n9) :: (374, tabObj ps9) :: rest9)) (gens : Array GenState) (drawn : Drawn) (os : OsState) (s1 : Shared) (hs1 : s1.gens = gens ∧ s1.drawn = drawn ∧ s1.os = os) (Q : Flow → Shared → Prop) :
    wpAny (model PySem.Challenge.rw_pb0543_01.row.prog w) (callerA.deeper (envOfC (Str.ofString "law") lawScope L fa cd)) (execs deedTail (envOfC (Str.ofString "law") lawScope L fa cd))
      (RngPost g L (InJ w.params (L + 1) sl src En I o oI tg sc kind pay t1 t2 kt t5 (i + 1)) I5 oI5 s1 Q) (fun _ _ => False) ⟨h, gens, drawn, tk, os⟩ := by
  revert X
  intro X
  obtain ⟨rfl, rfl, rfl⟩ := hs1
  rw [map_set4 hm3 hm4 hm2 hm1] at F5
  have hfv := hf9
  obtain ⟨xv, dxv, Tv, vsv, nv, ktv, z1, z2, z3, z4, z5, z6, z7, z8, ev, hv19, hv29, hv3, hv4⟩ := hfv
  subst ev
  clear hv3 hv4
  have hlv1 : vs.length ≤ 1000 := by rw [hr9.length]; omega
  have hlv2 : vs.length ≤ 16384 := by rw [hr9.length]; omega
  have hlr : rows.length ≤ 1000 := by omega
  have eb : deedTail = deedTail := rfl
  conv at eb => rhs; whnf
  rw [eb]
  clear eb
  have es : lawScope = lawScope := rfl
  conv at es => rhs; whnf
  rw [es]
  clear es
  cases rows with
  | nil =>
    cases vs with
    | cons _ _ => exact hr9.elim
    | nil =>
    k_steps
    all_goals first
      | (refine' in_end ?F ?N ?sub hI59 hio5 ?m1 ?m2 ?m3 ?m4 hS9 hoff9 hTI9 hcl9 hcd hE9 hI9 hne hf9 hrl9 hr9 hok hl; (case F => k_asm); (case N => k_asm); (case sub => kqd_sub); (case m1 => with_unfolding_all rfl); (case m2 => with_unfolding_all rfl); (case m3 => with_unfolding_all rfl); (case m4 => with_unfolding_all rfl))
      | (exfalso; omega)
      | (exfalso; simp_all; done)
  | cons row6 rows6 =>
    cases vs with
    | nil => exact hr9.elim
    | cons v6 vs6 =>
    obtain ⟨⟨ra, q1, q2, q3, er, hra⟩, hrt⟩ := id hr9
    subst er
    have hlq : vs6.length = rows6.length := hrt.length
    have hlc : (row6 :: rows6).length = rows6.length + 1 := rfl
    k_steps
    all_goals first
      | (refine' in_end ?F ?N ?sub hI59 hio5 ?m1 ?m2 ?m3 ?m4 hS9 hoff9 hTI9 hcl9 hcd hE9 hI9 hne hf9 hrl9 hr9 hok hl; (case F => k_asm); (case N => k_asm); (case sub => kqd_sub); (case m1 => with_unfolding_all rfl); (case m2 => with_unfolding_all rfl); (case m3 => with_unfolding_all rfl); (case m4 => with_unfolding_all rfl))
      | (exfalso; omega)
      | (exfalso; simp_all; done)

set_option maxHeartbeats 4000000 in
theorem inner_turn (w : World) (fa L : Addr) (cd : Value) (g : Heap) (mean : ExcName → Option Value) (mg mb : Str → Option Value) (X : (hd.heap_1 w.params).In g) (T : Top topProg lawLoose mean mg mb g) (K : Below callerA g [] g) (sl src En I : Addr) (o oI : Obj) (tg sc : Int) (kind : Option Int) (pay : Array UInt8) (t1 t2 kt t5 : Tok)
    (hcd : o.data = .cell (some (.ref src))) (h374 : @LT.lt Nat _ 374 src) (htg0 : 0 ≤ tg) (htg1 : tg < 281474976710656) (hsc0 : 0 ≤ sc) (hsc1 : sc < 281474976710656) (hkk : kind = none ∨ kind = some 2054) (hpay : pay.size ≤ 3)
    (i : Nat) (t : Tok) (m1 : Str → Option Value) (nx : Led) (h : Heap) (tk : Nat) (I5 : Addr) (oI5 : Obj) (hi : 0 + (i : Int) < 9) (hio5 : IterObj oI5) (hoff5 : ∀ p ∈ nx, @Ne Nat p.1 I5) (hJ5 : InJ w.params (L + 1) sl src En I o oI tg sc kind pay t1 t2 kt t5 i m1 nx)
    (F5 : Fr g L h (fun y => if y = Str.ofString "turn" then some (.int (0 + (i : Int)) t) else m1 y)) (N5 : News g L h ((I5, oI5) :: nx)) (gens : Array GenState) (drawn : Drawn) (os : OsState) (Q : Flow → Shared → Prop) :
    wpAny (model PySem.Challenge.rw_pb0543_01.row.prog w) (callerA.deeper (envOfC (Str.ofString "law") lawScope L fa cd)) (execs deedLoop (envOfC (Str.ofString "law") lawScope L fa cd))
      (RngPost g L (InJ w.params (L + 1) sl src En I o oI tg sc kind pay t1 t2 kt t5 (i + 1)) I5 oI5 ⟨h, gens, drawn, tk, os⟩ Q) (fun _ _ => False) ⟨h, gens, drawn, tk, os⟩ := by
  revert X
  intro X
  obtain ⟨hm1, hm2, vf, rl, vs, nr, rows5, x5, y5, ta5, tb5, n5, ps5, rest5, hm3, hm4, e5, hS5, hos5, hot5, hTI5, hcl5, hE5, hI5, hf5, hrl5, hr5', hok5, hl5⟩ := hJ5
  subst e5
  rw [map_set4 hm3 hm4 hm2 hm1] at F5
  have hl6 : rows5.length ≤ 900 := by omega
  have hos6 : ∀ p ∈ (I5, oI5) :: rest5, p.1 ≠ src := List.forall_mem_cons.mpr ⟨Ne.symm (hoff5 _ List.mem_cons_self), hos5⟩
  have hot6 : ∀ p ∈ (I5, oI5) :: rest5, p.1 ≠ 374 := List.forall_mem_cons.mpr ⟨Ne.symm (hoff5 _ (List.mem_cons_of_mem _ List.mem_cons_self)), hot5⟩
  have hne : @Ne Nat I I5 := hoff5 _ (List.mem_cons_of_mem _ (List.mem_cons_of_mem _ hI5))
  have N13 := sw2' N5
  clear N5 hoff5
  have hfv := hf5
  obtain ⟨xv, dxv, Tv, vsv, nv, ktv, z1, z2, z3, z4, z5, z6, z7, z8, ev, hv1, hv2, hv3, hv4⟩ := hfv
  subst ev
  have eb : deedLoop = deedLoop := rfl
  conv at eb => rhs; whnf
  rw [eb]
  clear eb
  have es : lawScope = lawScope := rfl
  conv at es => rhs; whnf
  rw [es]
  clear es
  refine cut_rest ?_
  intro r8 hr8
  k_steps
  unfold Held
  have hT5' := hTI5.mono (fun p hp => List.mem_cons_of_mem (I5, oI5) hp)
  have hf5' := hf5.mono (fun p hp => List.mem_cons_of_mem (I5, oI5) hp)
  have hr5'' := hr5'.mono (fun p hp => List.mem_cons_of_mem (I5, oI5) hp)
  k_dflt (refine' Call0.use (deed_any _ _ x5 y5 ta5 tb5 n5 ps5 _ rl vs nr _ _ rows5 kind _ ((I5, oI5) :: rest5) hS5 hok5 hos6 hot6 h374 hT5' hl6 hf5' (List.mem_cons_of_mem _ hrl5) hr5'') ?k1 ?k2 ?k3 ?k4 ?k5 ?k6 ?k7 ?k8 ?_; (case k1 => k_asm); (case k2 => k_asm); (case k3 => k_asm); (case k4 => k_asm); (case k5 => k_asm); (case k6 => exact rfl); (case k7 => ktr_room); (case k8 => ktr_units))
  intro r9 h9 tk9 nw9 F9 N9 hP9
  obtain ⟨Dd, told, due, nD, x9, y9, ta9, tb9, n9, ps9, rest9, e1, e2, hS9, hsub9, hoff9, hTI9, hD9, hres9⟩ := hP9
  subst e1
  subst e2
  have sub9 : ∀ p ∈ rest5, p ∈ rest9 := fun p hp => hsub9 p (List.mem_cons_of_mem _ hp)
  have hcl9 := sub9 _ hcl5
  have hE9 := sub9 _ hE5
  have hI9 := sub9 _ hI5
  have hI59 := hsub9 _ List.mem_cons_self
  have hf9 := hf5.mono sub9
  have hv19 := sub9 _ hv1
  have hv29 := sub9 _ hv2
  have hrl9 := sub9 _ hrl5
  have hr9 := hr5'.mono sub9
  clear hT5' hf5' hr5'' hf5 hr5' hrl5 hv1 hv2 hv3 hv4 hos5 hos6 hot5 hot6 hTI5 hS5 hsub9 hcl5 hE5 hI5 sub9
  have hlv1 : vs.length ≤ 1000 := by rw [hr9.length]; omega
  have hlv2 : vs.length ≤ 16384 := by rw [hr9.length]; omega
  rcases hres9 with ⟨et, ed⟩ | ⟨rlU, nrU, vsU, rowsU, ed, hrlU, hrU, hfU, hokU, hlU⟩
  · subst et
    subst ed
    k_steps
    subst hr8
    refine cut_rest ?_
    intro r9 hr9'
    k_steps
    subst hr9'
    refine cut_rest ?_
    intro r10 hr10
    k_steps
    subst hr10
    rename Fr _ _ _ _ => F14
    rename News _ _ _ _ => N14
    refine' tail_turn w fa L cd g mean mg mb X T K sl src En I o oI tg sc kind pay t1 t2 kt t5 _ hcd htg0 htg1 hsc0 hsc1 hkk hpay i _ _ _ I5 oI5 hi hio5 hne _ rl vs nr rows5 x9 y9 ta9 tb9 n9 ps9 rest9 ?m1 ?m2 ?m3 ?m4 hS9 hoff9 hTI9 hcl9 hE9 hI9 hI59 hf9 hrl9 hr9 hok5 (by omega) F14 (drops N14 ?sub) _ _ _ _ ⟨rfl, rfl, rfl⟩ Q
    case m1 => with_unfolding_all rfl
    case m2 => with_unfolding_all rfl
    case m3 => with_unfolding_all rfl
    case m4 => with_unfolding_all rfl
    case sub => kqd_sub
  · have hfx := hfU
    obtain ⟨xt, dxt, Tt, vst, nt, ktt, y1, y2, y3, y4, y5, y6, y7, y8, eu, hu1, hu2, hu3, hu4⟩ := hfx
    subst eu
    subst ed
    k_steps
    subst hr8
    refine cut_rest ?_
    intro r9 hr9'
    k_steps
    subst hr9'
    refine cut_rest ?_
    intro r10 hr10
    k_steps
    subst hr10
    rename Fr _ _ _ _ => F14
    rename News _ _ _ _ => N14
    refine' tail_turn w fa L cd g mean mg mb X T K sl src En I o oI tg sc kind pay t1 t2 kt t5 _ hcd htg0 htg1 hsc0 hsc1 hkk hpay i _ _ _ I5 oI5 hi hio5 hne _ rlU vsU nrU rowsU x9 y9 ta9 tb9 n9 ps9 rest9 ?m1 ?m2 ?m3 ?m4 hS9 hoff9 hTI9 hcl9 hE9 hI9 hI59 hfU hrlU hrU hokU (by dsimp only at hlU; omega) F14 (drops N14 ?sub) _ _ _ _ ⟨rfl, rfl, rfl⟩ Q
    case m1 => with_unfolding_all rfl
    case m2 => with_unfolding_all rfl
    case m3 => with_unfolding_all rfl
    case m4 => with_unfolding_all rfl
    case sub => kqd_sub

theorem words37 : True := by
  k_with "call ref" => (k_here; (with_reducible show wpAny _ _ (call (Value.ref 330) _) _ _ _); (rename IntsAre _ _ => hIs); (rename Heap.IsList _ _ _ => hLs); k_dflt (refine' pool_c _ _ _ _ _ _ _ hIs ?q137hl ?q137h0 ?q137h3 _ _ _ _ _ _ _ _ _ _ _ _ _ _ _ _ _ _ _ _ ?q137k1 ?q137k2 ?q137k4 ?q137k5 hLs ?q137k6 ?q137k7 ?q137k8 ?_ ?q137k3; (case q137hl => assumption); (case q137h0 => omega); (case q137h3 => omega); (case q137k1 => k_asm); (case q137k2 => k_asm); (case q137k3 => k_asm); (case q137k4 => k_asm); (case q137k5 => k_asm); (case q137k6 => exact rfl); (case q137k7 => ktr_room); (case q137k8 => ktr_units); intro r' x' y' ta' tb' n' h' tk' hS' F' N' l1; (try k_lt l1); (try dsimp only); (try k_fold)))
  trivial
set_option maxHeartbeats 4000000 in
theorem outer_turn (w : World) (fa L : Addr) (cd : Value) (g : Heap) (mean : ExcName → Option Value) (mg mb : Str → Option Value) (X : (hd.heap_1 w.params).In g) (T : Top topProg lawLoose mean mg mb g) (K : Below callerA g [] g) (sl : Addr) (svs : List Value) (ns : List Int) (hI : IntsAre svs ns) (hlist : g.IsList sl svs.toArray) (hlen : ns.length ≤ 63) (h374L : @LT.lt Nat _ 374 L)
    (i : Nat) (t : Tok) (m₁ : Str → Option Value) (nx : Led) (h : Heap) (tk : Nat) (I : Addr) (oI : Obj) (hi0 : (0 : Int) ≤ 0 + (i : Int)) (hi3 : 0 + (i : Int) < 3) (hio : IterObj oI) (hoff : ∀ p ∈ nx, @Ne Nat p.1 I) (hJ : OutJ (L + 1) sl m₁ nx)
    (F1 : Fr g L h (fun y => if y = Str.ofString "k" then some (.int (0 + (i : Int)) t) else m₁ y)) (N1 : News g L h ((I, oI) :: nx)) (gens : Array GenState) (drawn : Drawn) (os : OsState) (Q : Flow → Shared → Prop) :
    wpAny (model PySem.Challenge.rw_pb0543_01.row.prog w) (callerA.deeper (envOfC (Str.ofString "law") lawScope L fa cd)) (execs lawLoop (envOfC (Str.ofString "law") lawScope L fa cd))
      (RngPost g L (OutJ (L + 1) sl) I oI ⟨h, gens, drawn, tk, os⟩ Q) (fun _ _ => False) ⟨h, gens, drawn, tk, os⟩ := by
  revert X
  intro X
  have eb : lawLoop = lawLoop := rfl
  conv at eb => rhs; whnf
  rw [eb]
  clear eb
  have es : lawScope = lawScope := rfl
  conv at es => rhs; whnf
  rw [es]
  clear es
  obtain ⟨hscr, o1, v1, ps1, codes, hnx, ho1, hT1, hc1, hc2⟩ := hJ
  subst hnx
  rw [map_set hscr] at F1
  have hI1 := hoff _ List.mem_cons_self
  have hI2 := hoff _ (List.mem_cons_of_mem _ List.mem_cons_self)
  have hI3 : ∀ p ∈ codes, @Ne Nat p.1 I := fun p hp => hoff _ (List.mem_cons_of_mem _ (List.mem_cons_of_mem _ hp))
  dsimp only at hI1 hI2
  refine cut_rest ?_
  intro r4 hr4
  k_steps
  subst hr4
  refine cut_rest ?_
  intro r5 hr5
  refine wpAny_execs_cons ?_
  k_dflt (refine LCg.Assign_ListComp_U (F₀ := by k_asm) (by rfl) (by with_unfolding_all rfl) (by with_unfolding_all rfl) (by decide) (by rfl) (by decide) (by rfl) (by rfl) (by rfl) ?_)
  k_steps
  unfold Held
  rename IsRange _ _ _ _ _ _ _ _ => hR2
  rename SrcOk _ _ => hS1
  rename Fr _ _ _ _ => F7
  rename News _ _ _ _ => N7
  refine LCg.CompSrc.range (by rfl) F7 N7 hR2 (small_one (by decide) (by decide) (by omega) (by omega)) (rangeSize_nat _ _) (by rw [PySem.sizeLine_eq]; omega) ?_
  intro g9
  refine rows_comp N7 hS1 ?hoff2 ?turn2 ?fin2
  case hoff2 =>
    rename _ ∧ _ ∧ _ ∧ AllLt _ codes => lr
    refine fun p hp => Nat.ne_of_lt (allLt_to ?_ p hp)
    exact lr
  case turn2 =>
    intro i2 ys nw v I2 oI2 C oC D m₂ h tk E9 hi hI hv hC hx F9 N9 off ne
    obtain ⟨x, y, ta, tb, n, rest, rs, e, hS, ho, hf, hr, hok, hl⟩ := hI
    subst e
    have hcl := hf _ (List.mem_cons_of_mem _ List.mem_cons_self)
    have hall : ∀ p ∈ (I2, oI2) :: (C, oC) :: (D, LCg.lst ys) :: rest, p.1 ≠ _ := List.forall_mem_cons.mpr ⟨Ne.symm off.1.1, List.forall_mem_cons.mpr ⟨Ne.symm off.1.2.1, List.forall_mem_cons.mpr ⟨Ne.symm off.1.2.2, ho⟩⟩⟩
    k_steps
    all_goals (
      rename _ ∧ _ ∧ _ ∧ AllLt _ rest => hl9
      rename Row.Ok _ => hok9
      rename SrcOk _ _ => hS9
      exact ⟨_, _, _, rfl, by assumption, drops (by assumption) (by kqd_sub), rows_turn off hl9 _, rows_inv hS9 ho hf hr hok hl hok9 (by assumption)⟩)
  case fin2 =>
    intro ys nw hI
    intro D h tk F9 N9 o1
    obtain ⟨x, y, ta, tb, n, rest, rs, e, hS, ho, hf, hr, hok, hl⟩ := hI
    subst e
    have hcl := hf _ (List.mem_cons_of_mem _ List.mem_cons_self)
    have h374 := hf _ (List.mem_cons_of_mem _ (List.mem_cons_of_mem _ List.mem_cons_self))
    have hII := hf _ List.mem_cons_self
    have hDr : @Ne Nat D _ := Ne.symm o1.1
    have N10 := sw1 N9
    clear N9 F7 N7 hS1
    show wpAny _ _ (execs r5 _) _ _ _
    subst hr5
    refine cut_rest ?_
    intro r6 hr6
    k_steps
    rename _ ∈ [Value.none, _] => hv9
    obtain ⟨kind, kt, ek9, hkk⟩ := kind_of hv9
    subst ek9
    rename SrcOk _ _ => hS3
    clear hS
    subst hr6
    refine cut_rest ?_
    intro r7 hr7
    k_steps
    rename Fr _ _ _ _ => F6
    rename News _ _ _ _ => N6
    have hyl := hr.length
    have hyl3 : ys.length ≤ 3 := by omega
    refine ⟨D, ys, _, _, rfl, rfl, F6, N6, by k_mem, by rw [PySem.sizeLine_eq]; omega, fun g10 => ?_⟩
    refine tags_comp (P0 := w.params) N6 ?hmD (hr.mono ?hsD) ?turn3 ?fin3
    case hmD => k_mem
    case hsD => kqd_sub
    case turn3 =>
      intro zs nw v row I3 oI3 C3 oC3 D3 m₃ h3 tk3 E3 hrow G hC3 hx3 F9 N9 off3 ne3
      obtain ⟨ra, q1, q2, q3, e3, hra⟩ := hrow
      subst e3
      have hra' : (ra, rowObj row q1 q2 q3) ∈ (I3, oI3) :: (C3, oC3) :: (D3, LCg.lst zs) :: nw := List.mem_cons_of_mem _ (List.mem_cons_of_mem _ (List.mem_cons_of_mem _ hra))
      k_steps
      all_goals (
        rename ∀ p ∈ (I3, oI3) :: _, @LT.lt Nat _ _ _ => hl9
        obtain ⟨o1', g1', t1'⟩ := made_turn hl9 (by assumption) off3
        exact ⟨_, _, _, rfl, by assumption, drops (by assumption) (by kqd_sub), o1', g1', t1'⟩)
    case fin3 =>
      intro zs nw G hT
      intro D3 h3 tk3 F9 N9 o3
      have GG := G.sub
      have hE := GG _ List.mem_cons_self
      have hE' := List.mem_cons_of_mem (D3, LCg.lst zs) hE
      have hzl : zs.length ≤ 1000 := by rw [hT.length, hl]; omega
      k_steps
      rename FrameAt _ _ _ _ => hF9
      rename Fr _ _ _ _ => F5
      rename News _ _ _ _ => N5
      have hDn : @Ne Nat D _ := hDr
      have up : ∀ p ∈ rest, p ∈ nw := fun p hp => GG p (List.mem_cons_of_mem _ (List.mem_cons_of_mem _ (List.mem_cons_of_mem _ (List.mem_cons_of_mem _ hp))))
      refine' Exists.elim (in0 (vs := ys) N5 ?i1 ?i2 ?i3 (by assumption) ?i5 ?i6 hio ?i8 hDr hF9 (hr.mono ?i9) (hT1.mono ?i10)) ?kk
      case i1 => exact List.mem_append_right _ (List.mem_cons_of_mem _ (GG _ (List.mem_cons_of_mem _ List.mem_cons_self)))
      case i2 => exact List.mem_append_right _ (List.mem_cons_of_mem _ (up _ h374))
      case i3 => exact List.mem_append_right _ (List.mem_cons_of_mem _ (up _ hcl))
      case i5 => exact List.mem_append_right _ (List.mem_cons_of_mem _ hE)
      case i6 => exact List.mem_append_right _ (List.mem_cons_of_mem _ (up _ hII))
      case i8 => exact List.mem_append_right _ (List.mem_cons_of_mem _ (GG _ (List.mem_cons_of_mem _ (List.mem_cons_of_mem _ (List.mem_cons_of_mem _ List.mem_cons_self)))))
      case i9 => exact fun p hp => List.mem_append_right _ (List.mem_cons_of_mem _ (up p hp))
      case i10 => exact fun p hp => List.mem_append_right _ (List.mem_cons_of_mem _ (up p (hf p (List.mem_cons_of_mem _ (List.mem_cons_of_mem _ (List.mem_cons_of_mem _ hp))))))
      rintro rest6 ⟨N11, q1, q2, q3, q4, q5, q6, q7, q8, q9⟩
      clear N5
      (try clear F6)
      (try clear F9)
      subst hr7
      k_steps
      unfold Held
      rename IsRange _ _ _ _ _ _ _ _ => hR3
      rename Fr _ _ _ _ => F12
      rename News _ _ _ _ => N12
      rename SrcOk _ _ => hS4
      rename _ ∧ _ ∧ _ ∧ AllLt _ codes => lr9
      refine' rng_law (InJ w.params (L + 1) sl _ _ I _ oI _ _ kind _ _ _ kt _) ?hh4 hR3 ?b04 ?b14 F12 N12 ⟨?m1, ?m2, _, D, ys, _, rs, _, _, _, _, _, _, rest6, ?m3, ?m4, rfl, hS4, q1, q2, q3, q4, q5, q6, q7, q8, q9, hok, ?l4⟩ ?turn4 ?done4
      case hh4 => exact rfl
      case b04 => omega
      case b14 => omega
      case m1 => with_unfolding_all rfl
      case m2 => with_unfolding_all rfl
      case m3 => with_unfolding_all rfl
      case m4 => with_unfolding_all rfl
      case l4 => omega
      case done4 =>
        intro i5 m5 nx5 h5 tk5 hJ5 F5 N5
        obtain ⟨hm1, hm2, vf, rl, vs, nr, rows5, x5, y5, ta5, tb5, n5, ps5, rest5, hm3, hm4, e5, hS5, hos5, hot5, hTI5, hcl5, hE5, hI5, hf5, hrl5, hr5', hok5, hl5⟩ := hJ5
        subst e5
        dsimp only
        refine wpAny_execs_nil ?_
        show RngEnd g L (OutJ (L + 1) sl) I oI _ _
        exact out_end (L := L) (s₁ := { heap := _, gens := gens, drawn := drawn, toks := _, os := os }) F5 N5 (fun p hp => hp) hI5 hio hm1 hot5 hTI5 hcl5 (by assumption)
      case turn4 =>
        intro i5 t5' m5 nx5 h5 tk5 I5 oI5 hi50 hi51 hio5 hoff5 hJ5 F5 N5
        refine' inner_turn w fa L cd g mean mg mb X T K sl _ _ I _ oI _ _ kind _ _ _ kt _ ?c1 ?c2 ?c3 ?c4 ?c5 ?c6 hkk ?c7 i5 t5' m5 nx5 h5 tk5 I5 oI5 (by omega) hio5 hoff5 hJ5 F5 N5 _ _ _ _
        case c1 => assumption
        case c2 => exact lr9.2.2.1
        case c3 => omega
        case c4 => first | omega | exact Int.lt_of_lt_of_le (by assumption) (by decide)
        case c5 => omega
        case c6 => first | omega | exact Int.lt_of_lt_of_le (by assumption) (by decide)
        case c7 => simp only [Array.size_replicate]; omega

set_option maxHeartbeats 4000000 in
theorem law_ok : PySem.Challenge.rw_pb0543_01.Holds := by
  refine holds_law law_said fun said => ?_
  refine holds_open (q := hd.view_39) (loose := [Str.ofString "HALF_TABLE", Str.ofString "TAG_KINDS", Str.ofString "Frame", Str.ofString "pack_frame"]) (XP := XL hd.view_39 [(Str.ofString "HALF_TABLE", WData.tuple [WData.int 0, WData.int 498536548, WData.int 997073096, WData.int 651767980, WData.int 1994146192, WData.int 1802195444, WData.int 1303535960, WData.int 1342533948, WData.int 3988292384, WData.int 4027552580, WData.int 3604390888, WData.int 3412177804, WData.int 2607071920, WData.int 2262029012, WData.int 2685067896, WData.int 3183342108]), (Str.ofString "TAG_KINDS", WData.tuple [WData.int 33024, WData.int 34984])]) (YP := (kmHook hd.heap_1 hdAddrs (fun _ => by kernel_rfl) [374]).says) head_left hdHook.of hdHook.keeps (fun s e => xl_of s (Bool.and_eq_true_iff.mp e).1) XL.keeps rfl rfl rfl (fun s e => recFacts_of (Bool.and_eq_true_iff.mp e).2)
    rfl said head_ok ⟨rfl, rfl, rfl, rfl, rfl, by decide +kernel⟩ ?hw ?hc
  case hw => w_witness2
  clear said
  w_strict (k_go0; (all_goals try k_fold))
  rename (hd.heap_1 _).In (ghostOf _ _) => X
  rename Top topProg _ _ _ _ (ghostOf _ _) => T0
  rename Below callerA _ [] _ => K
  rename IntsAre _ _ => hI
  rename Heap.IsList (ghostOf _ _) _ _ => hlist
  rename ¬ _ < _ => hlen0
  have hlen : List.length _ ≤ 63 := Int.ofNat_le.mp (Int.not_lt.mp hlen0)
  rename Dflts _ _ _ _ _ _ => hDf
  clear hDf
  have T : Top topProg lawLoose _ _ _ _ := T0
  clear T0
  rename Fr (ghostOf _ _) _ _ _ => F0
  rename News (ghostOf _ _) _ _ _ => N0
  have hmark := mark_of N0
  refine cutQ F0 ?c1 ?c2
  case c2 =>
    intro f s' hf
    obtain ⟨rfl, h, tk, m, led, ps, rfl, F9, N9⟩ := hf
    k_steps
  intro Q' hfin
  rename _ = Data.cell _ => hcell
  refine cut_rest ?_
  intro r1 hr1
  k_steps
  subst hr1
  refine cut_rest ?_
  intro r2 hr2
  k_steps
  subst hr2
  refine cut_rest ?_
  intro r3 hr3
  k_steps
  unfold Held
  rename IsRange _ _ _ _ _ _ _ _ => hR
  rename Heap.IsList (ghostOf _ _) _ _ => hlist
  rename IntsAre _ _ => hI
  rename Fr _ _ _ _ => F8
  rename News _ _ _ _ => N8
  have N9 := led_like hmark N8 (by kqd_sub)
  refine rng_out (out0 hlist ?hm hmark hcell) ?hh hR ?b0 ?b1 F8 N9 ?turn ?done
  case hm => exact rfl
  case hh => exact rfl
  case b0 => split <;> (try split) <;> omega
  case b1 => split <;> (try split) <;> omega
  case done =>
    intro m5 nx5 h5 tk5 hJ5 F5 N5
    obtain ⟨hm5, o5, v5, ps5, codes5, e5, ho5, hT5, hc5, hd5⟩ := hJ5
    subst e5
    dsimp only
    subst hr3
    rw [map_set hm5] at F5
    k_steps
    all_goals (refine hfin _ _ ⟨rfl, _, _, _, _, _, rfl, by k_asm, drops (by k_asm) (fun p hp => List.mem_cons_of_mem _ hp)⟩)
  intro i t m₁ nx h tk I oI hi0 hi1 hio hoff hJ F1 N1
  have hi3 : 0 + (i : Int) < 3 := by
    refine Int.lt_of_lt_of_le hi1 ?_
    split <;> (try split) <;> omega
  exact outer_turn _ _ _ _ _ _ _ _ X T K _ _ _ hI hlist hlen (by assumption) i t m₁ nx h tk I oI hi0 hi3 hio hoff hJ F1 N1 _ _ _ _

end Mine
set_option maxRecDepth 100000 in
set_option maxHeartbeats 8000000 in
theorem PySem.Challenge.cw_pb0543_01_holds : PySem.Challenge.rw_pb0543_01.Holds := by
  exact Mine.law_ok
