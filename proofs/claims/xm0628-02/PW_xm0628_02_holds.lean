import PyProof.Rows.All
import Wide.All
import OpenK.AllK
import Wide.FinOn
import Lean
import PySem.Challenge.RW_xm0628_02
open PySem PySem.W PyProof.Rows
set_option Elab.async false
set_option maxRecDepth 100000
set_option maxHeartbeats 0
set_option linter.all false
set_option compiler.extract_closed false
namespace Mine

def topRunT (tb : String → Option Builtin) (p : Program) (w : World) (n₀ : Nat) (ann : Option Value) : Nat → SharedT → Thread → Option SharedT
  | 0, _, _ => none
  | n + 1, s, t => match through t with
    | true => some s
    | false => match stepOk n₀ ann t with
      | false => none
      | true => match stepT (denote tb) p w s t with
        | some (s', t') => topRunT tb p w n₀ ann n s' t'
        | none => none
theorem topRun_of {tb : String → Option Builtin} {p : Program} {w : World} {n₀ : Nat} {ann : Option Value} : ∀ {n : Nat} {s s' : SharedT} {t : Thread}, topRunT tb p w n₀ ann n s t = some s' → topRun tb p w n₀ ann n s.abs t = some s'.abs
  | 0, _, _, _, h => by cases h
  | n + 1, s, s', t, h => by
    unfold topRunT at h
    unfold topRun
    cases he : through t with
    | true => rw [he] at h; cases h; rfl
    | false =>
      rw [he] at h
      cases hk : stepOk n₀ ann t with
      | false => rw [hk] at h; cases h
      | true =>
        rw [hk] at h
        cases hs : stepT (denote tb) p w s t with
        | none => rw [hs] at h; cases h
        | some r => obtain ⟨s₂, t₂⟩ := r; rw [hs] at h; rw [stepT_spec hs]; exact topRun_of h
noncomputable def bootT (P : Params) : BT := .node (boot_o_0 P) (.node (boot_o_1 P) (.node (boot_o_3 P) (.node (boot_o_7 P) .nil .nil) .nil) (.node (boot_o_5 P) (.node (boot_o_9 P) .nil .nil) .nil)) (.node (boot_o_2 P) (.node (boot_o_4 P) (.node (boot_o_8 P) .nil .nil) .nil) (.node (boot_o_6 P) (.node (boot_o_10 P) .nil .nil) .nil))
noncomputable abbrev bootS (w : World) (os : OsState) : SharedT := ⟨bootT w.params, 11, {}, Array.mk [], boot_drawn, boot_toks, os⟩
theorem boot_is (P : Params) : absHeap (bootT P) 11 {} = boot_heap P := by rfl
def getT (s : SharedT) (a : Addr) : Option Obj := match Nat.blt a s.n with
  | true => match s.tree.get a with
    | some o => alive o
    | none => alive default
  | false => none
theorem getT_eq {s : SharedT} {a : Addr} : s.abs.heap.get? a = getT s a := by
  obtain ⟨t, n, life, gens, drawn, toks, os⟩ := s
  show (absHeap t n life).get? a = _
  unfold getT
  dsimp only
  cases e : Nat.blt a n with
  | false =>
    have lt : ¬ a < n := fun q => by rw [show Nat.blt a n = true from Nat.ble_eq_true_of_le q] at e; cases e
    exact abs_get_none lt
  | true =>
    have lt : a < n := Nat.le_of_ble_eq_true e
    cases g : t.get a with
    | some o => exact abs_get lt g
    | none =>
      unfold Heap.get?
      rw [absHeap_at, if_pos lt, g]
      rfl
theorem left_tree {p q : Program} {loose : List Str} {Xt : Shared → Bool} {K : Params → Frag} {as : List Addr} {ek : ∀ P, as = (K P).map (·.1)} {ts : List Addr} {N : Nat}
    (e : opening p = plainProg p.main.scope.names) (hN : Nat.ble 600 N = true) (f : ∀ s, fenceModules? p s = some s)
    (size : ∀ w : World, ((boot_heap w.params).isNs mainGlobals, (boot_heap w.params).objs.size, (boot_heap w.params).nsMap mainGlobals "__annotations__") = (true, 11, some (Value.ref 6)))
    (run1 : ∀ (w : World) (os : OsState), (topRunT treeTable p w 11 (some (Value.ref 6)) N (bootS w os) (topStub p)).map (fun s => (staticsOk (importedModules p.main.body) (boot_heap w.params) s.abs.heap && namesBound p s.abs.heap && gensDone s.abs && laidKept (boot_heap w.params) s.abs.heap,
        seen ((recsOf q).map (·.name)) (ownsOf q) [] { s.abs with gens := #[] }, s.abs.heap.bltView, as.map (getT s), ts.map (getT s))) = some (true, expectedOf q, bltViewBooted, (K w.params).map (fun p => some p.2), ts.map fun _ => some (tabObj #[])))
    (run2 : ∀ (w : World) (os : OsState), (topRunT treeTable p w 11 (some (Value.ref 6)) N (bootS w os) (topStub p)).map (fun s => s.abs.heap.keysOk (looseW q loose) ((recsOf q).map (·.name)) ((litsOf q).map (·.1)) ((clssOf q (looseW q loose)).map (·.name))) = some true)
    (run3 : ∀ (w : World) (os : OsState), (topRunT treeTable p w 11 (some (Value.ref 6)) N (bootS w os) (topStub p)).map (fun s => (s.abs.heap.accountedOkI (importedModules p.main.body) && s.abs.heap.isNs mainGlobals && s.abs.heap.isNs builtinsNs && tablesOk q s.abs.heap && Xt s.abs && (s.abs.gens.size == 0), tabsOk q s.abs)) = some (true, true))
    (run4 : ∀ (w : World) (os : OsState), (topRunT treeTable p w 11 (some (Value.ref 6)) N (bootS w os) (topStub p)).map (fun s => (pinSeenD q (drecsOf q) s.abs, plainSeenE q (looseW q loose) s.abs)) = some (pinGoodD (drecsOf q), plainGoodE q (looseW q loose)))
    (run5 : ∀ (w : World) (os : OsState), (topRunT treeTable p w 11 (some (Value.ref 6)) N (bootS w os) (topStub p)).map (fun s => (plainSeenD q loose s.abs, wideSeen q s.abs, clsSeenW q loose s.abs)) = some (plainGoodD q loose, wideGood q, clsGoodW q loose)) :
    LeftO p q loose Xt (kmHook K as ek ts).obs (kmHook K as ek ts).val N true := fun w => by
  have open_ := boot_open (N := N) e hN f w
  obtain ⟨⟨h, gs, d, k, os⟩, e, e'⟩ := Option.map_eq_some_iff.mp open_
  obtain ⟨rfl, rfl, rfl, rfl⟩ : h = boot_heap w.params ∧ gs = Array.mk [] ∧ d = boot_drawn ∧ k = boot_toks := by simpa using e'
  obtain ⟨z1, z2, z3⟩ : _ ∧ _ ∧ _ := by simpa only [Prod.mk.injEq] using size w
  obtain ⟨s, hs, hl⟩ := Option.map_eq_some_iff.mp (run1 w os)
  obtain ⟨s2, hs2, k2⟩ := Option.map_eq_some_iff.mp (run2 w os)
  obtain rfl : s = s2 := Option.some.inj (hs.symm.trans hs2)
  obtain ⟨s3, hs3, k3⟩ := Option.map_eq_some_iff.mp (run3 w os)
  obtain rfl : s = s3 := Option.some.inj (hs.symm.trans hs3)
  obtain ⟨s4, hs4, k4⟩ := Option.map_eq_some_iff.mp (run4 w os)
  obtain rfl : s = s4 := Option.some.inj (hs.symm.trans hs4)
  obtain ⟨s5, hs5, k5⟩ := Option.map_eq_some_iff.mp (run5 w os)
  obtain rfl : s = s5 := Option.some.inj (hs.symm.trans hs5)
  have l1 := congrArg Prod.fst hl
  have q1 := congrArg (fun x => x.2.1) hl
  have q2 := congrArg (fun x => x.2.2.1) hl
  have l3 := congrArg (fun x => x.2.2.2) hl
  have q3 := congrArg Prod.fst k3
  have q4 := congrArg Prod.snd k3
  dsimp only at l1 q1 q2 l3 q3 q4 k2
  simp only [Bool.and_eq_true] at q3
  obtain ⟨⟨⟨⟨⟨g1, g2⟩, g3⟩, g4⟩, g5⟩, g6⟩ := q3
  have l2 : openSeen q loose (importedModules p.main.body) Xt true s.abs = openGood q loose := by
    have hb : (s.abs.heap.keysOk (looseW q loose) ((recsOf q).map (·.name)) ((litsOf q).map (·.1)) ((clssOf q (looseW q loose)).map (·.name)) && s.abs.heap.accountedOkI (importedModules p.main.body) && s.abs.heap.isNs mainGlobals && s.abs.heap.isNs builtinsNs && tablesOk q s.abs.heap && Xt s.abs && (s.abs.gens.size == 0)) = true := by
      simp only [Bool.and_eq_true]
      exact ⟨⟨⟨⟨⟨⟨k2, g1⟩, g2⟩, g3⟩, g4⟩, g5⟩, g6⟩
    have k41 : pinSeenD q (drecsOf q) s.abs = pinGoodD (drecsOf q) := congrArg Prod.fst k4
    have k42 : plainSeenE q (looseW q loose) s.abs = plainGoodE q (looseW q loose) := congrArg Prod.snd k4
    exact Prod.ext q1 (Prod.ext q2 (Prod.ext hb (Prod.ext q4 (Prod.ext k41 (Prod.ext k42 k5)))))
  have r := topRun_of hs
  rw [show (bootS w os).abs = ⟨boot_heap w.params, Array.mk [], boot_drawn, boot_toks, os⟩ from congrArg (fun h => (⟨h, Array.mk [], boot_drawn, boot_toks, os⟩ : Shared)) (boot_is w.params)] at r
  have t : topFrom treeTable p w N ⟨boot_heap w.params, Array.mk [], boot_drawn, boot_toks, os⟩ = some s.abs := by
    unfold topFrom
    dsimp only
    rw [z1, z2, z3]
    show (topRun _ _ _ _ _ _ _ _).bind _ = _
    rw [r]
    show (match staticsOk (importedModules p.main.body) (boot_heap w.params) s.abs.heap && namesBound p s.abs.heap && gensDone s.abs && laidKept (boot_heap w.params) s.abs.heap with | true => _ | false => _) = _
    rw [l1]
  unfold openEnds
  rw [e]
  show (topFrom treeTable p w N _).map _ = _
  rw [t]
  have k2 : (as.map s.abs.heap.get?, ts.map s.abs.heap.get?) = ((K w.params).map fun p => some p.2, ts.map fun _ => some (tabObj #[])) := by
    rw [← l3]
    exact Prod.ext (List.map_congr_left fun a _ => getT_eq) (List.map_congr_left fun a _ => getT_eq)
  exact congrArg some (Prod.ext l2 k2)

section
local macro_rules | `(tactic| refine $f:ident (q := $q) (loose := $l) (Xt := $xt) (XP := $xp) (Yf := $yf) (Ya := $ya) (YP := $yp) (N := $n) ?$h:ident $a1 $a2 $a3 $a4 $a5 $a6 $a7 $a8 $a9 $b1 $b2 $b3 ?$hw:ident ?$hc:ident) => `(tactic| exact $(Lean.mkIdent `h0) (by assumption))
theorem hd02 (h0 : PySem.Challenge.rw_xm0628_02.row.wellSaid = true → PySem.Challenge.rw_xm0628_02.row.Holds) : PySem.Challenge.rw_xm0628_02.Holds := by
  w_on
  refine holds_law (by decide +kernel) fun said => ?_
  k_head
end

abbrev pr : Program := PySem.Challenge.rw_xm0628_02.row.prog
noncomputable abbrev runS (w : World) (os : OsState) : Option SharedT := topRunT treeTable pr w 11 (some (Value.ref 6)) 7200 (bootS w os) (topStub pr)
abbrev lo : List Str := [Str.ofString "RECKONINGS"]
noncomputable abbrev xt9 : Shared → Bool := fun s => xlAt hd02.view_1 [] s && recOk (RowW.records PySem.Challenge.rw_xm0628_02.row.toRowW) s
def as9 : List Addr := [2, 3, 15, 17, 18, 20, 21, 22, 24, 25, 27, 28, 29, 31, 32, 34, 35, 36, 38, 39, 41, 42, 43, 45, 46, 48, 49, 50, 52, 53, 55, 56, 57, 59, 60, 62, 63, 71, 72, 74, 75, 77, 78, 79, 81, 82, 84, 85, 86, 88, 89, 91, 92, 93, 94, 95, 96, 97, 100, 107, 109, 110, 112, 113, 114, 115, 116, 117, 120, 127, 129, 130, 132, 133, 134, 135, 136, 137, 140, 142, 143, 145, 146, 147, 149, 150, 152, 153, 154, 156, 157, 159, 160, 161, 163, 164, 166, 167, 168, 170, 171, 173, 174, 175, 177, 178, 180, 181, 182, 184, 185, 187, 188, 189, 191, 192, 194, 195, 196, 198, 199, 201, 202, 203, 205, 206, 208, 209, 210, 212, 213, 215, 216, 217, 219, 220, 222, 223, 224, 226, 227, 229, 230, 231, 233, 234, 236, 237, 238, 240, 241, 243, 244, 245, 247, 248, 250, 251, 252, 254, 255, 257, 258, 259, 262, 263, 264, 267, 268, 269, 271, 272, 274, 275, 276, 278, 279, 281, 282, 283, 285, 286, 288, 289, 290, 292, 293, 295, 296, 297, 299, 300, 302, 303, 304, 306, 307, 309, 310, 311, 313, 314, 316, 317, 318, 320, 321, 323, 324, 325, 327, 328, 330, 331, 332, 334, 335, 337, 338, 339, 341, 342, 344, 345, 346, 348, 349, 351, 352, 353, 355, 356, 358, 359, 360, 363, 364, 365, 367, 368, 370, 371, 372, 374, 375, 377, 378, 379, 381, 382, 384, 385, 386, 387, 389, 390, 392, 393, 394, 396, 397, 399, 400, 408, 410, 411, 413, 414, 415, 416, 417, 418, 419, 429, 431, 432, 434, 435, 436, 438, 439, 441, 442, 443, 445, 446, 448, 449, 450, 452, 453, 455, 456, 457, 459, 460, 462, 463, 464, 466, 467, 469, 470, 471, 473, 474, 476, 477, 478, 480, 481, 483, 484, 485, 487, 488, 490, 491, 492, 494, 495, 497, 498, 499, 501, 502, 504, 505, 506, 507, 508, 509, 510, 513, 515, 516, 518, 519, 520, 522, 523, 525, 526, 527, 529, 530, 532, 533, 534, 536, 537, 539, 540, 541, 544, 545, 546, 548, 549, 551, 552, 553, 556, 557]
theorem ek9 : ∀ P, as9 = (hd02.heap_1 P).map (·.1) := fun _ => by kernel_rfl
theorem run91 (w : World) (os : OsState) : (runS w os).map (fun s => (staticsOk (importedModules pr.main.body) (boot_heap w.params) s.abs.heap && namesBound pr s.abs.heap && gensDone s.abs && laidKept (boot_heap w.params) s.abs.heap,
    seen ((recsOf hd02.view_1).map (·.name)) (ownsOf hd02.view_1) [] { s.abs with gens := #[] }, s.abs.heap.bltView, as9.map (getT s), [521].map (getT s))) = some (true, expectedOf hd02.view_1, bltViewBooted, (hd02.heap_1 w.params).map (fun p => some p.2), [521].map fun _ => some (tabObj #[])) := by kernel_rfl
theorem run92 (w : World) (os : OsState) : (runS w os).map (fun s => s.abs.heap.keysOk (looseW hd02.view_1 lo) ((recsOf hd02.view_1).map (·.name)) ((litsOf hd02.view_1).map (·.1)) ((clssOf hd02.view_1 (looseW hd02.view_1 lo)).map (·.name))) = some true := by kernel_rfl
theorem run93 (w : World) (os : OsState) : (runS w os).map (fun s => (s.abs.heap.accountedOkI (importedModules pr.main.body) && s.abs.heap.isNs mainGlobals && s.abs.heap.isNs builtinsNs && tablesOk hd02.view_1 s.abs.heap && xt9 s.abs && (s.abs.gens.size == 0), tabsOk hd02.view_1 s.abs)) = some (true, true) := by kernel_rfl
theorem run94 (w : World) (os : OsState) : (runS w os).map (fun s => (pinSeenD hd02.view_1 (drecsOf hd02.view_1) s.abs, plainSeenE hd02.view_1 (looseW hd02.view_1 lo) s.abs)) = some (pinGoodD (drecsOf hd02.view_1), plainGoodE hd02.view_1 (looseW hd02.view_1 lo)) := by kernel_rfl
theorem run95 (w : World) (os : OsState) : (runS w os).map (fun s => (plainSeenD hd02.view_1 lo s.abs, wideSeen hd02.view_1 s.abs, clsSeenW hd02.view_1 lo s.abs)) = some (plainGoodD hd02.view_1 lo, wideGood hd02.view_1, clsGoodW hd02.view_1 lo) := by kernel_rfl
theorem size9 (w : World) : ((boot_heap w.params).isNs mainGlobals, (boot_heap w.params).objs.size, (boot_heap w.params).nsMap mainGlobals "__annotations__") = (true, 11, some (Value.ref 6)) := by kernel_rfl
noncomputable abbrev hk9 : Hook := kmHook hd02.heap_1 as9 ek9 [521]
theorem left9 : LeftO pr hd02.view_1 lo xt9 hk9.obs hk9.val 7200 :=
  left_tree (by kernel_rfl) (by decide +kernel) (fun _ => by rfl) size9 run91 run92 run93 run94 run95

theorem offTop : True := by
  w_top off
  trivial
end Mine
open PySem.Spec PySem.Calls Mine
set_option maxHeartbeats 20000000
namespace Mine
/-! the plain law of 01: rings of a permutation, moves, what they bring about -/
section
end
section
end

def stepR {α : Type} (d : α) (vs : List α) (p : Nat × Nat) : List α := vs.set p.1 (vs.getD p.2 d)
def execR {α : Type} (d : α) (mv : List (Nat × Nat)) (vs : List α) : List α := mv.foldl (stepR d) vs
theorem stepR_length {α : Type} {d : α} {vs : List α} {p : Nat × Nat} : (stepR d vs p).length = vs.length := by simp [stepR]
theorem execR_length {α : Type} {d : α} : ∀ {mv : List (Nat × Nat)} {vs : List α}, (execR d mv vs).length = vs.length
  | [], _ => rfl
  | p :: mv, vs => by show (execR d mv (stepR d vs p)).length = _; rw [execR_length, stepR_length]
theorem execR_append {α : Type} {d : α} {a b : List (Nat × Nat)} {vs : List α} : execR d (a ++ b) vs = execR d b (execR d a vs) := List.foldl_append
theorem getD_set {α : Type} {d v : α} {vs : List α} {i j : Nat} (hi : i < vs.length) : (vs.set i v).getD j d = if j = i then v else vs.getD j d := by
  rw [List.getD_eq_getElem?_getD, List.getD_eq_getElem?_getD, List.getElem?_set]
  by_cases h : i = j
  · subst h; simp [hi]
  · rw [if_neg h, if_neg (Ne.symm h)]
section
end
abbrev Led := List (Addr × Obj)
/-- no entry of the ledger lies at d -/
def Off (d : Addr) (l : Led) : Prop := ∀ q ∈ l, q.1 ≠ d
theorem Off.nil {d : Addr} : Off d [] := fun _ h => nomatch h
theorem Off.cons {d : Addr} {p : Addr × Obj} {l : Led} (h : p.1 ≠ d) (k : Off d l) : Off d (p :: l) := fun q hq => by
  rcases List.mem_cons.mp hq with rfl | hq
  · exact h
  · exact k q hq
theorem Off.append {d : Addr} {l r : Led} (h : Off d l) (k : Off d r) : Off d (l ++ r) := fun q hq => (List.mem_append.mp hq).elim (h q) (k q)
theorem Off.sub {d : Addr} {l r : Led} (h : Off d l) (k : ∀ p ∈ r, p ∈ l) : Off d r := fun q hq => h q (k q hq)
theorem Off.of1 {d : Addr} : ∀ {l : Led}, LCg.Off1 d l → Off d l
  | [], _ => .nil
  | _ :: _, h => .cons h.1 (Off.of1 h.2)
theorem Off.ofLt {d : Addr} {l : Led} (h : AllLt d l) : Off d l := fun q hq => Nat.ne_of_lt (ktn_ltOf h q hq)
theorem off_cons {d : Addr} {p : Addr × Obj} {l : Led} : Off d (p :: l) ↔ p.1 ≠ d ∧ Off d l :=
  ⟨fun h => ⟨h p (.head _), fun q hq => h q (.tail _ hq)⟩, fun h => .cons h.1 h.2⟩
theorem off_append {d : Addr} {l r : Led} : Off d (l ++ r) ↔ Off d l ∧ Off d r :=
  ⟨fun h => ⟨fun q hq => h q (List.mem_append_left _ hq), fun q hq => h q (List.mem_append_right _ hq)⟩, fun h => .append h.1 h.2⟩
theorem byc {G : Prop} (h : ¬ G → False) : G := Classical.byContradiction h
theorem elim_4 {a b c d C : Prop} (h : a ∧ b ∧ c ∧ d) (k : a → b → c → d → C) : C := k h.1 h.2.1 h.2.2.1 h.2.2.2
theorem elim_8 {a b c d e f g r C : Prop} (h : a ∧ b ∧ c ∧ d ∧ e ∧ f ∧ g ∧ r) (k : a → b → c → d → e → f → g → r → C) : C := k h.1 h.2.1 h.2.2.1 h.2.2.2.1 h.2.2.2.2.1 h.2.2.2.2.2.1 h.2.2.2.2.2.2.1 h.2.2.2.2.2.2.2
theorem sub_nil {L : Led} : ∀ p ∈ ([] : Led), p ∈ L := fun _ h => nomatch h
theorem sub_cons {a : Addr × Obj} {l L : Led} (h : a ∈ L) (k : ∀ p ∈ l, p ∈ L) : ∀ p ∈ a :: l, p ∈ L := fun p hp => (List.mem_cons.mp hp).elim (fun e => e ▸ h) (k p)
theorem sub_append {l r L : Led} (h : ∀ p ∈ l, p ∈ L) (k : ∀ p ∈ r, p ∈ L) : ∀ p ∈ l ++ r, p ∈ L := fun p hp => (List.mem_append.mp hp).elim (h p) (k p)
theorem mem_c {a : Addr × Obj} {l : Led} : a ∈ a :: l := .head _
theorem mem_2 {a b : Addr × Obj} {l : Led} : a ∈ b :: a :: l := .tail _ (.head _)
theorem mem_3 {a b c : Addr × Obj} {l : Led} : a ∈ b :: c :: a :: l := .tail _ (.tail _ (.head _))
theorem mem_4 {a b c d : Addr × Obj} {l : Led} : a ∈ b :: c :: d :: a :: l := .tail _ (.tail _ (.tail _ (.head _)))
theorem skip_4 {p a b c d : Addr × Obj} {l : Led} (h : p ∈ l) : p ∈ a :: b :: c :: d :: l := .tail _ (.tail _ (.tail _ (.tail _ h)))
theorem skip_1 {p a : Addr × Obj} {l : Led} (h : p ∈ l) : p ∈ a :: l := .tail _ h
theorem offs_nil {R : Led} : ∀ p ∈ ([] : Led), Off p.1 R := fun _ h => nomatch h
theorem offs_cons {a : Addr} {o : Obj} {l R : Led} (h : Off a R) (k : ∀ p ∈ l, Off p.1 R) : ∀ p ∈ (a, o) :: l, Off p.1 R := fun p hp => (List.mem_cons.mp hp).elim (fun e => e ▸ h) (k p)
theorem off_c {a b : Addr} {o : Obj} {l : Led} (h : b ≠ a) (k : Off a l) : Off a ((b, o) :: l) := .cons h k

/-- `news` is `pre` and `rest`, in any order -/
inductive Pick (e : Addr × Obj) : Led → Led → Prop
  | head {r : Led} : Pick e (e :: r) r
  | tail {x : Addr × Obj} {r r' : Led} : Pick e r r' → Pick e (x :: r) (x :: r')
inductive Picks : Led → Led → Led → Prop
  | nil {r : Led} : Picks [] r r
  | cons {e : Addr × Obj} {pre news r rest : Led} : Pick e news r → Picks pre r rest → Picks (e :: pre) news rest
theorem Pick.sub {e : Addr × Obj} {l r : Led} (h : Pick e l r) : ∀ p ∈ e :: r, p ∈ l := by
  induction h with
  | head => exact fun _ h => h
  | tail _ ih =>
    intro p hp
    rcases List.mem_cons.mp hp with rfl | hp
    · exact .tail _ (ih _ (.head _))
    · rcases List.mem_cons.mp hp with rfl | hp
      · exact .head _
      · exact .tail _ (ih _ (.tail _ hp))
theorem Picks.sub {pre news rest : Led} (h : Picks pre news rest) : ∀ p ∈ pre ++ rest, p ∈ news := by
  induction h with
  | nil => exact fun _ h => h
  | cons h _ ih =>
    intro p hp
    rcases List.mem_cons.mp hp with rfl | hp
    · exact h.sub _ (.head _)
    · exact h.sub _ (.tail _ (ih p hp))

/-- a contract: `pre` is what the call needs of the ledger (it may change it to chg), `new` what it makes, `rest` stays -/
def CSpec (prog : Program) (w : World) (K : Frag) (p : Program) (loose : List Str) (mean : ExcName → Option Value) (mg mb : Str → Option Value) (f : Addr) (nd : Nat)
    (vs : List Value) (pre : Led) (post : Value → Led → Led → Prop) : Prop :=
  ∀ (dp un : Nat) (gd : Option (List Code)) (cn : Str) (cs : Scope) (a : Addr) (ccd : Value) (cl : List (Str × Addr)) (outer : List Env) (A₀ : Around) (base h₀ : Heap) (L : Addr) (m : Str → Option Value) (rest : Led) (s : Shared)
    (Q E : Value → Shared → Prop),
    Below A₀ base outer h₀ → Fr h₀ L s.heap m → K.In h₀ → News h₀ L s.heap (pre ++ rest) → (∀ p ∈ pre, Off p.1 rest) → Top p loose mean mg mb h₀ → cs.kind = .function → dp + nd < recursionLimit → un + 8 * nd < cLine →
    (∀ r chg new h' tk', Fr h₀ L h' m → News h₀ L h' (chg ++ (new ++ rest)) → (∀ p ∈ new, Off p.1 (pre ++ rest)) → post r chg new → Q r { s with heap := h', toks := tk' }) →
    wpAny (model prog w) (ktrTop dp un gd cn cs L a ccd cl outer) (call (.ref f) vs) Q E s

section
variable {prog : Program} {w : World} {K : Frag} {p : Program} {loose : List Str} {mean : ExcName → Option Value} {mg mb : Str → Option Value} {f : Addr} {nd : Nat} {vs : List Value} {pre rest news : Led} {post : Value → Led → Led → Prop}
theorem CSpec.use {dp un : Nat} {gd : Option (List Code)} {cn : Str} {cs : Scope} {a : Addr} {ccd : Value} {cl : List (Str × Addr)} {outer : List Env} {A₀ : Around} {base h₀ : Heap} {L : Addr} {m : Str → Option Value} {s : Shared}
    {Q E : Value → Shared → Prop} (B : Below A₀ base outer h₀) (F : Fr h₀ L s.heap m) (X : K.In h₀) (N : News h₀ L s.heap news) (T : Top p loose mean mg mb h₀) (P : Picks pre news rest) (C : CSpec prog w K p loose mean mg mb f nd vs pre post) (hk : cs.kind = .function)
    (ho : ∀ p ∈ pre, Off p.1 rest) (hd : dp + nd < recursionLimit) (hu : un + 8 * nd < cLine)
    (ret : ∀ r chg new h' tk', Fr h₀ L h' m → News h₀ L h' (chg ++ (new ++ rest)) → (∀ p ∈ new, Off p.1 (pre ++ rest)) → post r chg new → Q r { s with heap := h', toks := tk' }) :
    wpAny (model prog w) (ktrTop dp un gd cn cs L a ccd cl outer) (call (.ref f) vs) Q E s :=
  C _ _ _ _ _ _ _ _ _ _ _ _ _ _ _ _ _ _ B F X (fun p hp => N p (P.sub p hp)) ho T hk hd hu ret
end

theorem ints_snoc {vs : List Value} {ns : List Int} (h : IntsAre vs ns) {x : Int} {u : Tok} : IntsAre (vs ++ [.int x u]) (ns ++ [x]) := by
  induction h with
  | nil => exact .cons x u .nil
  | cons n t _ ih => exact .cons n t ih
/-- a name that the frame is known to hold -/
theorem fr_known {h₀ h : Heap} {L : Addr} {m : Str → Option Value} {x : Str} {v : Value} (F : Fr h₀ L h m) (e : m x = some v) : Fr h₀ L h (fun y => if y = x then some v else m y) := by
  have : (fun y => if y = x then some v else m y) = m := by
    funext y
    by_cases h : y = x
    · subst h; rw [if_pos rfl, e]
    · rw [if_neg h]
  rw [this]; exact F

section
variable {prog : Program} {w : World} {A : Around} {E : Value → Shared → Prop} {s : Shared} {h₀ : Heap} {L D : Addr} {m : Str → Option Value} {news news' : Led} {vs : List Value} {ms : List Int} {n : Nat} {k x y : Int} {t u : Tok}
end

section
variable {prog : Program} {w : World} {A : Around} {E : Value → Shared → Prop} {s : Shared} {env : Env} {h₀ : Heap} {x : Str} {body : List Stmt} {Q : Flow → Shared → Prop}
/-- a loop over a range by ones, by an invariant -/
theorem loop_range {r : Addr} {a₀ b₀ : Int} {t₀ u₀ v₀ : Tok} {n : Nat} {m₀ : Str → Option Value} {news nx₀ : Led} (J : Nat → (Str → Option Value) → Led → Prop)
    (hh : A.handled = none) (hr : IsRange s.heap r a₀ b₀ 1 t₀ u₀ v₀) (hsmall : Builtin.Range.small a₀ b₀ 1 = true) (hsz : Builtin.Range.rangeSize a₀ b₀ 1 = (n : Int)) (F : Fr h₀ env.locals s.heap m₀) (N : News h₀ env.locals s.heap news)
    (hn : ∀ p ∈ nx₀, p ∈ news) (hj : J 0 m₀ nx₀)
    (turn : ∀ i m₁ nx h tk own t, i < n → OwnOff own (nx.map (·.1)) → J i m₁ nx → Fr h₀ env.locals h (fun y => if y = x then some (.int (a₀ + (i : Int)) t) else m₁ y) → News h₀ env.locals h (nx ++ own) →
      wpAny (model prog w) A (execs body env) (InvPostG h₀ env.locals (J (i + 1)) own { s with heap := h, toks := tk } Q) E { s with heap := h, toks := tk })
    (done : ∀ m₁ nx h tk, J n m₁ nx → Fr h₀ env.locals h m₁ → News h₀ env.locals h nx → Q .next { s with heap := h, toks := tk }) :
    wpAny (model prog w) A (pyIter (.ref r)) (fun it s₂ => LoopAtV prog w A h₀ env x body Q E it s₂) E s := by
  refine wpAny_pyIter_range hr hsmall ?_
  have W : Walks prog w A s.heap.objs.size [s.heap.objs.size] [s.heap.objs.size] n (fun i v => i < n ∧ ∃ t, v = .int (a₀ + i * 1) t)
      (fun i h => IsRangeIter h s.heap.objs.size (a₀ + (i : Nat) * 1) ((n : Int) - (i : Nat)) 1) := (Walks.range hh _ a₀ 1 n).bound
  refine kdr_loop (news := nx₀) J W (fun _ h => h) (fun _ h => h) ?_ ?_ ?_ ?_ (by show IsRangeIter _ _ _ _ _; rw [hsz]; simpa using Heap.get?_push_size _ rfl) (F.push _) (fun p hp => ⟨Heap.get?_push_of_some _ (N p (hn p hp)).1, (N p (hn p hp)).2⟩) hj ?_ done
  · intro i h hi b hb
    rw [List.mem_singleton.mp hb]
    exact ⟨_, hi⟩
  · intro hm
    exact absurd F.ns.lt ((List.mem_singleton.mp hm) ▸ Nat.lt_irrefl _)
  · intro b hb
    rw [List.mem_singleton.mp hb]
    exact next_is_new F
  · intro p hp hI
    exact absurd (Heap.lt_size (N p (hn p hp)).1) ((List.mem_singleton.mp hI) ▸ Nat.lt_irrefl _)
  · rintro i v m₁ nx h tk own hi ⟨_, t, rfl⟩ hoff hJ F₁ N₁
    have e1 : a₀ + (i : Int) * 1 = a₀ + (i : Int) := by omega
    rw [e1] at F₁
    exact turn i m₁ nx h tk own t hi hoff hJ F₁ N₁
end

/-- the walk stops here -/
structure Stop (P : Prop) : Prop where
  go : P
theorem of_stop {P : Prop} (h : Stop P) : P := h.go

section
variable {prog : Program} {w : World} {A : Around} {E : Value → Shared → Prop} {s : Shared} {h₀ : Heap} {L D : Addr} {m : Str → Option Value} {news news' : Led} {vs : List Value} {ns : List Int} {n : Nat} {k : Int} {t : Tok}
end

abbrev nz (l : List Nat) : List Int := l.map fun x : Nat => (x : Int)
inductive ListsAre (led : Led) : List Value → List (List Nat) → Prop
  | nil : ListsAre led [] []
  | cons {d : Addr} {ivs : List Value} {k : Nat} {r : List Nat} {vs : List Value} {rs : List (List Nat)} : (d, listOf ivs.toArray k) ∈ led → IntsAre ivs (nz r) → ListsAre led vs rs → ListsAre led (.ref d :: vs) (r :: rs)
theorem ListsAre.mono {led led' : Led} {vs : List Value} {rs : List (List Nat)} (h : ListsAre led vs rs) (hs : ∀ p ∈ led, p ∈ led') : ListsAre led' vs rs := by
  induction h with
  | nil => exact .nil
  | cons a b _ ih => exact .cons (hs _ a) b ih
theorem ListsAre.snoc {led : Led} {vs : List Value} {rs : List (List Nat)} (h : ListsAre led vs rs) {d : Addr} {ivs : List Value} {k : Nat} {r : List Nat} (a : (d, listOf ivs.toArray k) ∈ led) (b : IntsAre ivs (nz r)) : ListsAre led (vs ++ [.ref d]) (rs ++ [r]) := by
  induction h with
  | nil => exact .cons a b .nil
  | cons x y _ ih => exact .cons x y ih
theorem ListsAre.length {led : Led} {vs : List Value} {rs : List (List Nat)} (h : ListsAre led vs rs) : vs.length = rs.length := by
  induction h with
  | nil => rfl
  | cons _ _ _ ih => rw [List.length_cons, List.length_cons, ih]
theorem ListsAre.get {led : Led} {vs : List Value} {rs : List (List Nat)} (h : ListsAre led vs rs) {i : Nat} {v : Value} (e : vs[i]? = some v) : ∃ d ivs k r, rs[i]? = some r ∧ v = .ref d ∧ (d, listOf (List.toArray ivs) k) ∈ led ∧ IntsAre ivs (nz r) := by
  induction h generalizing i with
  | nil => cases e
  | cons a b _ ih =>
    cases i with
    | zero => cases e; exact ⟨_, _, _, _, rfl, rfl, a, b⟩
    | succ i => exact ih e
theorem nz_length {l : List Nat} : (nz l).length = l.length := List.length_map _
theorem nz_getD {l : List Nat} {i : Nat} : (nz l).getD i 0 = ((l.getD i 0 : Nat) : Int) := by
  rw [List.getD_eq_getElem?_getD, List.getD_eq_getElem?_getD, List.getElem?_map]
  cases l[i]? <;> rfl
theorem nz_append {a b : List Nat} : nz (a ++ b) = nz a ++ nz b := List.map_append
section
variable {prog : Program} {w : World} {A : Around} {E : Value → Shared → Prop} {s : Shared} {h₀ : Heap} {L D : Addr} {news : Led} {vs : List Value} {gl : List Nat} {n x : Nat} {t : Tok}
end
section
variable {prog : Program} {w : World} {A : Around} {E : Value → Shared → Prop} {s : Shared} {env : Env} {h₀ : Heap} {x : Str} {body : List Stmt} {Q : Flow → Shared → Prop}
/-- from nought on -/
theorem loop_range0 {r : Addr} {b₀ : Int} {t₀ u₀ v₀ : Tok} {n : Nat} {m₀ : Str → Option Value} {news nx₀ : Led} (J : Nat → (Str → Option Value) → Led → Prop)
    (hh : A.handled = none) (hr : IsRange s.heap r 0 b₀ 1 t₀ u₀ v₀) (hb : b₀ = (n : Int)) (hz : n ≤ 1000000) (F : Fr h₀ env.locals s.heap m₀) (N : News h₀ env.locals s.heap news)
    (hn : ∀ p ∈ nx₀, p ∈ news) (hj : J 0 m₀ nx₀)
    (turn : ∀ i m₁ nx h tk own t, i < n → OwnOff own (nx.map (·.1)) → J i m₁ nx → Fr h₀ env.locals h (fun y => if y = x then some (.int (i : Int) t) else m₁ y) → News h₀ env.locals h (nx ++ own) →
      wpAny (model prog w) A (execs body env) (InvPostG h₀ env.locals (J (i + 1)) own { s with heap := h, toks := tk } Q) E { s with heap := h, toks := tk })
    (done : ∀ m₁ nx h tk, J n m₁ nx → Fr h₀ env.locals h m₁ → News h₀ env.locals h nx → Q .next { s with heap := h, toks := tk }) :
    wpAny (model prog w) A (pyIter (.ref r)) (fun it s₂ => LoopAtV prog w A h₀ env x body Q E it s₂) E s := by
  subst hb
  refine loop_range (n := n) J hh hr ?_ ?_ F N hn hj (fun i m₁ nx h tk own t hi ho hJ F₁ N₁ => turn i m₁ nx h tk own t hi ho hJ (by rw [Int.zero_add] at F₁; exact F₁) N₁) done
  · have e : Builtin.Range.rangeSize 0 (n : Int) 1 = (n : Int) := by
      unfold Builtin.Range.rangeSize
      by_cases h : n = 0
      · subst h; rfl
      · rw [if_pos (by decide), if_pos (by omega)]; omega
    have f : Builtin.Range.rangeFitsLong (n : Int) = true := by
      unfold Builtin.Range.rangeFitsLong
      simp only [Bool.and_eq_true, decide_eq_true_eq]; omega
    have f1 : Builtin.Range.rangeFitsLong 1 = true := by decide
    have f0 : Builtin.Range.rangeFitsLong 0 = true := by decide
    have g : (n : Int) + (1 - 1) = n := by omega
    unfold Builtin.Range.small
    rw [e, f, f1, f0, g, f]
    simp
  · unfold Builtin.Range.rangeSize
    by_cases h : n = 0
    · subst h; rfl
    · rw [if_pos (by decide), if_pos (by omega)]; omega
end

theorem own_off {own nx : Led} {d : Addr} {o : Obj} (h : OwnOff own (nx.map (·.1))) (hm : (d, o) ∈ nx) : Off d own := fun q hq => h q hq d (List.mem_map.mpr ⟨_, hm, rfl⟩)
theorem own_of {own nx : Led} (h : ∀ p ∈ nx, Off p.1 own) : OwnOff own (nx.map (·.1)) := fun q hq b hb => by
  obtain ⟨p, hp, rfl⟩ := List.mem_map.mp hb
  exact h p hp q hq

theorem allLt_left {d : Addr} : ∀ {l r : Led}, AllLt d (l ++ r) → AllLt d l
  | [], _, _ => trivial
  | _ :: _, _, h => ⟨h.1, allLt_left h.2⟩
theorem allLt_right {d : Addr} : ∀ {l r : Led}, AllLt d (l ++ r) → AllLt d r
  | [], _, h => h
  | _ :: l, _, h => allLt_right (l := l) h.2

def cnt (a b n : Nat) : Nat := if b == a then n else n + 1
section
variable {prog : Program} {w : World} {A : Around} {E : Value → Shared → Prop} {s : Shared} {h₀ : Heap} {L D b : Addr} {m : Str → Option Value} {news news' : Led} {vs ws : List Value} {n n2 : Nat}
theorem ext_any {Q : Value → Shared → Prop} (F : Fr h₀ L s.heap m) (N : News h₀ L s.heap news) (hb : (b, listOf ws.toArray n2) ∈ news) (U : Upd D (listOf vs.toArray n) (listOf (vs ++ ws).toArray (cnt vs.length (vs ++ ws).length n)) news news') (hz : vs.length + ws.length ≤ 1000000)
    (h : ∀ h', Fr h₀ L h' m → News h₀ L h' news' → Q .none { s with heap := h' }) : wpAny (model prog w) A (call (.builtin "list.extend") [.ref D, .ref b]) Q E s := by
  obtain ⟨pre, post, rfl, rfl, a, c⟩ := U.split
  have z := N (D, listOf vs.toArray n) (List.mem_append.mpr (.inr (.head _)))
  have hz' : vs.toArray.size + ws.toArray.size ≤ sizeLine := by rw [List.size_toArray, List.size_toArray, sizeLine_eq]; omega
  refine call_meets PySem.F.slot_list_extend ⟨_, z.1, rfl⟩ PySem.F.entry_list_extend (PySem.F.args_list_extend_2 _ _)
    (AutoSeq1.list_extend_list_list_0 D vs.toArray n b ws.toArray n2 (extend_door hz') (Nat.le_trans (Nat.le_add_right _ _) hz')) ⟨z.1, (N _ hb).1, h _ (F.change (Heap.SameBut.update ..) z.2.1 z.2.2) (ki_turn (fun x => x ++ ws.toArray) N a c ?_ ?_)⟩
  · simp
  · unfold cnt; simp
end

theorem nz_at {l : List Nat} {i : Nat} : (nz l).getD (i : Int).toNat 0 = ((l.getD i 0 : Nat) : Int) := by rw [Int.toNat_natCast, nz_getD]

section
variable {prog : Program} {w : World} {A : Around} {E : Value → Shared → Prop} {s : Shared} {h₀ : Heap} {L a b : Addr} {m : Str → Option Value} {news : Led} {vs ws : List Value} {ns ms : List Int} {n1 n2 : Nat}
theorem add_ints {Q : Value → Shared → Prop} (F : Fr h₀ L s.heap m) (N : News h₀ L s.heap news) (ha : (a, listOf vs.toArray n1) ∈ news) (hb : (b, listOf ws.toArray n2) ∈ news) (hi : IntsAre vs ns) (hj : IntsAre ws ms) (hz : ns.length + ms.length ≤ 1000000)
    (h : ∀ D us ns' h', Fr h₀ L h' m → News h₀ L h' ((D, listOf (List.toArray us) 0) :: news) → (∀ p ∈ news, p.1 < D) → IntsAre us ns' → ns' = ns ++ ms → ns'.length = ns.length + ms.length → us.length = ns'.length → Q (.ref D) { s with heap := h' }) :
    wpAny (model prog w) A (binaryOp .Add (.ref a) (.ref b)) Q E s :=
  add_lists_ints (hsz := by rw [sizeLine_eq]; omega) F N (PySem.IsL.isList (n := n1) (N _ ha).1) (PySem.IsL.isList (n := n2) (N _ hb).1) hi hj fun h' F' N' hI => h _ _ _ h' F' N' (fun p hp => Heap.lt_size (N p hp).1) hI rfl List.length_append hI.length
end

section
variable {prog : Program} {w : World} {A : Around} {E : Value → Shared → Prop} {s : Shared} {h₀ : Heap} {L a : Addr} {news : Led} {vs : List Value} {n k : Nat}
theorem len_any {Q : Value → Shared → Prop} (N : News h₀ L s.heap news) (hm : (a, listOf vs.toArray n) ∈ news) (e : vs.length = k) (hz : k ≤ 1000000) (h : ∀ t tk, Q (.int (k : Int) t) { s with toks := tk }) :
    wpAny (model prog w) A (call (.builtin "len") [.ref a]) Q E s := kst_len N hm e (by omega) (h _ _)
end

section
variable {prog : Program} {w : World} {A : Around} {E : Value → Shared → Prop} {s : Shared} {h₀ : Heap} {L a b : Addr} {m : Str → Option Value} {news : Led} {vs ws : List Value} {n1 n2 : Nat}
theorem add_any {Q : Value → Shared → Prop} (F : Fr h₀ L s.heap m) (N : News h₀ L s.heap news) (ha : (a, listOf vs.toArray n1) ∈ news) (hb : (b, listOf ws.toArray n2) ∈ news) (hz : vs.length + ws.length ≤ 1000000)
    (h : ∀ D us h', Fr h₀ L h' m → News h₀ L h' ((D, listOf (List.toArray us) 0) :: news) → (∀ p ∈ news, p.1 < D) → us = vs ++ ws → us.length = vs.length + ws.length → Q (.ref D) { s with heap := h' }) :
    wpAny (model prog w) A (binaryOp .Add (.ref a) (.ref b)) Q E s :=
  add_lists (hsz := by rw [sizeLine_eq]; omega) F N (PySem.IsL.isList (n := n1) (N _ ha).1) (PySem.IsL.isList (n := n2) (N _ hb).1) fun h' F' N' => h _ _ h' F' N' (fun p hp => Heap.lt_size (N p hp).1) rfl List.length_append
theorem item_any {value slice : PySem.Expr} {k : Int} {u : Tok} {Q : Value → Shared → Prop} (N : News h₀ L s.heap news) (hm : (a, listOf vs.toArray n1) ∈ news) (h0 : 0 ≤ k) (h1 : k < vs.length) (hz : vs.length ≤ 1000000) (h : Q (vs.getD k.toNat .none) s)
    (hs : subscripted slice false (.ref a) (.int k u) = operate [.ref a, .int k u] (getItem (.ref a) (.int k u)) := by with_unfolding_all rfl) (hg : ∀ r, letTemporaryGo value (.ref a) r = pure () := by intro _; with_unfolding_all rfl) :
    wpAny (model prog w) A (subscriptTail value slice (.ref a) (.int k u)) Q E s :=
  kim_list N hm rfl rfl h0 (by omega) (by rw [List.getD_eq_getElem?_getD, List.getElem?_eq_getElem (by omega)]; rfl) h hs hg
theorem slice_head {value slice : PySem.Expr} {x y : Int} {t1 t2 : Tok} {Q : Value → Shared → Prop} (F : Fr h₀ L s.heap m) (N : News h₀ L s.heap news) (hm : (a, listOf vs.toArray n1) ∈ news) (hx : x = 0) (h0 : 0 ≤ y) (hz : vs.length ≤ 1000000)
    (h : ∀ D h', Fr h₀ L h' m → News h₀ L h' ((D, listOf (vs.take y.toNat).toArray 0) :: news) → (∀ p ∈ news, p.1 < D) → Q (.ref D) { s with heap := h' })
    (hs : subscripted slice false (.ref a) (.ref s.heap.objs.size) = operate [.ref s.heap.objs.size, .ref a] (getItem (.ref a) (.ref s.heap.objs.size))) (ht : ∀ r, letTemporaryGo value (.ref a) r = pure ()) :
    wpAny (model prog w) A (subscriptTail value slice (.ref a) (.ref s.heap.objs.size)) Q E { s with heap := s.heap.push { cls := .type "slice", data := .fields #[.int x t1, .int y t2, .none] } } := by
  subst hx
  refine kms_slice_lit F N (PySem.IsL.isList (n := n1) (N _ hm).1) (IsPart.int _ _) (IsPart.int _ _) ?_ h hs ht (by rw [sizeLine_eq, List.size_toArray]; omega)
  show (vs.drop (kms_lo (some 0) vs.length)).take (kms_hi (some y) vs.length - kms_lo (some 0) vs.length) = vs.take y.toNat
  have e1 : kms_lo (some 0) vs.length = 0 := by simp [kms_lo]
  have e2 : kms_hi (some y) vs.length = min y.toNat vs.length := by
    show (if y < 0 then vs.length - (-y).toNat else min y.toNat vs.length) = _
    exact if_neg (by omega)
  rw [e1, e2, List.drop_zero, Nat.sub_zero, ← List.take_eq_take_min]
theorem set_any {D : Addr} {n : Nat} {news' : Led} {k : Int} {t : Tok} {v : Value} {Q : Unit → Shared → Prop} (F : Fr h₀ L s.heap m) (N : News h₀ L s.heap news) (U : Upd D (listOf vs.toArray n) (listOf (vs.set k.toNat v).toArray n) news news') (h0 : 0 ≤ k) (h1 : k < vs.length) (hz : vs.length ≤ 1000000)
    (h : ∀ h', Fr h₀ L h' m → News h₀ L h' news' → Q () { s with heap := h' }) :
    wpAny (model prog w) A (setItem (.ref D) (.int k t) v) Q E s := by
  obtain ⟨pre, post, rfl, rfl, a, b⟩ := U.split
  have z := N (D, listOf vs.toArray n) (List.mem_append.mpr (.inr (.head _)))
  refine ki_setAt z.1 h0 (by omega) (by rw [List.size_toArray]; omega) (h _ (F.change (Heap.SameBut.update ..) z.2.1 z.2.2) (ki_turn _ N a b ?_ ?_))
  · show vs.toArray.setIfInBounds k.toNat v = (vs.set k.toNat v).toArray
    apply Array.toList_inj.mp
    simp
  · simp
theorem mul_one' {v : Value} {x : Int} {u : Tok} {Q : Value → Shared → Prop} (F : Fr h₀ L s.heap m) (N : News h₀ L s.heap news) (ha : (a, listOf #[v] n1) ∈ news) (hlo : -(2 ^ 63 : Int) ≤ x) (hhi : x < 2 ^ 63) (hsz : x.toNat ≤ 256)
    (h : ∀ D h', Fr h₀ L h' m → News h₀ L h' ((D, listOf (List.replicate x.toNat v).toArray 0) :: news) → (∀ p ∈ news, p.1 < D) → Q (.ref D) { s with heap := h' }) :
    wpAny (model prog w) A (binaryOp .Mult (.ref a) (.int x u)) Q E s :=
  KMa.mul (vs := [v]) F N (PySem.IsL.isList (n := n1) (N _ ha).1) hlo hhi (by rw [List.length_singleton, Nat.one_mul]; exact hsz) (by induction x.toNat with | zero => rfl | succ k ih => rw [List.replicate_succ, List.flatten_cons, ih, List.replicate_succ]; rfl) h
end

theorem CSpec.use0 {prog : Program} {w : World} {K : Frag} {p : Program} {loose : List Str} {mean : ExcName → Option Value} {mg mb : Str → Option Value} {f : Addr} {nd : Nat} {vs : List Value} {news : Led} {dp un : Nat} {gd : Option (List Code)} {cn : Str} {cs : Scope} {a : Addr} {ccd : Value} {cl : List (Str × Addr)} {outer : List Env} {A₀ : Around} {base h₀ : Heap} {L : Addr} {m : Str → Option Value} {s : Shared}
    {Q E : Value → Shared → Prop} {v : Int} (B : Below A₀ base outer h₀) (F : Fr h₀ L s.heap m) (X : K.In h₀) (N : News h₀ L s.heap news) (T : Top p loose mean mg mb h₀)
    (C : CSpec prog w K p loose mean mg mb f nd vs [] (fun r chg new => ∃ u, r = .int v u ∧ chg = [] ∧ new = [])) (hk : cs.kind = .function) (hd : dp + nd < recursionLimit) (hu : un + 8 * nd < cLine)
    (ret : ∀ u h' tk', Fr h₀ L h' m → News h₀ L h' news → Q (.int v u) { s with heap := h', toks := tk' }) :
    wpAny (model prog w) (ktrTop dp un gd cn cs L a ccd cl outer) (call (.ref f) vs) Q E s :=
  CSpec.use (rest := news) B F X N T .nil C hk (fun _ h => nomatch h) hd hu fun r chg new h' tk' F N _ hp => by
    obtain ⟨u, rfl, rfl, rfl⟩ := hp
    exact ret u h' tk' F N

theorem CSpec.use0R {prog : Program} {w : World} {K : Frag} {p : Program} {loose : List Str} {mean : ExcName → Option Value} {mg mb : Str → Option Value} {f : Addr} {nd : Nat} {vs : List Value} {news : Led} {dp un : Nat} {gd : Option (List Code)} {cn : Str} {cs : Scope} {a : Addr} {ccd : Value} {cl : List (Str × Addr)} {outer : List Env} {A₀ : Around} {base h₀ : Heap} {L : Addr} {m : Str → Option Value} {s : Shared}
    {Q E : Value → Shared → Prop} (B : Below A₀ base outer h₀) (F : Fr h₀ L s.heap m) (X : K.In h₀) (N : News h₀ L s.heap news) (T : Top p loose mean mg mb h₀)
    (C : CSpec prog w K p loose mean mg mb f nd vs [] (fun r chg new => ∃ x, r = .ref x ∧ chg = [] ∧ new = [])) (hk : cs.kind = .function) (hd : dp + nd < recursionLimit) (hu : un + 8 * nd < cLine)
    (ret : ∀ x h' tk', Fr h₀ L h' m → News h₀ L h' news → Q (.ref x) { s with heap := h', toks := tk' }) :
    wpAny (model prog w) (ktrTop dp un gd cn cs L a ccd cl outer) (call (.ref f) vs) Q E s :=
  CSpec.use (rest := news) B F X N T .nil C hk (fun _ h => nomatch h) hd hu fun r chg new h' tk' F N _ hp => by
    obtain ⟨u, rfl, rfl, rfl⟩ := hp
    exact ret u h' tk' F N

/-- a table of made codes, whatever stands in it -/
structure TabOk (ps : Array Value) : Prop where
  tr : TriplesOk ps.toList
  co : ∀ pos v, codeAmong pos ps.toList = some v → ∃ c', v = .ref c'
theorem tabOk_nil : TabOk #[] := ⟨trivial, fun _ _ h => nomatch h⟩
theorem codeAmong_put {q : Pos} {l c : Int} {v : Value} : ∀ {ps : List Value}, TriplesOk ps → codeAmong q (ps ++ [rawInt l, rawInt c, v]) = (match codeAmong q ps with | some x => some x | none => if l == q.line && c == q.col then some v else none)
  | [], _ => by simp [codeAmong, rawInt]
  | .int a t :: .int b u :: x :: rest, h => by
    have ih := codeAmong_put (q := q) (l := l) (c := c) (v := v) (ps := rest) h
    show (if a == q.line && b == q.col then some x else codeAmong q (rest ++ [rawInt l, rawInt c, v])) = (match (if a == q.line && b == q.col then some x else codeAmong q rest) with | some x => some x | none => _)
    split
    · rfl
    · exact ih
theorem triples_put {l c : Int} {v : Value} : ∀ {ps : List Value}, TriplesOk ps → TriplesOk (ps ++ [rawInt l, rawInt c, v])
  | [], _ => trivial
  | .int a t :: .int b u :: x :: rest, h => triples_put (ps := rest) h
theorem tabOk_put {ps : Array Value} {l c : Int} {c' : Addr} (h : TabOk ps) : TabOk (ps ++ #[rawInt l, rawInt c, .ref c']) := by
  refine ⟨?_, fun pos v e => ?_⟩
  · rw [Array.toList_append]; exact triples_put h.1
  · rw [Array.toList_append, codeAmong_put h.1] at e
    cases e2 : codeAmong pos ps.toList with
    | some x => rw [e2] at e; cases e; exact h.2 pos _ e2
    | none =>
      rw [e2] at e
      dsimp only at e
      split at e
      · cases e; exact ⟨_, rfl⟩
      · cases e
section
variable {M : Model} {A : Around} {E : Value → Shared → Prop} {s : Shared} {h₀ : Heap} {L a c P : Addr} {m mg mb : Str → Option Value} {cn : Str} {cs : Scope} {ccd : Value} {cl : List (Str × Addr)} {news : Led} {g : Obj → Led}
  {p : Program} {loose : List Str} {mean : ExcName → Option Value} {params : Arguments} {body : Expr} {scope : Scope} {ps : Array Value} {pos : Pos} {clos : List (Str × Addr)}
end
/-- the attributes of a Stepper -/
abbrev sEnts (w : World) (t0 t1 t2 t3 t4 t5 t6 t7 t8 : Tok) (v0 v1 v2 v3 v4 v5 v6 v7 v8 : Value) : List DictEntry :=
  [{ hash := PyData.keyHash w.params (Str.ofString "code"), key := Value.str (Str.ofString "code") t0, val := v0 },
   { hash := PyData.keyHash w.params (Str.ofString "constants"), key := Value.str (Str.ofString "constants") t1, val := v1 },
   { hash := PyData.keyHash w.params (Str.ofString "stack"), key := Value.str (Str.ofString "stack") t2, val := v2 },
   { hash := PyData.keyHash w.params (Str.ofString "room"), key := Value.str (Str.ofString "room") t3, val := v3 },
   { hash := PyData.keyHash w.params (Str.ofString "limits"), key := Value.str (Str.ofString "limits") t4, val := v4 },
   { hash := PyData.keyHash w.params (Str.ofString "works"), key := Value.str (Str.ofString "works") t5, val := v5 },
   { hash := PyData.keyHash w.params (Str.ofString "pc"), key := Value.str (Str.ofString "pc") t6, val := v6 },
   { hash := PyData.keyHash w.params (Str.ofString "top"), key := Value.str (Str.ofString "top") t7, val := v7 },
   { hash := PyData.keyHash w.params (Str.ofString "result"), key := Value.str (Str.ofString "result") t8, val := v8 }]

section
variable {prog : Program} {w : World} {A : Around} {E : Value → Shared → Prop} {s : Shared} {h₀ : Heap} {L D : Addr} {m : Str → Option Value} {news news' : Led} {vs : List Value} {n : Nat}
theorem pop_any {k : Int} {u : Tok} {Q : Value → Shared → Prop} (F : Fr h₀ L s.heap m) (N : News h₀ L s.heap news) (U : Upd D (listOf vs.toArray n) (listOf (vs.eraseIdx k.toNat).toArray (n + 1)) news news') (h0 : 0 ≤ k) (h1 : k < vs.length) (hz : vs.length ≤ 1000000)
    (h : ∀ h', Fr h₀ L h' m → News h₀ L h' news' → Q (vs.getD k.toNat .none) { s with heap := h' }) : wpAny (model prog w) A (call (.builtin "list.pop") [.ref D, .int k u]) Q E s := by
  obtain ⟨pre, post, rfl, rfl, a, b⟩ := U.split
  have z := N (D, listOf vs.toArray n) (List.mem_append.mpr (.inr (.head _)))
  have hk : k.toNat < vs.length := by omega
  have hf : Builtin.List.listFitsIndex k = true := by
    unfold Builtin.List.listFitsIndex
    simp only [Bool.and_eq_true, decide_eq_true_eq]
    omega
  have hs : seqIndex? k vs.toArray.size = some k.toNat := by
    unfold seqIndex?
    simp
    omega
  have hy : vs.toArray[k.toNat]? = some (vs.getD k.toNat .none) := by
    rw [List.getElem?_toArray, List.getD_eq_getElem?_getD, List.getElem?_eq_getElem hk]; rfl
  refine call_meets PySem.F.slot_list_pop ⟨_, z.1, rfl⟩ PySem.F.entry_list_pop (PySem.F.args_list_pop_2 _ _) (PySem.MeetsSeq.list_pop_at D _ n k u _ _ hf hs hy (by rw [sizeLine_eq, List.size_toArray]; omega)) ⟨z.1, h _ (F.change (Heap.SameBut.update ..) z.2.1 z.2.2) (kl_turn _ N a b ?_ ?_)⟩
  · show vs.toArray.eraseIdxIfInBounds k.toNat = _
    unfold Array.eraseIdxIfInBounds
    rw [dif_pos (by rw [List.size_toArray]; exact hk)]
    apply Array.toList_inj.mp
    rw [Array.toList_eraseIdx]
  · rw [List.size_toArray, List.size_toArray, List.length_eraseIdx, if_pos hk]
    omega
end
section
variable {prog : Program} {w : World} {A : Around} {h₀ : Heap} {L : Addr} {m : Str → Option Value} {env : Env} {elt : Expr} {x : Str} {scope : Scope} {cl : List (Str × Addr)} {s : Shared} {S : Led → Prop} {P : Nat → Value → Prop} {Fin : List Value → Led → Prop} {n : Nat} {news : Led}
theorem comp_ind (Inv : Nat → List Value → Led → Prop) (hi : Inv 0 [] news)
    (turn : ∀ i ys news v I oI C oC D m₂ h tk (E' : Value → Shared → Prop), i < n → Inv i ys news → P i v → LCg.NsObj oC m₂ → m₂ x = some v → Fr h₀ L h m → News h₀ L h ((I, oI) :: (C, oC) :: (D, LCg.lst ys) :: news) → LCg.Off3 I C D news → ((@Ne Nat I C) ∧ (@Ne Nat I D) ∧ (@Ne Nat C D)) →
      wpAny (model prog w) A (eval elt (compEnvC scope cl C env)) (LCg.CompEnd h₀ L m { s with heap := h, toks := tk } I oI C oC D (LCg.lst ys) S (fun y news' => Inv (i + 1) (ys ++ [y]) news')) E' { s with heap := h, toks := tk })
    (fin : ∀ ys news, Inv n ys news → Fin ys news) : LCg.CompRest prog w A h₀ L m env elt x scope cl s S P Fin n 0 [] news := by
  have key : ∀ (j i : Nat) (ys : List Value) (news : Led), i + j = n → Inv i ys news → LCg.CompRest prog w A h₀ L m env elt x scope cl s S P Fin j i ys news := by
    intro j
    induction j with
    | zero =>
      intro i ys news e h
      obtain rfl : i = n := e
      exact LCg.CompRest.zero (fin _ _ h)
    | succ j ih =>
      intro i ys news e h
      refine LCg.CompRest.succ ?_
      intro v I oI C oC D m₂ h' tk E' a1 a2 a3 a4 a5 a6 a7
      refine wpAny_mono (turn i ys news v I oI C oC D m₂ h' tk E' (by omega) h a1 a2 a3 a4 a5 a6 a7) ?_ fun _ _ q => q
      rintro y s' ⟨h2, tk2, news2, e2, F2, N2, o2, hS, r⟩
      exact ⟨h2, tk2, news2, e2, F2, N2, o2, hS, ih (i + 1) _ _ (by omega) r⟩
  exact key n 0 [] news (Nat.zero_add _) hi
end
theorem off3_of {I C D : Addr} {l : Led} (a : Off I l) (b : Off C l) (c : Off D l) : LCg.Off3 I C D l := LCg.Off3.of fun p hp => ⟨a p hp, b p hp, c p hp⟩
theorem off3_I {I C D : Addr} {l : Led} (h : LCg.Off3 I C D l) : Off I l := fun p hp => (h.mem p hp).1
theorem off3_C {I C D : Addr} {l : Led} (h : LCg.Off3 I C D l) : Off C l := fun p hp => (h.mem p hp).2.1
theorem off3_D {I C D : Addr} {l : Led} (h : LCg.Off3 I C D l) : Off D l := fun p hp => (h.mem p hp).2.2

theorem size0 {n : Nat} : Builtin.Range.rangeSize 0 (n : Int) 1 = (n : Int) := by
  unfold Builtin.Range.rangeSize
  by_cases h : n = 0
  · subst h; rfl
  · rw [if_pos (by decide), if_pos (by omega)]; omega
theorem small0 {n : Nat} (hz : n ≤ 1000000) : Builtin.Range.small 0 (n : Int) 1 = true := by
  have e : Builtin.Range.rangeSize 0 (n : Int) 1 = (n : Int) := size0
  have f : Builtin.Range.rangeFitsLong (n : Int) = true := by
    unfold Builtin.Range.rangeFitsLong
    simp only [Bool.and_eq_true, decide_eq_true_eq]; omega
  have f1 : Builtin.Range.rangeFitsLong 1 = true := by decide
  have f0 : Builtin.Range.rangeFitsLong 0 = true := by decide
  have g : (n : Int) + (1 - 1) = n := by omega
  unfold Builtin.Range.small
  rw [e, f, f1, f0, g, f]
  simp
section
variable {prog : Program} {w : World} {A : Around} {E : Value → Shared → Prop} {s : Shared} {h₀ : Heap} {L r : Addr} {m : Str → Option Value} {news : Led} {b : Int} {t₀ u₀ v₀ : Tok} {n : Nat} {Q : Value → Shared → Prop}
theorem list_nat (hh : A.handled = none) (F : Fr h₀ L s.heap m) (N : News h₀ L s.heap news) (hr : IsRange s.heap r 0 b 1 t₀ u₀ v₀) (hb : b = (n : Int)) (hz : n ≤ 1000000)
    (h : ∀ D us c h' tk, Fr h₀ L h' m → News h₀ L h' ((D, listOf (List.toArray us) c) :: news) → (∀ p ∈ news, p.1 < D) → IntsAre us (nz (List.range n)) → Q (.ref D) { s with heap := h', toks := tk }) :
    wpAny (model prog w) A (call (.type "list") [.ref r]) Q E s := by
  subst hb
  refine kll_range hh F N hr (small0 hz) size0 (by omega) fun D us c h' tk F' N' l hI => h D us c h' tk F' N' l ?_
  have e : rangeKs 0 n = nz (List.range n) := by
    unfold rangeKs
    exact List.map_congr_left fun i _ => Int.zero_add _
  rw [← e]; exact hI
end

theorem ints_get {us : List Value} {xs : List Int} (hi : IntsAre us xs) : ∀ j, j < us.length → ∃ t, us.getD j .none = .int (xs.getD j 0) t := by
  induction hi with
  | nil => intro j hj; exact absurd hj (Nat.not_lt_zero _)
  | cons n t r ih =>
    intro j hj
    cases j with
    | zero => exact ⟨t, rfl⟩
    | succ j => exact ih j (Nat.lt_of_succ_lt_succ hj)
theorem ints_of_get : ∀ {us : List Value} {xs : List Int}, us.length = xs.length → (∀ j, j < us.length → ∃ t, us.getD j .none = .int (xs.getD j 0) t) → IntsAre us xs
  | [], [], _, _ => .nil
  | [], _ :: _, h, _ => by cases h
  | _ :: _, [], h, _ => by cases h
  | u :: us, x :: xs, h, k => by
    obtain ⟨t, e⟩ := k 0 (Nat.succ_pos _)
    have e' : u = .int x t := e
    subst e'
    exact .cons x t (ints_of_get (Nat.succ.inj h) fun j hj => k (j + 1) (Nat.succ_lt_succ hj))
theorem getD_take {α : Type} {d : α} {l : List α} {n j : Nat} (h : j < n) : (l.take n).getD j d = l.getD j d := by
  rw [List.getD_eq_getElem?_getD, List.getD_eq_getElem?_getD, List.getElem?_take_of_lt h]
section
variable {prog : Program} {w : World} {A : Around} {E : Value → Shared → Prop} {s : Shared} {env : Env} {h₀ : Heap} {target : Expr} {body : List Stmt} {Q : Flow → Shared → Prop}
/-- a loop over a list of the ledger, its target taken apart, by an invariant -/
theorem iterT {l : Addr} {vs : List Value} {nn : Nat} {m₀ : Str → Option Value} {news : Led} (J : Nat → (Str → Option Value) → Led → Prop)
    (hh : A.handled = none) (hl : (l, listOf vs.toArray nn) ∈ news) (F : Fr h₀ env.locals s.heap m₀) (N : News h₀ env.locals s.heap news) (hj : J 0 m₀ news)
    (turn : ∀ i v m₁ news₁ s₁ own, vs[i]? = some v → OwnOff own (news₁.map (·.1)) → (l, listOf vs.toArray nn) ∈ news₁ → J i m₁ news₁ → Fr h₀ env.locals s₁.heap m₁ → News h₀ env.locals s₁.heap (news₁ ++ own) →
      wpAny (model prog w) A (assign target env v) (fun _ s₃ => wpAny (model prog w) A (execs body env) (fun f s₂ => f = .next ∧ InvEndG h₀ env.locals (fun m' nx => (l, listOf vs.toArray nn) ∈ nx ∧ J (i + 1) m' nx) own s₁ s₂) E s₃) E s₁)
    (done : ∀ m₁ news₁ h tk, J vs.length m₁ news₁ → Fr h₀ env.locals h m₁ → News h₀ env.locals h news₁ → Q .next { s with heap := h, toks := tk }) :
    wpAny (model prog w) A (pyIter (.ref l)) (fun it s₂ => LoopAtT prog w A h₀ env target body Q E it s₂) E s := by
  have hol : s.heap.get? l = some (listOf vs.toArray nn) := (N _ hl).1
  have hls : s.heap.IsList l vs.toArray := ⟨_, hol, rfl, nn, rfl⟩
  have hne : l ≠ s.heap.objs.size := Nat.ne_of_lt (Heap.lt_size hol)
  refine wpAny_pyIter_list hls ?_
  have W := Walks.list (prog := prog) (w := w) hh s.heap.objs.size l hne vs.toArray
  have hlen : vs.toArray.size = vs.length := by simp
  rw [hlen] at W
  refine ⟨_, _, _, vs.length, _, _, m₀, news, (fun i m nx => (l, listOf vs.toArray nn) ∈ nx ∧ J i m nx), rfl, W, ?_, ?_, ?_, ⟨⟨_, Heap.get?_push_size _ rfl, rfl, rfl⟩, hls.at fun o e => Heap.get?_push_of_some _ e⟩, F.push _, (fun p hp => ⟨Heap.get?_push_of_some _ (N p hp).1, (N p hp).2⟩), ?go, ⟨hl, hj⟩, ?_, ?_⟩
  case go => exact fun i s' v Q' st q => letGo_listiter st.1 q
  · intro hm
    rcases List.mem_cons.mp hm with e | hm
    · exact absurd F.ns.lt (e ▸ Nat.lt_irrefl _)
    · exact (N _ hl).2.1 ((List.mem_singleton.mp hm).symm)
  · intro b hb
    rw [List.mem_singleton.mp hb]
    exact next_is_new F
  · intro p hp hI
    exact absurd (Heap.lt_size (N p hp).1) ((List.mem_singleton.mp hI) ▸ Nat.lt_irrefl _)
  · rintro i v m₁ news₁ s₁ own hin hP ⟨hl₁, hJ⟩ hoff hown hget hfp hst F₁ N₁
    have hP' : vs[i]? = some v := by simpa using hP
    have hI0 : h₀.get? s.heap.objs.size = none := next_is_new F
    obtain ⟨⟨oI, hoI, _⟩, _⟩ := id hst
    have hIown : (s.heap.objs.size, oI) ∈ own.filter fun p => decide (p.1 = s.heap.objs.size) := List.mem_filter.mpr ⟨hfp _ (List.mem_cons.mpr (.inl rfl)) hI0 _ hoI, by simp⟩
    have hsep : OwnOff (own.filter fun p => decide (p.1 = s.heap.objs.size)) (news₁.map (·.1)) := by
      intro p hp b hb e
      obtain ⟨q, hq, rfl⟩ := List.mem_map.mp hb
      have h1 : p.1 = s.heap.objs.size := by simpa using (List.mem_filter.mp hp).2
      exact hoff q hq (List.mem_singleton.mpr (e ▸ h1))
    have N₂ : News h₀ env.locals s₁.heap (news₁ ++ own.filter fun p => decide (p.1 = s.heap.objs.size)) := fun p hp => N₁ p ((List.mem_append.mp hp).elim (fun h => List.mem_append.mpr (.inr h)) fun h => List.mem_append.mpr (.inl ((List.mem_filter.mp h).1)))
    have hlo : s₁.heap.get? l = some (listOf vs.toArray nn) := (N₁ _ (List.mem_append.mpr (.inr hl₁))).1
    refine wpAny_mono (turn i v m₁ news₁ s₁ _ hP' hsep hl₁ hJ F₁ N₂) (fun _ s₃ p => wpAny_mono p (fun f s₂ q => ?_) fun _ _ e => e) fun _ _ e => e
    obtain ⟨rfl, h', tk, m', news', nx, e, F', N', hn, ho, ha, hm⟩ := q
    refine ⟨rfl, h', tk, m', nx, e, F', fun p hp => ?_, fun p hp hq => ?_, hm⟩
    · rcases List.mem_append.mp hp with h | h
      · by_cases hI : p.1 = s.heap.objs.size
        · exact N' p (ho p (List.mem_filter.mpr ⟨h, by simpa using hI⟩))
        · have h1 : p.1 = l := by
            rcases List.mem_cons.mp (hown p h) with h2 | h2
            · exact absurd h2 hI
            · exact List.mem_singleton.mp h2
          have h2 : s₁.heap.get? p.1 = some p.2 := hget p h
          rw [h1, hlo] at h2
          have h3 : p = (l, listOf vs.toArray nn) := Prod.ext h1 (Option.some.inj h2).symm
          rw [h3]
          exact N' _ (hn _ hm.1)
      · exact N' p (hn p h)
    · exact ha _ hIown p.1 (List.mem_map.mpr ⟨p, hp, rfl⟩) (List.mem_singleton.mp hq).symm
  · rintro h' tk m' news' F' N' _ ⟨_, hJ⟩
    exact done m' news' h' tk hJ F' N'
end
/-- a list of pairs -/
inductive PairsAre (led : Led) : List Value → List (Nat × Nat) → Prop
  | nil : PairsAre led [] []
  | cons {d : Addr} {a b : Nat} {t u : Tok} {vs : List Value} {ps : List (Nat × Nat)} : (d, ({ cls := Value.type "tuple", data := Data.seq #[Value.int (a : Int) t, Value.int (b : Int) u] } : Obj)) ∈ led → PairsAre led vs ps → PairsAre led (.ref d :: vs) ((a, b) :: ps)
theorem PairsAre.mono {led led' : Led} {vs : List Value} {ps : List (Nat × Nat)} (h : PairsAre led vs ps) (hs : ∀ p ∈ led, p ∈ led') : PairsAre led' vs ps := by
  induction h with
  | nil => exact .nil
  | cons a _ ih => exact .cons (hs _ a) ih
theorem PairsAre.length {led : Led} {vs : List Value} {ps : List (Nat × Nat)} (h : PairsAre led vs ps) : vs.length = ps.length := by
  induction h with
  | nil => rfl
  | cons _ _ ih => rw [List.length_cons, List.length_cons, ih]
theorem PairsAre.get {led : Led} {vs : List Value} {ps : List (Nat × Nat)} (h : PairsAre led vs ps) {i : Nat} {v : Value} (e : vs[i]? = some v) : ∃ d a b t u, ps[i]? = some (a, b) ∧ v = .ref d ∧ (d, ({ cls := Value.type "tuple", data := Data.seq #[Value.int (a : Int) t, Value.int (b : Int) u] } : Obj)) ∈ led := by
  induction h generalizing i with
  | nil => cases e
  | cons a _ ih =>
    cases i with
    | zero => cases e; exact ⟨_, _, _, _, _, rfl, rfl, a⟩
    | succ i => exact ih e
/-- the table holds a code for the place -/
structure TabHit (q : Pos) (ps : Array Value) (c' : Addr) : Prop where
  ok : TabOk ps
  at' : codeAmong q ps.toList = some (.ref c')
theorem tabHit_put {q : Pos} {ps : Array Value} {c' : Addr} (h : TabHit q ps c') {l c : Int} {c2 : Addr} : TabHit q (ps ++ #[rawInt l, rawInt c, .ref c2]) c' := by
  refine ⟨tabOk_put h.ok, ?_⟩
  rw [Array.toList_append, codeAmong_put h.ok.tr, h.at']
theorem tabHit_new {q : Pos} {ps : Array Value} {c' : Addr} (h : TabOk ps) (n : codeAmong q ps.toList = none) : TabHit q (ps ++ #[rawInt q.line, rawInt q.col, .ref c']) c' := by
  refine ⟨tabOk_put h, ?_⟩
  rw [Array.toList_append, codeAmong_put h.tr, n]
  show (if ((q.line : Int) == (q.line : Int) && (q.col : Int) == (q.col : Int)) = true then some (Value.ref c') else none) = _
  simp
section
variable {M : Model} {A : Around} {E : Value → Shared → Prop} {s : Shared} {h₀ : Heap} {L a c P : Addr} {m mg mb : Str → Option Value} {cn : Str} {cs : Scope} {ccd : Value} {cl : List (Str × Addr)} {news : List (Addr × Obj)} {g : Obj → List (Addr × Obj)}
  {p : Program} {loose : List Str} {mean : ExcName → Option Value} {params : Arguments} {scope : Scope} {ps : Array Value} {pos : Pos} {clos : List (Str × Addr)} {kq : Pos} {kc : Addr}
theorem lam_hit {body : Expr} {Q : Value → Shared → Prop} (F : Fr h₀ L s.heap m) (N : News h₀ L s.heap news) (T : Top p loose mean mg mb h₀) (C : CodeHd h₀ c P) (hcd : ccd = .ref c) (U : UpdF P (tabObj ps) news g) (ht : TabHit kq ps kc)
    (hcl : closureFor scope (envX cn cs L a ccd cl) = pure clos) (hdef : defaultsOf params (envX cn cs L a ccd cl) = ([], []))
    (h : ∀ f ps' h' tk, Fr h₀ L h' m → News h₀ L h' (g (tabObj ps')) → TabHit kq ps' kc → Q (.ref f) { s with heap := h', toks := tk }) :
    wpAny M A (eval (.Lambda params body scope pos) (envX cn cs L a ccd cl)) Q E s := by
  refine kla_eval hdef ?_
  cases e : codeAmong pos ps.toList with
  | none =>
    exact kla_nest F N T C hcd U ht.ok.1 e hcl fun f c' oc vs t ctv h' tk F' N' _ _ _ _ => h f _ h' tk F' (kst_newsOf N' fun p hp => .tail _ (.tail _ hp)) (tabHit_put ht)
  | some v =>
    obtain ⟨c', rfl⟩ := ht.ok.2 pos v e
    obtain ⟨pre, post, rfl, hg, _, _⟩ := U.split
    exact kla_hit F N T C hcd (List.mem_append_right _ (.head _)) ht.ok.1 e hcl fun f ctv h' tk F' N' _ => h f ps h' tk F' (by rw [hg]; exact kst_newsOf N' fun p hp => .tail _ hp) ht
theorem def_new {name : Str} {body : List Stmt} {Q : Flow → Shared → Prop} (F : Fr h₀ L s.heap m) (N : News h₀ L s.heap news) (T : Top p loose mean mg mb h₀) (C : CodeHd h₀ c P) (hcd : ccd = .ref c) (U : UpdF P (tabObj ps) news g) (ht : TabOk ps) (hn : codeAmong pos ps.toList = none)
    (hd0 : params.defaults = []) (hk0 : params.kw_defaults = []) (ha : annTrees params none (envX cn cs L a ccd cl) = []) (hcl : closureFor scope (envX cn cs L a ccd cl) = pure clos)
    (h : ∀ f c' oc vs t ctv doc ps' h' tk, Fr h₀ L h' m → News h₀ L h' ((f, fnMade name (qualnameIn (envX cn cs L a ccd cl) name name) params body scope clos doc ((mg "__name__").getD .none) c' ctv) :: (c', oc) :: g (tabObj ps')) → TabHit pos ps' c' → oc.data = .fields vs → vs[1]? = some (.str (qualnameIn (envX cn cs L a ccd cl) name name) t) → (∀ q ∈ news, q.1 < c') → c' < f →
      wpAny M A (storeName (envX cn cs L a ccd cl) name (.ref f)) (fun _ s'' => Q .next s'') E { s with heap := h', toks := tk }) :
    wpAny M A (exec (.FunctionDef name params body [] none [] scope none name pos) (envX cn cs L a ccd cl)) Q E s :=
  nestDef_K hd0 hk0 ha (nest_K F N T C hcd U ht.tr hn hcl fun f c' oc vs t ctv doc h' tk F' N' hd hv l1 l2 => h f c' oc vs t ctv doc _ h' tk F' N' (tabHit_new ht hn) hd hv l1 l2)
theorem def_hit {name : Str} {body : List Stmt} {Q : Flow → Shared → Prop} {c' : Addr} (F : Fr h₀ L s.heap m) (N : News h₀ L s.heap news) (T : Top p loose mean mg mb h₀) (C : CodeHd h₀ c P) (hcd : ccd = .ref c) (hmem : (P, tabObj ps) ∈ news) (ht : TabHit pos ps c')
    (hd0 : params.defaults = []) (hk0 : params.kw_defaults = []) (ha : annTrees params none (envX cn cs L a ccd cl) = []) (hcl : closureFor scope (envX cn cs L a ccd cl) = pure clos)
    (h : ∀ f ctv doc h' tk, Fr h₀ L h' m → News h₀ L h' ((f, fnMade name (qualnameIn (envX cn cs L a ccd cl) name name) params body scope clos doc ((mg "__name__").getD .none) c' ctv) :: news) → (∀ q ∈ news, q.1 < f) →
      wpAny M A (storeName (envX cn cs L a ccd cl) name (.ref f)) (fun _ s'' => Q .next s'') E { s with heap := h', toks := tk }) :
    wpAny M A (exec (.FunctionDef name params body [] none [] scope none name pos) (envX cn cs L a ccd cl)) Q E s :=
  nestDef_K hd0 hk0 ha (nestHit_K F N T C hcd hmem ht.ok.tr ht.at' hcl fun f ctv doc h' tk F' N' l => h f ctv doc h' tk F' N' l)
end
/-- a frame whose names are written out one by one -/
structure FrK (h₀ : Heap) (L : Addr) (h : Heap) (m m' : Str → Option Value) : Prop where
  fr : Fr h₀ L h m'
  eq : m' = m
theorem FrK.ini {h₀ h : Heap} {L : Addr} {m : Str → Option Value} (F : Fr h₀ L h m) : FrK h₀ L h m m := ⟨F, rfl⟩
theorem FrK.k {h₀ h : Heap} {L : Addr} {m m' : Str → Option Value} {x : Str} {v : Value} (F : FrK h₀ L h m m') (e : m x = some v) : FrK h₀ L h m (fun y => if y = x then some v else m' y) := by
  obtain ⟨F, rfl⟩ := F
  have h : (fun y => if y = x then some v else m' y) = m' := by
    funext y
    by_cases h : y = x
    · subst h; rw [if_pos rfl, e]
    · rw [if_neg h]
  exact ⟨by rw [h]; exact F, h⟩
theorem allLt_succ {d : Addr} : ∀ {l : Led}, AllLt d l → AllLt (d + 1) l
  | [], _ => trivial
  | _ :: _, h => ⟨Nat.lt_succ_of_lt h.1, allLt_succ h.2⟩
def ost (bits : List Nat) (p : Nat × Nat) : List Nat := (bits.set p.1 (bits.getD p.1 0 &&& bits.getD p.2 0)).set p.2 (bits.getD p.1 0 ||| bits.getD p.2 0)
def osts : List (Nat × Nat) → List Nat → List (List Nat)
  | [], _ => []
  | p :: ps, bits => ost bits p :: osts ps (ost bits p)
def orun (ps : List (Nat × Nat)) (bits : List Nat) : List Nat := ps.foldl ost bits
theorem ost_length {bits : List Nat} {p : Nat × Nat} : (ost bits p).length = bits.length := by unfold ost; simp
theorem orun_length : ∀ {ps : List (Nat × Nat)} {bits : List Nat}, (orun ps bits).length = bits.length
  | [], _ => rfl
  | p :: ps, bits => by show (orun ps (ost bits p)).length = _; rw [orun_length, ost_length]
theorem orun_succ {ps : List (Nat × Nat)} {bits : List Nat} {j : Nat} {p : Nat × Nat} (h : ps[j]? = some p) : orun (ps.take (j + 1)) bits = ost (orun (ps.take j) bits) p := by
  unfold orun
  rw [List.take_add_one, h, List.foldl_append]; rfl
theorem osts_length : ∀ {ps : List (Nat × Nat)} {bits : List Nat}, (osts ps bits).length = ps.length
  | [], _ => rfl
  | p :: ps, bits => by show (osts ps (ost bits p)).length + 1 = _; rw [osts_length]; rfl
theorem osts_snoc {p : Nat × Nat} : ∀ {ps : List (Nat × Nat)} {bits : List Nat}, osts (ps ++ [p]) bits = osts ps bits ++ [ost (orun ps bits) p]
  | [], _ => rfl
  | q :: ps, bits => by
    show ost bits q :: osts (ps ++ [p]) (ost bits q) = ost bits q :: (osts ps (ost bits q) ++ [ost (orun ps (ost bits q)) p])
    rw [osts_snoc]
theorem osts_succ {ps : List (Nat × Nat)} {bits : List Nat} {j : Nat} {p : Nat × Nat} (h : ps[j]? = some p) : osts (ps.take (j + 1)) bits = osts (ps.take j) bits ++ [ost (orun (ps.take j) bits) p] := by
  rw [List.take_add_one, h]
  exact osts_snoc
theorem nz_set {l : List Nat} {i x : Nat} : (nz l).set i (x : Int) = nz (l.set i x) := by
  unfold nz; rw [List.map_set]
theorem band_nat (a b : Nat) : Builtin.bitAnd (a : Int) (b : Int) = ((a &&& b : Nat) : Int) := by
  rw [PyProof.Rows.bitAnd_pp (by omega) (by omega)]; simp
theorem bor_nat (a b : Nat) : Builtin.bitOr (a : Int) (b : Int) = ((a ||| b : Nat) : Int) := by
  have nn : ∀ x : Int, Builtin.bitNot (Builtin.bitNot x) = x := fun x => by unfold Builtin.bitNot; omega
  show Builtin.bitNot (Builtin.bitAnd (Builtin.bitNot (a : Int)) (Builtin.bitNot (b : Int))) = _
  unfold Builtin.bitAnd
  rw [show decide (0 ≤ Builtin.bitNot (a : Int)) = false from decide_eq_false (by unfold Builtin.bitNot; omega), show decide (0 ≤ Builtin.bitNot (b : Int)) = false from decide_eq_false (by unfold Builtin.bitNot; omega)]
  show Builtin.bitNot (Builtin.bitNot (((Builtin.bitNot (Builtin.bitNot (a : Int))).toNat ||| (Builtin.bitNot (Builtin.bitNot (b : Int))).toNat : Nat) : Int)) = _
  rw [nn, nn, nn, Int.toNat_natCast, Int.toNat_natCast]
section
variable {prog : Program} {w : World} {A : Around} {E : Value → Shared → Prop} {s : Shared} {h₀ : Heap} {L : Addr} {m : Str → Option Value} {news : Led}
theorem app_any {D : Addr} {news' : Led} {vs : List Value} {n : Nat} {x : Value} {Q : Value → Shared → Prop} (F : Fr h₀ L s.heap m) (N : News h₀ L s.heap news) (U : Upd D (listOf vs.toArray n) (listOf (vs ++ [x]).toArray (n + 1)) news news') (hz : vs.length ≤ 1000000)
    (h : ∀ h', Fr h₀ L h' m → News h₀ L h' news' → Q .none { s with heap := h' }) : wpAny (model prog w) A (call (.builtin "list.append") [.ref D, x]) Q E s :=
  append_K F N (by rw [List.push_toArray]; exact U) h (by rw [sizeLine_eq, List.size_toArray]; omega)
theorem copy_any {l : Addr} {vs : List Value} {n : Nat} {Q : Value → Shared → Prop} (F : Fr h₀ L s.heap m) (N : News h₀ L s.heap news) (hm : (l, listOf vs.toArray n) ∈ news) (hz : vs.length ≤ 1000000)
    (h : ∀ D c h', Fr h₀ L h' m → News h₀ L h' ((D, listOf vs.toArray c) :: news) → (∀ q ∈ news, q.1 < D) → Q (.ref D) { s with heap := h' }) :
    wpAny (model prog w) A (call (.type "list") [.ref l]) Q E s :=
  list_copyK F N (PySem.IsL.isList (n := n) (N _ hm).1) h (by rw [sizeLine_eq, List.size_toArray]; omega)
end

section
variable {prog : Program} {w : World} {A : Around} {R : Result → Shared → Prop} {s : Shared}
theorem compTurn_out (elt t0 i0 t1 i1 : Expr) (scope : Scope) (pos : Pos) (it acc : Value) (env : Env) :
    compTurn (.ListComp elt [⟨t0, i0, [], 0⟩, ⟨t1, i1, [], 0⟩] scope pos) 0 it acc env = (standAt i0.pos >>= fun _ => pyNext it >>= fun r => match r with
      | none => pure (.done .next)
      | some v => letOwnedTupleGo t0 it v >>= fun _ => assign t0 env v >>= fun _ =>
        (eval i1 env >>= fun x => standAt i1.pos >>= fun _ => foldedSetIterable i1 env x >>= fun x => holding [x] (pyIter x) >>= fun it' => runOwn (.compStart (.ListComp elt [⟨t0, i0, [], 0⟩, ⟨t1, i1, [], 0⟩] scope pos) 1 it' acc env) env >>= fun _ =>
          again (.compLoop (.ListComp elt [⟨t0, i0, [], 0⟩, ⟨t1, i1, [], 0⟩] scope pos) 0 it acc env))) := by rfl
theorem compTurn_in (elt t0 i0 t1 i1 : Expr) (scope : Scope) (pos : Pos) (it acc : Value) (env : Env) :
    compTurn (.ListComp elt [⟨t0, i0, [], 0⟩, ⟨t1, i1, [], 0⟩] scope pos) 1 it acc env = (standAt i1.pos >>= fun _ => pyNext it >>= fun r => match r with
      | none => pure (.done .next)
      | some v => letOwnedTupleGo t1 it v >>= fun _ => assign t1 env v >>= fun _ =>
        (eval elt env >>= fun x => call (.builtin "list.append") [acc, x] >>= fun _ => pure ()) >>= fun _ =>
          again (.compLoop (.ListComp elt [⟨t0, i0, [], 0⟩, ⟨t1, i1, [], 0⟩] scope pos) 1 it acc env)) := by rfl
/-- the inner clause, by an invariant that counts down -/
theorem loop_in {elt t0 i0 t1 i1 : Expr} {scope : Scope} {pos : Pos} {it acc : Value} {env : Env} (I : Nat → Shared → Prop)
    (turn : ∀ n s, I n s → wpAny (model prog w) A (pyNext it) (fun r s₁ => match r with
      | none => R (.ok .next) s₁
      | some v => wpAny (model prog w) A (assign t1 env v) (fun _ s₂ => wpAny (model prog w) A (eval elt env) (fun x s₃ =>
          wpAny (model prog w) A (call (.builtin "list.append") [acc, x]) (fun _ s₄ => ∃ m, m < n ∧ I m s₄) (notedBy (model prog w) A env fun e s' => R (.error e) s') s₃)
          (notedBy (model prog w) A env fun e s' => R (.error e) s') s₂) (notedBy (model prog w) A env fun e s' => R (.error e) s') s₁) (notedBy (model prog w) A env fun e s' => R (.error e) s') s)
    (n : Nat) (h : I n s) (ht : ∀ v, letOwnedTupleGo t1 it v = pure () := by intro _; rfl) :
    codeAny (model prog w) A (.compLoop (.ListComp elt [⟨t0, i0, [], 0⟩, ⟨t1, i1, [], 0⟩] scope pos) 1 it acc env) R s := by
  refine codeAny_loop rfl I (fun n s hI => ?_) n h
  show wpAny _ _ ((compTurn (.ListComp elt [⟨t0, i0, [], 0⟩, ⟨t1, i1, [], 0⟩] scope pos) 1 it acc env).onRaise (fun x => do noteFrame x env; theTreesLotGoes x)) _ _ s
  refine wpAny_noted ?_
  rw [compTurn_in]
  refine wpAny_bind (wpAny_standAt (wpAny_bind (wpAny_mono (turn n s hI) ?_ fun _ _ q => q)))
  intro r s₁ k
  match r, k with
  | none, k => exact wpAny_pure k
  | some v, k =>
    refine wpAny_bind (wpAny_of_eq (ht v) (wpAny_bind (wpAny_mono k ?_ fun _ _ q => q)))
    intro _ s₂ k2
    refine wpAny_bind (wpAny_bind (wpAny_mono k2 ?_ fun _ _ q => q))
    intro x s₃ k3
    refine wpAny_bind (wpAny_mono k3 ?_ fun _ _ q => q)
    intro _ s₄ k4
    exact wpAny_pure (wpAny_pure ⟨rfl, k4⟩)
/-- the outer clause -/
theorem loop_out {elt t0 i0 t1 i1 : Expr} {scope : Scope} {pos : Pos} {it acc : Value} {env : Env} (I : Nat → Shared → Prop)
    (turn : ∀ n s, I n s → wpAny (model prog w) A (pyNext it) (fun r s₁ => match r with
      | none => R (.ok .next) s₁
      | some v => wpAny (model prog w) A (assign t0 env v) (fun _ s₂ => wpAny (model prog w) A (eval i1 env) (fun x s₃ => wpAny (model prog w) A (pyIter x) (fun it' s₄ =>
          codeAny (model prog w) A (.compStart (.ListComp elt [⟨t0, i0, [], 0⟩, ⟨t1, i1, [], 0⟩] scope pos) 1 it' acc env) (fun r s' => match r with | .ok _ => ∃ m, m < n ∧ I m s' | .error e => cameBackBy (model prog w) A env (notedBy (model prog w) A env fun e s' => R (.error e) s') e s') s₄)
          (notedBy (model prog w) A env fun e s' => R (.error e) s') s₃) (notedBy (model prog w) A env fun e s' => R (.error e) s') s₂) (notedBy (model prog w) A env fun e s' => R (.error e) s') s₁) (notedBy (model prog w) A env fun e s' => R (.error e) s') s)
    (n : Nat) (h : I n s) (ht : ∀ v, letOwnedTupleGo t0 it v = pure () := by intro _; rfl) (hf : ∀ x, foldedSetIterable i1 env x = pure x := by intro _; rfl) :
    codeAny (model prog w) A (.compLoop (.ListComp elt [⟨t0, i0, [], 0⟩, ⟨t1, i1, [], 0⟩] scope pos) 0 it acc env) R s := by
  refine codeAny_loop rfl I (fun n s hI => ?_) n h
  show wpAny _ _ ((compTurn (.ListComp elt [⟨t0, i0, [], 0⟩, ⟨t1, i1, [], 0⟩] scope pos) 0 it acc env).onRaise (fun x => do noteFrame x env; theTreesLotGoes x)) _ _ s
  refine wpAny_noted ?_
  rw [compTurn_out]
  refine wpAny_bind (wpAny_standAt (wpAny_bind (wpAny_mono (turn n s hI) ?_ fun _ _ q => q)))
  intro r s₁ k
  match r, k with
  | none, k => exact wpAny_pure k
  | some v, k =>
    refine wpAny_bind (wpAny_of_eq (ht v) (wpAny_bind (wpAny_mono k ?_ fun _ _ q => q)))
    intro _ s₂ k2
    refine wpAny_bind (wpAny_mono k2 ?_ fun _ _ q => q)
    intro x s₃ k3
    refine wpAny_bind (wpAny_standAt (wpAny_bind (wpAny_of_eq (hf x) (wpAny_bind (wpAny_holding (wpAny_mono k3 ?_ fun _ _ q => q))))))
    intro it' s₄ k4
    refine wpAny_bind (wpAny_runOwn (h := none) ?_ (by intro x; cases x))
    rw [Around.mark_none]
    refine codeAny_mono k4 fun r s' hr => ?_
    match r, hr with
    | .ok f, hr => exact wpAny_pure ⟨rfl, hr⟩
    | .error e, hr => exact hr
theorem start_in {elt t0 i0 t1 i1 : Expr} {scope : Scope} {pos : Pos} {it acc : Value} {env : Env}
    (h0 : codeAny (model prog w) A (.compLoop (.ListComp elt [⟨t0, i0, [], 0⟩, ⟨t1, i1, [], 0⟩] scope pos) 1 it acc env) R s)
    (h : wpAny (model prog w) A (pyIter it) (fun it' s' => codeAny (model prog w) A (.compLoop (.ListComp elt [⟨t0, i0, [], 0⟩, ⟨t1, i1, [], 0⟩] scope pos) 1 it' acc env) R s')
      (notedBy (model prog w) A env fun x s' => R (.error x) s') s) :
    codeAny (model prog w) A (.compStart (.ListComp elt [⟨t0, i0, [], 0⟩, ⟨t1, i1, [], 0⟩] scope pos) 1 it acc env) R s := by
  refine codeAny_of_tree ?_
  show wpAny _ _ ((compStart (.ListComp elt [⟨t0, i0, [], 0⟩, ⟨t1, i1, [], 0⟩] scope pos) 1 it acc env).onRaise (fun x => do noteFrame x env; standAt theWindowsPlace)) _ _ s
  refine wpAny_notedAt ?_
  unfold compStart
  show wpAny _ _ (ask >>= _) _ _ s
  refine wpAny_bind (wpAny_askSetting (wpAny_ite ?_))
  split
  · exact wpAny_pure ⟨rfl, h0⟩
  · refine wpAny_bind (wpAny_rule ?_)
    show wpAny _ _ (standAt i1.pos >>= _) _ _ s
    exact wpAny_bind (wpAny_standAt (wpAny_bind (wpAny_mono h (fun it' s' k => wpAny_pure ⟨rfl, k⟩) fun _ _ q => q)))
end

section
variable {prog : Program} {w : World} {A : Around} {s : Shared} {h₀ : Heap} {L : Addr} {m : Str → Option Value} {env : Env}
/-- the works of a comprehension lie apart -/
structure Ap (I0 I1 C D : Addr) (l : Led) : Prop where
  a : Off I0 l
  b : Off I1 l
  c : Off C l
  d : Off D l
/-- what holds ahead of each item of the inner clause -/
inductive St2 (h₀ : Heap) (L : Addr) (m : Str → Option Value) (C I0 : Addr) (oI0 : Obj) (I1 D : Addr) (x0 : Str) (v0 : Value) (ax : Addr) (vs : List Value) (k1 : Nat) (Inv : Nat → List Value → Led → Prop) (j : Nat) (h : Heap) : Prop
  | mk {ys : List Value} {m' : Str → Option Value} {news : Led} : h.IsListIter I1 ax j → Fr h₀ L h m → h.Ns C m' → m' x0 = some v0 → News h₀ L h ((I0, oI0) :: (D, LCg.lst ys) :: news) → Ap I0 I1 C D news → (ax, listOf vs.toArray k1) ∈ news → ys.length ≤ 100000 → Inv j ys news →
    St2 h₀ L m C I0 oI0 I1 D x0 v0 ax vs k1 Inv j h
theorem inner2 {elt i0 i1 : Expr} {t0 : Expr} {x0 x1 : Str} {p1 : Pos} {scope : Scope} {cl : List (Str × Addr)} {pos : Pos} {C I0 I1 D ax : Addr} {oI0 : Obj} {v0 : Value} {vs : List Value} {k1 : Nat} {Inv : Nat → List Value → Led → Prop} {R : Result → Shared → Prop}
    (hh : A.handled = none) (hkind : scope.kind = .function) (hx1 : scope.names.lookup x1 = some .local) (hne : x0 ≠ x1) (hz : vs.length ≤ 1000)
    (hC : C ≠ L) (hD : D ≠ L) (hI : I1 ≠ L) (hC0 : h₀.get? C = none) (hD0 : h₀.get? D = none) (hI0 : h₀.get? I1 = none) (n1 : I0 ≠ I1) (n2 : I0 ≠ C) (n3 : I0 ≠ D) (n4 : I1 ≠ C) (n5 : I1 ≠ D) (n6 : C ≠ D)
    (helt : ∀ j ys news v oI1 oC m₂ h tk (E' : Value → Shared → Prop), j < vs.length → vs[j]? = some v → Inv j ys news → LCg.NsObj oC m₂ → m₂ x0 = some v0 → m₂ x1 = some v → Fr h₀ L h m → News h₀ L h ((I0, oI0) :: (I1, oI1) :: (C, oC) :: (D, LCg.lst ys) :: news) → Ap I0 I1 C D news → (ax, listOf vs.toArray k1) ∈ news →
      wpAny (model prog w) A (eval elt (compEnvC scope cl C env)) (fun y s₂ => ∃ h' tk' news', s₂ = { s with heap := h', toks := tk' } ∧ Fr h₀ L h' m ∧ News h₀ L h' ((I0, oI0) :: (I1, oI1) :: (C, oC) :: (D, LCg.lst ys) :: news') ∧ Ap I0 I1 C D news' ∧ (ax, listOf vs.toArray k1) ∈ news' ∧ ys.length < 99999 ∧ Inv (j + 1) (ys ++ [y]) news') E' { s with heap := h, toks := tk })
    {h : Heap} {tk : Tok} (S0 : St2 h₀ L m C I0 oI0 I1 D x0 v0 ax vs k1 Inv 0 h)
    (done : ∀ h' tk' ys m' news, Fr h₀ L h' m → h'.Ns C m' → News h₀ L h' ((I0, oI0) :: (D, LCg.lst ys) :: news) → Ap I0 I1 C D news → (ax, listOf vs.toArray k1) ∈ news → ys.length ≤ 100000 → Inv vs.length ys news → R (.ok .next) { s with heap := h', toks := tk' }) :
    codeAny (model prog w) A (.compStart (.ListComp elt [⟨t0, i0, [], 0⟩, ⟨.Name x1 p1, i1, [], 0⟩] scope pos) 1 (.ref I1) (.ref D) (compEnvC scope cl C env)) R { s with heap := h, toks := tk } := by
  have look : ∀ {h : Heap} {j : Nat}, St2 h₀ L m C I0 oI0 I1 D x0 v0 ax vs k1 Inv j h → h.IsListIter I1 ax j ∧ h.IsList ax vs.toArray := by
    intro h j S
    cases S with
    | mk a F n e N ap mem z inv => exact ⟨a, PySem.IsL.isList (n := k1) (N _ (.tail _ (.tail _ mem))).1⟩
  have hax : ax ≠ I1 := by
    cases S0 with
    | mk a F n e N ap mem z inv => exact ap.b _ mem
  have W := Walks.list (prog := prog) (w := w) hh I1 ax hax vs.toArray
  have hlen : vs.toArray.size = vs.length := by simp
  rw [hlen] at W
  have loop : codeAny (model prog w) A (.compLoop (.ListComp elt [⟨t0, i0, [], 0⟩, ⟨.Name x1 p1, i1, [], 0⟩] scope pos) 1 (.ref I1) (.ref D) (compEnvC scope cl C env)) R { s with heap := h, toks := tk } := by
    refine loop_in (fun k s' => ∃ h' tk' j, s' = { s with heap := h', toks := tk' } ∧ j ≤ vs.length ∧ k = vs.length + 1 - j ∧ St2 h₀ L m C I0 oI0 I1 D x0 v0 ax vs k1 Inv j h') ?_ (vs.length + 1) ⟨h, tk, 0, rfl, Nat.zero_le _, rfl, S0⟩
    rintro k s' ⟨h', tk', j, rfl, hj, rfl, S⟩
    have S' := S
    cases S' with
    | @mk ys m' news a F n e N ap mem z inv =>
    rcases Nat.lt_or_ge j vs.length with hlt | hge
    · refine W.item j _ _ _ hlt (look S) fun v h₂ tk₂ hv st₂ hk₂ => ?_
      have hv' : vs[j]? = some v := by simpa using hv
      have n₂ : h₂.Ns C m' := n.at' fun o q => hk₂ _ o (by simpa using Ne.symm n4) q
      have F₂ := LCg.fr_but F hk₂ hI.symm hI0
      have N₂ : News h₀ L h₂ ((I0, oI0) :: (D, LCg.lst ys) :: news) := LCg.news_but N hk₂ fun p hp => by
        rcases List.mem_cons.mp hp with rfl | hp
        · exact n1
        · rcases List.mem_cons.mp hp with rfl | hp
          · exact Ne.symm n5
          · exact ap.b p hp
      refine wpAny_assign_Name (wpAny_storeName_local (lookup_relabel_local hx1) n₂ (fun h₃ n₃ s₃ => ?_) (by simp [compEnvC, relabel, hkind]))
      obtain ⟨oC, eC, nC⟩ := LCg.ns_obj n₃
      have F₃ := F₂.change s₃ hC hC0
      obtain ⟨oI1, eI, _⟩ := st₂.1
      have eI3 : h₃.get? I1 = some oI1 := s₃.extBut _ _ n4 eI
      have N₃ : News h₀ L h₃ ((I0, oI0) :: (I1, oI1) :: (C, oC) :: (D, LCg.lst ys) :: news) := by
        intro p hp
        rcases List.mem_cons.mp hp with rfl | hp
        · have q := N₂ _ (.head _)
          exact ⟨s₃.extBut _ _ n2 q.1, q.2⟩
        · rcases List.mem_cons.mp hp with rfl | hp
          · exact ⟨eI3, hI, hI0⟩
          · rcases List.mem_cons.mp hp with rfl | hp
            · exact ⟨eC, hC, hC0⟩
            · have q := N₂ p (.tail _ hp)
              refine ⟨s₃.extBut _ _ ?_ q.1, q.2⟩
              rcases List.mem_cons.mp hp with rfl | hp
              · exact Ne.symm n6
              · exact ap.c p hp
      refine wpAny_mono (helt j ys news v oI1 oC _ h₃ _ _ hlt hv' inv nC ?_ (if_pos rfl) F₃ N₃ ap mem) ?_ fun _ _ q => q
      · exact (if_neg hne).trans e
      · rintro y s₄ ⟨h₄, tk₄, news₄, rfl, F₄, N₄, ap₄, mem₄, z₄, inv₄⟩
        have zD := (N₄ (D, LCg.lst ys) (.tail _ (.tail _ (.tail _ (.head _))))).1
        refine append_at (hsz := by show ys.toArray.size ≤ sizeLine; rw [List.size_toArray, sizeLine_eq]; omega) zD fun h₅ s₅ eD => ?_
        refine ⟨vs.length + 1 - (j + 1), by omega, h₅, tk₄, j + 1, rfl, hlt, rfl, .mk (ys := ys ++ [y]) (m' := _) (news := news₄) ?_ (F₄.change s₅ hD hD0) ((nC.ns (N₄ (C, oC) (.tail _ (.tail _ (.head _)))).1).at' fun o q => s₅.extBut _ _ n6 q) ((if_neg hne).trans e) ?_ ap₄ mem₄ (by rw [List.length_append, List.length_singleton]; omega) inv₄⟩
        · obtain ⟨o', e', r'⟩ := st₂.1
          have q := (N₄ (I1, oI1) (.tail _ (.head _))).1
          rw [eI] at e'
          cases e'
          exact ⟨oI1, s₅.extBut _ _ n5 q, r'⟩
        · intro p hp
          rcases List.mem_cons.mp hp with rfl | hp
          · have q := N₄ _ (.head _)
            exact ⟨s₅.extBut _ _ n3 q.1, q.2⟩
          · rcases List.mem_cons.mp hp with rfl | hp
            · exact ⟨eD.trans (congrArg some (LCg.lst_snoc ys y)), hD, hD0⟩
            · have q := N₄ p (.tail _ (.tail _ (.tail _ (.tail _ hp))))
              exact ⟨s₅.extBut _ _ (ap₄.d p hp) q.1, q.2⟩
    · obtain rfl : j = vs.length := Nat.le_antisymm hj hge
      refine W.done _ _ _ (look S) fun h₂ tk₂ hk₂ => ?_
      have F₂ := LCg.fr_but F hk₂ hI.symm hI0
      have N₂ : News h₀ L h₂ ((I0, oI0) :: (D, LCg.lst ys) :: news) := LCg.news_but N hk₂ fun p hp => by
        rcases List.mem_cons.mp hp with rfl | hp
        · exact n1
        · rcases List.mem_cons.mp hp with rfl | hp
          · exact Ne.symm n5
          · exact ap.b p hp
      exact done h₂ tk₂ ys m' news F₂ (n.at' fun o q => hk₂ _ o (by simpa using Ne.symm n4) q) N₂ ap mem z inv
  exact start_in loop (W.self 0 _ _ _ (look S0) loop)
end

section
variable {prog : Program} {w : World} {A : Around} {E : Value → Shared → Prop} {s : Shared} {h₀ : Heap} {L : Addr} {m : Str → Option Value} {env : Env}
/-- what holds ahead of each item of the outer clause -/
inductive So2 (h₀ : Heap) (L : Addr) (m : Str → Option Value) (C I0 D ax : Addr) (vs : List Value) (k1 n : Nat) (Inv : Nat → Nat → List Value → Led → Prop) (i : Nat) (h : Heap) : Prop
  | mk {ys : List Value} {m' : Str → Option Value} {news : Led} : IsRangeIter h I0 (0 + (i : Nat) * 1) ((n : Int) - (i : Nat)) 1 → Fr h₀ L h m → h.Ns C m' → News h₀ L h ((D, LCg.lst ys) :: news) → Off I0 news → Off C news → Off D news → (ax, listOf vs.toArray k1) ∈ news → ys.length ≤ 100000 → Inv i 0 ys news →
    So2 h₀ L m C I0 D ax vs k1 n Inv i h
theorem comp2_E {elt i0 i1 : Expr} {x0 x1 : Str} {p0 p1 : Pos} {scope : Scope} {cl : List (Str × Addr)} {pos : Pos} {Q : Value → Shared → Prop} {n k1 : Nat} {ax : Addr} {vs : List Value} {news : Led} (Inv : Nat → Nat → List Value → Led → Prop)
    (_F₀ : Fr h₀ L s.heap m) (_N₀ : News h₀ L s.heap news) (hh : A.handled = none) (hclos : closureFor scope env = pure cl) (hcell : ∀ y ∈ scope.names, y.2 ≠ .cell) (hkind : scope.kind = .function) (hnames : ∀ y ∈ scope.names, y.2 = .local → scope.names.lookup y.1 = some .local)
    (hx0 : scope.names.lookup x0 = some .local) (hx1 : scope.names.lookup x1 = some .local) (hne : x0 ≠ x1) (hz : vs.length ≤ 1000)
    (src : wpAny (model prog w) A (eval i0 env) (fun xv s₁ => ∃ r t u v h tk, xv = .ref r ∧ s₁ = { s with heap := h, toks := tk } ∧ Fr h₀ L h m ∧ News h₀ L h news ∧ IsRange h r 0 (n : Int) 1 t u v) E s) (hn : n ≤ 1000)
    (mem : (ax, listOf vs.toArray k1) ∈ news) (ini : Inv 0 0 [] news) (next : ∀ i ys l, i < n → Inv i vs.length ys l → Inv (i + 1) 0 ys l)
    (hrow : ∀ C h tk i ys led (E' : Value → Shared → Prop), Inv i 0 ys led → Fr h₀ L h m → News h₀ L h led → wpAny (model prog w) A (eval i1 (compEnvC scope cl C env)) (fun v s' => v = .ref ax ∧ ∃ tk', s' = { s with heap := h, toks := tk' }) E' { s with heap := h, toks := tk })
    (helt : ∀ i j ys news v t I0 I1 C D oI0 oI1 oC m₂ h tk (E' : Value → Shared → Prop), i < n → j < vs.length → vs[j]? = some v → Inv i j ys news → LCg.NsObj oC m₂ → m₂ x0 = some (.int (i : Int) t) → m₂ x1 = some v → Fr h₀ L h m → News h₀ L h ((I0, oI0) :: (I1, oI1) :: (C, oC) :: (D, LCg.lst ys) :: news) → Ap I0 I1 C D news → (ax, listOf vs.toArray k1) ∈ news →
      wpAny (model prog w) A (eval elt (compEnvC scope cl C env)) (fun y s₂ => ∃ h' tk' news', s₂ = { s with heap := h', toks := tk' } ∧ Fr h₀ L h' m ∧ News h₀ L h' ((I0, oI0) :: (I1, oI1) :: (C, oC) :: (D, LCg.lst ys) :: news') ∧ Ap I0 I1 C D news' ∧ (ax, listOf vs.toArray k1) ∈ news' ∧ ys.length < 99999 ∧ Inv i (j + 1) (ys ++ [y]) news') E' { s with heap := h, toks := tk })
    (fin : ∀ ys news' D h tk, Inv n 0 ys news' → Fr h₀ L h m → News h₀ L h ((D, LCg.lst ys) :: news') → Off D news' → Q (.ref D) { s with heap := h, toks := tk })
    (hs : ∀ x, foldedSetIterable i0 env x = pure x := by intro _; rfl) (hf : ∀ C x, foldedSetIterable i1 (compEnvC scope cl C env) x = pure x := by intro _ _; rfl) :
    wpAny (model prog w) A (eval (.ListComp elt [⟨.Name x0 p0, i0, [], 0⟩, ⟨.Name x1 p1, i1, [], 0⟩] scope pos) env) Q E s := by
  rw [eval_ListComp]
  refine wpAny_comprehension_free (use := none) rfl hs hclos hkind hnames (wpAny_mono src ?_ fun _ _ e => e)
  rintro xv s₁ ⟨r, t, u, v, h, tk, rfl, rfl, F, N, hr⟩
  refine wpAny_pyIter_range hr (small0 (by omega)) ?_
  have W := LCg.range_walks (prog := prog) (w := w) (I := h.objs.size) hh 0 n
  have hI0L : h.objs.size ≠ L := Ne.symm (Nat.ne_of_lt F.ns.lt)
  have hI00 : h₀.get? h.objs.size = none := next_is_new F
  generalize hH2 : (h.push _ : Heap) = H2
  have up2 : ∀ b o, h.get? b = some o → H2.get? b = some o := fun b o e => hH2 ▸ Heap.get?_push_of_some _ e
  have sz2 : H2.objs.size = h.objs.size + 1 := by rw [← hH2, Heap.size_push]
  have hit : IsRangeIter H2 h.objs.size (0 + (0 : Nat) * 1) ((n : Int) - (0 : Nat)) 1 := by
    show IsRangeIter _ _ _ _ _
    rw [← hH2, size0]
    simpa using Heap.get?_push_size _ rfl
  refine wpAny_newObj_type (wpAny_newFunctionEnv hcell (by intro y hy; simp at hy) (fun h₁ ns₁ sb₁ => ?_) hkind)
  dsimp only at ns₁ sb₁ ⊢
  generalize hH3 : H2.push { cls := .type "list", dict := none, data := .seq ([] : List Value).toArray } = H3 at ns₁ sb₁ ⊢
  have sz3 : H3.objs.size = H2.objs.size + 1 := by rw [← hH3, Heap.size_push]
  have old : ∀ b o, H2.get? b = some o → h₁.get? b = some o := fun b o e => sb₁.extBut b o (by have := Heap.lt_size e; exact Nat.ne_of_lt (by rw [sz3]; exact Nat.lt_succ_of_lt this)) (Heap.get?_push_of_some _ (hH3 ▸ Heap.get?_push_of_some _ e))
  have nDC : H2.objs.size ≠ H3.objs.size := by rw [sz3]; exact Nat.ne_of_lt (Nat.lt_succ_self _)
  have hacc : h₁.get? H2.objs.size = some (LCg.lst []) := sb₁.extBut _ _ nDC (Heap.get?_push_of_some _ (hH3 ▸ Heap.get?_push_size _ rfl))
  have ltL : L < h.objs.size := F.ns.lt
  have fresh₀ : ∀ a, h.objs.size ≤ a → h₀.get? a = none := fun a ha => by
    cases e : h₀.get? a with
    | none => rfl
    | some o' => exact absurd (Heap.lt_size (F.keep a o' e)) (Nat.not_lt.mpr ha)
  have hDL : H2.objs.size ≠ L := Nat.ne_of_gt (by rw [sz2]; exact Nat.lt_succ_of_lt ltL)
  have hCL : H3.objs.size ≠ L := Nat.ne_of_gt (by rw [sz3, sz2]; exact Nat.lt_succ_of_lt (Nat.lt_succ_of_lt ltL))
  have hD0 : h₀.get? H2.objs.size = none := fresh₀ _ (by rw [sz2]; exact Nat.le_succ _)
  have hC0 : h₀.get? H3.objs.size = none := fresh₀ _ (by rw [sz3, sz2]; exact Nat.le_trans (Nat.le_succ _) (Nat.le_succ _))
  have n2 : h.objs.size ≠ H3.objs.size := Nat.ne_of_lt (by rw [sz3, sz2]; exact Nat.lt_succ_of_lt (Nat.lt_succ_self _))
  have n3 : h.objs.size ≠ H2.objs.size := Nat.ne_of_lt (by rw [sz2]; exact Nat.lt_succ_self _)
  have ltN : ∀ p ∈ news, p.1 < h.objs.size := fun p hp => Heap.lt_size (N p hp).1
  generalize h.objs.size = I0 at W hI0L hI00 hit n2 n3 ltN sz2 ltL fresh₀ ⊢
  generalize hDd : H2.objs.size = D at *
  generalize hCc : H3.objs.size = C at *
  have ltID : I0 < D := by rw [sz2]; exact Nat.lt_succ_self _
  have ltIC : I0 < C := by rw [sz3]; exact Nat.lt_succ_of_lt ltID
  have S0 : So2 h₀ L m C I0 D ax vs k1 n Inv 0 h₁ := by
    refine .mk (ys := []) (m' := _) (news := news) (old _ _ hit) (F.keeps fun b o e => old b o (up2 b o e)) ns₁ ?_ (fun p hp => Nat.ne_of_lt (ltN p hp)) (fun p hp => Nat.ne_of_lt (Nat.lt_trans (ltN p hp) ltIC)) (fun p hp => Nat.ne_of_lt (Nat.lt_trans (ltN p hp) ltID)) mem (Nat.zero_le _) ini
    intro p hp
    rcases List.mem_cons.mp hp with rfl | hp
    · exact ⟨hacc, hDL, hD0⟩
    · exact ⟨old _ _ (up2 _ _ (N p hp).1), (N p hp).2⟩
  have loop : ∀ tk', codeAny (model prog w) A (.compLoop (.ListComp elt [⟨.Name x0 p0, i0, [], 0⟩, ⟨.Name x1 p1, i1, [], 0⟩] scope pos) 0 (.ref I0) (.ref D) (compEnvC scope cl C env))
      (compPost (model prog w) A E none Q (.ref D) C) { s with heap := h₁, toks := tk' } := by
    intro tk'
    refine loop_out (fun k s' => ∃ h' tk' i, s' = { s with heap := h', toks := tk' } ∧ i ≤ n ∧ k = n + 1 - i ∧ So2 h₀ L m C I0 D ax vs k1 n Inv i h') ?_ (n + 1) ⟨h₁, tk', 0, rfl, Nat.zero_le _, rfl, S0⟩ (hf := hf C)
    rintro k s' ⟨h', tk2, i, rfl, hi, rfl, S⟩
    cases S with
    | @mk ys m' led st F' ns N' oI oC oD mem' z inv =>
    rcases Nat.lt_or_ge i n with hlt | hge
    · refine W.item i _ _ _ hlt st fun v h₂ tk₂ hv st₂ hk₂ => ?_
      obtain ⟨t9, rfl⟩ := hv
      have n₂ : h₂.Ns C m' := ns.at' fun o q => hk₂ _ o (by simpa using Ne.symm n2) q
      have F₂ := LCg.fr_but F' hk₂ hI0L.symm hI00
      have N₂ : News h₀ L h₂ ((D, LCg.lst ys) :: led) := LCg.news_but N' hk₂ fun p hp => by
        rcases List.mem_cons.mp hp with rfl | hp
        · exact Ne.symm n3
        · exact oI p hp
      refine wpAny_assign_Name (wpAny_storeName_local (lookup_relabel_local hx0) n₂ (fun h₃ n₃ s₃ => ?_) (by simp [compEnvC, relabel, hkind]))
      have F₃ := F₂.change s₃ hCL hC0
      obtain ⟨oR, eR2, eQ⟩ : ∃ o, h₂.get? I0 = some o ∧ ∀ h', h'.get? I0 = some o → IsRangeIter h' I0 (0 + ((i + 1 : Nat) : Int) * 1) ((n : Int) - ((i + 1 : Nat) : Int)) 1 := ⟨_, st₂, fun _ e => e⟩
      have eR : h₃.get? I0 = some oR := s₃.extBut _ _ n2 eR2
      have N₃ : News h₀ L h₃ ((I0, oR) :: (D, LCg.lst ys) :: led) := by
        intro p hp
        rcases List.mem_cons.mp hp with rfl | hp
        · exact ⟨eR, hI0L, hI00⟩
        · have q := N₂ p hp
          refine ⟨s₃.extBut _ _ ?_ q.1, q.2⟩
          rcases List.mem_cons.mp hp with rfl | hp
          · exact nDC
          · exact oC p hp
      have N₃' : News h₀ L h₃ led := fun p hp => N₃ p (.tail _ (.tail _ hp))
      refine wpAny_mono (hrow C h₃ _ i ys led _ inv F₃ N₃') ?_ fun _ _ q => q
      rintro xv s₄ ⟨rfl, tk₄, rfl⟩
      have hl : h₃.IsList ax vs.toArray := PySem.IsL.isList (n := k1) (N₃' _ mem').1
      refine wpAny_pyIter_list hl ?_
      obtain ⟨oC', eC', _⟩ := LCg.ns_obj n₃
      refine inner2 (s := s) (C := C) (I0 := I0) (I1 := h₃.objs.size) (D := D) (oI0 := oR) (Inv := Inv i) (x0 := x0) (x1 := x1) (v0 := .int (0 + (i : Int)) t9) hh hkind hx1 hne hz hCL hDL (Nat.ne_of_gt F₃.ns.lt) hC0 hD0 (next_is_new F₃) (Nat.ne_of_lt (Heap.lt_size eR)) n2 n3 (Nat.ne_of_gt (Heap.lt_size eC')) (Nat.ne_of_gt (Heap.lt_size (N₃ _ (.tail _ (.head _))).1)) (Ne.symm nDC) ?_ (.mk (ys := ys) (m' := _) (news := led) ⟨_, Heap.get?_push_size _ rfl, rfl, rfl⟩ (F₃.push _) (n₃.at' fun o q => Heap.get?_push_of_some _ q) (if_pos rfl) (fun p hp => ⟨Heap.get?_push_of_some _ (N₃ p hp).1, (N₃ p hp).2⟩) ⟨oI, fun p hp => Nat.ne_of_lt (Heap.lt_size (N₃' p hp).1), oC, oD⟩ mem' z inv) ?_
      · intro j ys news v oI1 oC m₂ h tk E' hj hv inv nc e0 e1 F N ap mem
        exact helt i j ys news v t9 I0 _ C D oR oI1 oC m₂ h tk E' hlt hj hv inv nc (by rw [e0, Int.zero_add]) e1 F N ap mem
      · intro h' tk' ys m' news F ns N ap mem z inv
        exact ⟨n + 1 - (i + 1), by omega, h', tk', i + 1, rfl, hlt, rfl, .mk (eQ h' (N _ (.head _)).1) F ns (fun p hp => N p (.tail _ hp)) ap.a ap.c ap.d mem z (next i ys news hlt inv)⟩
    · obtain rfl : i = n := Nat.le_antisymm hi hge
      refine W.done _ _ _ st fun h₂ tk₂ hk₂ => ?_
      have n₂ : h₂.Ns C m' := ns.at' fun o q => hk₂ _ o (by simpa using Ne.symm n2) q
      have F₂ := LCg.fr_but F' hk₂ hI0L.symm hI00
      have N₂ : News h₀ L h₂ ((D, LCg.lst ys) :: led) := LCg.news_but N' hk₂ fun p hp => by
        rcases List.mem_cons.mp hp with rfl | hp
        · exact Ne.symm n3
        · exact oI p hp
      refine ⟨m', n₂, fun h'' sb'' => fin ys led D h'' tk₂ inv (F₂.change sb'' hCL hC0) (fun p hp => ?_) oD⟩
      have q := N₂ p hp
      refine ⟨sb''.extBut _ _ ?_ q.1, q.2⟩
      rcases List.mem_cons.mp hp with rfl | hp
      · exact nDC
      · exact oC p hp
  exact codeAny_compStart_list (loop _) (W.self 0 _ _ _ (old _ _ hit) (loop _))
end

section
variable {prog : Program} {w : World} {A : Around} {E : Value → Shared → Prop} {s : Shared} {env : Env} {h₀ : Heap} {target : Expr} {body : List Stmt} {Q : Flow → Shared → Prop}
/-- a loop over a range from nought, any target, by an invariant -/
theorem rangeT {r : Addr} {b₀ : Int} {t₀ u₀ v₀ : Tok} {n : Nat} {m₀ : Str → Option Value} {news nx₀ : Led} (J : Nat → (Str → Option Value) → Led → Prop)
    (hh : A.handled = none) (hr : IsRange s.heap r 0 b₀ 1 t₀ u₀ v₀) (hb : b₀ = (n : Int)) (hz : n ≤ 1000000) (F : Fr h₀ env.locals s.heap m₀) (N : News h₀ env.locals s.heap news) (hn : ∀ p ∈ nx₀, p ∈ news) (hj : J 0 m₀ nx₀)
    (turn : ∀ i m₁ news₁ s₁ own t, i < n → OwnOff own (news₁.map (·.1)) → J i m₁ news₁ → Fr h₀ env.locals s₁.heap m₁ → News h₀ env.locals s₁.heap (news₁ ++ own) →
      wpAny (model prog w) A (assign target env (.int (i : Int) t)) (fun _ s₃ => wpAny (model prog w) A (execs body env) (fun f s₂ => f = .next ∧ InvEndG h₀ env.locals (J (i + 1)) own s₁ s₂) E s₃) E s₁)
    (done : ∀ m₁ news₁ h tk, J n m₁ news₁ → Fr h₀ env.locals h m₁ → News h₀ env.locals h news₁ → Q .next { s with heap := h, toks := tk })
    (hg : ∀ (s' : Shared) I v (Q' : Unit → Shared → Prop), Q' () s' → wpAny (model prog w) A (letOwnedTupleGo target (.ref I) v) Q' E s') :
    wpAny (model prog w) A (pyIter (.ref r)) (fun it s₂ => LoopAtT prog w A h₀ env target body Q E it s₂) E s := by
  subst hb
  refine wpAny_pyIter_range hr (small0 hz) ?_
  have W := LCg.range_walks (prog := prog) (w := w) (I := s.heap.objs.size) hh 0 n
  refine ⟨_, _, _, n, _, _, m₀, nx₀, J, rfl, W, ?_, ?_, ?_, ?_, F.push _, (fun p hp => ⟨Heap.get?_push_of_some _ (N p (hn p hp)).1, (N p (hn p hp)).2⟩), fun i s' v Q' _ q => hg s' _ v Q' q, hj, ?_, ?_⟩
  · intro hm
    exact absurd F.ns.lt ((List.mem_singleton.mp hm) ▸ Nat.lt_irrefl _)
  · intro b hb
    rw [List.mem_singleton.mp hb]
    exact next_is_new F
  · intro p hp hI
    exact absurd (Heap.lt_size (N p (hn p hp)).1) ((List.mem_singleton.mp hI) ▸ Nat.lt_irrefl _)
  · show IsRangeIter _ _ _ _ _
    rw [size0]
    simpa using Heap.get?_push_size _ rfl
  · rintro i v m₁ news₁ s₁ own hin ⟨t, rfl⟩ hJ hoff hown hget hfp hst F₁ N₁
    have hsep : OwnOff own (news₁.map (·.1)) := by
      intro p hp b hb e
      obtain ⟨q, hq, rfl⟩ := List.mem_map.mp hb
      exact hoff q hq (List.mem_singleton.mpr (e ▸ List.mem_singleton.mp (hown p hp)))
    have N₂ : News h₀ env.locals s₁.heap (news₁ ++ own) := fun p hp => N₁ p ((List.mem_append.mp hp).elim (fun h => List.mem_append.mpr (.inr h)) fun h => List.mem_append.mpr (.inl h))
    have hI0 : h₀.get? s.heap.objs.size = none := next_is_new F
    have hst' : s₁.heap.get? s.heap.objs.size = some _ := hst
    have hIown := hfp s.heap.objs.size (List.mem_singleton.mpr rfl) hI0 _ hst'
    have T := turn i m₁ news₁ s₁ own t hin hsep hJ F₁ N₂
    rw [Int.zero_add]
    refine wpAny_mono T (fun _ s₃ p => wpAny_mono p (fun f s₂ q => ?_) fun _ _ e => e) fun _ _ e => e
    obtain ⟨rfl, h', tk, m', news', nx, e, F', N', hn', ho, ha, hm⟩ := q
    refine ⟨rfl, h', tk, m', nx, e, F', fun p hp => ?_, fun p hp hq => ?_, hm⟩
    · rcases List.mem_append.mp hp with h | h
      · exact N' p (ho p h)
      · exact N' p (hn' p h)
    · exact ha _ hIown p.1 (List.mem_map.mpr ⟨p, hp, rfl⟩) (List.mem_singleton.mp hq).symm
  · rintro h' tk m' news' F' N' _ hJ
    exact done m' news' h' tk hJ F' N'
end
theorem ints_drop {vs : List Value} {ns : List Int} (h : IntsAre vs ns) : ∀ k, IntsAre (vs.drop k) (ns.drop k) := by
  induction h with
  | nil => intro k; simp; exact .nil
  | cons n t r ih =>
    intro k
    cases k with
    | zero => exact .cons n t r
    | succ k => exact ih k
section
variable {prog : Program} {w : World} {A : Around} {E : Value → Shared → Prop} {s : Shared} {h₀ : Heap} {L a : Addr} {m : Str → Option Value} {news : Led} {vs : List Value} {n1 : Nat}
theorem slice_from {value slice : PySem.Expr} {y : Int} {t2 : Tok} {Q : Value → Shared → Prop} (F : Fr h₀ L s.heap m) (N : News h₀ L s.heap news) (hm : (a, listOf vs.toArray n1) ∈ news) (h0 : 0 ≤ y) (hz : vs.length ≤ 1000000)
    (h : ∀ D h', Fr h₀ L h' m → News h₀ L h' ((D, listOf (vs.drop y.toNat).toArray 0) :: news) → (∀ p ∈ news, p.1 < D) → Q (.ref D) { s with heap := h' })
    (hs : subscripted slice false (.ref a) (.ref s.heap.objs.size) = operate [.ref s.heap.objs.size, .ref a] (getItem (.ref a) (.ref s.heap.objs.size))) (ht : ∀ r, letTemporaryGo value (.ref a) r = pure ()) :
    wpAny (model prog w) A (subscriptTail value slice (.ref a) (.ref s.heap.objs.size)) Q E { s with heap := s.heap.push { cls := .type "slice", data := .fields #[.int y t2, .none, .none] } } := by
  refine kms_slice_lit F N (PySem.IsL.isList (n := n1) (N _ hm).1) (IsPart.int _ _) IsPart.none ?_ h hs ht (by rw [sizeLine_eq, List.size_toArray]; omega)
  show (vs.drop (kms_lo (some y) vs.length)).take (kms_hi none vs.length - kms_lo (some y) vs.length) = vs.drop y.toNat
  have e1 : kms_lo (some y) vs.length = min y.toNat vs.length := by
    show (if y < 0 then vs.length - (-y).toNat else min y.toNat vs.length) = _
    exact if_neg (by omega)
  have e2 : kms_hi none vs.length = vs.length := by simp [kms_hi]
  rw [e1, e2]
  rcases Nat.le_total y.toNat vs.length with hh | hh
  · rw [Nat.min_eq_left hh, List.take_of_length_le (by rw [List.length_drop]; exact Nat.le_refl _)]
  · rw [Nat.min_eq_right hh, Nat.sub_self, List.take_zero, List.drop_of_length_le hh]
end
/-- all arrangements of the first so many numbers, in the order in which they are made -/
def arr : Nat → List (List Nat)
  | 0 => [[]]
  | k + 1 => (List.range (k + 1)).flatMap fun a => (arr k).map fun row => row.take a ++ [k] ++ row.drop a

theorem dat_ints {led : Led} {vs : List Value} {ns : List Int} (h : IntsAre vs ns) : DatAll led vs (ns.map Dat.int) := by
  induction h with
  | nil => exact .nil
  | cons n t _ ih => exact .cons (.int n t) ih
theorem dat_lists {led : Led} {vs : List Value} {rs : List (List Nat)} (h : ListsAre led vs rs) : DatAll led vs (rs.map fun r => Dat.list ((nz r).map Dat.int)) := by
  induction h with
  | nil => exact .nil
  | cons a b _ ih => exact .cons (.list a (dat_ints b)) ih
theorem dat_ok {rs : List (List Nat)} : ∀ d ∈ rs.map (fun r => Dat.list ((nz r).map Dat.int)), kqdOk 8 d = true := by
  intro d hd
  obtain ⟨r, _, rfl⟩ := List.mem_map.mp hd
  show ((nz r).map Dat.int).all (kqdOk 7) = true
  rw [List.all_eq_true]
  intro x hx
  obtain ⟨i, _, rfl⟩ := List.mem_map.mp hx
  rfl
section
variable {prog : Program} {w : World} {A : Around} {E : Value → Shared → Prop} {s : Shared} {h₀ : Heap} {L a b : Addr} {m : Str → Option Value} {news : Led} {vs us : List Value} {n1 n2 : Nat} {rs : List (List Nat)} {Q : Value → Shared → Prop}
/-- two lists of the same rows are not unequal -/
theorem ne_same (N : News h₀ L s.heap news) (ma : (a, listOf vs.toArray n1) ∈ news) (mb : (b, listOf us.toArray n2) ∈ news) (ha : ListsAre news vs rs) (hb : ListsAre news us rs) (hu : A.units + 64 < cLine) (h : Q (.bool false) s) :
    wpAny (model prog w) A (compareOp .NotEq (.ref a) (.ref b)) Q E s :=
  kqd_ne N ma rfl rfl (dat_lists ha) (fun _ h => h) mb rfl rfl (dat_lists hb) (fun _ h => h) dat_ok dat_ok hu (by simpa using h)
end

section
variable {prog : Program} {w : World} {A : Around} {E : Value → Shared → Prop} {s : Shared} {h₀ : Heap} {L : Addr} {m : Str → Option Value} {env : Env}
abbrev cell0 : Obj := { cls := .type "cell", data := .cell none }
theorem newEnv_cell {M : Model} {scope : Scope} {cl : List (Str × Addr)} {x : Str} {Q : Env → Shared → Prop} (hcf : ∀ n, cellsFrom n scope.names cl = (x, n) :: cl) (hpc : ∀ h, pushCells h scope.names = h.push cell0)
    (hQ : Q { scope, locals := s.heap.objs.size, globals := env.globals, cells := (x, s.heap.objs.size + 1) :: cl, qual := env.qual, func := none, code := env.code, frame := env.frame, builtins := env.builtins } { s with heap := (s.heap.push { cls := .type "dict", data := .dict #[] }).push cell0 }) :
    wpAny M A (newFunctionEnv scope env.globals cl [] env.qual none .none (some env)) Q E s := by
  simp only [newFunctionEnv, Option.isSome_some, if_true]
  refine wpAny_bind (wpAny_alloc ?_)
  refine wpAny_bind (wpAny_layCells _ (fun name kind cells => by cases hkc : kind == NameKind.cell <;> simp [hkc]) _ _ _ _ ?_)
  rw [hcf, hpc, List.forIn_nil]
  refine wpAny_bind (wpAny_pure (wpAny_pure ?_))
  rw [Heap.size_push]
  exact hQ
/-- the works of a comprehension with a cell lie apart -/
structure Ap4 (I C c D : Addr) (l : Led) : Prop where
  a : Off I l
  b : Off C l
  c : Off c l
  d : Off D l
inductive Sc1 (h₀ : Heap) (L : Addr) (m : Str → Option Value) (I C c D : Addr) (n : Nat) (Inv : Nat → List Value → Led → Prop) (i : Nat) (h : Heap) : Prop
  | mk {ys : List Value} {m' : Str → Option Value} {news : Led} {oc : Obj} {v0 : Option Value} : IsRangeIter h I (0 + (i : Nat) * 1) ((n : Int) - (i : Nat)) 1 → Fr h₀ L h m → h.Ns C m' → oc.data = .cell v0 → News h₀ L h ((c, oc) :: (D, LCg.lst ys) :: news) → Ap4 I C c D news → ys.length ≤ 100000 → Inv i ys news →
    Sc1 h₀ L m I C c D n Inv i h
theorem compC_A {elt i0 : Expr} {x y : Str} {p0 py : Pos} {scope : Scope} {cl : List (Str × Addr)} {pos spos : Pos} {Q : Flow → Shared → Prop} {n : Nat} {news : Led} (Inv : Nat → List Value → Led → Prop)
    (_F₀ : Fr h₀ L s.heap m) (_N₀ : News h₀ L s.heap news) (hLe : env.locals = L) (hsw : swapsWith (.ListComp elt [⟨.Name x p0, i0, [], 0⟩] scope pos) (some (.Name y py)) spos.line env = pure true) (hy : env.kindOf y = some .local) (hp : (env.scope.kind == .class || (env.scope.kind == .module && env.locals != env.globals)) = false) (hh : A.handled = none) (hclos : closureFor scope env = pure cl) (hkind : scope.kind = .function) (hnames : ∀ y ∈ scope.names, y.2 = .local → scope.names.lookup y.1 = some .local)
    (hcf : ∀ n, cellsFrom n scope.names cl = (x, n) :: cl) (hpc : ∀ h, pushCells h scope.names = h.push cell0) (hx : ∀ c C, (compEnvC scope ((x, c) :: cl) C env).kindOf x = some .cell)
    (src : wpAny (model prog w) A (eval i0 env) (fun xv s₁ => ∃ r t u v h tk, xv = .ref r ∧ s₁ = { s with heap := h, toks := tk } ∧ Fr h₀ L h m ∧ News h₀ L h news ∧ IsRange h r 0 (n : Int) 1 t u v) E s) (hn : n ≤ 1000)
    (ini : Inv 0 [] news)
    (helt : ∀ i ys news t I C c D oI oC oc h tk (E' : Value → Shared → Prop), i < n → Inv i ys news → oc.data = Data.cell (some (.int (i : Int) t)) → Fr h₀ L h m → News h₀ L h ((I, oI) :: (C, oC) :: (c, oc) :: (D, LCg.lst ys) :: news) → Ap4 I C c D news → I ≠ C → I ≠ c → I ≠ D → C ≠ c → C ≠ D → c ≠ D →
      wpAny (model prog w) A (eval elt (compEnvC scope ((x, c) :: cl) C env)) (fun y s₂ => ∃ h' tk' news', s₂ = { s with heap := h', toks := tk' } ∧ Fr h₀ L h' m ∧ News h₀ L h' ((I, oI) :: (C, oC) :: (c, oc) :: (D, LCg.lst ys) :: news') ∧ Ap4 I C c D news' ∧ ys.length < 99999 ∧ Inv (i + 1) (ys ++ [y]) news') E' { s with heap := h, toks := tk })
    (fin : ∀ ys news' D h tk, Inv n ys news' → Fr h₀ L h (fun z => if z = y then some (.ref D) else m z) → News h₀ L h ((D, LCg.lst ys) :: news') → Off D news' → Q .next { s with heap := h, toks := tk })
    (hs : ∀ x, foldedSetIterable i0 env x = pure x := by intro _; rfl) :
    wpAny (model prog w) A (exec (.Assign [.Name y py] (.ListComp elt [⟨.Name x p0, i0, [], 0⟩] scope pos) spos) env) Q E s := by
  subst hLe
  rw [exec_Assign_Name_used _ _ _ _ hsw]
  refine wpAny_bind (wpAny_standAt (wpAny_bind ?_))
  show wpAny _ A (do let _ ← comprehension (.ListComp elt [⟨.Name x p0, i0, [], 0⟩] scope pos) scope env _ (newList []) false (eval i0 env) (some (assign (.Name y py) env))) _ _ s
  refine wpAny_bind (wpAny_mono (wpAny_comprehension_free (use := some (assign (.Name y py) env)) (Q := fun _ s' => Q .next s') rfl hs hclos hkind hnames (wpAny_mono src ?_ fun _ _ e => e)) (fun _ s' hq => wpAny_pure (wpAny_pure hq)) fun _ _ e => e)
  rintro xv s₁ ⟨r, t, u, v, h, tk, rfl, rfl, F, N, hr⟩
  refine wpAny_pyIter_range hr (small0 (by omega)) ?_
  have W := LCg.range_walks (prog := prog) (w := w) (I := h.objs.size) hh 0 n
  have hI0L : h.objs.size ≠ env.locals := Ne.symm (Nat.ne_of_lt F.ns.lt)
  have hI00 : h₀.get? h.objs.size = none := next_is_new F
  generalize hH2 : (h.push _ : Heap) = H2
  have up2 : ∀ b o, h.get? b = some o → H2.get? b = some o := fun b o e => hH2 ▸ Heap.get?_push_of_some _ e
  have sz2 : H2.objs.size = h.objs.size + 1 := by rw [← hH2, Heap.size_push]
  have hit : IsRangeIter H2 h.objs.size (0 + (0 : Nat) * 1) ((n : Int) - (0 : Nat)) 1 := by
    show IsRangeIter _ _ _ _ _
    rw [← hH2, size0]
    simpa using Heap.get?_push_size _ rfl
  refine wpAny_newObj_type (newEnv_cell hcf hpc ?_)
  dsimp only
  generalize hH3 : H2.push { cls := .type "list", dict := none, data := .seq ([] : List Value).toArray } = H3
  have sz3 : H3.objs.size = H2.objs.size + 1 := by rw [← hH3, Heap.size_push]
  generalize hH4 : H3.push { cls := .type "dict", data := .dict #[] } = H4
  have sz4 : H4.objs.size = H3.objs.size + 1 := by rw [← hH4, Heap.size_push]
  have old3 : ∀ b o, H3.get? b = some o → (H4.push cell0).get? b = some o := fun b o e => Heap.get?_push_of_some _ (hH4 ▸ Heap.get?_push_of_some _ e)
  have old : ∀ b o, H2.get? b = some o → (H4.push cell0).get? b = some o := fun b o e => old3 b o (hH3 ▸ Heap.get?_push_of_some _ e)
  have hacc : (H4.push cell0).get? H2.objs.size = some (LCg.lst []) := old3 _ _ (hH3 ▸ Heap.get?_push_size _ rfl)
  have ns₁ : (H4.push cell0).Ns H3.objs.size (fun _ => none) := (hH4 ▸ Heap.Ns.new H3 (.type "dict")).at' fun o e => Heap.get?_push_of_some _ e
  have hcl : (H4.push cell0).get? (H3.objs.size + 1) = some cell0 := by rw [← sz4]; exact Heap.get?_push_size _ rfl
  have ltL : env.locals < h.objs.size := F.ns.lt
  have fresh₀ : ∀ a, h.objs.size ≤ a → h₀.get? a = none := fun a ha => by
    cases e : h₀.get? a with
    | none => rfl
    | some o' => exact absurd (Heap.lt_size (F.keep a o' e)) (Nat.not_lt.mpr ha)
  have ltN : ∀ p ∈ news, p.1 < h.objs.size := fun p hp => Heap.lt_size (N p hp).1
  generalize h.objs.size = I at *
  generalize H2.objs.size = D at *
  generalize H3.objs.size = C at *
  subst sz3
  subst sz2
  generalize hc : I + 1 + 1 + 1 = c at *
  have q1 : I < I + 1 := Nat.lt_succ_self _
  have q2 : I + 1 < I + 1 + 1 := Nat.lt_succ_self _
  have q3 : I + 1 + 1 < c := hc ▸ Nat.lt_succ_self _
  have hDL : I + 1 ≠ env.locals := Nat.ne_of_gt (Nat.lt_trans ltL q1)
  have hCL : I + 1 + 1 ≠ env.locals := Nat.ne_of_gt (Nat.lt_trans ltL (Nat.lt_trans q1 q2))
  have hcL : c ≠ env.locals := Nat.ne_of_gt (Nat.lt_trans ltL (Nat.lt_trans q1 (Nat.lt_trans q2 q3)))
  have hD0 : h₀.get? (I + 1) = none := fresh₀ _ (Nat.le_of_lt q1)
  have hC0 : h₀.get? (I + 1 + 1) = none := fresh₀ _ (Nat.le_of_lt (Nat.lt_trans q1 q2))
  have hc0 : h₀.get? c = none := fresh₀ _ (Nat.le_of_lt (Nat.lt_trans q1 (Nat.lt_trans q2 q3)))
  generalize hCC : I + 1 + 1 = C at *
  generalize hDD : I + 1 = D at *
  have nIC : I ≠ C := Nat.ne_of_lt (Nat.lt_trans q1 q2)
  have nIc : I ≠ c := Nat.ne_of_lt (Nat.lt_trans q1 (Nat.lt_trans q2 q3))
  have nID : I ≠ D := Nat.ne_of_lt q1
  have nDC : D ≠ C := Nat.ne_of_lt q2
  have nCc : C ≠ c := Nat.ne_of_lt q3
  have nDc : D ≠ c := Nat.ne_of_lt (Nat.lt_trans q2 q3)
  have F5 : Fr h₀ env.locals (H4.push cell0) m := F.keeps fun b o e => old b o (up2 b o e)
  have N5 : News h₀ env.locals (H4.push cell0) ((c, cell0) :: (D, LCg.lst []) :: news) := by
    intro p hp
    rcases List.mem_cons.mp hp with rfl | hp
    · exact ⟨hcl, hcL, hc0⟩
    · rcases List.mem_cons.mp hp with rfl | hp
      · exact ⟨hacc, hDL, hD0⟩
      · exact ⟨old _ _ (up2 _ _ (N p hp).1), (N p hp).2⟩
  have hit5 := old _ _ hit
  generalize H4.push cell0 = H5 at *
  have S0 : Sc1 h₀ env.locals m I C c D n Inv 0 H5 :=
    .mk (ys := []) (m' := _) (news := news) (oc := cell0) (v0 := none) hit5 F5 ns₁ rfl N5 ⟨fun p hp => Nat.ne_of_lt (ltN p hp), fun p hp => Nat.ne_of_lt (Nat.lt_trans (ltN p hp) (Nat.lt_trans q1 q2)), fun p hp => Nat.ne_of_lt (Nat.lt_trans (ltN p hp) (Nat.lt_trans q1 (Nat.lt_trans q2 q3))), fun p hp => Nat.ne_of_lt (Nat.lt_trans (ltN p hp) q1)⟩ (Nat.zero_le _) ini
  have loop : ∀ tk', codeAny (model prog w) A (.compLoop (.ListComp elt [⟨.Name x p0, i0, [], 0⟩] scope pos) 0 (.ref I) (.ref D) (compEnvC scope ((x, c) :: cl) C env))
      (compPost (model prog w) A E (some (assign (.Name y py) env)) (fun _ s' => Q .next s') (.ref D) C) { s with heap := H5, toks := tk' } := by
    intro tk'
    refine codeAny_compLoop_list (fun k s' => ∃ h' tk' i, s' = { s with heap := h', toks := tk' } ∧ i ≤ n ∧ k = n + 1 - i ∧ Sc1 h₀ env.locals m I C c D n Inv i h') ?_ (n + 1) ⟨H5, tk', 0, rfl, Nat.zero_le _, rfl, S0⟩
    rintro k s' ⟨h', tk2, i, rfl, hi, rfl, S⟩
    cases S with
    | @mk ys m' led oc v0 st F' ns hoc N' ap z inv =>
    rcases Nat.lt_or_ge i n with hlt | hge
    · refine W.item i _ _ _ hlt st fun v h₂ tk₂ hv st₂ hk₂ => ?_
      obtain ⟨t9, rfl⟩ := hv
      have n₂ : h₂.Ns C m' := ns.at' fun o q => hk₂ _ o (by simpa using Ne.symm nIC) q
      have F₂ := LCg.fr_but F' hk₂ hI0L.symm hI00
      have N₂ : News h₀ env.locals h₂ ((c, oc) :: (D, LCg.lst ys) :: led) := LCg.news_but N' hk₂ fun p hp => by
        rcases List.mem_cons.mp hp with rfl | hp
        · exact Ne.symm nIc
        · rcases List.mem_cons.mp hp with rfl | hp
          · exact Ne.symm nID
          · exact ap.a p hp
      refine wpAny_assign_Name (wpAny_storeName_cell (env := compEnvC scope ((x, c) :: cl) C env) (c := c) (by show (relabel scope env).kind = _; exact hkind) (hx c C) (by show List.lookup x ((x, c) :: cl) = _; simp) ⟨oc, (N₂ _ (.head _)).1, hoc⟩ fun h₃ hv₃ s₃ => ?_)
      obtain ⟨o₃, e₃, d₃⟩ := hv₃
      have F₃ := F₂.change s₃ hcL hc0
      obtain ⟨oI, eI2, eQ⟩ : ∃ o, h₂.get? I = some o ∧ ∀ h', h'.get? I = some o → IsRangeIter h' I (0 + ((i + 1 : Nat) : Int) * 1) ((n : Int) - ((i + 1 : Nat) : Int)) 1 := ⟨_, st₂, fun _ e => e⟩
      have eI : h₃.get? I = some oI := s₃.extBut _ _ nIc eI2
      have n₃ : h₃.Ns C m' := n₂.at' fun o q => s₃.extBut _ _ nCc q
      obtain ⟨oC, eC, nC⟩ := LCg.ns_obj n₃
      have N₃ : News h₀ env.locals h₃ ((I, oI) :: (C, oC) :: (c, o₃) :: (D, LCg.lst ys) :: led) := by
        intro p hp
        rcases List.mem_cons.mp hp with rfl | hp
        · exact ⟨eI, hI0L, hI00⟩
        · rcases List.mem_cons.mp hp with rfl | hp
          · exact ⟨eC, hCL, hC0⟩
          · rcases List.mem_cons.mp hp with rfl | hp
            · exact ⟨e₃, hcL, hc0⟩
            · have q := N₂ p (.tail _ hp)
              refine ⟨s₃.extBut _ _ ?_ q.1, q.2⟩
              rcases List.mem_cons.mp hp with rfl | hp
              · exact nDc
              · exact ap.c p hp
      refine wpAny_mono (helt i ys led t9 I C c D oI oC o₃ h₃ _ _ hlt inv (by rw [d₃, Int.zero_add]) F₃ N₃ ap nIC nIc nID nCc (Ne.symm nDC) (Ne.symm nDc)) ?_ fun _ _ q => q
      rintro y s₄ ⟨h₄, tk₄, news₄, rfl, F₄, N₄, ap₄, z₄, inv₄⟩
      have zD := (N₄ (D, LCg.lst ys) (.tail _ (.tail _ (.tail _ (.head _))))).1
      refine append_at (hsz := by show ys.toArray.size ≤ sizeLine; rw [List.size_toArray, sizeLine_eq]; omega) zD fun h₅ s₅ eD => ?_
      refine ⟨n + 1 - (i + 1), by omega, h₅, tk₄, i + 1, rfl, hlt, rfl, .mk (ys := ys ++ [y]) (m' := m') (news := news₄) (oc := o₃) (eQ h₅ (s₅.extBut _ _ nID (N₄ _ (.head _)).1)) (F₄.change s₅ hDL hD0) ((nC.ns (N₄ (C, oC) (.tail _ (.head _))).1).at' fun o q => s₅.extBut _ _ (Ne.symm nDC) q) d₃ ?_ ap₄ (by rw [List.length_append, List.length_singleton]; omega) inv₄⟩
      intro p hp
      rcases List.mem_cons.mp hp with rfl | hp
      · have q := N₄ (c, o₃) (.tail _ (.tail _ (.head _)))
        exact ⟨s₅.extBut _ _ (Ne.symm nDc) q.1, q.2⟩
      · rcases List.mem_cons.mp hp with rfl | hp
        · exact ⟨eD.trans (congrArg some (LCg.lst_snoc ys y)), hDL, hD0⟩
        · have q := N₄ p (.tail _ (.tail _ (.tail _ (.tail _ hp))))
          exact ⟨s₅.extBut _ _ (ap₄.d p hp) q.1, q.2⟩
    · obtain rfl : i = n := Nat.le_antisymm hi hge
      refine W.done _ _ _ st fun h₂ tk₂ hk₂ => ?_
      have n₂ : h₂.Ns C m' := ns.at' fun o q => hk₂ _ o (by simpa using Ne.symm nIC) q
      have F₂ := LCg.fr_but F' hk₂ hI0L.symm hI00
      have N₂ : News h₀ env.locals h₂ ((D, LCg.lst ys) :: led) := LCg.news_but (fun p hp => N' p (.tail _ hp)) hk₂ fun p hp => by
        rcases List.mem_cons.mp hp with rfl | hp
        · exact Ne.symm nID
        · exact ap.a p hp
      show wpAny _ A (assign (.Name y py) env (.ref D)) _ _ _
      refine wpAny_assign_Name (wpAny_storeName_local hy F₂.ns (fun h₃ hn₃ hs₃ => ?_) hp)
      have hL₀ : h₀.get? env.locals = none := Heap.get?_none_of_le F₂.above
      have F₃ : Fr h₀ env.locals h₃ (fun z => if z = y then some (.ref D) else m z) := ⟨hn₃, fun b o e => hs₃.extBut b o (fun q => by rw [q, hL₀] at e; cases e) (F₂.keep b o e), F₂.above⟩
      refine ⟨m', n₂.sameBut hs₃ hCL, fun h'' sb'' => fin ys led D h'' _ inv (F₃.change sb'' hCL hC0) (fun p hp => ?_) ap.d⟩
      have q := N₂ p hp
      have z : h₃.get? p.1 = some p.2 := hs₃.extBut _ _ q.2.1 q.1
      refine ⟨sb''.extBut _ _ ?_ z, q.2⟩
      rcases List.mem_cons.mp hp with rfl | hp
      · exact nDC
      · exact ap.b p hp
  exact codeAny_compStart_list (loop _) (W.self 0 _ _ _ hit5 (loop _))
end

def tIns (t : SetTable) (n : Nat) (h : Int) : SetTable :=
  match t.freeSlot h with
  | some (slot, _) => ((t.put slot).1).orStandIn (n + 1)
  | none => t.standIn (n + 1)
def stands (t : SetTable) (n : Nat) : Bool :=
  t.plain && t.fits n && !t.tooFull && (List.range n).all (fun k => SetTable.below t.place (if k = 0 then 0 else t.place.getD (k - 1) 0 + 1) == k) && SetTable.below t.place (if n = 0 then 0 else t.place.getD (n - 1) 0 + 1) == n
def r9 : List Int := [0, 1, 2, 3, 4, 5, 6, 7, 8]
def subl : List Nat → List (List Nat)
  | [] => [[]]
  | x :: r => subl r ++ (subl r).map fun l => x :: l
def subs : List (List Nat) := (subl [0, 1, 2, 3, 4, 5, 6, 7]).filter fun l => l.length ≤ 4
def tb (led : Bool) (l : List Nat) : SetTable := { mask := 7, place := l.toArray, dummies := #[], finger := 0, led, moves := 0, plain := true }
def nxt (led : Bool) (l : List Nat) (h : Int) : List Nat := (tIns (tb led l) l.length h).place.toList
def isSubl : List Nat → List Nat → Bool
  | [], _ => true
  | _ :: _, [] => false
  | a :: l, x :: r => match Nat.beq a x with
    | true => isSubl l r
    | false => isSubl (a :: l) r
theorem isSubl_mem : ∀ {r l : List Nat}, isSubl l r = true → l ∈ subl r
  | [], [], _ => .head _
  | [], _ :: _, h => by unfold isSubl at h; cases h
  | x :: r, [], _ => List.mem_append_left _ (isSubl_mem (r := r) (l := []) (by unfold isSubl; rfl))
  | x :: r, a :: l, h => by
    unfold isSubl at h
    unfold subl
    cases e : Nat.beq a x with
    | true =>
      rw [e] at h
      obtain rfl := Nat.eq_of_beq_eq_true e
      exact List.mem_append_right _ (List.mem_map.mpr ⟨l, isSubl_mem h, rfl⟩)
    | false =>
      rw [e] at h
      exact List.mem_append_left _ (isSubl_mem h)
def okStep (led : Bool) (l : List Nat) (h : Int) : Bool :=
  decide (tIns (tb led l) l.length h = tb led (nxt led l h)) && isSubl (nxt led l h) [0, 1, 2, 3, 4, 5, 6, 7] && (nxt led l h).length == l.length + 1
theorem steps_ok : ([true, false].all fun led => (subs.filter fun l => l.length ≤ 3).all fun l => r9.all fun h => okStep led l h) = true := by decide +kernel
theorem stands_ok : ([true, false].all fun led => subs.all fun l => stands (tb led l) l.length) = true := by decide +kernel

theorem step_at {led : Bool} {l : List Nat} {h : Int} (hl : l ∈ subs) (hz : l.length ≤ 3) (hh : h ∈ r9) : tIns (tb led l) l.length h = tb led (nxt led l h) ∧ nxt led l h ∈ subs ∧ (nxt led l h).length = l.length + 1 := by
  have z := steps_ok
  rw [List.all_eq_true] at z
  have z1 := z led (by cases led <;> simp)
  rw [List.all_eq_true] at z1
  have z2 := z1 l (List.mem_filter.mpr ⟨hl, by simpa using hz⟩)
  rw [List.all_eq_true] at z2
  have z3 := z2 h hh
  unfold okStep at z3
  rw [Bool.and_eq_true, Bool.and_eq_true, decide_eq_true_eq, beq_iff_eq] at z3
  exact ⟨z3.1.1, List.mem_filter.mpr ⟨isSubl_mem z3.1.2, decide_eq_true (by rw [z3.2]; omega)⟩, z3.2⟩
theorem stands_at {led : Bool} {l : List Nat} (hl : l ∈ subs) : stands (tb led l) l.length = true := by
  have z := stands_ok
  rw [List.all_eq_true] at z
  have z1 := z led (by cases led <;> simp)
  rw [List.all_eq_true] at z1
  exact z1 l hl
theorem stands_fits {led : Bool} {l : List Nat} (hl : l ∈ subs) : (tb led l).fits l.length = true ∧ (tb led l).tooFull = false := by
  have z := stands_at (led := led) hl
  unfold stands at z
  simp only [Bool.and_eq_true, Bool.not_eq_true'] at z
  exact ⟨z.1.1.1.2, z.1.1.2⟩
theorem layNew_tab {t : SetTable} {es : Array (Int × Value)} {h : Int} {x : Value} : (layNew t es h x).2.1 = tIns t es.size h := by
  have hp := (layNew_perm t es h x).length_eq
  rw [Array.length_toList, Array.length_toList, Array.size_push] at hp
  unfold layNew at hp ⊢
  unfold tIns
  cases e : t.freeSlot h with
  | none => rfl
  | some q =>
    obtain ⟨slot, wd⟩ := q
    rw [e] at hp
    dsimp only at hp ⊢
    rw [hp]
inductive LS (h : Heap) (S : Addr) (led : Bool) (n : Nat) : Prop
  | mk {es : Array (Int × Value)} {ep : Nat} {l : List Nat} : h.get? S = some { cls := .type "set", dict := none, data := .set es ep (tb led l) } → l ∈ subs → es.size = l.length → l.length ≤ n → (∀ e ∈ es.toList, ∃ k t, e = (k, Value.int k t) ∧ k ∈ r9) → LS h S led n
theorem r9_hash : ∀ k ∈ r9, hashInt k = k := by decide
section
variable {prog : Program} {w : World} {A : Around} {E : Value → Shared → Prop} {s : Shared}
theorem r9_elems {l : List (Int × Value)} (h : ∀ e ∈ l, ∃ k t, e = (k, Value.int k t) ∧ k ∈ r9) : ElemsOf (intKind prog w) l := by
  intro e he
  obtain ⟨k, t, rfl, hk⟩ := h e he
  exact ⟨⟨k, intKind_is _ _ _ _, (r9_hash k hk).symm⟩, rfl⟩
theorem add_led {S : Addr} {led : Bool} {n : Nat} {k : Int} {t : Tok} {Q : Bool → Shared → Prop} (hk : k ∈ r9) (hS : LS s.heap S led n) (hn : n ≤ 3)
    (h : ∀ b h', Heap.SameBut S s.heap h' → LS h' S led (n + 1) → Q b { s with heap := h', toks := s.toks + 1 }) :
    wpAny (model prog w) A (setAdd S (.int k t)) Q E s := by
  cases hS with
  | @mk es ep l ho hl hz hln hel =>
  have hel' : ElemsOf (intKind prog w) es.toList := r9_elems hel
  have hsb : es.size < scanBound := by unfold scanBound; omega
  have hf : (tb led l).fits es.size = true := by rw [hz]; exact (stands_fits hl).1
  unfold setAdd
  refine wpAny_holding ?_
  refine wpAny_bind ((intKind prog w).pyHash (k := k) (intKind_is _ _ _ _) ?_)
  unfold setAddHashed setAddHashedIn
  refine wpAny_holding (wpAny_bind (wpAny_setState_of (s := { s with toks := s.toks + 1 }) ho rfl hf ?_))
  dsimp only
  rw [byScan_of (knd := intKind prog w) rfl hsb hel']
  simp only [↓reduceIte]
  unfold setAddByScan
  refine wpAny_bind ?_
  refine wpAny_bind (wpAny_rule ?_)
  refine wpAny_bind (wpAny_setScan_of (knd := intKind prog w) (s := { s with toks := s.toks + 1 }) (k := k) (intKind_is _ _ _ _) ho rfl hf hel' ?_)
  cases hr : List.findIdx? (fun e => (intKind prog w).is k e.2) es.toList with
  | some j =>
    dsimp only
    exact wpAny_pure (wpAny_pure (h _ s.heap (Heap.SameBut.refl ..) (.mk ho hl hz (by omega) hel)))
  | none =>
    dsimp only
    obtain ⟨e1, e2, e3⟩ := step_at (led := led) hl (by omega) hk
    have hh : (intKind prog w).hash k = k := r9_hash k hk
    rw [hh]
    have ht := layNew_tab (t := tb led l) (es := es) (h := k) (x := Value.int k t)
    have hp := layNew_perm (tb led l) es k (Value.int k t)
    rw [hz, e1] at ht
    generalize layNew (tb led l) es k (Value.int k t) = LL at ht hp ⊢
    obtain ⟨es1, t1, wd, gave⟩ := LL
    dsimp only at ht hp ⊢
    subst ht
    rw [Array.toList_push] at hp
    have hz1 : es1.size = (nxt led l k).length := by rw [← Array.length_toList, hp.length_eq, List.length_append, Array.length_toList, hz, e3]; rfl
    have hel1 : ∀ e ∈ es1.toList, ∃ k t, e = (k, Value.int k t) ∧ k ∈ r9 := by
      intro e he
      rcases List.mem_append.mp (hp.mem_iff.mp he) with he | he
      · exact hel e he
      · exact ⟨k, t, List.mem_singleton.mp he, hk⟩
    have hgw : ∀ (b : Bool) {s₁ : Shared} {Q' : Unit → Shared → Prop}, Q' () s₁ → wpAny (model prog w) A (match b with | true => rule "set.scan.the-table-gave-way" | false => pure ()) Q' E s₁ :=
      fun b s₁ Q' hq => by cases b <;> first | exact wpAny_pure hq | exact wpAny_rule hq
    refine wpAny_bind (hgw _ ?_)
    rw [if_pos (show (tb led (nxt led l k)).plain = true from rfl)]
    refine wpAny_bind ?_
    rw [hashByValue_scannable 8 rfl]
    refine wpAny_pure ?_
    rw [if_pos (show plainKind (Value.int k t) = true from rfl)]
    have htf := (stands_fits (led := led) e2).2
    rw [htf]
    refine wpAny_bind (wpAny_storeSet_of (s := { s with toks := s.toks + 1 }) ho rfl ?_ (by rw [sizeLine_eq, hz1]; omega))
    rw [if_neg (by simp)]
    have hg : (s.heap.update S (Obj.putSet es1 (tb led (nxt led l k)))).get? S = some { cls := .type "set", dict := none, data := .set es1 (ep + 1) (tb led (nxt led l k)) } := by
      have := Heap.get?_update_self (Obj.putSet es1 (tb led (nxt led l k))) ho (by rw [putSet_of es1 _ rfl]; rfl)
      rw [putSet_of es1 _ rfl] at this; exact this
    exact wpAny_pure (wpAny_pure (h _ _ (Heap.SameBut.update ..) (.mk hg e2 hz1 (by omega) hel1)))
end

abbrev led0 (w : World) : Bool := !(w.params.followText "set-order")
theorem LS.at' {h h' : Heap} {S : Addr} {led : Bool} {n : Nat} (x : LS h S led n) (e : ∀ o, h.get? S = some o → h'.get? S = some o) : LS h' S led n := by
  cases x with
  | mk a b c d f => exact .mk (e _ a) b c d f
section
variable {prog : Program} {w : World} {A : Around} {E : Value → Shared → Prop} {s : Shared}
theorem upd_led {R : Result → Shared → Prop} {I : Addr} {fp wr : List Addr} {G : Array GenState → Array GenState → Prop} {n : Nat} {P : Nat → Value → Prop} {St : Nat → Shared → Prop} {led : Bool}
    (W : WalksS prog w A.in1 I fp wr G n P St) (S : Addr) (hSf : S ∉ fp) (hval : ∀ i v, P i v → ∃ k t, v = .int k t ∧ k ∈ r9) (hb : n ≤ 4) :
    ∀ (k i : Nat) (s : Shared), n - i = k → i ≤ n → St i s → LS s.heap S led i → (∀ s', Moved (S :: wr) G s s' → LS s'.heap S led n → R (.ok (.ret .none)) s') →
      codeAny (model prog w) A (.builtin "set.update.loop" ⟨[.ref S, .ref I], []⟩) R s := by
  have hSw : S ∉ wr := fun h => hSf (W.sub _ h)
  have hsub : ∀ b ∈ wr, b ∈ S :: wr := fun b hb => List.mem_cons_of_mem _ hb
  intro k
  induction k with
  | zero =>
    intro i s hk hi hst hS hR
    obtain rfl : i = n := by omega
    refine codeAny_builtin F.entry_set_update_loop ?_
    rw [Around.under_plainId F.plain_set_update_loop _]
    show wpAny _ A.in1 (pyNext (.ref I) >>= _) _ _ s
    refine wpAny_bind (W.done s _ _ hst fun s' hm => ?_)
    show wpAny _ A.in1 (ret Value.none) _ _ s'
    exact wpAny_pure (hR s' (hm.mono hsub) (hS.at' fun o e => hm.heap S o hSw e))
  | succ k ih =>
    intro i s hk hi hst hS hR
    have hlt : i < n := by omega
    refine codeAny_builtin F.entry_set_update_loop ?_
    rw [Around.under_plainId F.plain_set_update_loop _]
    show wpAny _ A.in1 (pyNext (.ref I) >>= _) _ _ s
    refine wpAny_bind (W.item i s _ _ hlt hst fun v s' hP hst' hm => ?_)
    obtain ⟨x, t, rfl, hx⟩ := hval i v hP
    have hS' : LS s'.heap S led i := hS.at' fun o e => hm.heap S o hSw e
    show wpAny _ A.in1 (holding [Value.int x t] (setAdd S (.int x t)) >>= _) _ _ s'
    refine wpAny_bind (wpAny_holding ?_)
    refine add_led hx hS' (by omega) fun b h' hsb hS2 => ?_
    refine wpAny_pure ⟨plainId_quiet F.plain_set_update_loop _, ih (i + 1) _ (by omega) hlt (W.frame _ s' _ _ hst' (Nat.le_succ _) fun b hb o e => ?_) hS2 fun s'' hm'' hS'' => ?_⟩
    · rw [hsb.2 b (fun h : b = S => hSf (h ▸ hb))]; exact e
    · refine hR s'' (Moved.trans W.gtrans ((hm.mono hsub).then_heap (Nat.le_succ _) fun b o hb e => ?_) hm'') hS''
      rw [hsb.2 b (fun h : b = S => hb (h ▸ List.mem_cons_self))]; exact e
theorem set_new_led (a : Value) {Q₁ : Value → Shared → Prop}
    (h : Q₁ (.ref s.heap.objs.size) { s with heap := s.heap.push { cls := .type "set", dict := none, data := .set #[] 0 (.fresh 0 0 (led0 w)) } }) :
    codeAny (model prog w) A (.call (.builtin "set.__new__") ⟨[.type "set", a], []⟩) (wants Q₁ E) s := by
  refine codeAny_of_tree ?_
  show wpAny _ A.in1 (do checkBuiltinCall "set.__new__" ⟨[.type "set", a], []⟩; again (.builtin "set.__new__" ⟨[.type "set", a], []⟩)) _ _ s
  refine wpAny_bind (wpAny_of_eq (F.newCall_set_1 a) (wpAny_pure ⟨plainId_quiet F.plain_set_new _, codeAny_builtin F.entry_set_new ?_⟩))
  rw [Around.under_plainId F.plain_set_new _]
  unfold Builtin.«set.__new__» Builtin.Frozenset.newClass
  have hsub := sub_set_self
  obtain ⟨hp, g, d, tk, os⟩ := s
  dsimp only
  wp_walk
  refine wpAny_askSetting (wpAny_pure ?_)
  dsimp only
  simp only [newObj]
  refine wpAny_bind (wpAny_alloc (wpAny_pure ?_))
  exact wpAny_pure h
end

section
variable {prog : Program} {w : World} {A : Around} {E : Value → Shared → Prop} {s : Shared}
theorem nil_subs : ([] : List Nat) ∈ subs := by decide
theorem call_set_led {l : Addr} {vs : List Value} {Q : Value → Shared → Prop} (hh : A.handled = none) (hl : s.heap.IsList l vs.toArray) (hi : ∀ v ∈ vs, ∃ k t, v = Value.int k t ∧ k ∈ r9) (hb : vs.length ≤ 4)
    (h : ∀ h' tk, LS h' s.heap.objs.size (led0 w) vs.length → (∀ b o, b < s.heap.objs.size → s.heap.get? b = some o → h'.get? b = some o) → Q (.ref s.heap.objs.size) { s with heap := h', toks := tk }) :
    wpAny (model prog w) A (call (.type "set") [.ref l]) Q E s := by
  obtain ⟨c, tl, hmro⟩ := F.called_set.mro
  have hmade := F.called_set.made
  have hsub := F.called_set.sub
  refine wpAny_call (codeAny_of_tree ?_)
  show wpAny _ _ (callAny (.type "set") _) _ _ _
  refine wpAny_pure ⟨Code.quiet_builtin _ (by decide +kernel), codeAny_builtin F.entry_type_call ?_⟩
  rw [Around.under_plain (weight_type_call_type "set" [.ref l] []) rfl]
  have h1 := F.called_set.notType
  have h2 := F.called_set.canCreate
  have hct := F.typeCall_set_1 (.ref l)
  repeat (any_goals (first | assumption | wp_step))
  refine codeAny_mono (set_new_led (.ref l) (E := E) (Q₁ := fun obj s₁ => obj = .ref s.heap.objs.size ∧ s₁ = { s with heap := s.heap.push { cls := .type "set", dict := none, data := .set #[] 0 (.fresh 0 0 (led0 w)) } }) ⟨rfl, rfl⟩) fun r s₁ hr => ?_
  cases r with
  | error e => exact hr
  | ok fl =>
    cases fl with
    | ret obj =>
      obtain ⟨rfl, rfl⟩ := hr
      have hS : (s.heap.push { cls := .type "set", dict := none, data := .set #[] 0 (.fresh 0 0 (led0 w)) }).get? s.heap.objs.size = some { cls := .type "set", dict := none, data := .set #[] 0 (.fresh 0 0 (led0 w)) } := Heap.get?_push_size _ rfl
      have hT : Shared.TypeIs { s with heap := s.heap.push { cls := .type "set", dict := none, data := .set #[] 0 (.fresh 0 0 (led0 w)) } } (.ref s.heap.objs.size) "set" := ⟨_, hS, rfl⟩
      have hli := F.called_set.init.lookup
      have hbi := F.called_set.init.bind (.ref s.heap.objs.size)
      repeat (any_goals (first | assumption | wp_step))
      refine codeAny_mono (codeAny_call_builtin (R := wants (fun r s₂ => r = .none ∧ ∃ h' tk, s₂ = { s with heap := h', toks := tk } ∧ LS h' s.heap.objs.size (led0 w) vs.length ∧ (∀ b o, b < s.heap.objs.size → s.heap.get? b = some o → h'.get? b = some o)) E) F.called_set.init.plain F.entry_set_init (check_set_init_1 hT ?_)) fun r₂ s₂ hr₂ => ?_
      · obtain ⟨ol, hol, hcl, nl, hdl⟩ := hl
        obtain ⟨ocls, odict, odata, oslots⟩ := ol
        simp only at hcl hdl
        subst hcl; subst hdl
        have hol' : (s.heap.push { cls := .type "set", dict := none, data := .set #[] 0 (.fresh 0 0 (led0 w)) }).get? l = some { cls := .type "list", dict := odict, data := .seq vs.toArray nl, slots := oslots } := Heap.get?_push_of_some _ hol
        have hsls := F.sub_list_set
        have hslf := F.sub_list_frozenset
        have hne : (Value.type "list" == Value.type "dict") = false := by decide
        have hl1 : (s.heap.push { cls := .type "set", dict := none, data := .set #[] 0 (.fresh 0 0 (led0 w)) }).IsList l vs.toArray := ⟨_, hol', rfl, nl, rfl⟩
        unfold Builtin.«set.__init__» noKeywords Builtin.Frozenset.updateFrom
        generalize hPI : pyIter = PI
        wp_walk
        subst hPI
        refine wpAny_pyIter_list hl1 ?_
        refine wpAny_bind (wpAny_runValue ?_)
        have hlS : l < s.heap.objs.size := Heap.lt_size hol
        have hh3 : A.in1.in1.in1.handled = none := by simp [hh]
        have hneI : l ≠ (s.heap.push { cls := .type "set", dict := none, data := .set #[] 0 (.fresh 0 0 (led0 w)) }).objs.size := by
          rw [Heap.size_push]; exact Nat.ne_of_lt (Nat.lt_succ_of_lt hlS)
        have hSf : s.heap.objs.size ∉ [(s.heap.push { cls := .type "set", dict := none, data := .set #[] 0 (.fresh 0 0 (led0 w)) }).objs.size, l] := by
          rw [Heap.size_push]; simp only [List.mem_cons, List.not_mem_nil, or_false, not_or]
          exact ⟨Nat.ne_of_lt (Nat.lt_succ_self _), Nat.ne_of_gt hlS⟩
        have hval : ∀ (i : Nat) (v : Value), vs.toArray[i]? = some v → ∃ k t, v = .int k t ∧ k ∈ r9 := fun i v hv => hi v (List.mem_of_getElem? (by simpa using hv))
        have hW := (Walks.list (prog := prog) (w := w) hh3 _ l hneI vs.toArray).toS
        have hlen : vs.toArray.size = vs.length := by simp
        rw [hlen] at hW
        refine upd_led (led := led0 w) hW s.heap.objs.size hSf hval hb (vs.length - 0) 0 _ (by omega) (Nat.zero_le _) ⟨⟨_, Heap.get?_push_size _ rfl, rfl, rfl⟩, (hl1.push _)⟩ ?hS0 ?hR
        case hS0 =>
          exact .mk (es := #[]) (ep := 0) (l := []) (Heap.get?_push_of_some _ hS) nil_subs rfl (Nat.le_refl _) (fun e he => by simp at he)
        case hR =>
          intro s' hm hS'
          obtain ⟨h', g', d', tk', os'⟩ := s'
          have eg : g' = s.gens := hm.gens
          have ed : d' = s.drawn := hm.drawn
          have eo : os' = s.os := hm.os
          subst eg; subst ed; subst eo
          show wpAny _ _ _ _ _ _
          refine wpAny_pure ?_
          show wpAny _ _ (ret Value.none) _ _ _
          refine wpAny_pure ⟨rfl, h', tk', rfl, hS', fun b o hb e => ?_⟩
          have hb1 : b ≠ s.heap.objs.size := Nat.ne_of_lt hb
          have hb2 : b ≠ (s.heap.push { cls := .type "set", dict := none, data := .set #[] 0 (.fresh 0 0 (led0 w)) }).objs.size := by
            rw [Heap.size_push]; exact Nat.ne_of_lt (Nat.lt_succ_of_lt hb)
          exact hm.heap b o (by simp only [List.mem_cons, List.not_mem_nil, or_false, not_or]; exact ⟨hb1, hb2⟩) (Heap.get?_push_of_some _ (Heap.get?_push_of_some _ e))
      · cases r₂ with
        | error e => exact hr₂
        | ok fl₂ =>
          cases fl₂ with
          | ret r =>
            obtain ⟨rfl, h', tk, rfl, hS', hk'⟩ := hr₂
            repeat (any_goals (first | assumption | wp_step))
            exact h _ _ hS' hk'
          | _ => exact hr₂.elim
    | _ => exact hr.elim
end

theorem slot_si_next : Slot "set_iterator" "__next__" "set_iterator.__next__" :=
  .of (owner := "set_iterator") (n := "__next__") (by rw [typeLookup_type, builtinLookup_eq_fast]; kernel_rfl) (by decide +kernel) (by decide +kernel) (by decide +kernel)
    (by first | exact .inl (by decide +kernel) | exact .inr (by decide +kernel)) (by rw [isSubtype_type]; kernel_rfl)
theorem entry_si_next : entryFor table "set_iterator.__next__" = some Builtin.«set_iterator.__next__» := entryFor_of_tree (by kernel_rfl)
theorem entry_set_iter' : entryFor table "set.__iter__" = some Builtin.«frozenset.__iter__» := entryFor_alias (id' := "frozenset.__iter__") (by kernel_rfl) rfl (by decide +kernel) (by kernel_rfl)
theorem args_si_next (a : Value) : argsOk "set_iterator.__next__" ⟨[a], []⟩ := by unfold argsOk; kernel_rfl
/-- the iterator of a set -/
def SIt (h : Heap) (it S : Addr) (slot i n ep : Nat) : Prop :=
  ∃ o : Obj, h.get? it = some o ∧ o.cls = .type "set_iterator" ∧ o.data = .fields #[.int (slot : Int) 0, .int (i : Int) 0, .ref S, .int (n : Int) 0, .int (ep : Int) 0]
theorem SIt.typeIs {s : Shared} {it S : Addr} {slot i n ep : Nat} (h : SIt s.heap it S slot i n ep) : s.TypeIs (.ref it) "set_iterator" := let ⟨o, a, b, _⟩ := h; ⟨o, a, b⟩
section
variable {prog : Program} {w : World} {A : Around} {E : Value → Shared → Prop} {s : Shared}
theorem pyIter_set {S : Addr} {es : Array (Int × Value)} {ep : Nat} {l : List Nat} {led : Bool} {Q : Value → Shared → Prop} (ho : s.heap.get? S = some { cls := .type "set", dict := none, data := .set es ep (tb led l) }) (hl : l ∈ subs) (hz : es.size = l.length)
    (h : Q (.ref s.heap.objs.size) { s with heap := s.heap.push { cls := .type "set_iterator", data := .fields #[.int 0 0, .int 0 0, .ref S, .int (es.size : Int) 0, .int (ep : Int) 0] } }) :
    wpAny (model prog w) A (pyIter (.ref S)) Q E s := by
  have hT : s.TypeIs (.ref S) "set" := ⟨_, ho, rfl⟩
  have hf : (tb led l).fits es.size = true := by rw [hz]; exact (stands_fits hl).1
  refine wpAny_pyIter_slot hT F.slot_set_iter (wpAny_call_entry F.slot_set_iter hT entry_set_iter' ?_ (F.args_set_iter_1 _))
  unfold Builtin.«frozenset.__iter__» Builtin.Frozenset.slot0 slotArgs
  simp only [List.isEmpty_nil, Bool.not_true, Bool.false_eq_true, ↓reduceIte, bind_assoc, List.length_nil, bne_self_eq_false]
  unfold Builtin.Frozenset.addrOf Builtin.Frozenset.sizeOf
  refine wpAny_bind (wpAny_pure ?_)
  try dsimp only
  refine wpAny_bind (wpAny_pure ?_)
  refine wpAny_bind (wpAny_bind (wpAny_setEntries_of ho rfl hf (wpAny_pure ?_)))
  unfold setDrawn
  refine wpAny_bind (wpAny_bind (wpAny_setState_of ho rfl hf ?_))
  unfold setsByText
  refine wpAny_bind (wpAny_bind (wpAny_askSetting (wpAny_pure ?_)))
  dsimp only
  refine wpAny_pure ?_
  rw [if_neg (by
    show ¬ ((!(w.params.followText "set-order") && (!true && _)) = true)
    simp)]
  refine wpAny_bind (wpAny_pure ?_)
  unfold setEpoch
  refine wpAny_bind (wpAny_bind (wpAny_setState_of ho rfl hf (wpAny_pure ?_)))
  refine wpAny_bind (wpAny_newObj_type (wpAny_pure ⟨_, rfl, "set_iterator", _, ⟨_, Heap.get?_push_size _ rfl, rfl⟩, slot_si_next.lookup, ?_⟩))
  exact h
end

theorem pick_go {α : Type} (next : Nat → Nat) : ∀ (fuel k : Nat) (left : List α) (out : Array α), fuel = left.length → (pickOrder.go next fuel k left out).size = out.size + left.length ∧ ∀ x ∈ (pickOrder.go next fuel k left out).toList, x ∈ out.toList ∨ x ∈ left
  | 0, k, left, out, h => by
    have : left = [] := List.eq_nil_of_length_eq_zero h.symm
    subst this
    unfold pickOrder.go
    exact ⟨rfl, fun x hx => .inl hx⟩
  | fuel + 1, k, left, out, h => by
    have hlt : next k % left.length < left.length := Nat.mod_lt _ (by omega)
    unfold pickOrder.go
    rw [List.getElem?_eq_getElem hlt]
    dsimp only
    have ih := pick_go next fuel (k + 1) (left.eraseIdx (next k % left.length)) (out.push left[next k % left.length]) (by rw [List.length_eraseIdx_of_lt hlt]; omega)
    refine ⟨?_, fun x hx => ?_⟩
    · rw [ih.1, Array.size_push, List.length_eraseIdx_of_lt hlt]; omega
    · rcases ih.2 x hx with q | q
      · rw [Array.toList_push] at q
        rcases List.mem_append.mp q with q | q
        · exact .inl q
        · rw [List.mem_singleton.mp q]; exact .inr (List.getElem_mem hlt)
      · exact .inr (List.mem_of_mem_eraseIdx q)
/-- the items in the order in which the walk hands them out -/
def outs (w : World) (S : Addr) (es : Array (Int × Value)) (ep : Nat) : List Value :=
  if w.params.followText "set-order" = true then (pickOrder (w.params.setOrder S ep) es).toList.map (·.2) else es.toList.map (·.2)
theorem outs_len {w : World} {S : Addr} {es : Array (Int × Value)} {ep : Nat} : (outs w S es ep).length = es.size := by
  unfold outs
  split
  · rw [List.length_map, Array.length_toList]
    unfold pickOrder
    rw [(pick_go _ es.size 0 es.toList #[] (by simp)).1]; simp
  · rw [List.length_map, Array.length_toList]
theorem outs_mem {w : World} {S : Addr} {es : Array (Int × Value)} {ep : Nat} {x : Value} (h : x ∈ outs w S es ep) : ∃ e ∈ es.toList, e.2 = x := by
  unfold outs at h
  split at h
  · obtain ⟨e, he, rfl⟩ := List.mem_map.mp h
    unfold pickOrder at he
    rcases (pick_go _ es.size 0 es.toList #[] (by simp)).2 e he with q | q
    · simp at q
    · exact ⟨e, q, rfl⟩
  · obtain ⟨e, he, rfl⟩ := List.mem_map.mp h
    exact ⟨e, he, rfl⟩
def slAt (w : World) (l : List Nat) (i : Nat) : Nat := if w.params.followText "set-order" = true then 0 else if i = 0 then 0 else l.getD (i - 1) 0 + 1
theorem below_at {led : Bool} {l : List Nat} (hl : l ∈ subs) {i : Nat} (hi : i ≤ l.length) : SetTable.below (tb led l).place (if i = 0 then 0 else l.getD (i - 1) 0 + 1) = i := by
  have z := stands_at (led := led) hl
  unfold stands at z
  simp only [Bool.and_eq_true, List.all_eq_true, beq_iff_eq, List.mem_range] at z
  have e : ∀ j, (tb led l).place.getD j 0 = l.getD j 0 := fun j => by simp [tb, Array.getD_eq_getD_getElem?, List.getD_eq_getElem?_getD]
  rcases Nat.lt_or_ge i l.length with h | h
  · have := z.1.2 i h
    rw [e] at this; exact this
  · obtain rfl : i = l.length := by omega
    have := z.2
    rw [e] at this; exact this
section
variable {prog : Program} {w : World} {A : Around} {E : Value → Shared → Prop} {s : Shared}
theorem setNext_at {S : Addr} {es : Array (Int × Value)} {ep : Nat} {l : List Nat} {i : Nat} {Q : Option (Value × Nat) → Shared → Prop} (ho : s.heap.get? S = some { cls := .type "set", dict := none, data := .set es ep (tb (led0 w) l) }) (hl : l ∈ subs) (hz : es.size = l.length) (hi : i ≤ l.length)
    (h : Q ((outs w S es ep)[i]?.map fun x => (x, slAt w l (i + 1))) s) :
    wpAny (model prog w) A (setNext S (slAt w l i) i ep) Q E s := by
  have hf : (tb (led0 w) l).fits es.size = true := by rw [hz]; exact (stands_fits hl).1
  unfold setNext
  refine wpAny_bind (wpAny_setState_of ho rfl hf ?_)
  unfold setsByText
  refine wpAny_bind (wpAny_bind (wpAny_askSetting (wpAny_pure ?_)))
  dsimp only
  cases hb : w.params.followText "set-order" with
  | true =>
    rw [if_pos (show (model prog w).w.params.followText "set-order" = true from hb), if_neg (by simp)]
    unfold outs slAt at h
    rw [if_pos hb, if_pos hb] at h
    unfold slAt
    rw [if_pos hb]
    unfold setWalk
    refine wpAny_bind (wpAny_bind (wpAny_setState_of ho rfl hf ?_))
    unfold setsByText
    refine wpAny_bind (wpAny_bind (wpAny_askSetting (wpAny_pure ?_)))
    dsimp only
    rw [if_pos (show (model prog w).w.params.followText "set-order" = true from hb)]
    refine wpAny_bind (wpAny_askSetting (wpAny_pure (wpAny_pure ?_)))
    rw [List.getElem?_map, Option.map_map] at h
    rw [← Array.getElem?_toList]
    exact h
  | false =>
    rw [if_neg (show ¬ (model prog w).w.params.followText "set-order" = true by rw [show (model prog w).w.params.followText "set-order" = false from hb]; decide)]
    rw [if_neg (by
      show ¬ ((!true && _) = true)
      simp)]
    refine wpAny_bind ?_
    show wpAny _ _ (if (!(led0 w) && !es.isEmpty) = true then _ else pure ()) _ _ _
    rw [if_neg (by unfold led0; rw [hb]; simp)]
    refine wpAny_pure (wpAny_pure ?_)
    unfold outs slAt at h
    have hbf : ¬ w.params.followText "set-order" = true := by rw [hb]; decide
    rw [if_neg hbf, if_neg hbf] at h
    have eb : SetTable.below (tb (led0 w) l).place (slAt w l i) = i := by
      unfold slAt
      rw [if_neg (by rw [hb]; decide)]
      exact below_at hl hi
    rw [eb]
    rw [if_neg (show ¬ i + 1 = 0 from Nat.succ_ne_zero i), Nat.add_sub_cancel] at h
    have ep : (tb (led0 w) l).place[i]? = l[i]? := by simp [tb]
    rw [ep]
    rcases Nat.lt_or_ge i l.length with hlt | hge
    · have h1 : i < es.size := by omega
      rw [List.getElem?_eq_getElem hlt, Array.getElem?_eq_getElem h1]
      rw [List.getElem?_map, Array.getElem?_toList, Array.getElem?_eq_getElem h1, List.getD_eq_getElem?_getD, List.getElem?_eq_getElem hlt] at h
      exact h
    · rw [List.getElem?_eq_none hge, Array.getElem?_eq_none (by omega)]
      rw [List.getElem?_map, Array.getElem?_toList, Array.getElem?_eq_none (by omega)] at h
      exact h
end

section
variable {prog : Program} {w : World} {A : Around} {E : Value → Shared → Prop} {s : Shared}
theorem next_item {it S : Addr} {es : Array (Int × Value)} {ep : Nat} {l : List Nat} {i : Nat} {x : Value} {Q : Option Value → Shared → Prop} (ho : s.heap.get? S = some { cls := .type "set", dict := none, data := .set es ep (tb (led0 w) l) }) (hl : l ∈ subs) (hz : es.size = l.length) (hi : i ≤ l.length)
    (hit : SIt s.heap it S (slAt w l i) i es.size ep) (hx : (outs w S es ep)[i]? = some x) (hSi : S ≠ it)
    (hQ : ∀ h', SIt h' it S (slAt w l (i + 1)) (i + 1) es.size ep → Heap.SameBut it s.heap h' → Q (some x) { s with heap := h' }) :
    wpAny (model prog w) A (pyNext (.ref it)) Q E s := by
  obtain ⟨o, hgo, hc, hd⟩ := id hit
  have hf : (tb (led0 w) l).fits es.size = true := by rw [hz]; exact (stands_fits hl).1
  unfold pyNext
  refine wpAny_bind (wpAny_attempt (wpAny_callSpecial?_slot (name := Str.ofString "__next__") hit.typeIs slot_si_next
    (wpAny_call_entry slot_si_next hit.typeIs entry_si_next ?_ (args_si_next _))))
  unfold Builtin.«set_iterator.__next__» slotArgs
  simp only [List.isEmpty_nil, Bool.not_true, Bool.false_eq_true, ↓reduceIte, bind_assoc, List.length_nil, bne_self_eq_false]
  refine wpAny_bind (wpAny_pure ?_)
  try dsimp only
  refine wpAny_bind (wpAny_fieldsOf hgo hd ?_)
  dsimp only
  refine wpAny_bind (wpAny_setEntries_of ho rfl hf ?_)
  rw [if_neg (by simp)]
  simp only [Int.toNat_natCast]
  refine wpAny_bind (setNext_at ho hl hz hi ?_)
  rw [hx]
  dsimp only [Option.map]
  have g1 := Heap.get?_update_self (Obj.mapFields (·.setIfInBounds 0 (rawInt (slAt w l (i + 1) : Nat)))) hgo (Obj.isFreed_of_fields (Obj.data_mapFields hd _))
  have d1 := Obj.data_mapFields hd (·.setIfInBounds 0 (rawInt (slAt w l (i + 1) : Nat)))
  refine wpAny_bind (wpAny_setField hgo hd (by simp) ?_)
  refine wpAny_bind (wpAny_setField g1 d1 (by simp) (wpAny_pure ⟨x, rfl, wpAny_pure (hQ _ ?_ ((Heap.SameBut.update ..).trans (Heap.SameBut.update ..)))⟩))
  refine ⟨_, Heap.get?_update_self _ g1 (Obj.isFreed_of_fields (Obj.data_mapFields d1 _)), (Obj.cls_mapFields ..).trans ((Obj.cls_mapFields ..).trans hc), ?_⟩
  rw [Obj.data_mapFields d1]
  simp [rawInt]
theorem next_end {it S : Addr} {es : Array (Int × Value)} {ep : Nat} {l : List Nat} {i : Nat} {Q : Option Value → Shared → Prop} (ho : s.heap.get? S = some { cls := .type "set", dict := none, data := .set es ep (tb (led0 w) l) }) (hl : l ∈ subs) (hz : es.size = l.length) (hi : i ≤ l.length)
    (hit : SIt s.heap it S (slAt w l i) i es.size ep) (hx : (outs w S es ep)[i]? = none) (hh : A.handled = none)
    (hQ : ∀ h', Heap.ExtBut it s.heap h' → Q none { s with heap := h' }) :
    wpAny (model prog w) A (pyNext (.ref it)) Q E s := by
  obtain ⟨o, hgo, hc, hd⟩ := id hit
  have hf : (tb (led0 w) l).fits es.size = true := by rw [hz]; exact (stands_fits hl).1
  unfold pyNext
  refine wpAny_bind (wpAny_attempt (wpAny_callSpecial?_slot (name := Str.ofString "__next__") hit.typeIs slot_si_next
    (wpAny_call_entry slot_si_next hit.typeIs entry_si_next ?_ (args_si_next _))))
  unfold Builtin.«set_iterator.__next__» slotArgs
  simp only [List.isEmpty_nil, Bool.not_true, Bool.false_eq_true, ↓reduceIte, bind_assoc, List.length_nil, bne_self_eq_false]
  refine wpAny_bind (wpAny_pure ?_)
  try dsimp only
  refine wpAny_bind (wpAny_fieldsOf hgo hd ?_)
  dsimp only
  refine wpAny_bind (wpAny_setEntries_of ho rfl hf ?_)
  rw [if_neg (by simp)]
  simp only [Int.toNat_natCast]
  refine wpAny_bind (setNext_at ho hl hz hi ?_)
  rw [hx]
  dsimp only [Option.map]
  refine wpAny_bind (wpAny_setField hgo hd (by simp) ?_)
  show wpAny _ _ (newExc (.type "StopIteration") [] >>= _) _ _ _
  refine wpAny_bind ?_
  simp only [newExc, newTuple]
  refine wpAny_bind (wpAny_newObj_type ?_ (by size_fits))
  refine wpAny_bind (m := firstArgMember _ _) (wpAny_of_eq (a := Value.none) (by first | rfl | (simp only [firstArgMember]; rfl)) ?_)
  refine wpAny_newObj_type ?_ (by size_fits)
  simp only [raiseNew]
  refine wpAny_bind (wpAny_handled ?_)
  rw [show A.in1.handled = none from hh]
  refine wpAny_bind (wpAny_pure (wpAny_throw ?_))
  refine wpAny_bind (wpAny_isInstance (T := "StopIteration") (b := true) ⟨_, Heap.get?_push_size _ rfl, rfl⟩ isSubtype_stop ?_)
  exact wpAny_pure (hQ _ (((Heap.SameBut.update ..).extBut.push _).push _))
end

theorem slot_si_iter : Slot "set_iterator" "__iter__" "set_iterator.__iter__" :=
  .of (owner := "set_iterator") (n := "__iter__") (by rw [typeLookup_type, builtinLookup_eq_fast]; kernel_rfl) (by decide +kernel) (by decide +kernel) (by decide +kernel)
    (by first | exact .inl (by decide +kernel) | exact .inr (by decide +kernel)) (by rw [isSubtype_type]; kernel_rfl)
theorem args_si_iter (a : Value) : argsOk "set_iterator.__iter__" ⟨[a], []⟩ := by unfold argsOk; kernel_rfl
theorem len_set : typeLookup (.type "set") "__len__" = pure (some (.builtin "set.__len__")) := by rw [typeLookup_type, builtinLookup_eq_fast]; kernel_rfl
section
variable {prog : Program} {w : World} {A : Around} {E : Value → Shared → Prop} {s : Shared}
theorem hint_set {S : Addr} (hT : s.TypeIs (.ref S) "set") {Q : Bool → Shared → Prop} (h : Q false s) : wpAny (model prog w) A (Builtin.List.listLengthHint (.ref S)) Q E s := by
  unfold Builtin.List.listLengthHint
  refine wpAny_bind (wpAny_specialOf hT len_set ?_)
  generalize hid : ("set.__len__" : String) = id0
  wp_delta
  rw [show splitId id0 = some ("set", "__len__") from by subst hid; decide +kernel]
  subst hid
  refine wpAny_bind (wpAny_isInstance (T := "set") (b := true) hT (by rw [isSubtype_type]; kernel_rfl) ?_)
  refine wpAny_ite_split (fun hab => absurd hab (by decide)) (fun _ => ?_)
  refine wpAny_ite_split (fun _ => ?_) (fun hab => absurd (by decide +kernel) hab)
  refine wpAny_bind (wpAny_typeOf hT ?_)
  exact wpAny_pure h
end
theorem entry_si_iter : entryFor table "set_iterator.__iter__" = some Builtin.«dict_keyiterator.__iter__» :=
  entryFor_alias (id' := "dict_keyiterator.__iter__") (by kernel_rfl) rfl (by decide +kernel) (by kernel_rfl)
/-- the state of a walk over a set -/
def StS (w : World) (it S : Addr) (es : Array (Int × Value)) (ep : Nat) (l : List Nat) (i : Nat) (h : Heap) : Prop :=
  i ≤ l.length ∧ SIt h it S (slAt w l i) i es.size ep ∧ h.get? S = some { cls := .type "set", dict := none, data := .set es ep (tb (led0 w) l) }
theorem SIt.at' {h h' : Heap} {it S : Addr} {a b c d : Nat} (x : SIt h it S a b c d) (e : ∀ o, h.get? it = some o → h'.get? it = some o) : SIt h' it S a b c d := let ⟨o, p, q⟩ := x; ⟨o, e o p, q⟩
theorem walks_set {prog : Program} {w : World} {A : Around} {it S : Addr} {es : Array (Int × Value)} {ep : Nat} {l : List Nat} (hh : A.handled = none) (hne : S ≠ it) (hl : l ∈ subs) (hz : es.size = l.length) :
    Walks prog w A it [it, S] [it] es.size (fun i v => (outs w S es ep)[i]? = some v) (StS w it S es ep l) where
  sub := fun b hb => by simp at hb; simp [hb]
  frame := fun _ _ _ st hk => ⟨st.1, st.2.1.at' fun o e => hk it (by simp) o e, hk S (by simp) _ st.2.2⟩
  item := fun i s Q E hi st hQ => by
    have hx : i < (outs w S es ep).length := by rw [outs_len]; exact hi
    refine next_item st.2.2 hl hz st.1 st.2.1 (List.getElem?_eq_getElem hx) hne fun h' si sb => ?_
    have := hQ ((outs w S es ep)[i]) h' s.toks (List.getElem?_eq_getElem hx) ⟨by omega, si, (sb.2 S hne).trans st.2.2⟩ fun b o hb e => (sb.2 b (fun q => hb (by simp [q]))).trans e
    exact this
  done := fun s Q E st hQ => by
    have hx : (outs w S es ep)[es.size]? = none := List.getElem?_eq_none (by rw [outs_len]; exact Nat.le_refl _)
    exact next_end st.2.2 hl hz st.1 st.2.1 hx hh fun h' sb => hQ h' s.toks fun b o hb e => sb b o (fun q => hb (by simp [q])) e
  self := fun i s Q E st h => by
    refine wpAny_pyIter_slot st.2.1.typeIs slot_si_iter (wpAny_call_entry slot_si_iter st.2.1.typeIs entry_si_iter ?_ (args_si_iter _))
    show wpAny _ _ (ret (.ref it)) _ _ s
    exact wpAny_pure ⟨_, rfl, "set_iterator", _, st.2.1.typeIs, slot_si_next.lookup, h⟩

section
variable {prog : Program} {w : World} {A : Around} {E : Value → Shared → Prop} {s : Shared}
theorem collect_set {S : Addr} {es : Array (Int × Value)} {ep : Nat} {l : List Nat} {Q : List Value → Shared → Prop} (hh : A.handled = none) (ho : s.heap.get? S = some { cls := .type "set", dict := none, data := .set es ep (tb (led0 w) l) }) (hl : l ∈ subs) (hz : es.size = l.length) (hz4 : es.size ≤ 1000)
    (h : ∀ h' tk, (∀ b o, s.heap.get? b = some o → h'.get? b = some o) → Q (outs w S es ep) { s with heap := h', toks := tk }) :
    wpAny (model prog w) A (collect (.ref S)) Q E s := by
  have hSlt : S < s.heap.objs.size := Heap.lt_size ho
  unfold collect
  refine wpAny_bind (wpAny_runValue (codeAny_builtin F.entry_proto_collect ?_))
  rw [Around.under_plainId F.plain_proto_collect _]
  show wpAny _ A.in1 (newList [] >>= fun l => again (.builtin "list.__iadd__" ⟨[l, .ref S], []⟩)) _ _ s
  refine wpAny_bind (wpAny_newObj_type ?_)
  refine wpAny_pure ⟨plainId_quiet F.plain_list_iadd _, codeAny_builtin F.entry_list_iadd ?_⟩
  rw [Around.under_plainId F.plain_list_iadd _]
  have hD : (s.heap.push { cls := .type "list", data := .seq ([] : List Value).toArray }).get? s.heap.objs.size = some { cls := .type "list", data := .seq #[] } := Heap.get?_push_size _ rfl
  have ho1 : (s.heap.push { cls := .type "list", data := .seq ([] : List Value).toArray }).get? S = some { cls := .type "set", dict := none, data := .set es ep (tb (led0 w) l) } := Heap.get?_push_of_some _ ho
  have up1 : ∀ b o, s.heap.get? b = some o → (s.heap.push { cls := .type "list", data := .seq ([] : List Value).toArray }).get? b = some o := fun b o e => Heap.get?_push_of_some _ e
  have sz1 : (s.heap.push { cls := .type "list", data := .seq ([] : List Value).toArray }).objs.size = s.heap.objs.size + 1 := Heap.size_push ..
  generalize s.heap.push { cls := .type "list", data := .seq ([] : List Value).toArray } = H1 at *
  show wpAny _ A.in1 (Builtin.List.listExtendWith (.ref s.heap.objs.size) (.ref S) (.ref s.heap.objs.size)) _ _ _
  have hne : s.heap.objs.size ≠ S := Nat.ne_of_gt hSlt
  have key : ∀ (R : Result → Shared → Prop) (H : Heap) (c tk : Nat), (∀ b o, b ≠ s.heap.objs.size → (H1.push { cls := .type "set_iterator", data := .fields #[.int 0 0, .int 0 0, .ref S, .int (es.size : Int) 0, .int (ep : Int) 0] }).get? b = some o → H.get? b = some o) →
      H.get? s.heap.objs.size = some { cls := .type "list", data := .seq #[] c } →
      (∀ h' tk acc c, (∀ b o, s.heap.get? b = some o → h'.get? b = some o) → h'.get? s.heap.objs.size = some { cls := .type "list", dict := none, data := .seq acc c, slots := #[] } → acc.toList = outs w S es ep → R (.ok (.ret (.ref s.heap.objs.size))) { s with heap := h', toks := tk }) →
      codeAny (model prog w) A (.builtin "list.extend.loop" ⟨[.ref s.heap.objs.size, .ref H1.objs.size, .ref s.heap.objs.size], []⟩) R { s with heap := H, toks := tk } := by
    intro R H c tk hk hS1 hR
    have hit : StS w H1.objs.size S es ep l 0 H := by
      refine ⟨Nat.zero_le _, ⟨_, hk _ _ (by rw [sz1]; exact Nat.succ_ne_self _) (Heap.get?_push_size _ rfl), rfl, ?_⟩, hk _ _ (Ne.symm hne) (Heap.get?_push_of_some _ ho1)⟩
      unfold slAt
      split <;> rfl
    have W := (walks_set (prog := prog) (w := w) (A := A.in1) (it := H1.objs.size) (S := S) (ep := ep) (show A.in1.handled = none from hh) (by rw [sz1]; exact Nat.ne_of_lt (Nat.lt_succ_of_lt hSlt)) hl hz).toS
    have hSf : s.heap.objs.size ∉ [H1.objs.size, S] := by
      simp only [List.mem_cons, List.not_mem_nil, or_false, not_or]
      exact ⟨by rw [sz1]; exact Ne.symm (Nat.succ_ne_self _), hne⟩
    refine codeAny_extend_loopS W (by rw [sizeLine_eq]; omega) _ hSf _ es.size 0 _ _ _ rfl (Nat.zero_le _) hit hS1 (ItemsOf.nil _) fun s' acc' c' hm hS' hacc => ?_
    obtain ⟨h', g', d', tk', os'⟩ := s'
    have eg : g' = s.gens := hm.gens
    have ed : d' = s.drawn := hm.drawn
    have eo : os' = s.os := hm.os
    subst eg; subst ed; subst eo
    refine hR h' tk' acc' c' (fun b o e => ?_) hS' ?_
    · have lb := Heap.lt_size e
      refine hm.heap b o ?_ (hk b o (Nat.ne_of_lt lb) (Heap.get?_push_of_some _ (up1 b o e)))
      simp only [List.mem_cons, List.not_mem_nil, or_false, not_or]
      exact ⟨Nat.ne_of_lt lb, Nat.ne_of_lt (by rw [sz1]; exact Nat.lt_succ_of_lt lb)⟩
    · refine List.ext_getElem? fun j => ?_
      rcases Nat.lt_or_ge j acc'.size with hj | hj
      · have e1 : acc'[j]? = some acc'[j] := Array.getElem?_eq_getElem hj
        rw [Array.getElem?_toList, e1]
        exact (hacc.2 j _ e1).symm
      · rw [Array.getElem?_toList, Array.getElem?_eq_none hj, List.getElem?_eq_none (by rw [outs_len, ← hacc.1]; exact hj)]
  unfold Builtin.List.listExtendWith
  refine wpAny_bind (wpAny_typeOf (T := "set") ⟨_, ho1, rfl⟩ ?_)
  have h1 : Builtin.List.listSameRef (.ref s.heap.objs.size) (.ref S) = false := by simp [Builtin.List.listSameRef, hne]
  have h2 : (Value.type "set" == Value.type "list") = false := by decide
  have h3 : (Value.type "set" == Value.type "tuple") = false := by decide
  simp only [h1, h2, h3, Bool.or_false, Bool.false_eq_true, if_false]
  refine wpAny_bind (pyIter_set (s := { s with heap := H1 }) ho1 hl hz ?_)
  have hD1 := Heap.get?_push_of_some { cls := .type "set_iterator", data := .fields #[.int 0 0, .int 0 0, .ref S, .int (es.size : Int) 0, .int (ep : Int) 0] } hD
  refine wpAny_bind (wpAny_holding (hint_set ⟨_, Heap.get?_push_of_some _ ho1, rfl⟩ ?_))
  have fin : ∀ h' tk acc c, (∀ b o, s.heap.get? b = some o → h'.get? b = some o) → h'.get? s.heap.objs.size = some { cls := .type "list", dict := none, data := .seq acc c, slots := #[] } → acc.toList = outs w S es ep →
      wpAny (model prog w) A (load s.heap.objs.size >>= fun o => match o.data with | .seq xs _ => pure xs.toList | _ => unsupported "internal:collect") Q E { s with heap := h', toks := tk } := by
    intro h' tk acc c hk hg e
    refine wpAny_bind (wpAny_load hg (wpAny_pure ?_))
    rw [e]
    exact h h' tk hk
  refine wpAny_ite_split (fun _ => ?_) (fun _ => wpAny_pure ⟨plainId_quiet F.plain_extend_loop _, key _ _ 0 _ (fun b o _ e => e) hD1 fin⟩)
  refine wpAny_bind (wpAny_rule ?_)
  refine wpAny_bind ?_
  show wpAny _ _ (updateSeq s.heap.objs.size (·.push .none) >>= fun _ => updateSeq s.heap.objs.size (·.pop)) _ _ _
  refine wpAny_bind (wpAny_updateSeq hD1 rfl ?_)
  have hD2 := Heap.get?_update_self (Obj.mapSeq (·.push Value.none)) hD1 rfl
  refine wpAny_updateSeq (hz := by seq_fits) hD2 rfl ?_
  have hD3 := Heap.get?_update_self (Obj.mapSeq (·.pop)) hD2 rfl
  refine wpAny_pure ⟨plainId_quiet F.plain_extend_loop _, key _ _ _ _ (fun b o hb e => ?_) hD3 fin⟩
  exact (Heap.get?_update_other _ _ (Ne.symm hb)).trans ((Heap.get?_update_other _ _ (Ne.symm hb)).trans e)
end

theorem ints_exist : ∀ {xs : List Value}, (∀ x ∈ xs, ∃ k t, x = Value.int k t) → ∃ ns, IntsAre xs ns
  | [], _ => ⟨[], .nil⟩
  | x :: xs, h => by
    obtain ⟨ns, hi⟩ := ints_exist (xs := xs) fun y hy => h y (.tail _ hy)
    obtain ⟨k, t, rfl⟩ := h x (.head _)
    exact ⟨k :: ns, .cons k t hi⟩
section
variable {prog : Program} {w : World} {A : Around} {E : Value → Shared → Prop} {s : Shared} {h₀ : Heap} {L : Addr} {m : Str → Option Value} {news : Led}
theorem set_K {l : Addr} {vs : List Value} {n : Nat} {Q : Value → Shared → Prop} (F : Fr h₀ L s.heap m) (N : News h₀ L s.heap news) (hm : (l, listOf vs.toArray n) ∈ news) (hh : A.handled = none) (hi : ∀ v ∈ vs, ∃ k t, v = Value.int k t ∧ k ∈ r9) (hb : vs.length ≤ 4)
    (h : ∀ S h' tk, Fr h₀ L h' m → News h₀ L h' news → LS h' S (led0 w) 4 → Q (.ref S) { s with heap := h', toks := tk }) :
    wpAny (model prog w) A (call (.type "set") [.ref l]) Q E s := by
  refine call_set_led hh (PySem.IsL.isList (n := n) (N _ hm).1) hi hb fun h' tk hS hk => ?_
  have up : ∀ b o, s.heap.get? b = some o → h'.get? b = some o := fun b o e => hk b o (Heap.lt_size e) e
  refine h _ h' tk (F.keeps up) (N.grown up) ?_
  cases hS with
  | mk a b c d e => exact .mk a b c (Nat.le_trans d hb) e
theorem sorted_K {S : Addr} {Q : Value → Shared → Prop} (F : Fr h₀ L s.heap m) (N : News h₀ L s.heap news) (hh : A.handled = none) (hS : LS s.heap S (led0 w) 4)
    (h : ∀ D us ns c h' tk, Fr h₀ L h' m → News h₀ L h' ((D, listOf (List.toArray us) c) :: news) → (∀ q ∈ news, q.1 < D) → IntsAre us ns → ns.length ≤ 4 → Q (.ref D) { s with heap := h', toks := tk }) :
    wpAny (model prog w) A (call (.builtin "sorted") [.ref S]) Q E s := by
  cases hS with
  | @mk es ep l ho hl hz hln hel =>
  obtain ⟨ns, hI⟩ := ints_exist (xs := outs w S es ep) fun x hx => by
    obtain ⟨e, he, rfl⟩ := outs_mem hx
    obtain ⟨k, t, rfl, _⟩ := hel e he
    exact ⟨k, t, rfl⟩
  have hlen : (outs w S es ep).length ≤ 4 := by rw [outs_len]; omega
  refine Calls.call_function_entry kind_sorted plain_sorted entry_sorted (args_sorted1 _) ?_
  unfold Builtin.«sorted»
  refine wpAny_bind (m := checkCount "sorted" 1 1 _) (wpAny_pure ?_)
  refine wpAny_bind (collect_set (show A.in1.handled = none from hh) ho hl hz (by omega) fun h' tk hk => ?_)
  refine wpAny_bind (wpAny_newList ?_)
  have hD : (h'.push (seqObj "list" (outs w S es ep).toArray 0)).get? h'.objs.size = some (seqObj "list" (outs w S es ep).toArray 0) := Heap.get?_push_size _ rfl
  show wpAny _ _ _ _ _ { s with heap := h'.push (seqObj "list" (outs w S es ep).toArray 0), toks := tk }
  refine wpAny_bind (wpAny_holding (wpAny_call_entry slot_list_sort ⟨_, hD, rfl⟩ entry_list_sort (list_sort_tree hD hI (by omega) fun out ns' a1 a2 a3 => ⟨_, rfl, ?_⟩) (args_list_sort _)))
  refine wpAny_pure ⟨_, rfl, ?_⟩
  have hlt : ∀ {b : Addr} {o : Obj}, h'.get? b = some o → (sortedHeap (h'.push (seqObj "list" (outs w S es ep).toArray 0)) h'.objs.size (outs w S es ep) out).get? b = some o := by
    intro b o e
    have hb := Heap.lt_size e
    unfold sortedHeap
    rw [Heap.get?_update_other _ _ (Nat.ne_of_gt hb)]
    refine Heap.get?_push_of_some _ (Heap.get?_push_of_some _ ?_)
    rw [Heap.get?_update_other _ _ (Nat.ne_of_gt hb)]
    exact Heap.get?_push_of_some _ e
  have F' := F.keeps hk
  have up : ∀ b o, s.heap.get? b = some o → (sortedHeap (h'.push (seqObj "list" (outs w S es ep).toArray 0)) h'.objs.size (outs w S es ep) out).get? b = some o := fun b o e => hlt (hk b o e)
  have g1 := get?_update_seq hD (fun _ => #[])
  have g2 := Heap.get?_push_of_some (seqObj "list" #[] 0) (Heap.get?_push_of_some (seqObj "tuple" (outs w S es ep).toArray 0) g1)
  have g3 := get?_update_seq g2 (fun _ => out)
  have N9 : ∀ c, (sortedHeap (h'.push (seqObj "list" (outs w S es ep).toArray 0)) h'.objs.size (outs w S es ep) out).get? h'.objs.size = some (listOf out c) → News h₀ L (sortedHeap (h'.push (seqObj "list" (outs w S es ep).toArray 0)) h'.objs.size (outs w S es ep) out) ((h'.objs.size, listOf (List.toArray out.toList) c) :: news) := by
    intro c e p hp
    rcases List.mem_cons.mp hp with rfl | hp
    · exact ⟨e, Nat.ne_of_gt F'.ns.lt, next_is_new F'⟩
    · exact ⟨up _ _ (N p hp).1, (N p hp).2⟩
  exact h h'.objs.size out.toList ns' _ _ tk (F.keeps up) (N9 _ g3) (fun q hq => Heap.lt_size (hk _ _ (N q hq).1)) a1 (by rw [a2.length_eq, ← hI.length]; exact hlen)
end

local macro_rules | `(tactic| walk_at $s:str) => `(tactic| k_extra $s)
local macro_rules | `(tactic| omega) => `(tactic| k_extra "my own omega")
local macro_rules | `(tactic| k_mem) => `(tactic| k_extra "my own k_mem")
local macro_rules | `(tactic| k_ne) => `(tactic| k_extra "my own k_ne")
local macro_rules | `(tactic| k_upd) => `(tactic| k_extra "my own k_upd")
local macro_rules | `(tactic| k_updF) => `(tactic| k_extra "my own k_updF")
local macro_rules | `(tactic| k_all) => `(tactic| k_extra "my own k_all")
local macro_rules | `(tactic| k_room) => `(tactic| k_extra "my own k_room")
local macro_rules | `(tactic| k_lt $h:ident) => `(tactic| (replace $h := allLt_of $h; (try dsimp only [AllLt] at $h:ident)))
theorem lines_D1 : True := by
  k_with_none
  k_with "my own omega" => (first | omega (splitDisjunctions := false) | ((repeat (rename _ ∧ _ => hC_q0; cases hC_q0)); (repeat (rename _ ≠ _ => hX_q0; clear hX_q0)); omega (splitDisjunctions := true)))
  k_with "my mem" => (first | with_reducible exact mem_c | with_reducible exact mem_2 | with_reducible exact mem_3 | with_reducible exact mem_4 | (with_reducible refine skip_4 ?_; k_extra "my mem") | (with_reducible refine skip_1 ?_; k_extra "my mem") | with_reducible assumption | (with_reducible refine List.mem_append_left _ ?_; k_extra "my mem") | (with_reducible refine List.mem_append_right _ ?_; k_extra "my mem"))
  k_with "my mem2" => (first | exact List.mem_cons_self | assumption | (refine List.mem_cons_of_mem _ ?_; k_extra "my mem2") | (refine List.mem_append_left _ ?_; k_extra "my mem2") | (refine List.mem_append_right _ ?_; k_extra "my mem2"))
  k_with "my own k_mem" => (first | k_extra "my mem" | k_extra "my mem2")
  k_with "my ne" => (first | with_reducible assumption | with_reducible exact Ne.symm (by with_reducible assumption) | with_reducible exact Nat.ne_of_lt (by with_reducible assumption) | with_reducible exact Nat.ne_of_gt (by with_reducible assumption))
  k_with "my own k_ne" => ((refine neN ?_; first | k_extra "my ne" | ((try dsimp only); k_extra "my ne") | (k_extra "my split"; (try dsimp only); first | k_extra "my ne" | omega (splitDisjunctions := false))))
  k_with "my upd" => (first | (refine' Upd.head ?a_q6; (case a_q6 => k_all)) | (refine' Upd.tail ?a_q6 ?b_q6; (case a_q6 => k_ne); (case b_q6 => k_extra "my upd")))
  k_with "my own k_upd" => (k_extra "my upd")
  k_with "my updF" => (first | (refine' UpdF.head ?a_q8; (case a_q8 => k_all)) | (refine' UpdF.tail ?a_q8 ?b_q8; (case a_q8 => k_ne); (case b_q8 => k_extra "my updF")))
  k_with "my own k_updF" => (k_extra "my updF")
  k_with "my split" => (repeat (first | (rename _ ∧ _ ∧ _ ∧ _ ∧ _ ∧ _ ∧ _ ∧ _ => hC_q10; refine elim_8 hC_q10 ?_; clear hC_q10; intro _ _ _ _ _ _ _ _) | (rename _ ∧ _ ∧ _ ∧ _ => hC_q10; refine elim_4 hC_q10 ?_; clear hC_q10; intro _ _ _ _) | (rename _ ∧ _ => hC_q10; cases hC_q10)))
  k_with "my offleaf" => (first | assumption | exact Off.nil | exact Off.of1 (by assumption) | exact Off.ofLt (by assumption) | exact Off.ofLt (allLt_left (by assumption)) | exact Off.ofLt (allLt_right (by assumption)) | exact Off.ofLt (allLt_left (allLt_right (by assumption))) | exact Off.ofLt (allLt_right (allLt_right (by assumption))))
  k_with "my own k_all" => ((show Off _ _; first | assumption | (k_extra "my split"; repeat' (first | with_reducible exact Off.nil | with_reducible refine off_c ?_ ?_ | with_reducible refine Off.append ?_ ?_ | k_ne | k_extra "my offleaf"))))
  k_with "my enter" => (k_dflt (first | (refine' code_def ?k1_q13 ?k2_q13 ?k3_q13 ?k4_q13 ?k5_q13 ?kA_q13 ?kF_q13 ?kK_q13 ?k6_q13 ?k7_q13 ?k8_q13 ?k9_q13 ?kB_q13 ?_ ?c2_q13 ?c3_q13 ?c4_q13 ?c5_q13; (case kA_q13 => exact rfl); (case kF_q13 => exact rfl); (case kK_q13 => first | exact rfl | assumption); (case k1_q13 => k_asm); (case k2_q13 => k_asm); (case k3_q13 => k_asm); (case k4_q13 => k_asm); (case k5_q13 => k_asm); (case k6_q13 => k_is); (case k7_q13 => k_is); (case k8_q13 => ktr_room); (case k9_q13 => first | exact BindsTo.of_eq rfl | exact binds_K (by k_in) rfl (by k_is) rfl rfl rfl); (case c5_q13 => decide); (case kB_q13 => exact locs rfl); (case c2_q13 => exact rfl); (case c3_q13 => exact rfl); (case c4_q13 => exact rfl); k_whole; intro g'_q13 L'_q13 h'_q13 FG'_q13 F'_q13 N'_q13 B'_q13 X'_q13 T'_q13; (try dsimp only); (try k_fold)) | (refine' code_defC ?k1_q13 ?k2_q13 ?k3_q13 ?k4_q13 ?k5_q13 ?kA_q13 ?kF_q13 ?kK_q13 ?k6_q13 ?k7_q13 ?k8_q13 ?k9_q13 ?kB_q13 ?kD_q13 ?_ ?c2_q13 ?c3_q13 ?c4_q13; (case kA_q13 => exact rfl); (case kF_q13 => exact rfl); (case kK_q13 => first | exact rfl | assumption); (case k1_q13 => k_asm); (case k2_q13 => k_asm); (case k3_q13 => k_asm); (case k4_q13 => k_asm); (case k5_q13 => k_asm); (case k6_q13 => k_is); (case k7_q13 => k_is); (case k8_q13 => ktr_room); (case k9_q13 => first | exact BindsTo.of_eq rfl | exact binds_K (by k_in) rfl (by k_is) rfl rfl rfl); (case kB_q13 => exact rfl); (case kD_q13 => decide +kernel); (case c2_q13 => exact rfl); (case c3_q13 => exact rfl); (case c4_q13 => exact rfl); k_whole; intro g'_q13 L'_q13 h'_q13 tk'_q13 cells'_q13 FG'_q13 F'_q13 N'_q13 Y'_q13 B'_q13 X'_q13 T'_q13 l1_q13; (try k_lt l1_q13); (k_cells Y'_q13); (try simp only [List.cons_append, List.nil_append] at N'_q13); (try dsimp only); (try k_fold))))
  k_with "my in" => (first | assumption | (refine List.Mem.tail _ ?_; k_extra "my in") | (refine List.mem_append.mpr (Or.inl ?_); k_extra "my in") | (refine List.mem_append.mpr (Or.inr ?_); k_extra "my in"))
  k_with "my sub" => (((try simp only [List.nil_append, List.cons_append, List.append_assoc]); repeat' (first | with_reducible exact sub_nil | with_reducible refine sub_cons ?_ ?_ | with_reducible refine sub_append ?_ ?_ | (intro p_q15 hp_q15; k_extra "my in") | k_mem)))
  k_with "my off" => (((try simp only [List.nil_append, List.cons_append]); repeat' (first | with_reducible exact offs_nil | with_reducible refine offs_cons ?_ ?_ | k_all)))
  k_with "my pick" => ((repeat' (first | exact Picks.nil | refine' Picks.cons ?_ ?_ | exact Pick.head | refine' Pick.tail ?_)))
  k_with "pyIter ref" => ((k_here; (with_reducible show wpAny _ _ (pyIter (Value.ref _)) (fun it_q18 s₂_q18 => LoopAtV _ _ _ _ _ _ _ _ _ it_q18 s₂_q18) _ _); refine of_stop ?_))
  k_with "exec While" => ((k_here; refine of_stop ?_))
  k_with "call builtin:list.index" => ((k_here; (with_reducible show wpAny _ _ (call (Value.builtin _) [Value.ref _, Value.int _ _]) _ _ _); k_dflt (refine' idx_nat ?N_q20 ?m_q20 ?i_q20 ?k_q20 ?z_q20 ?_; (case N_q20 => k_asm); (case m_q20 => k_mem); (case i_q20 => assumption); (case k_q20 => assumption); (case z_q20 => (first | assumption | omega)); k_whole); intro u'_q20))
  k_with "call builtin:list.extend" => ((k_here; (with_reducible show wpAny _ _ (call (Value.builtin _) [Value.ref _, Value.ref _]) _ _ _); k_extra "my split"; (try (rename List.length _ = List.length (List.map _ _) => hL9_q21; simp only [List.length_map, rangeKs_length] at hL9_q21)); k_dflt (refine' ext_any ?F_q21 ?N_q21 ?b_q21 ?U_q21 ?z_q21 ?_; (case F_q21 => k_asm); (case N_q21 => k_asm); (case b_q21 => k_mem); (case U_q21 => k_upd); (case z_q21 => k_extra "my len"); k_whole); intro h'_q21 F'_q21 N'_q21; (try k_sweep)))
  k_with "my ints" => (first | assumption | exact IntsAre.nil | exact IntsAre.cons _ _ IntsAre.nil)
  k_with "my len" => (first | omega | (simp only [List.length_append, List.length_map, List.length_replicate, Int.reduceToNat, List.length_cons, List.length_nil, List.length_range, rangeKs_length]; omega))
  k_with "binaryOp Add ref ref" => ((k_here; (with_reducible show wpAny _ _ (binaryOp _ (Value.ref _) (Value.ref _)) _ _ _); k_extra "my split"; k_dflt (refine' add_any ?F_q24 ?N_q24 ?a_q24 ?b_q24 ?z_q24 ?_; (case F_q24 => k_asm); (case N_q24 => k_asm); (case a_q24 => k_mem); (case b_q24 => k_mem); (case z_q24 => k_extra "my len"); k_whole); intro D'_q24 us'_q24 h'_q24 F'_q24 N'_q24 l1_q24 he'_q24 hl'_q24; (try k_lt l1_q24); (try simp only [List.length_cons, List.length_nil, List.length_map] at hl'_q24); (try k_sweep)))
  k_with "binaryOp Add ref ref" => ((k_here; (with_reducible show wpAny _ _ (binaryOp _ (Value.ref _) (Value.ref _)) _ _ _); k_extra "my split"; k_dflt (refine' add_ints ?F_q25 ?N_q25 ?a_q25 ?b_q25 ?i_q25 ?j_q25 ?z_q25 ?_; (case F_q25 => k_asm); (case N_q25 => k_asm); (case a_q25 => k_mem); (case b_q25 => k_mem); (case i_q25 => k_extra "my ints"); (case j_q25 => k_extra "my ints"); (case z_q25 => k_extra "my len"); k_whole); intro D'_q25 us'_q25 ns'_q25 h'_q25 F'_q25 N'_q25 l1_q25 hI'_q25 he'_q25 hl'_q25 hv'_q25; (try k_lt l1_q25); (try simp only [List.length_cons, List.length_nil, List.length_map] at hl'_q25); (try k_sweep)))
  k_with "subscriptTail Name Name ref int" => ((k_here; (with_reducible show wpAny _ _ (subscriptTail _ _ (Value.ref _) (Value.int _ _)) _ _ _); k_dflt (refine' ksa_sub ?k1_q26 ?k2_q26 ?k3_q26 ?k4_q26 ?k5_q26 ?k6_q26 ?_ ?k7_q26; (case k1_q26 => k_asm); (case k2_q26 => k_mem); (case k3_q26 => assumption); (case k4_q26 => omega); (case k5_q26 => k_extra "my len"); (case k6_q26 => omega); (case k7_q26 => with_unfolding_all rfl); k_whole); intro _))
  k_with "subscriptTail Name BinOp ref int" => ((k_here; (with_reducible show wpAny _ _ (subscriptTail _ _ (Value.ref _) (Value.int _ _)) _ _ _); k_dflt (refine' ksa_sub ?k1_q27 ?k2_q27 ?k3_q27 ?k4_q27 ?k5_q27 ?k6_q27 ?_ ?k7_q27; (case k1_q27 => k_asm); (case k2_q27 => k_mem); (case k3_q27 => assumption); (case k4_q27 => omega); (case k5_q27 => k_extra "my len"); (case k6_q27 => omega); (case k7_q27 => with_unfolding_all rfl); k_whole); intro _))
  k_with "call builtin:len" => ((k_here; (with_reducible show wpAny _ _ (call (Value.builtin _) [Value.ref _]) _ _ _); k_dflt (refine' len_any ?N_q28 ?m_q28 ?e_q28 ?z_q28 ?_; (case N_q28 => k_asm); (case m_q28 => k_mem); (case e_q28 => assumption); (case z_q28 => k_extra "my len"); k_whole); intro _ _))
  k_with "eval Lambda" => ((k_here; k_dflt (refine' lam_hit (P := 521) (c := 525) ?F_q29 ?N_q29 ?T_q29 ?C_q29 ?cd_q29 ?U_q29 ?t_q29 ?cl_q29 ?d_q29 ?_; (case F_q29 => k_asm); (case N_q29 => k_asm); (case T_q29 => k_asm); (case cd_q29 => exact rfl); (case U_q29 => k_updF); (case C_q29 => exact codeHd_of_K (by assumption) (by kernel_rfl)); (case t_q29 => assumption); (case cl_q29 => exact rfl); (case d_q29 => exact rfl); k_whole); intro f'_q29 ps'_q29 h'_q29 tk'_q29 F'_q29 N'_q29 ht'_q29; (try dsimp only at N'_q29); (try k_sweep)))
  k_with "my own k_room" => (ktr_room)
  k_with "binaryOp Mult ref int" => ((k_here; (with_reducible show wpAny _ _ (binaryOp Operator.Mult (Value.ref _) (Value.int _ _)) _ _ _); k_dflt (refine' mul_one' ?F_q31 ?N_q31 ?l_q31 ?lo_q31 ?hi_q31 ?z_q31 ?_; (case F_q31 => k_asm); (case N_q31 => k_asm); (case l_q31 => k_mem); (case lo_q31 => omega); (case hi_q31 => omega); (case z_q31 => decide); k_whole); intro D'_q31 h'_q31 F'_q31 N'_q31 l1_q31; (try k_lt l1_q31); (try k_sweep)))
  k_with "setItem ref int" => ((k_here; (with_reducible show wpAny _ _ (setItem (Value.ref _) (Value.int _ _) _) _ _ _); k_dflt (refine' set_any ?F_q32 ?N_q32 ?U_q32 ?z0_q32 ?z1_q32 ?z2_q32 ?_; (case F_q32 => k_asm); (case N_q32 => k_asm); (case U_q32 => k_upd); (case z0_q32 => omega); (case z1_q32 => k_extra "my len"); (case z2_q32 => k_extra "my len"); k_whole); intro h'_q32 F'_q32 N'_q32; (try k_sweep)))
  k_with "my item" => ((k_here; (with_reducible show wpAny _ _ (subscriptTail _ _ (Value.ref _) (Value.int _ _)) _ _ _); k_dflt (refine' item_any ?N_q33 ?m_q33 ?z0_q33 ?z1_q33 ?z2_q33 ?_ ?hs_q33 ?hg_q33; (case N_q33 => k_asm); (case m_q33 => k_mem); (case z0_q33 => omega); (case z1_q33 => k_extra "my len"); (case z2_q33 => k_extra "my len"); (case hs_q33 => with_unfolding_all rfl); (case hg_q33 => intro _; with_unfolding_all rfl); k_whole)))
  k_with "subscriptTail Name Slice ref ref" => ((k_here; (with_reducible show wpAny _ _ (subscriptTail _ (PySem.Expr.Slice _ _ none _) (Value.ref _) (Value.ref _)) _ _ _); k_dflt (refine' slice_head ?F_q34 ?N_q34 ?m_q34 ?x_q34 ?y_q34 ?z_q34 ?_ ?s_q34 ?t_q34; (case F_q34 => k_asm); (case N_q34 => k_asm); (case m_q34 => k_mem); (case x_q34 => first | exact rfl | omega); (case y_q34 => omega); (case z_q34 => k_extra "my len"); (case s_q34 => with_unfolding_all rfl); (case t_q34 => kmk_pure)); intro D'_q34 h'_q34 F'_q34 N'_q34 l1_q34; (try k_lt l1_q34); (try k_sweep)))
  k_with "call ref" => ((k_here; (with_reducible show wpAny _ _ (call (Value.ref 28) [Value.int _ _]) _ _ _); k_dflt (refine' CSpec.use0 ?B_q35 ?F_q35 ?X_q35 ?N_q35 ?T_q35 (op_of_walk ?e_q35) ?hk_q35 ?hd_q35 ?hu_q35 ?_; (case B_q35 => k_asm); (case F_q35 => k_asm); (case X_q35 => k_asm); (case N_q35 => k_asm); (case T_q35 => k_asm); (case e_q35 => first | assumption | exact rfl); (case hk_q35 => first | exact rfl | assumption); (case hd_q35 => ktr_room); (case hu_q35 => ktr_units); k_whole); intro u'_q35 h'_q35 tk'_q35 F'_q35 N'_q35; (try k_sweep)))
  k_with "call ref" => ((k_here; (with_reducible show wpAny _ _ (call (Value.ref 35) [Value.int _ _]) _ _ _); k_dflt (refine' CSpec.use0 ?B_q36 ?F_q36 ?X_q36 ?N_q36 ?T_q36 (a_of_walk ?e_q36) ?hk_q36 ?hd_q36 ?hu_q36 ?_; (case B_q36 => k_asm); (case F_q36 => k_asm); (case X_q36 => k_asm); (case N_q36 => k_asm); (case T_q36 => k_asm); (case e_q36 => first | assumption | exact rfl); (case hk_q36 => first | exact rfl | assumption); (case hd_q36 => ktr_room); (case hu_q36 => ktr_units); k_whole); intro u'_q36 h'_q36 tk'_q36 F'_q36 N'_q36; (try k_sweep)))
  k_with "call ref" => ((k_here; (with_reducible show wpAny _ _ (call (Value.ref 42) [Value.int _ _]) _ _ _); k_dflt (refine' CSpec.use0 ?B_q37 ?F_q37 ?X_q37 ?N_q37 ?T_q37 (b_of_walk ?e_q37) ?hk_q37 ?hd_q37 ?hu_q37 ?_; (case B_q37 => k_asm); (case F_q37 => k_asm); (case X_q37 => k_asm); (case N_q37 => k_asm); (case T_q37 => k_asm); (case e_q37 => first | assumption | exact rfl); (case hk_q37 => first | exact rfl | assumption); (case hd_q37 => ktr_room); (case hu_q37 => ktr_units); k_whole); intro u'_q37 h'_q37 tk'_q37 F'_q37 N'_q37; (try k_sweep)))
  k_with "subscriptTail Name BinOp ref int" => (k_extra "my item")
  k_with "call ref" => ((k_here; (with_reducible show wpAny _ _ (call (Value.ref 303) _) _ _ _); k_dflt (refine' CSpec.use ?B_q39 ?F_q39 ?X_q39 ?N_q39 ?T_q39 ?P_q39 (load_move ?ea_q39 ?eb_q39 ?la_q39 ?lb_q39 ?lz_q39) ?hk_q39 ?ho_q39 ?hd_q39 ?hu_q39 ?_; (case B_q39 => k_asm); (case F_q39 => k_asm); (case X_q39 => k_asm); (case N_q39 => k_asm); (case T_q39 => k_asm); (case P_q39 => k_extra "my pick"); (case ea_q39 => assumption); (case eb_q39 => assumption); (case la_q39 => assumption); (case lb_q39 => assumption); (case lz_q39 => assumption); (case hk_q39 => first | exact rfl | assumption); (case ho_q39 => k_extra "my off"); (case hd_q39 => ktr_room); (case hu_q39 => ktr_units); k_whole; refine of_stop ?_)))
  k_with "call ref" => ((k_here; (with_reducible show wpAny _ _ (call (Value.ref 449) _) _ _ _); k_dflt (refine' CSpec.use ?B_q40 ?F_q40 ?X_q40 ?N_q40 ?T_q40 ?P_q40 (done_back ?ex_q40 ?ea_q40 ?eb_q40 ?lm_q40 ?lz_q40 ?q1_q40 ?q2_q40 ?q3_q40) ?hk_q40 ?ho_q40 ?hd_q40 ?hu_q40 ?_; (case B_q40 => k_asm); (case F_q40 => k_asm); (case X_q40 => k_asm); (case N_q40 => k_asm); (case T_q40 => k_asm); (case P_q40 => k_extra "my pick"); (case ex_q40 => assumption); (case ea_q40 => assumption); (case eb_q40 => assumption); (case lm_q40 => assumption); (case lz_q40 => k_extra "my len"); (case q1_q40 => k_ne); (case q2_q40 => k_ne); (case q3_q40 => k_ne); (case hk_q40 => first | exact rfl | assumption); (case ho_q40 => k_extra "my off"); (case hd_q40 => ktr_room); (case hu_q40 => ktr_units); k_whole; refine of_stop ?_)))
  k_with "call ref" => ((k_here; (with_reducible show wpAny _ _ (call (Value.ref 449) _) _ _ _); k_dflt (refine' CSpec.use ?B_q41 ?F_q41 ?X_q41 ?N_q41 ?T_q41 ?P_q41 (done_move ?ex_q41 ?ea_q41 ?eb_q41 ?la_q41 ?lb_q41 ?lz_q41 ?q1_q41 ?q2_q41 ?q3_q41) ?hk_q41 ?ho_q41 ?hd_q41 ?hu_q41 ?_; (case B_q41 => k_asm); (case F_q41 => k_asm); (case X_q41 => k_asm); (case N_q41 => k_asm); (case T_q41 => k_asm); (case P_q41 => k_extra "my pick"); (case ex_q41 => assumption); (case ea_q41 => assumption); (case eb_q41 => assumption); (case la_q41 => assumption); (case lb_q41 => assumption); (case lz_q41 => k_extra "my len"); (case q1_q41 => k_ne); (case q2_q41 => k_ne); (case q3_q41 => k_ne); (case hk_q41 => first | exact rfl | assumption); (case ho_q41 => k_extra "my off"); (case hd_q41 => ktr_room); (case hu_q41 => ktr_units); k_whole; refine of_stop ?_)))
  k_with "subscriptTail Attribute Name ref int" => (k_extra "my nums")
  k_with "my nums" => ((k_here; (with_reducible show wpAny _ _ (subscriptTail _ _ (Value.ref _) (Value.int _ _)) _ _ _); k_dflt (refine' ksa_sub ?k1_q43 ?k2_q43 ?k3_q43 ?k4_q43 ?k5_q43 ?k6_q43 ?_ ?k7_q43; (case k1_q43 => k_asm); (case k2_q43 => k_mem); (case k3_q43 => assumption); (case k4_q43 => omega); (case k5_q43 => k_extra "my len"); (case k6_q43 => omega); (case k7_q43 => with_unfolding_all rfl); k_whole); intro _))
  trivial

theorem limits_new {w : World} {p loose mean mg mb} :
    CSpec PySem.Challenge.rw_xm0628_02.prog w (hd02.heap_1 w.params) p loose mean mg mb 95 2 [] []
      (fun r chg new => ∃ x, r = .ref x ∧ chg = [] ∧ new = []) := by
  unfold CSpec; k_fill
  intro dp un gd cn cs ad ccd cl outer A₀ base h₀ L m rest s Q E B F X N hoff T hk hd hu hret
  (try simp only [List.forall_mem_cons, List.not_mem_nil, false_implies, implies_true, and_true, List.nil_append, List.cons_append] at hoff N)
  (try simp only [List.forall_mem_cons, List.not_mem_nil, false_implies, implies_true, and_true, List.nil_append, List.cons_append] at hret)
  k_dflt (refine' call_cls ?k1 ?k2 ?k3 ?k4 ?k5 ?k6 ?_; (case k1 => k_asm); (case k2 => k_asm); (case k3 => k_asm); (case k4 => k_is); (case k5 => k_is); (case k6 => k_is))
  intro x' d' h' F' N' l1 l2
  have l3 := fun p hp => Nat.lt_trans (l1 p hp) l2
  (try k_lt l1); (try k_lt l3)
  clear F N
  k_dflt (refine' code_def (binds := [(Str.ofString "self", .ref x'), (Str.ofString "width", .int 64 268), (Str.ofString "registers", .int 250 269), (Str.ofString "upvalues", .int 60 270), (Str.ofString "local_names", .int 200 271), (Str.ofString "ccalls", .int 40 272), (Str.ofString "frames", .int 200 273), (Str.ofString "stack", .int 2000 274), (Str.ofString "flush", .int 50 275), (Str.ofString "steps", .int 1000000000 276), (Str.ofString "text", .int 1000000 277)]) ?k1 ?k2 ?k3 ?k4 ?k5 ?kA ?kF ?kK ?k6 ?k7 ?k8 ?k9 ?kB ?_ ?c2 ?c3 ?c4 ?c5; (case kA => exact rfl); (case kF => exact rfl); (case kK => first | exact rfl | assumption); (case k1 => k_asm); (case k2 => k_asm); (case k3 => k_asm); (case k4 => k_asm); (case k5 => k_asm); (case k6 => k_is); (case k7 => k_is); (case k8 => ktr_room); (case k9 => first | exact BindsTo.of_eq rfl | exact binds_K (by k_in) rfl (by k_is) rfl rfl rfl); (case c5 => decide); (case kB => exact locs rfl); (case c2 => exact rfl); (case c3 => exact rfl); (case c4 => exact rfl); k_whole; intro g' L' h' FG' F' N' B' X' T'; (try dsimp only); (try k_fold))
  k_steps
  refine hret _ [] [] _ _ (by assumption) (kst_newsOf (by assumption) ?_) ?_ ⟨_, rfl, rfl, rfl⟩
  · k_extra "my sub"
  · exact fun _ h => nomatch h
theorem stepper_new {w : World} {p loose mean mg mb} {C K R Li W : Addr} {rv : List Value} {rn : Nat} (hz : rv.length ≤ 100) :
    CSpec PySem.Challenge.rw_xm0628_02.prog w (hd02.heap_1 w.params) p loose mean mg mb 508 2 [.ref C, .ref K, .ref R, .ref Li, .ref W] [(R, listOf rv.toArray rn)]
      (fun r chg new => ∃ x d S t0 t1 t2 t3 t4 t5 t6 t7 t8 u1 u2 u3, r = .ref x ∧ chg = [] ∧ new = [(x, instObj 508 d), (d, dictOf (sEnts w t0 t1 t2 t3 t4 t5 t6 t7 t8 (.ref C) (.ref K) (.ref S) (.int rv.length u1) (.ref Li) (.ref W) (.int 0 u2) (.int rv.length u3) .none) 9), (S, listOf (rv ++ List.replicate 12 Value.none).toArray 0)] ∧ x ≠ d ∧ S ≠ x ∧ S ≠ d) := by
  have zv : rv.length = rv.length := rfl
  unfold CSpec; k_fill
  intro dp un gd cn cs ad ccd cl outer A₀ base h₀ L m rest s Q E B F X N hoff T hk hd hu hret
  (try simp only [List.forall_mem_cons, List.not_mem_nil, false_implies, implies_true, and_true, List.nil_append, List.cons_append] at hoff N)
  (try simp only [List.forall_mem_cons, List.not_mem_nil, false_implies, implies_true, and_true, List.nil_append, List.cons_append] at hret)
  k_dflt (refine' call_cls ?k1 ?k2 ?k3 ?k4 ?k5 ?k6 ?_; (case k1 => k_asm); (case k2 => k_asm); (case k3 => k_asm); (case k4 => k_is); (case k5 => k_is); (case k6 => k_is))
  intro x' d' h' F' N' l1 l2
  have l3 := fun p hp => Nat.lt_trans (l1 p hp) l2
  (try k_lt l1); (try k_lt l3)
  clear F N
  k_dflt (refine' code_def (binds := [(Str.ofString "self", .ref x'), (Str.ofString "code", .ref C), (Str.ofString "constants", .ref K), (Str.ofString "registers", .ref R), (Str.ofString "limits", .ref Li), (Str.ofString "works", .ref W)]) ?k1 ?k2 ?k3 ?k4 ?k5 ?kA ?kF ?kK ?k6 ?k7 ?k8 ?k9 ?kB ?_ ?c2 ?c3 ?c4 ?c5; (case kA => exact rfl); (case kF => exact rfl); (case kK => first | exact rfl | assumption); (case k1 => k_asm); (case k2 => k_asm); (case k3 => k_asm); (case k4 => k_asm); (case k5 => k_asm); (case k6 => k_is); (case k7 => k_is); (case k8 => ktr_room); (case k9 => first | exact BindsTo.of_eq rfl | exact binds_K (by k_in) rfl (by k_is) rfl rfl rfl); (case c5 => decide); (case kB => exact locs rfl); (case c2 => exact rfl); (case c3 => exact rfl); (case c4 => exact rfl); k_whole; intro g' L' h' FG' F' N' B' X' T'; (try dsimp only); (try k_fold))
  k_steps
  rename _ = rv ++ _ => hus; subst hus
  refine byc ?_; intro hGG
  k_extra "my split"
  refine hGG ?_; clear hGG
  refine' hret _ [] [(x', _), (d', _), (_, _)] _ _ ?f ?n ?o ⟨x', d', _, _, _, _, _, _, _, _, _, _, _, _, _, rfl, rfl, rfl, ?q1, ?q2, ?q3⟩
  (case f => assumption); (case n => refine kst_newsOf (by assumption) ?_; k_extra "my sub"); (case o => k_extra "my off")
  (case q1 => k_ne); (case q2 => k_ne); (case q3 => k_ne)

theorem op_of_walk {w : World} {p loose mean mg mb} {x v : Int} {t : Tok} (hv : x % 64 = v) :
    CSpec PySem.Challenge.rw_xm0628_02.prog w (hd02.heap_1 w.params) p loose mean mg mb 28 1 [.int x t] []
      (fun r chg new => ∃ u, r = .int v u ∧ chg = [] ∧ new = []) := by
  refine byc ?_; intro hGG
  subst hv
  refine hGG ?_; clear hGG
  unfold CSpec; k_fill
  intro dp un gd cn cs ad ccd cl outer A₀ base h₀ L m rest s Q E B F X N hoff T hk hd hu hret
  (try simp only [List.forall_mem_cons, List.not_mem_nil, false_implies, implies_true, and_true, List.nil_append, List.cons_append] at hoff N)
  (try simp only [List.forall_mem_cons, List.not_mem_nil, false_implies, implies_true, and_true, List.nil_append, List.cons_append] at hret)
  refine wpAny_call ?_; k_extra "my enter"
  k_steps
  rw [PyProof.Rows.bitAnd_m6]
  refine' hret _ [] [] _ _ ?f ?n ?o ⟨_, rfl, rfl, rfl⟩
  (case f => assumption); (case n => refine kst_newsOf (by assumption) ?_; k_extra "my sub"); (case o => k_extra "my off")
theorem a_of_walk {w : World} {p loose mean mg mb} {x v : Int} {t : Tok} (hv : x / 64 % 256 = v) :
    CSpec PySem.Challenge.rw_xm0628_02.prog w (hd02.heap_1 w.params) p loose mean mg mb 35 1 [.int x t] []
      (fun r chg new => ∃ u, r = .int v u ∧ chg = [] ∧ new = []) := by
  refine byc ?_; intro hGG
  subst hv
  refine hGG ?_; clear hGG
  unfold CSpec; k_fill
  intro dp un gd cn cs ad ccd cl outer A₀ base h₀ L m rest s Q E B F X N hoff T hk hd hu hret
  (try simp only [List.forall_mem_cons, List.not_mem_nil, false_implies, implies_true, and_true, List.nil_append, List.cons_append] at hoff N)
  (try simp only [List.forall_mem_cons, List.not_mem_nil, false_implies, implies_true, and_true, List.nil_append, List.cons_append] at hret)
  refine wpAny_call ?_; k_extra "my enter"
  k_steps
  rw [PyProof.Rows.bitAnd_m8, Int.fdiv_eq_ediv_of_nonneg _ (by decide), show ((2 : Int) ^ Int.toNat 6) = 64 by decide]
  refine' hret _ [] [] _ _ ?f ?n ?o ⟨_, rfl, rfl, rfl⟩
  (case f => assumption); (case n => refine kst_newsOf (by assumption) ?_; k_extra "my sub"); (case o => k_extra "my off")
theorem b_of_walk {w : World} {p loose mean mg mb} {x v : Int} {t : Tok} (hv : x / 8388608 = v) :
    CSpec PySem.Challenge.rw_xm0628_02.prog w (hd02.heap_1 w.params) p loose mean mg mb 42 1 [.int x t] []
      (fun r chg new => ∃ u, r = .int v u ∧ chg = [] ∧ new = []) := by
  refine byc ?_; intro hGG
  subst hv
  refine hGG ?_; clear hGG
  unfold CSpec; k_fill
  intro dp un gd cn cs ad ccd cl outer A₀ base h₀ L m rest s Q E B F X N hoff T hk hd hu hret
  (try simp only [List.forall_mem_cons, List.not_mem_nil, false_implies, implies_true, and_true, List.nil_append, List.cons_append] at hoff N)
  (try simp only [List.forall_mem_cons, List.not_mem_nil, false_implies, implies_true, and_true, List.nil_append, List.cons_append] at hret)
  refine wpAny_call ?_; k_extra "my enter"
  k_steps
  rw [Int.fdiv_eq_ediv_of_nonneg _ (by decide), show ((2 : Int) ^ Int.toNat 23) = 8388608 by decide]
  refine' hret _ [] [] _ _ ?f ?n ?o ⟨_, rfl, rfl, rfl⟩
  (case f => assumption); (case n => refine kst_newsOf (by assumption) ?_; k_extra "my sub"); (case o => k_extra "my off")

theorem load_move {w : World} {p loose mean mg mb} {x : Int} {a b : Nat} {S C : Addr} {st : List Value} {n : Nat} {t t1 t2 : Tok} (ha : x / 64 % 256 = (a : Int)) (hb : x / 8388608 = (b : Int)) (ha2 : a < st.length) (hb2 : b < st.length) (hz : st.length ≤ 1000) :
    CSpec PySem.Challenge.rw_xm0628_02.prog w (hd02.heap_1 w.params) p loose mean mg mb 303 2 [.int 0 t, .int x t1, .ref S, .int 0 t2, .ref C] [(S, listOf st.toArray n)]
      (fun r chg new => ∃ u, r = .int 0 u ∧ chg = [(S, listOf (st.set a (st.getD b .none)).toArray n)] ∧ new = []) := by
  unfold CSpec; k_fill
  intro dp un gd cn cs ad ccd cl outer A₀ base h₀ L m rest s Q E B F X N hoff T hk hd hu hret
  (try simp only [List.forall_mem_cons, List.not_mem_nil, false_implies, implies_true, and_true, List.nil_append, List.cons_append] at hoff N)
  (try simp only [List.forall_mem_cons, List.not_mem_nil, false_implies, implies_true, and_true, List.nil_append, List.cons_append] at hret)
  refine wpAny_call ?_; k_extra "my enter"
  k_steps
  rename News h₀ _ _ _ => kN
  rw [show ((0 : Int) + (a : Int)).toNat = a by omega, show ((0 : Int) + (b : Int)).toNat = b by omega] at kN
  refine' hret _ [(S, _)] [] _ _ ?f ?n ?o ⟨_, rfl, rfl, rfl⟩
  (case f => assumption); (case n => refine kst_newsOf (by assumption) ?_; k_extra "my sub"); (case o => k_extra "my off")

theorem done_move {w : World} {p loose mean mg mb} {x : Int} {a b : Nat} {i : Int} {O D S Li Wk : Addr} {st : List Value} {n : Nat} {t t1 u2 t0' t1' t2' t3' t4' t5' t6' t7' t8' : Tok} {v3 v7 v8 : Value} (hx : x % 64 = 0) (ha : x / 64 % 256 = (a : Int)) (hb : x / 8388608 = (b : Int)) (ha2 : a < st.length) (hb2 : b < st.length) (hz : st.length ≤ 1000) {cd K : Addr} (q1 : S ≠ O) (q2 : S ≠ D) (q3 : O ≠ D) :
    CSpec PySem.Challenge.rw_xm0628_02.prog w (hd02.heap_1 w.params) p loose mean mg mb 449 3 [.ref O, .int 0 t, .int x t1]
      [(O, instObj 508 D), (D, dictOf (sEnts w t0' t1' t2' t3' t4' t5' t6' t7' t8' (.ref cd) (.ref K) (.ref S) v3 (.ref Li) (.ref Wk) (.int i u2) v7 v8) 9), (S, listOf st.toArray n)]
      (fun r chg new => ∃ t0'' t1'' t2'' t3'' t4'' t5'' t6'' t7'' t8'' u', r = .bool true ∧ chg = [(O, instObj 508 D), (D, dictOf (sEnts w t0'' t1'' t2'' t3'' t4'' t5'' t6'' t7'' t8'' (.ref cd) (.ref K) (.ref S) v3 (.ref Li) (.ref Wk) (.int i u') v7 v8) 9), (S, listOf (st.set a (st.getD b .none)).toArray n)] ∧ new = []) := by
  unfold CSpec; k_fill
  intro dp un gd cn cs ad ccd cl outer A₀ base h₀ L m rest s Q E B F X N hoff T hk hd hu hret
  (try simp only [List.forall_mem_cons, List.not_mem_nil, false_implies, implies_true, and_true, List.nil_append, List.cons_append] at hoff N)
  (try simp only [List.forall_mem_cons, List.not_mem_nil, false_implies, implies_true, and_true, List.nil_append, List.cons_append] at hret)
  refine wpAny_call ?_; k_extra "my enter"
  k_steps
  refine ⟨?_⟩
  intro r chg new h1 tk1 F1 N1 o1 hp
  refine byc ?_; intro hGG
  obtain ⟨u, rfl, rfl, rfl⟩ := hp
  refine hGG ?_; clear hGG
  simp only [List.cons_append, List.nil_append] at N1
  k_steps
  rename News h₀ _ _ _ => kN
  rw [Int.add_zero] at kN
  refine' hret _ [(O, _), (D, _), (S, _)] [] _ _ ?f ?n ?o ⟨_, _, _, _, _, _, _, _, _, _, rfl, rfl, rfl⟩
  (case f => assumption); (case n => refine kst_newsOf (by assumption) ?_; k_extra "my sub"); (case o => k_extra "my off")

theorem done_back {w : World} {p loose mean mg mb} {x : Int} {k : Nat} {O D S Li Wk : Addr} {st : List Value} {n : Nat} {t t1 t0' t1' t2' t3' t4' t5' t6' t7' t8' : Tok} {v3 v6 v7 v8 : Value} (hx : x % 64 = 30) (ha : x / 64 % 256 = 0) (hb : x / 8388608 = (k : Int) + 1) (hm : k ≤ st.length) (hz : st.length ≤ 1000) {cd K : Addr} (q1 : S ≠ O) (q2 : S ≠ D) (q3 : O ≠ D) :
    CSpec PySem.Challenge.rw_xm0628_02.prog w (hd02.heap_1 w.params) p loose mean mg mb 449 3 [.ref O, .int 30 t, .int x t1]
      [(O, instObj 508 D), (D, dictOf (sEnts w t0' t1' t2' t3' t4' t5' t6' t7' t8' (.ref cd) (.ref K) (.ref S) v3 (.ref Li) (.ref Wk) v6 v7 v8) 9), (S, listOf st.toArray n)]
      (fun r chg new => ∃ t0'' t1'' t2'' t3'' t4'' t5'' t6'' t7'' t8'' R rn, r = .bool true ∧ chg = [(O, instObj 508 D), (D, dictOf (sEnts w t0'' t1'' t2'' t3'' t4'' t5'' t6'' t7'' t8'' (.ref cd) (.ref K) (.ref S) v3 (.ref Li) (.ref Wk) v6 v7 (.ref R)) 9), (S, listOf st.toArray n)] ∧ new = [(R, listOf (st.take k).toArray rn)]) := by
  unfold CSpec; k_fill
  intro dp un gd cn cs ad ccd cl outer A₀ base h₀ L m rest s Q E B F X N hoff T hk hd hu hret
  (try simp only [List.forall_mem_cons, List.not_mem_nil, false_implies, implies_true, and_true, List.nil_append, List.cons_append] at hoff N)
  (try simp only [List.forall_mem_cons, List.not_mem_nil, false_implies, implies_true, and_true, List.nil_append, List.cons_append] at hret)
  refine wpAny_call ?_; k_extra "my enter"
  k_steps
  any_goals (exfalso; omega)
  rename News h₀ _ _ _ => kN
  rw [show (((0 : Int) + ((k : Int) + 1 - 1)).toNat) = k by omega] at kN
  refine byc ?_; intro hGG
  k_extra "my split"
  refine hGG ?_; clear hGG
  refine' hret _ [(O, _), (D, _), (S, _)] [(_, _)] _ _ ?f ?n ?o ⟨_, _, _, _, _, _, _, _, _, _, _, rfl, rfl, rfl⟩
  (case f => assumption); (case n => refine kst_newsOf (by assumption) ?_; k_extra "my sub"); (case o => k_extra "my off")

theorem lines_E1 : True := by
  k_with_none
  k_with "my own omega" => (first | omega (splitDisjunctions := false) | ((repeat (rename _ ∧ _ => hC_q44; cases hC_q44)); (repeat (rename _ ≠ _ => hX_q44; clear hX_q44)); omega (splitDisjunctions := true)))
  k_with "my mem" => (first | with_reducible exact mem_c | with_reducible exact mem_2 | with_reducible exact mem_3 | with_reducible exact mem_4 | (with_reducible refine skip_4 ?_; k_extra "my mem") | (with_reducible refine skip_1 ?_; k_extra "my mem") | with_reducible assumption | (with_reducible refine List.mem_append_left _ ?_; k_extra "my mem") | (with_reducible refine List.mem_append_right _ ?_; k_extra "my mem"))
  k_with "my mem2" => (first | exact List.mem_cons_self | assumption | (refine List.mem_cons_of_mem _ ?_; k_extra "my mem2") | (refine List.mem_append_left _ ?_; k_extra "my mem2") | (refine List.mem_append_right _ ?_; k_extra "my mem2"))
  k_with "my own k_mem" => (first | k_extra "my mem" | k_extra "my mem2")
  k_with "my ne" => (first | with_reducible assumption | with_reducible exact Ne.symm (by with_reducible assumption) | with_reducible exact Nat.ne_of_lt (by with_reducible assumption) | with_reducible exact Nat.ne_of_gt (by with_reducible assumption))
  k_with "my own k_ne" => ((refine neN ?_; first | k_extra "my ne" | ((try dsimp only); k_extra "my ne") | (k_extra "my split"; (try dsimp only); first | k_extra "my ne" | omega (splitDisjunctions := false))))
  k_with "my upd" => (first | (refine' Upd.head ?a_q50; (case a_q50 => k_all)) | (refine' Upd.tail ?a_q50 ?b_q50; (case a_q50 => k_ne); (case b_q50 => k_extra "my upd")))
  k_with "my own k_upd" => (k_extra "my upd")
  k_with "my updF" => (first | (refine' UpdF.head ?a_q52; (case a_q52 => k_all)) | (refine' UpdF.tail ?a_q52 ?b_q52; (case a_q52 => k_ne); (case b_q52 => k_extra "my updF")))
  k_with "my own k_updF" => (k_extra "my updF")
  k_with "my split" => (repeat (first | (rename _ ∧ _ ∧ _ ∧ _ ∧ _ ∧ _ ∧ _ ∧ _ => hC_q54; refine elim_8 hC_q54 ?_; clear hC_q54; intro _ _ _ _ _ _ _ _) | (rename _ ∧ _ ∧ _ ∧ _ => hC_q54; refine elim_4 hC_q54 ?_; clear hC_q54; intro _ _ _ _) | (rename _ ∧ _ => hC_q54; cases hC_q54)))
  k_with "my offleaf" => (first | assumption | exact Off.nil | exact Off.of1 (by assumption) | exact Off.ofLt (by assumption) | exact Off.ofLt (allLt_left (by assumption)) | exact Off.ofLt (allLt_right (by assumption)) | exact Off.ofLt (allLt_left (allLt_right (by assumption))) | exact Off.ofLt (allLt_right (allLt_right (by assumption))))
  k_with "my own k_all" => ((show Off _ _; first | assumption | (k_extra "my split"; repeat' (first | with_reducible exact Off.nil | with_reducible refine off_c ?_ ?_ | with_reducible refine Off.append ?_ ?_ | k_ne | k_extra "my offleaf"))))
  k_with "my enter" => (k_dflt (first | (refine' code_def ?k1_q57 ?k2_q57 ?k3_q57 ?k4_q57 ?k5_q57 ?kA_q57 ?kF_q57 ?kK_q57 ?k6_q57 ?k7_q57 ?k8_q57 ?k9_q57 ?kB_q57 ?_ ?c2_q57 ?c3_q57 ?c4_q57 ?c5_q57; (case kA_q57 => exact rfl); (case kF_q57 => exact rfl); (case kK_q57 => first | exact rfl | assumption); (case k1_q57 => k_asm); (case k2_q57 => k_asm); (case k3_q57 => k_asm); (case k4_q57 => k_asm); (case k5_q57 => k_asm); (case k6_q57 => k_is); (case k7_q57 => k_is); (case k8_q57 => ktr_room); (case k9_q57 => first | exact BindsTo.of_eq rfl | exact binds_K (by k_in) rfl (by k_is) rfl rfl rfl); (case c5_q57 => decide); (case kB_q57 => exact locs rfl); (case c2_q57 => exact rfl); (case c3_q57 => exact rfl); (case c4_q57 => exact rfl); k_whole; intro g'_q57 L'_q57 h'_q57 FG'_q57 F'_q57 N'_q57 B'_q57 X'_q57 T'_q57; (try dsimp only); (try k_fold)) | (refine' code_defC ?k1_q57 ?k2_q57 ?k3_q57 ?k4_q57 ?k5_q57 ?kA_q57 ?kF_q57 ?kK_q57 ?k6_q57 ?k7_q57 ?k8_q57 ?k9_q57 ?kB_q57 ?kD_q57 ?_ ?c2_q57 ?c3_q57 ?c4_q57; (case kA_q57 => exact rfl); (case kF_q57 => exact rfl); (case kK_q57 => first | exact rfl | assumption); (case k1_q57 => k_asm); (case k2_q57 => k_asm); (case k3_q57 => k_asm); (case k4_q57 => k_asm); (case k5_q57 => k_asm); (case k6_q57 => k_is); (case k7_q57 => k_is); (case k8_q57 => ktr_room); (case k9_q57 => first | exact BindsTo.of_eq rfl | exact binds_K (by k_in) rfl (by k_is) rfl rfl rfl); (case kB_q57 => exact rfl); (case kD_q57 => decide +kernel); (case c2_q57 => exact rfl); (case c3_q57 => exact rfl); (case c4_q57 => exact rfl); k_whole; intro g'_q57 L'_q57 h'_q57 tk'_q57 cells'_q57 FG'_q57 F'_q57 N'_q57 Y'_q57 B'_q57 X'_q57 T'_q57 l1_q57; (try k_lt l1_q57); (k_cells Y'_q57); (try simp only [List.cons_append, List.nil_append] at N'_q57); (try dsimp only); (try k_fold))))
  k_with "my in" => (first | assumption | (refine List.Mem.tail _ ?_; k_extra "my in") | (refine List.mem_append.mpr (Or.inl ?_); k_extra "my in") | (refine List.mem_append.mpr (Or.inr ?_); k_extra "my in"))
  k_with "my sub" => (((try simp only [List.nil_append, List.cons_append, List.append_assoc]); repeat' (first | with_reducible exact sub_nil | with_reducible refine sub_cons ?_ ?_ | with_reducible refine sub_append ?_ ?_ | (intro p_q59 hp_q59; k_extra "my in") | k_mem)))
  k_with "my off" => (((try simp only [List.nil_append, List.cons_append]); repeat' (first | with_reducible exact offs_nil | with_reducible refine offs_cons ?_ ?_ | k_all)))
  k_with "my pick" => ((repeat' (first | exact Picks.nil | refine' Picks.cons ?_ ?_ | exact Pick.head | refine' Pick.tail ?_)))
  k_with "pyIter ref" => ((k_here; (with_reducible show wpAny _ _ (pyIter (Value.ref _)) (fun it_q62 s₂_q62 => LoopAtV _ _ _ _ _ _ _ _ _ it_q62 s₂_q62) _ _); refine of_stop ?_))
  k_with "exec While" => ((k_here; refine of_stop ?_))
  k_with "call builtin:list.index" => ((k_here; (with_reducible show wpAny _ _ (call (Value.builtin _) [Value.ref _, Value.int _ _]) _ _ _); k_dflt (refine' idx_nat ?N_q64 ?m_q64 ?i_q64 ?k_q64 ?z_q64 ?_; (case N_q64 => k_asm); (case m_q64 => k_mem); (case i_q64 => assumption); (case k_q64 => assumption); (case z_q64 => (first | assumption | omega)); k_whole); intro u'_q64))
  k_with "call builtin:list.extend" => ((k_here; (with_reducible show wpAny _ _ (call (Value.builtin _) [Value.ref _, Value.ref _]) _ _ _); k_extra "my split"; (try (rename List.length _ = List.length (List.map _ _) => hL9_q65; simp only [List.length_map, rangeKs_length] at hL9_q65)); k_dflt (refine' ext_any ?F_q65 ?N_q65 ?b_q65 ?U_q65 ?z_q65 ?_; (case F_q65 => k_asm); (case N_q65 => k_asm); (case b_q65 => k_mem); (case U_q65 => k_upd); (case z_q65 => k_extra "my len"); k_whole); intro h'_q65 F'_q65 N'_q65; (try k_sweep)))
  k_with "my ints" => (first | assumption | exact IntsAre.nil | exact IntsAre.cons _ _ IntsAre.nil)
  k_with "my len" => (first | omega | (simp only [List.length_append, List.length_map, List.length_replicate, Int.reduceToNat, List.length_cons, List.length_nil, List.length_range, rangeKs_length]; omega))
  k_with "binaryOp Add ref ref" => ((k_here; (with_reducible show wpAny _ _ (binaryOp _ (Value.ref _) (Value.ref _)) _ _ _); k_extra "my split"; k_dflt (refine' add_any ?F_q68 ?N_q68 ?a_q68 ?b_q68 ?z_q68 ?_; (case F_q68 => k_asm); (case N_q68 => k_asm); (case a_q68 => k_mem); (case b_q68 => k_mem); (case z_q68 => k_extra "my len"); k_whole); intro D'_q68 us'_q68 h'_q68 F'_q68 N'_q68 l1_q68 he'_q68 hl'_q68; (try k_lt l1_q68); (try simp only [List.length_cons, List.length_nil, List.length_map] at hl'_q68); (try k_sweep)))
  k_with "binaryOp Add ref ref" => ((k_here; (with_reducible show wpAny _ _ (binaryOp _ (Value.ref _) (Value.ref _)) _ _ _); k_extra "my split"; k_dflt (refine' add_ints ?F_q69 ?N_q69 ?a_q69 ?b_q69 ?i_q69 ?j_q69 ?z_q69 ?_; (case F_q69 => k_asm); (case N_q69 => k_asm); (case a_q69 => k_mem); (case b_q69 => k_mem); (case i_q69 => k_extra "my ints"); (case j_q69 => k_extra "my ints"); (case z_q69 => k_extra "my len"); k_whole); intro D'_q69 us'_q69 ns'_q69 h'_q69 F'_q69 N'_q69 l1_q69 hI'_q69 he'_q69 hl'_q69 hv'_q69; (try k_lt l1_q69); (try simp only [List.length_cons, List.length_nil, List.length_map] at hl'_q69); (try k_sweep)))
  k_with "subscriptTail Name Name ref int" => ((k_here; (with_reducible show wpAny _ _ (subscriptTail _ _ (Value.ref _) (Value.int _ _)) _ _ _); k_dflt (refine' ksa_sub ?k1_q70 ?k2_q70 ?k3_q70 ?k4_q70 ?k5_q70 ?k6_q70 ?_ ?k7_q70; (case k1_q70 => k_asm); (case k2_q70 => k_mem); (case k3_q70 => assumption); (case k4_q70 => omega); (case k5_q70 => k_extra "my len"); (case k6_q70 => omega); (case k7_q70 => with_unfolding_all rfl); k_whole); intro _))
  k_with "subscriptTail Name BinOp ref int" => ((k_here; (with_reducible show wpAny _ _ (subscriptTail _ _ (Value.ref _) (Value.int _ _)) _ _ _); k_dflt (refine' ksa_sub ?k1_q71 ?k2_q71 ?k3_q71 ?k4_q71 ?k5_q71 ?k6_q71 ?_ ?k7_q71; (case k1_q71 => k_asm); (case k2_q71 => k_mem); (case k3_q71 => assumption); (case k4_q71 => omega); (case k5_q71 => k_extra "my len"); (case k6_q71 => omega); (case k7_q71 => with_unfolding_all rfl); k_whole); intro _))
  k_with "call builtin:len" => ((k_here; (with_reducible show wpAny _ _ (call (Value.builtin _) [Value.ref _]) _ _ _); k_dflt (refine' len_any ?N_q72 ?m_q72 ?e_q72 ?z_q72 ?_; (case N_q72 => k_asm); (case m_q72 => k_mem); (case e_q72 => assumption); (case z_q72 => k_extra "my len"); k_whole); intro _ _))
  k_with "eval Lambda" => ((k_here; k_dflt (refine' lam_hit (P := 521) (c := 525) ?F_q73 ?N_q73 ?T_q73 ?C_q73 ?cd_q73 ?U_q73 ?t_q73 ?cl_q73 ?d_q73 ?_; (case F_q73 => k_asm); (case N_q73 => k_asm); (case T_q73 => k_asm); (case cd_q73 => exact rfl); (case U_q73 => k_updF); (case C_q73 => exact codeHd_of_K (by assumption) (by kernel_rfl)); (case t_q73 => assumption); (case cl_q73 => exact rfl); (case d_q73 => exact rfl); k_whole); intro f'_q73 ps'_q73 h'_q73 tk'_q73 F'_q73 N'_q73 ht'_q73; (try dsimp only at N'_q73); (try k_sweep)))
  k_with "my own k_room" => (ktr_room)
  k_with "binaryOp Mult ref int" => ((k_here; (with_reducible show wpAny _ _ (binaryOp Operator.Mult (Value.ref _) (Value.int _ _)) _ _ _); k_dflt (refine' mul_one' ?F_q75 ?N_q75 ?l_q75 ?lo_q75 ?hi_q75 ?z_q75 ?_; (case F_q75 => k_asm); (case N_q75 => k_asm); (case l_q75 => k_mem); (case lo_q75 => omega); (case hi_q75 => omega); (case z_q75 => decide); k_whole); intro D'_q75 h'_q75 F'_q75 N'_q75 l1_q75; (try k_lt l1_q75); (try k_sweep)))
  k_with "setItem ref int" => ((k_here; (with_reducible show wpAny _ _ (setItem (Value.ref _) (Value.int _ _) _) _ _ _); k_dflt (refine' set_any ?F_q76 ?N_q76 ?U_q76 ?z0_q76 ?z1_q76 ?z2_q76 ?_; (case F_q76 => k_asm); (case N_q76 => k_asm); (case U_q76 => k_upd); (case z0_q76 => omega); (case z1_q76 => k_extra "my len"); (case z2_q76 => k_extra "my len"); k_whole); intro h'_q76 F'_q76 N'_q76; (try k_sweep)))
  k_with "my item" => ((k_here; (with_reducible show wpAny _ _ (subscriptTail _ _ (Value.ref _) (Value.int _ _)) _ _ _); k_dflt (refine' item_any ?N_q77 ?m_q77 ?z0_q77 ?z1_q77 ?z2_q77 ?_ ?hs_q77 ?hg_q77; (case N_q77 => k_asm); (case m_q77 => k_mem); (case z0_q77 => omega); (case z1_q77 => k_extra "my len"); (case z2_q77 => k_extra "my len"); (case hs_q77 => with_unfolding_all rfl); (case hg_q77 => intro _; with_unfolding_all rfl); k_whole)))
  k_with "subscriptTail Name Slice ref ref" => ((k_here; (with_reducible show wpAny _ _ (subscriptTail _ (PySem.Expr.Slice _ _ none _) (Value.ref _) (Value.ref _)) _ _ _); k_dflt (refine' slice_head ?F_q78 ?N_q78 ?m_q78 ?x_q78 ?y_q78 ?z_q78 ?_ ?s_q78 ?t_q78; (case F_q78 => k_asm); (case N_q78 => k_asm); (case m_q78 => k_mem); (case x_q78 => first | exact rfl | omega); (case y_q78 => omega); (case z_q78 => k_extra "my len"); (case s_q78 => with_unfolding_all rfl); (case t_q78 => kmk_pure)); intro D'_q78 h'_q78 F'_q78 N'_q78 l1_q78; (try k_lt l1_q78); (try k_sweep)))
  trivial

theorem bitAnd_m9 (x : Int) : Builtin.bitAnd x 511 = x % 512 := by
  by_cases hx : 0 ≤ x
  · rw [PyProof.Rows.bitAnd_pp hx (by decide)]
    have h : x.toNat &&& (511 : Int).toNat = x.toNat % 512 := Nat.and_two_pow_sub_one_eq_mod x.toNat 9
    rw [h]
    omega
  · rw [PyProof.Rows.bitAnd_np hx (by decide)]
    have h : (511 : Int).toNat &&& (Builtin.bitNot x).toNat = (Builtin.bitNot x).toNat % 512 := by
      rw [Nat.and_comm]
      exact Nat.and_two_pow_sub_one_eq_mod (Builtin.bitNot x).toNat 9
    rw [h]
    unfold Builtin.bitNot
    omega
theorem bitAnd_256 {x : Int} (h0 : 0 ≤ x) (h : x < 256) : Builtin.bitAnd x 256 = 0 := by
  rw [PyProof.Rows.bitAnd_pp h0 (by decide)]
  have : ∀ n : Nat, n < 256 → n &&& (256 : Int).toNat = 0 := by decide
  rw [this x.toNat (by omega)]; rfl

theorem c_of_walk {w : World} {p loose mean mg mb} {x v : Int} {t : Tok} (hv : x / 16384 % 512 = v) :
    CSpec PySem.Challenge.rw_xm0628_02.prog w (hd02.heap_1 w.params) p loose mean mg mb 49 1 [.int x t] []
      (fun r chg new => ∃ u, r = .int v u ∧ chg = [] ∧ new = []) := by
  refine byc ?_; intro hGG
  subst hv
  refine hGG ?_; clear hGG
  unfold CSpec; k_fill
  intro dp un gd cn cs ad ccd cl outer A₀ base h₀ L m rest s Q E B F X N hoff T hk hd hu hret
  (try simp only [List.forall_mem_cons, List.not_mem_nil, false_implies, implies_true, and_true, List.nil_append, List.cons_append] at hoff N)
  (try simp only [List.forall_mem_cons, List.not_mem_nil, false_implies, implies_true, and_true, List.nil_append, List.cons_append] at hret)
  refine wpAny_call ?_; k_extra "my enter"
  k_steps
  rw [bitAnd_m9, Int.fdiv_eq_ediv_of_nonneg _ (by decide), show ((2 : Int) ^ Int.toNat 14) = 16384 by decide]
  refine' hret _ [] [] _ _ ?f ?n ?o ⟨_, rfl, rfl, rfl⟩
  (case f => assumption); (case n => refine kst_newsOf (by assumption) ?_; k_extra "my sub"); (case o => k_extra "my off")
theorem jump_of_walk {w : World} {p loose mean mg mb} {x v : Int} {t : Tok} (hv : x / 16384 - 131071 = v) (hx : 0 ≤ x) (hx2 : x < 4294967296) :
    CSpec PySem.Challenge.rw_xm0628_02.prog w (hd02.heap_1 w.params) p loose mean mg mb 63 1 [.int x t] []
      (fun r chg new => ∃ u, r = .int v u ∧ chg = [] ∧ new = []) := by
  refine byc ?_; intro hGG
  subst hv
  refine hGG ?_; clear hGG
  unfold CSpec; k_fill
  intro dp un gd cn cs ad ccd cl outer A₀ base h₀ L m rest s Q E B F X N hoff T hk hd hu hret
  (try simp only [List.forall_mem_cons, List.not_mem_nil, false_implies, implies_true, and_true, List.nil_append, List.cons_append] at hoff N)
  (try simp only [List.forall_mem_cons, List.not_mem_nil, false_implies, implies_true, and_true, List.nil_append, List.cons_append] at hret)
  refine wpAny_call ?_; k_extra "my enter"
  k_steps
  rw [Int.fdiv_eq_ediv_of_nonneg _ (by decide), show ((2 : Int) ^ Int.toNat 14) = 16384 by decide]
  refine' hret _ [] [] _ _ ?f ?n ?o ⟨_, rfl, rfl, rfl⟩
  (case f => assumption); (case n => refine kst_newsOf (by assumption) ?_; k_extra "my sub"); (case o => k_extra "my off")

abbrev wEnts (w : World) (t0 t1 t2 t3 t4 t5 : Tok) (v0 v1 v2 v3 v4 v5 : Value) : List DictEntry :=
  [{ hash := PyData.keyHash w.params (Str.ofString "new_table"), key := Value.str (Str.ofString "new_table") t0, val := v0 },
   { hash := PyData.keyHash w.params (Str.ofString "index"), key := Value.str (Str.ofString "index") t1, val := v1 },
   { hash := PyData.keyHash w.params (Str.ofString "put"), key := Value.str (Str.ofString "put") t2, val := v2 },
   { hash := PyData.keyHash w.params (Str.ofString "length"), key := Value.str (Str.ofString "length") t3, val := v3 },
   { hash := PyData.keyHash w.params (Str.ofString "compared"), key := Value.str (Str.ofString "compared") t4, val := v4 },
   { hash := PyData.keyHash w.params (Str.ofString "called"), key := Value.str (Str.ofString "called") t5, val := v5 }]
theorem works_made {w : World} {p loose mean mg mb} {f1 f2 f3 f4 f5 f6 : Addr} :
    CSpec PySem.Challenge.rw_xm0628_02.prog w (hd02.heap_1 w.params) p loose mean mg mb 417 2 [.ref f1, .ref f2, .ref f3, .ref f4, .ref f5, .ref f6] []
      (fun r chg new => ∃ x d t0 t1 t2 t3 t4 t5, r = .ref x ∧ chg = [] ∧ new = [(x, instObj 417 d), (d, dictOf (wEnts w t0 t1 t2 t3 t4 t5 (.ref f1) (.ref f2) (.ref f3) (.ref f4) (.ref f5) (.ref f6)) 6)] ∧ x ≠ d) := by
  unfold CSpec; k_fill
  intro dp un gd cn cs ad ccd cl outer A₀ base h₀ L m rest s Q E B F X N hoff T hk hd hu hret
  (try simp only [List.forall_mem_cons, List.not_mem_nil, false_implies, implies_true, and_true, List.nil_append, List.cons_append] at hoff N)
  (try simp only [List.forall_mem_cons, List.not_mem_nil, false_implies, implies_true, and_true, List.nil_append, List.cons_append] at hret)
  k_dflt (refine' call_cls ?k1 ?k2 ?k3 ?k4 ?k5 ?k6 ?_; (case k1 => k_asm); (case k2 => k_asm); (case k3 => k_asm); (case k4 => k_is); (case k5 => k_is); (case k6 => k_is))
  intro x' d' h' F' N' l1 l2
  have l3 := fun p hp => Nat.lt_trans (l1 p hp) l2
  (try k_lt l1); (try k_lt l3)
  clear F N
  k_dflt (refine' code_def (binds := [(Str.ofString "self", .ref x'), (Str.ofString "new_table", .ref f1), (Str.ofString "index", .ref f2), (Str.ofString "put", .ref f3), (Str.ofString "length", .ref f4), (Str.ofString "compared", .ref f5), (Str.ofString "called", .ref f6)]) ?k1 ?k2 ?k3 ?k4 ?k5 ?kA ?kF ?kK ?k6 ?k7 ?k8 ?k9 ?kB ?_ ?c2 ?c3 ?c4 ?c5; (case kA => exact rfl); (case kF => exact rfl); (case kK => first | exact rfl | assumption); (case k1 => k_asm); (case k2 => k_asm); (case k3 => k_asm); (case k4 => k_asm); (case k5 => k_asm); (case k6 => k_is); (case k7 => k_is); (case k8 => ktr_room); (case k9 => first | exact BindsTo.of_eq rfl | exact binds_K (by k_in) rfl (by k_is) rfl rfl rfl); (case c5 => decide); (case kB => exact locs rfl); (case c2 => exact rfl); (case c3 => exact rfl); (case c4 => exact rfl); k_whole; intro g' L' h' FG' F' N' B' X' T'; (try dsimp only); (try k_fold))
  k_steps
  refine byc ?_; intro hGG
  k_extra "my split"
  refine hGG ?_; clear hGG
  refine' hret _ [] [(x', _), (d', _)] _ _ ?f ?n ?o ⟨x', d', _, _, _, _, _, _, rfl, rfl, rfl, ?q1⟩
  (case f => assumption); (case n => refine kst_newsOf (by assumption) ?_; k_extra "my sub"); (case o => k_extra "my off")
  (case q1 => k_ne)

theorem lines_D2 : True := by
  k_with_none
  k_with "my own omega" => (first | omega (splitDisjunctions := false) | ((repeat (rename _ ∧ _ => hC_q79; cases hC_q79)); (repeat (rename _ ≠ _ => hX_q79; clear hX_q79)); omega (splitDisjunctions := true)))
  k_with "my mem" => (first | with_reducible exact mem_c | with_reducible exact mem_2 | with_reducible exact mem_3 | with_reducible exact mem_4 | (with_reducible refine skip_4 ?_; k_extra "my mem") | (with_reducible refine skip_1 ?_; k_extra "my mem") | with_reducible assumption | (with_reducible refine List.mem_append_left _ ?_; k_extra "my mem") | (with_reducible refine List.mem_append_right _ ?_; k_extra "my mem"))
  k_with "my mem2" => (first | exact List.mem_cons_self | assumption | (refine List.mem_cons_of_mem _ ?_; k_extra "my mem2") | (refine List.mem_append_left _ ?_; k_extra "my mem2") | (refine List.mem_append_right _ ?_; k_extra "my mem2"))
  k_with "my own k_mem" => (first | k_extra "my mem" | k_extra "my mem2")
  k_with "my ne" => (first | with_reducible assumption | with_reducible exact Ne.symm (by with_reducible assumption) | with_reducible exact Nat.ne_of_lt (by with_reducible assumption) | with_reducible exact Nat.ne_of_gt (by with_reducible assumption))
  k_with "my own k_ne" => ((refine neN ?_; first | k_extra "my ne" | ((try dsimp only); k_extra "my ne") | (k_extra "my split"; (try dsimp only); first | k_extra "my ne" | omega (splitDisjunctions := false))))
  k_with "my upd" => (first | (refine' Upd.head ?a_q85; (case a_q85 => k_all)) | (refine' Upd.tail ?a_q85 ?b_q85; (case a_q85 => k_ne); (case b_q85 => k_extra "my upd")))
  k_with "my own k_upd" => (k_extra "my upd")
  k_with "my updF" => (first | (refine' UpdF.head ?a_q87; (case a_q87 => k_all)) | (refine' UpdF.tail ?a_q87 ?b_q87; (case a_q87 => k_ne); (case b_q87 => k_extra "my updF")))
  k_with "my own k_updF" => (k_extra "my updF")
  k_with "my split" => (repeat (first | (rename _ ∧ _ ∧ _ ∧ _ ∧ _ ∧ _ ∧ _ ∧ _ => hC_q89; refine elim_8 hC_q89 ?_; clear hC_q89; intro _ _ _ _ _ _ _ _) | (rename _ ∧ _ ∧ _ ∧ _ => hC_q89; refine elim_4 hC_q89 ?_; clear hC_q89; intro _ _ _ _) | (rename _ ∧ _ => hC_q89; cases hC_q89)))
  k_with "my offleaf" => (first | assumption | exact Off.nil | exact Off.of1 (by assumption) | exact Off.ofLt (by assumption) | exact Off.ofLt (allLt_left (by assumption)) | exact Off.ofLt (allLt_right (by assumption)) | exact Off.ofLt (allLt_left (allLt_right (by assumption))) | exact Off.ofLt (allLt_right (allLt_right (by assumption))))
  k_with "my own k_all" => ((show Off _ _; first | assumption | (k_extra "my split"; repeat' (first | with_reducible exact Off.nil | with_reducible refine off_c ?_ ?_ | with_reducible refine Off.append ?_ ?_ | k_ne | k_extra "my offleaf"))))
  k_with "my enter" => (k_dflt (first | (refine' code_def ?k1_q92 ?k2_q92 ?k3_q92 ?k4_q92 ?k5_q92 ?kA_q92 ?kF_q92 ?kK_q92 ?k6_q92 ?k7_q92 ?k8_q92 ?k9_q92 ?kB_q92 ?_ ?c2_q92 ?c3_q92 ?c4_q92 ?c5_q92; (case kA_q92 => exact rfl); (case kF_q92 => exact rfl); (case kK_q92 => first | exact rfl | assumption); (case k1_q92 => k_asm); (case k2_q92 => k_asm); (case k3_q92 => k_asm); (case k4_q92 => k_asm); (case k5_q92 => k_asm); (case k6_q92 => k_is); (case k7_q92 => k_is); (case k8_q92 => ktr_room); (case k9_q92 => first | exact BindsTo.of_eq rfl | exact binds_K (by k_in) rfl (by k_is) rfl rfl rfl); (case c5_q92 => decide); (case kB_q92 => exact locs rfl); (case c2_q92 => exact rfl); (case c3_q92 => exact rfl); (case c4_q92 => exact rfl); k_whole; intro g'_q92 L'_q92 h'_q92 FG'_q92 F'_q92 N'_q92 B'_q92 X'_q92 T'_q92; (try dsimp only); (try k_fold)) | (refine' code_defC ?k1_q92 ?k2_q92 ?k3_q92 ?k4_q92 ?k5_q92 ?kA_q92 ?kF_q92 ?kK_q92 ?k6_q92 ?k7_q92 ?k8_q92 ?k9_q92 ?kB_q92 ?kD_q92 ?_ ?c2_q92 ?c3_q92 ?c4_q92; (case kA_q92 => exact rfl); (case kF_q92 => exact rfl); (case kK_q92 => first | exact rfl | assumption); (case k1_q92 => k_asm); (case k2_q92 => k_asm); (case k3_q92 => k_asm); (case k4_q92 => k_asm); (case k5_q92 => k_asm); (case k6_q92 => k_is); (case k7_q92 => k_is); (case k8_q92 => ktr_room); (case k9_q92 => first | exact BindsTo.of_eq rfl | exact binds_K (by k_in) rfl (by k_is) rfl rfl rfl); (case kB_q92 => exact rfl); (case kD_q92 => decide +kernel); (case c2_q92 => exact rfl); (case c3_q92 => exact rfl); (case c4_q92 => exact rfl); k_whole; intro g'_q92 L'_q92 h'_q92 tk'_q92 cells'_q92 FG'_q92 F'_q92 N'_q92 Y'_q92 B'_q92 X'_q92 T'_q92 l1_q92; (try k_lt l1_q92); (k_cells Y'_q92); (try simp only [List.cons_append, List.nil_append] at N'_q92); (try dsimp only); (try k_fold))))
  k_with "my in" => (first | assumption | (refine List.Mem.tail _ ?_; k_extra "my in") | (refine List.mem_append.mpr (Or.inl ?_); k_extra "my in") | (refine List.mem_append.mpr (Or.inr ?_); k_extra "my in"))
  k_with "my sub" => (((try simp only [List.nil_append, List.cons_append, List.append_assoc]); repeat' (first | with_reducible exact sub_nil | with_reducible refine sub_cons ?_ ?_ | with_reducible refine sub_append ?_ ?_ | (intro p_q94 hp_q94; k_extra "my in") | k_mem)))
  k_with "my off" => (((try simp only [List.nil_append, List.cons_append]); repeat' (first | with_reducible exact offs_nil | with_reducible refine offs_cons ?_ ?_ | k_all)))
  k_with "my pick" => ((repeat' (first | exact Picks.nil | refine' Picks.cons ?_ ?_ | exact Pick.head | refine' Pick.tail ?_)))
  k_with "pyIter ref" => ((k_here; (with_reducible show wpAny _ _ (pyIter (Value.ref _)) (fun it_q97 s₂_q97 => LoopAtV _ _ _ _ _ _ _ _ _ it_q97 s₂_q97) _ _); refine of_stop ?_))
  k_with "exec While" => ((k_here; refine of_stop ?_))
  k_with "call builtin:list.index" => ((k_here; (with_reducible show wpAny _ _ (call (Value.builtin _) [Value.ref _, Value.int _ _]) _ _ _); k_dflt (refine' idx_nat ?N_q99 ?m_q99 ?i_q99 ?k_q99 ?z_q99 ?_; (case N_q99 => k_asm); (case m_q99 => k_mem); (case i_q99 => assumption); (case k_q99 => assumption); (case z_q99 => (first | assumption | omega)); k_whole); intro u'_q99))
  k_with "call builtin:list.extend" => ((k_here; (with_reducible show wpAny _ _ (call (Value.builtin _) [Value.ref _, Value.ref _]) _ _ _); k_extra "my split"; (try (rename List.length _ = List.length (List.map _ _) => hL9_q100; simp only [List.length_map, rangeKs_length] at hL9_q100)); k_dflt (refine' ext_any ?F_q100 ?N_q100 ?b_q100 ?U_q100 ?z_q100 ?_; (case F_q100 => k_asm); (case N_q100 => k_asm); (case b_q100 => k_mem); (case U_q100 => k_upd); (case z_q100 => k_extra "my len"); k_whole); intro h'_q100 F'_q100 N'_q100; (try k_sweep)))
  k_with "my ints" => (first | assumption | exact IntsAre.nil | exact IntsAre.cons _ _ IntsAre.nil)
  k_with "my len" => (first | omega | (simp only [List.length_append, List.length_map, List.length_replicate, Int.reduceToNat, List.length_cons, List.length_nil, List.length_range, rangeKs_length]; omega))
  k_with "binaryOp Add ref ref" => ((k_here; (with_reducible show wpAny _ _ (binaryOp _ (Value.ref _) (Value.ref _)) _ _ _); k_extra "my split"; k_dflt (refine' add_any ?F_q103 ?N_q103 ?a_q103 ?b_q103 ?z_q103 ?_; (case F_q103 => k_asm); (case N_q103 => k_asm); (case a_q103 => k_mem); (case b_q103 => k_mem); (case z_q103 => k_extra "my len"); k_whole); intro D'_q103 us'_q103 h'_q103 F'_q103 N'_q103 l1_q103 he'_q103 hl'_q103; (try k_lt l1_q103); (try simp only [List.length_cons, List.length_nil, List.length_map] at hl'_q103); (try k_sweep)))
  k_with "binaryOp Add ref ref" => ((k_here; (with_reducible show wpAny _ _ (binaryOp _ (Value.ref _) (Value.ref _)) _ _ _); k_extra "my split"; k_dflt (refine' add_ints ?F_q104 ?N_q104 ?a_q104 ?b_q104 ?i_q104 ?j_q104 ?z_q104 ?_; (case F_q104 => k_asm); (case N_q104 => k_asm); (case a_q104 => k_mem); (case b_q104 => k_mem); (case i_q104 => k_extra "my ints"); (case j_q104 => k_extra "my ints"); (case z_q104 => k_extra "my len"); k_whole); intro D'_q104 us'_q104 ns'_q104 h'_q104 F'_q104 N'_q104 l1_q104 hI'_q104 he'_q104 hl'_q104 hv'_q104; (try k_lt l1_q104); (try simp only [List.length_cons, List.length_nil, List.length_map] at hl'_q104); (try k_sweep)))
  k_with "subscriptTail Name Name ref int" => ((k_here; (with_reducible show wpAny _ _ (subscriptTail _ _ (Value.ref _) (Value.int _ _)) _ _ _); k_dflt (refine' ksa_sub ?k1_q105 ?k2_q105 ?k3_q105 ?k4_q105 ?k5_q105 ?k6_q105 ?_ ?k7_q105; (case k1_q105 => k_asm); (case k2_q105 => k_mem); (case k3_q105 => assumption); (case k4_q105 => omega); (case k5_q105 => k_extra "my len"); (case k6_q105 => omega); (case k7_q105 => with_unfolding_all rfl); k_whole); intro _))
  k_with "subscriptTail Name BinOp ref int" => ((k_here; (with_reducible show wpAny _ _ (subscriptTail _ _ (Value.ref _) (Value.int _ _)) _ _ _); k_dflt (refine' ksa_sub ?k1_q106 ?k2_q106 ?k3_q106 ?k4_q106 ?k5_q106 ?k6_q106 ?_ ?k7_q106; (case k1_q106 => k_asm); (case k2_q106 => k_mem); (case k3_q106 => assumption); (case k4_q106 => omega); (case k5_q106 => k_extra "my len"); (case k6_q106 => omega); (case k7_q106 => with_unfolding_all rfl); k_whole); intro _))
  k_with "call builtin:len" => ((k_here; (with_reducible show wpAny _ _ (call (Value.builtin _) [Value.ref _]) _ _ _); k_dflt (refine' len_any ?N_q107 ?m_q107 ?e_q107 ?z_q107 ?_; (case N_q107 => k_asm); (case m_q107 => k_mem); (case e_q107 => assumption); (case z_q107 => k_extra "my len"); k_whole); intro _ _))
  k_with "eval Lambda" => ((k_here; k_dflt (refine' lam_hit (P := 521) (c := 525) ?F_q108 ?N_q108 ?T_q108 ?C_q108 ?cd_q108 ?U_q108 ?t_q108 ?cl_q108 ?d_q108 ?_; (case F_q108 => k_asm); (case N_q108 => k_asm); (case T_q108 => k_asm); (case cd_q108 => exact rfl); (case U_q108 => k_updF); (case C_q108 => exact codeHd_of_K (by assumption) (by kernel_rfl)); (case t_q108 => assumption); (case cl_q108 => exact rfl); (case d_q108 => exact rfl); k_whole); intro f'_q108 ps'_q108 h'_q108 tk'_q108 F'_q108 N'_q108 ht'_q108; (try dsimp only at N'_q108); (try k_sweep)))
  k_with "my own k_room" => (ktr_room)
  k_with "binaryOp Mult ref int" => ((k_here; (with_reducible show wpAny _ _ (binaryOp Operator.Mult (Value.ref _) (Value.int _ _)) _ _ _); k_dflt (refine' mul_one' ?F_q110 ?N_q110 ?l_q110 ?lo_q110 ?hi_q110 ?z_q110 ?_; (case F_q110 => k_asm); (case N_q110 => k_asm); (case l_q110 => k_mem); (case lo_q110 => omega); (case hi_q110 => omega); (case z_q110 => decide); k_whole); intro D'_q110 h'_q110 F'_q110 N'_q110 l1_q110; (try k_lt l1_q110); (try k_sweep)))
  k_with "setItem ref int" => ((k_here; (with_reducible show wpAny _ _ (setItem (Value.ref _) (Value.int _ _) _) _ _ _); k_dflt (refine' set_any ?F_q111 ?N_q111 ?U_q111 ?z0_q111 ?z1_q111 ?z2_q111 ?_; (case F_q111 => k_asm); (case N_q111 => k_asm); (case U_q111 => k_upd); (case z0_q111 => omega); (case z1_q111 => k_extra "my len"); (case z2_q111 => k_extra "my len"); k_whole); intro h'_q111 F'_q111 N'_q111; (try k_sweep)))
  k_with "my item" => ((k_here; (with_reducible show wpAny _ _ (subscriptTail _ _ (Value.ref _) (Value.int _ _)) _ _ _); k_dflt (refine' item_any ?N_q112 ?m_q112 ?z0_q112 ?z1_q112 ?z2_q112 ?_ ?hs_q112 ?hg_q112; (case N_q112 => k_asm); (case m_q112 => k_mem); (case z0_q112 => omega); (case z1_q112 => k_extra "my len"); (case z2_q112 => k_extra "my len"); (case hs_q112 => with_unfolding_all rfl); (case hg_q112 => intro _; with_unfolding_all rfl); k_whole)))
  k_with "subscriptTail Name Slice ref ref" => ((k_here; (with_reducible show wpAny _ _ (subscriptTail _ (PySem.Expr.Slice _ _ none _) (Value.ref _) (Value.ref _)) _ _ _); k_dflt (refine' slice_head ?F_q113 ?N_q113 ?m_q113 ?x_q113 ?y_q113 ?z_q113 ?_ ?s_q113 ?t_q113; (case F_q113 => k_asm); (case N_q113 => k_asm); (case m_q113 => k_mem); (case x_q113 => first | exact rfl | omega); (case y_q113 => omega); (case z_q113 => k_extra "my len"); (case s_q113 => with_unfolding_all rfl); (case t_q113 => kmk_pure)); intro D'_q113 h'_q113 F'_q113 N'_q113 l1_q113; (try k_lt l1_q113); (try k_sweep)))
  k_with "eval Name" => ((k_here; (with_reducible show wpAny _ _ (eval (Expr.Name _ _) (envX _ _ _ _ _ _)) _ _ _); k_dflt (refine' nameX_F ?N_q114 ?c_q114 ?m_q114 ?d_q114 ?_ ?a_q114 ?b_q114; (case a_q114 => exact rfl); (case b_q114 => exact rfl); (case N_q114 => k_asm); (case c_q114 => exact rfl); (case m_q114 => k_mem); (case d_q114 => assumption))))
  k_with "call ref" => ((k_here; (with_reducible show wpAny _ _ (call (Value.ref 417) _) _ _ _); k_dflt (refine' CSpec.use (rest := ?rest_q115) ?B_q115 ?F_q115 ?X_q115 ?N_q115 ?T_q115 .nil works_made ?hk_q115 (fun _ h_q115 => nomatch h_q115) ?hd_q115 ?hu_q115 ?_; (case B_q115 => k_asm); (case F_q115 => k_asm); (case X_q115 => k_asm); (case N_q115 => k_asm); (case T_q115 => k_asm); (case hk_q115 => first | exact rfl | assumption); (case hd_q115 => ktr_room); (case hu_q115 => ktr_units); k_whole; refine of_stop ?_)))
  k_with "call ref" => ((k_here; (with_reducible show wpAny _ _ (call (Value.ref 508) _) _ _ _); k_dflt (refine' CSpec.use ?B_q116 ?F_q116 ?X_q116 ?N_q116 ?T_q116 ?P_q116 (stepper_new ?hz_q116) ?hk_q116 ?ho_q116 ?hd_q116 ?hu_q116 ?_; (case B_q116 => k_asm); (case F_q116 => k_asm); (case X_q116 => k_asm); (case N_q116 => k_asm); (case T_q116 => k_asm); (case P_q116 => k_extra "my pick"); (case hz_q116 => k_extra "my len"); (case hk_q116 => first | exact rfl | assumption); (case ho_q116 => k_extra "my off"); (case hd_q116 => ktr_room); (case hu_q116 => ktr_units); k_whole; refine of_stop ?_)))
  k_with "exec FunctionDef" => ((k_here; refine of_stop ?_))
  k_with "call ref" => ((k_here; (with_reducible show wpAny _ _ (call (Value.ref 95) _) _ _ _); k_dflt (refine' CSpec.use0R ?B_q118 ?F_q118 ?X_q118 ?N_q118 ?T_q118 limits_new ?hk_q118 ?hd_q118 ?hu_q118 ?_; (case B_q118 => k_asm); (case F_q118 => k_asm); (case X_q118 => k_asm); (case N_q118 => k_asm); (case T_q118 => k_asm); (case hk_q118 => first | exact rfl | assumption); (case hd_q118 => ktr_room); (case hu_q118 => ktr_units); k_whole); intro x'_q118 h'_q118 tk'_q118 F'_q118 N'_q118; (try k_sweep)))
  k_with "exec For Tuple Name cons nil" => ((k_here; (rename Fr _ _ _ _ => lF9_q119); refine For_invTF lF9_q119 ?_ (by intro _; rfl)))
  k_with "pyIter ref" => ((k_here; (with_reducible show wpAny _ _ (pyIter (Value.ref _)) (fun it_q120 s₂_q120 => LoopAtT _ _ _ _ _ _ _ _ _ it_q120 s₂_q120) _ _); refine of_stop ?_))
  trivial

abbrev fnObj (fd : FuncData) : Obj := { cls := .type "function", data := .func fd }
/-- what the closure `compared` answers -/
def ClosOk (w : World) (p : Program) (loose : List Str) (mean : ExcName → Option Value) (mg mb : Str → Option Value) (f c ce al : Addr) (fd : FuncData) (co eo : Obj) : Prop :=
  ∀ (l r : Int) (u1 u2 u3 : Tok) (av : List Value) (an : Nat), av.length ≤ 1000 →
    CSpec PySem.Challenge.rw_xm0628_02.prog w (hd02.heap_1 w.params) p loose mean mg mb f 1 [.int 24 u1, .int l u2, .int r u3] [(f, fnObj fd), (c, co), (ce, eo), (al, listOf av.toArray an)]
      (fun x chg new => ∃ av' an', x = .bool (decide (l < r)) ∧ av'.length = av.length + 1 ∧ chg = [(f, fnObj fd), (c, co), (ce, eo), (al, listOf (List.toArray av') an')] ∧ new = [])
abbrev kpos : Pos := { line := 465, col := 4, endLine := 467, endCol := 49 }
/-- the code of the closure -/
def CRec (co : Obj) : Prop := ∃ vs t, co.data = .fields vs ∧ vs[1]? = some (.str (Str.ofString "_law_begun.<locals>.compared") t)
theorem clos_cut {w p loose mean mg mb} {h₀ h : Heap} {L f c ce al : Addr} {fd : FuncData} {co eo : Obj} {r : Led} {G : Prop} (N : News h₀ L h ((f, fnObj fd) :: (c, co) :: (ce, eo) :: r)) (C : ClosOk w p loose mean mg mb f c ce al fd co eo)
    (k : ∀ fd eo, ClosOk w p loose mean mg mb f c ce al fd co eo → News h₀ L h ((f, fnObj fd) :: (c, co) :: (ce, eo) :: r) → G) : G := k _ _ C N
/-- what lies apart in a machine -/
structure MOff (x d S cd wx wd f ce c al : Addr) : Prop where
  d : d ≠ x ∧ d ≠ S ∧ d ≠ cd ∧ d ≠ wx ∧ d ≠ wd ∧ d ≠ f ∧ d ≠ ce ∧ d ≠ c ∧ d ≠ al
  s : S ≠ x ∧ S ≠ cd ∧ S ≠ wx ∧ S ≠ wd ∧ S ≠ f ∧ S ≠ ce ∧ S ≠ c ∧ S ≠ al
  a : al ≠ x ∧ al ≠ cd ∧ al ≠ wx ∧ al ≠ wd ∧ al ≠ f ∧ al ≠ ce ∧ al ≠ c
  f : f ≠ x ∧ f ≠ cd ∧ f ≠ wx ∧ f ≠ wd
  e : ce ≠ x ∧ ce ≠ cd ∧ ce ≠ wx ∧ ce ≠ wd
  c : c ≠ x ∧ c ≠ cd ∧ c ≠ wx ∧ c ≠ wd
  x : x ≠ cd ∧ x ≠ wx ∧ x ≠ wd
/-- the ledger bears a machine -/
inductive Mach (w : World) (p : Program) (loose : List Str) (mean : ExcName → Option Value) (mg mb : Str → Option Value) (code : List Int) (st : List Value) (pc : Nat) (x c al : Addr) (co : Obj) : Led → Prop
  | mk {d S cd kk li wx wd f ce : Addr} {t0 t1 t2 t3 t4 t5 t6 t7 t8 u w0 w1 w2 w3 w4 w5 : Tok} {v3 v7 a0 a1 a2 a3 a5 : Value} {sn wn : Nat} {ws : List Value} {fd : FuncData} {eo : Obj} :
    MOff x d S cd wx wd f ce c al → IntsAre ws code → ClosOk w p loose mean mg mb f c ce al fd co eo →
    Mach w p loose mean mg mb code st pc x c al co [(x, instObj 508 d), (d, dictOf (sEnts w t0 t1 t2 t3 t4 t5 t6 t7 t8 (.ref cd) (.ref kk) (.ref S) v3 (.ref li) (.ref wx) (.int (pc : Int) u) v7 .none) 9), (S, listOf st.toArray sn), (cd, listOf ws.toArray wn),
      (wx, instObj 417 wd), (wd, dictOf (wEnts w w0 w1 w2 w3 w4 w5 a0 a1 a2 a3 (.ref f) a5) 6), (f, fnObj fd), (ce, eo)]
abbrev wrdsOf (n : Nat) (ps : List (Nat × Nat)) : List Int := ps.flatMap fun p => [24 + 16384 * (p.1 : Int) + 8388608 * (p.2 : Int), 22 + 16384 * 131074, 64 * (n : Int) + 8388608 * (p.1 : Int), 64 * (p.1 : Int) + 8388608 * (p.2 : Int), 64 * (p.2 : Int) + 8388608 * (n : Int)]
theorem words_take {n i : Nat} {ps : List (Nat × Nat)} {a b : Nat} (h : ps[i]? = some (a, b)) : wrdsOf n (ps.take (i + 1)) = wrdsOf n (ps.take i) ++ [24 + 16384 * (a : Int) + 8388608 * (b : Int), 22 + 16384 * 131074] ++ [64 * (n : Int) + 8388608 * (a : Int), 64 * (a : Int) + 8388608 * (b : Int), 64 * (b : Int) + 8388608 * (n : Int)] := by
  unfold wrdsOf
  rw [List.take_add_one, h, List.flatMap_append, List.append_assoc]
  rfl
theorem wrds_length {n : Nat} : ∀ {ps : List (Nat × Nat)}, (wrdsOf n ps).length = 5 * ps.length
  | [] => rfl
  | p :: r => by
    have := wrds_length (n := n) (ps := r)
    unfold wrdsOf at this ⊢
    rw [List.flatMap_cons, List.length_append, this, List.length_cons]
    simp only [List.length_cons, List.length_nil]; omega
def JB (W rl x : Addr) (nn : Value) (T : Addr × Obj) (base : Led) (n : Nat) (ps : List (Nat × Nat)) (i : Nat) (m : Str → Option Value) (nx : Led) : Prop :=
  m (Str.ofString "words") = some (.ref W) ∧ m (Str.ofString "spare") = some nn ∧ m (Str.ofString "row") = some (.ref rl) ∧ m (Str.ofString "works") = some (.ref x) ∧ ∃ ws wn, nx = T :: (W, listOf (List.toArray ws) wn) :: base ∧ IntsAre ws (wrdsOf n (ps.take i))
theorem jb0 {W rl x : Addr} {nn : Value} {T : Addr × Obj} {base : Led} {n : Nat} {ps : List (Nat × Nat)} {m : Str → Option Value} (h1 : m (Str.ofString "words") = some (.ref W)) (h2 : m (Str.ofString "spare") = some nn) (h3 : m (Str.ofString "row") = some (.ref rl)) (h4 : m (Str.ofString "works") = some (.ref x)) : JB W rl x nn T base n ps 0 m (T :: (W, listOf (#[] : Array Value) 0) :: base) :=
  ⟨h1, h2, h3, h4, [], 0, rfl, .nil⟩
abbrev kqn : Str := Str.ofString "_law_begun.<locals>.compared"
/-- whether the table knows the closure's code: none, or the code that the ledger holds -/
def Md (o : Option (Addr × Obj)) (ps : Array Value) (l : Led) : Prop := match o with
  | none => codeAmong kpos ps.toList = none
  | some e => TabHit kpos ps e.1 ∧ e ∈ l ∧ CRec e.2
def Mo (o : Option (Addr × Obj)) (c : Addr) (co : Obj) (l : Led) : Prop := match o with
  | none => Off c l
  | some e => e = (c, co)
theorem Md.mono {o : Option (Addr × Obj)} {ps : Array Value} {l l' : Led} (h : Md o ps l) (k : ∀ p ∈ l, p ∈ l') : Md o ps l' := by
  cases o with
  | none => exact h
  | some e => exact ⟨h.1, k _ h.2.1, h.2.2⟩
theorem Mo.mono {o : Option (Addr × Obj)} {c : Addr} {co : Obj} {l l' : Led} (h : Mo o c co l) (k : ∀ p ∈ l', p ∈ l) : Mo o c co l' := by
  cases o with
  | none => exact fun q hq => h q (k q hq)
  | some e => exact h
theorem Mo.ne {o : Option (Addr × Obj)} {c a : Addr} {co x : Obj} {l : Led} (h : Mo o c co l) (k : (a, x) ∈ l) (q : ∀ e, o = some e → e.1 ≠ a) : c ≠ a := by
  cases o with
  | none => exact Ne.symm (h _ k)
  | some e => have z := q e rfl; rw [show e = (c, co) from h] at z; exact z
section
variable {M : Model} {A : Around} {E : Value → Shared → Prop} {s : Shared} {h₀ : Heap} {L a c P : Addr} {m mg mb : Str → Option Value} {cn : Str} {cs : Scope} {ccd : Value} {cl : List (Str × Addr)} {news : List (Addr × Obj)} {g : Obj → List (Addr × Obj)}
  {p : Program} {loose : List Str} {mean : ExcName → Option Value} {params : Arguments} {scope : Scope} {ps : Array Value} {clos : List (Str × Addr)}
theorem def_any {name : Str} {body : List Stmt} {Q : Flow → Shared → Prop} {o : Option (Addr × Obj)} (F : Fr h₀ L s.heap m) (N : News h₀ L s.heap news) (T : Top p loose mean mg mb h₀) (C : CodeHd h₀ c P) (hcd : ccd = .ref c) (U : UpdF P (tabObj ps) news g) (ht : TabOk ps) (hm : Md o ps news) (hq : qualnameIn (envX cn cs L a ccd cl) name name = kqn)
    (hd0 : params.defaults = []) (hk0 : params.kw_defaults = []) (ha : annTrees params none (envX cn cs L a ccd cl) = []) (hcl : closureFor scope (envX cn cs L a ccd cl) = pure clos)
    (h : ∀ f c' oc ctv doc ps' h' tk, Fr h₀ L h' m → News h₀ L h' ((f, fnMade name (qualnameIn (envX cn cs L a ccd cl) name name) params body scope clos doc ((mg "__name__").getD .none) c' ctv) :: (c', oc) :: g (tabObj ps')) → TabHit kpos ps' c' → CRec oc → (∀ q ∈ (c', oc) :: news, q.1 < f) → Mo o c' oc news →
      wpAny M A (storeName (envX cn cs L a ccd cl) name (.ref f)) (fun _ s'' => Q .next s'') E { s with heap := h', toks := tk }) :
    wpAny M A (exec (.FunctionDef name params body [] none [] scope none name kpos) (envX cn cs L a ccd cl)) Q E s := by
  cases o with
  | none =>
    exact def_new F N T C hcd U ht hm hd0 hk0 ha hcl fun f c' oc vs t ctv doc ps' h' tk F' N' ht' hd hv l1 l2 =>
      h f c' oc ctv doc ps' h' tk F' N' ht' ⟨vs, t, hd, hv.trans (congrArg (fun x => some (Value.str x t)) hq)⟩ (fun q hq => (List.mem_cons.mp hq).elim (fun e => e ▸ l2) fun hq => Nat.lt_trans (l1 q hq) l2) (fun q hq => Nat.ne_of_lt (l1 q hq))
  | some e =>
    refine byc ?_; intro hGG
    obtain ⟨c', oc⟩ := e
    obtain ⟨h1, h2, h3⟩ := hm
    obtain ⟨pr, po, e1, e2, e3, _⟩ := U.split
    refine hGG ?_; clear hGG
    refine def_hit F N T C hcd (by rw [e1]; exact List.mem_append_right _ (.head _)) h1 hd0 hk0 ha hcl fun f ctv doc h' tk F' N' l => ?_
    refine h f c' oc ctv doc ps h' tk F' (kst_newsOf N' ?_) h1 h3 (fun q hq => (List.mem_cons.mp hq).elim (fun e => e ▸ l _ h2) (l q)) rfl
    rw [e2, ← e1]
    exact sub_cons (.head _) (sub_cons (.tail _ h2) fun p hp => .tail _ hp)
end
/-- a contract of the machine's maker: the code's entry stands apart -/
def BSpec (w : World) (p : Program) (loose : List Str) (mean : ExcName → Option Value) (mg mb : Str → Option Value) (o : Option (Addr × Obj)) (vs : List Value) (pre : Led) (post : Value → Led → Led → Addr → Obj → Prop) : Prop :=
  ∀ (dp un : Nat) (gd : Option (List Code)) (cn : Str) (cs : Scope) (a : Addr) (ccd : Value) (cl : List (Str × Addr)) (outer : List Env) (A₀ : Around) (base h₀ : Heap) (L : Addr) (m : Str → Option Value) (rest : Led) (s : Shared)
    (Q E : Value → Shared → Prop),
    Below A₀ base outer h₀ → Fr h₀ L s.heap m → (hd02.heap_1 w.params).In h₀ → News h₀ L s.heap (pre ++ rest) → (∀ p ∈ pre, Off p.1 rest) → Top p loose mean mg mb h₀ → cs.kind = .function → dp + 3 < recursionLimit → un + 8 * 3 < cLine →
    (∀ r chg ml c co h' tk', Fr h₀ L h' m → News h₀ L h' (chg ++ (ml ++ ((c, co) :: rest))) → (∀ p ∈ ml, Off p.1 (pre ++ rest)) → Mo o c co (pre ++ rest) → post r chg ml c co → Q r { s with heap := h', toks := tk' }) →
    wpAny (model PySem.Challenge.rw_xm0628_02.prog w) (ktrTop dp un gd cn cs L a ccd cl outer) (call (.ref 526) vs) Q E s
theorem begun_any {w : World} {p loose mean mg mb} {pl rl al : Addr} {pv rv av : List Value} {pn rn an : Nat} {ps : List (Nat × Nat)} {ks : List Int} {tl : Led} {tps : Array Value} {o : Option (Addr × Obj)} (hp : PairsAre tl pv ps) (hr : IntsAre rv ks) (hk2 : ks.length ≤ 10) (hb : ∀ p ∈ ps, p.1 < 10 ∧ p.2 < 10) (hl : ps.length ≤ 10) (ht : TabOk tps) (hm : Md o tps tl) (hq : ∀ e, o = some e → e.1 ≠ 521 ∧ e.1 ≠ al) (q1 : pl ≠ 521) (q2 : rl ≠ 521) (q3 : Off 521 tl) (q4 : al ≠ 521) :
    BSpec w p loose mean mg mb o [.ref pl, .ref rl, .ref al] ((pl, listOf pv.toArray pn) :: (rl, listOf rv.toArray rn) :: (al, listOf av.toArray an) :: (521, tabObj tps) :: tl)
      (fun r chg ml c co => ∃ x tps', r = .ref x ∧ Mach w p loose mean mg mb (wrdsOf ks.length ps ++ [30 + 8388608 * ((ks.length : Int) + 1)]) (rv ++ [Value.none] ++ List.replicate 12 Value.none) 0 x c al co ml ∧ CRec co ∧ TabHit kpos tps' c ∧
        chg = (pl, listOf pv.toArray pn) :: (rl, listOf rv.toArray rn) :: (al, listOf av.toArray an) :: (521, tabObj tps') :: tl) := by
  unfold BSpec; k_fill
  intro dp un gd cn cs ad ccd cl outer A₀ base h₀ L m rest s Q E B F X N hoff T hk hd hu hret
  (try simp only [List.forall_mem_cons, List.not_mem_nil, false_implies, implies_true, and_true, List.nil_append, List.cons_append] at hoff N)
  (try simp only [List.forall_mem_cons, List.not_mem_nil, false_implies, implies_true, and_true, List.nil_append, List.cons_append] at hret)
  refine wpAny_call ?_
  k_dflt (refine' code_defC ?k1 ?k2 ?k3 ?k4 ?k5 ?kA ?kF ?kK ?k6 ?k7 ?k8 ?k9 ?kB ?kD ?_ ?c2 ?c3 ?c4; (case kA => exact rfl); (case kF => exact rfl); (case kK => first | exact rfl | assumption); (case k1 => k_asm); (case k2 => k_asm); (case k3 => k_asm); (case k4 => k_asm); (case k5 => k_asm); (case k6 => k_is); (case k7 => k_is); (case k8 => ktr_room); (case k9 => first | exact BindsTo.of_eq rfl | exact binds_K (by k_in) rfl (by k_is) rfl rfl rfl); (case kB => exact rfl); (case kD => decide +kernel); (case c2 => exact rfl); (case c3 => exact rfl); (case c4 => exact rfl))
  intro g' L' h' tk' cells' FG' F' N' Y' B' X' T' l1
  (try k_lt l1); (k_cells Y'); (try simp only [List.cons_append, List.nil_append] at N'); (try dsimp only); (try k_fold)
  rename (_ : Obj).data = Data.cell _ => hcell
  replace hcell := hcell.trans (show _ = Data.cell (some (Value.ref al)) by with_unfolding_all rfl)
  have l1b := allLt_succ (l := (pl, listOf pv.toArray pn) :: (rl, listOf rv.toArray rn) :: (al, listOf av.toArray an) :: (521, tabObj tps) :: (tl ++ rest)) l1
  dsimp only [AllLt] at l1b
  have zp := hp.length
  have zr := hr.length
  k_steps
  refine ⟨?_⟩
  k_dflt (refine' def_any (P := 521) (c := 525) (o := o) ?zF ?zN ?zT ?zC ?zcd ?zU ht (hm.mono ?zm) ?zq ?zd0 ?zk0 ?za0 ?zcl ?_; (case zF => k_asm); (case zN => k_asm); (case zT => k_asm); (case zcd => exact rfl); (case zU => k_updF); (case zC => exact codeHd_of_K (by assumption) (by kernel_rfl)); (case zq => with_unfolding_all rfl); (case zd0 => exact rfl); (case zk0 => exact rfl); (case za0 => exact rfl); (case zcl => exact rfl); (case zm => k_extra "my sub"); k_whole)
  intro f c9 oc9 ctv9 doc9 ps9 h2 tk2 F2 N2 ht9 hcr l3 mo
  (try k_lt l3)
  try dsimp only at N2
  refine byc ?_; intro hGG
  k_extra "my split"
  refine hGG ?_; clear hGG
  have y1 : f ≠ al := by k_ne
  have y2 : c9 ≠ al := mo.ne (by k_mem) fun e q => (hq e q).2
  have y4 : c9 ≠ 521 := mo.ne (by k_mem) fun e q => (hq e q).1
  have y3 : L' + 1 ≠ al := Nat.ne_of_gt (by assumption)
  replace mo := mo.mono (l' := (pl, listOf pv.toArray pn) :: (rl, listOf rv.toArray rn) :: (al, listOf av.toArray an) :: (521, tabObj tps) :: (tl ++ rest)) (by k_extra "my sub")
  refine clos_cut (w := w) (p := p) (loose := loose) (mean := mean) (mg := mg) (mb := mb) (al := al) N2 ?hC ?_
  case hC =>
    refine byc ?_; intro hGG
    obtain ⟨vs9, t9, hd9, hv9⟩ := hcr
    refine hGG ?_; clear hGG
    clear N2 F2 hret F N FG' B' X' T' B X T F' N' hk hd hu hp hr ht hm hq mo q1 q2 q3 q4 zp zr hb hl hk2 ht9
    (repeat (rename AllLt _ _ => hX9; clear hX9)); (repeat (rename Mine.Off _ _ => hX9; clear hX9)); (repeat (rename _ < _ => hX9; clear hX9)); (repeat (rename ∀ x ∈ _, Mine.Off _ _ => hX9; clear hX9))
    unfold ClosOk CSpec
    intro l r u1 u2 u3 av an hz dp un gd cn cs ad ccd cl outer A₀ base h₀ L m rest s Q E B F X N hoff T hk hd hu hret
    (try simp only [List.forall_mem_cons, List.not_mem_nil, false_implies, implies_true, and_true, List.nil_append, List.cons_append] at hoff N hret)
    refine wpAny_call ?_
    k_dflt (refine' code_nest (binds := [(Str.ofString "op", Value.int 24 u1), (Str.ofString "left", Value.int l u2), (Str.ofString "right", Value.int r u3)]) ?k1 ?k2 ?k3 ?k4 ?k5 ?kA ?kF ?kK ?k6 ?k7 ?k8 ?k9 ?kB ?_ ?c2 ?c3 ?c4 ?c5; (case kA => exact rfl); (case kF => exact rfl); (case kK => first | exact rfl | assumption); (case k1 => k_asm); (case k2 => k_asm); (case k3 => k_asm); (case k4 => k_asm); (case k5 => k_asm); (case k6 => k_mem); (case k7 => exact codeRec_news (by k_asm) (by k_mem) (by assumption) (by assumption)); (case k8 => ktr_room); (case k9 => exact BindsTo.of_eq rfl); (case c5 => decide); (case kB => exact locs rfl); (case c2 => exact rfl); (case c3 => exact rfl); (case c4 => exact rfl); k_whole; intro g' L' h' FG' F' N' B' X' T'; (try dsimp only))
    k_steps
    refine' hret _ [(f, _), (c9, _), (_, _), (al, _)] [] _ _ ?f ?n ?o ⟨(av.toArray.push (Value.int 24 u1)).toList, an + 1, rfl, by simp, rfl, rfl⟩
    (case f => assumption); (case n => refine kst_newsOf (by assumption) ?_; k_extra "my sub"); (case o => k_extra "my off")
  clear hcell hm hq
  intro fd eo hC N3
  clear N2
  k_steps
  refine ⟨?_⟩
  intro r chg new h3 tk3 F3 N4 o3 hp3
  refine byc ?_; intro hGG
  obtain ⟨wx, wd, w0, w1, w2, w3, w4, w5, rfl, rfl, rfl, y4⟩ := hp3
  refine hGG ?_; clear hGG
  simp only [List.cons_append, List.nil_append] at N4
  simp only [List.forall_mem_cons, List.cons_append, List.nil_append, List.append_nil, Mine.off_cons, Mine.off_append, List.not_mem_nil, false_implies, implies_true, and_true] at o3
  refine byc ?_; intro hGG
  k_extra "my split"
  refine hGG ?_; clear hGG
  k_steps
  refine ⟨?_⟩
  rename News g' L' _ _ => N9
  rename Fr g' L' _ _ => F9
  refine byc ?_; intro hGG
  k_extra "my split"
  refine hGG ?_; clear hGG
  refine' iterT (JB _ rl _ _ _ _ ks.length ps) rfl ?hl F9 N9 ?hj ?turn ?done
  case hj => refine jb0 ?_ ?_ ?_ ?_ <;> rfl
  case hl => k_mem
  case turn =>
    intro i v m₁ nx s1 own hv hown hl1 hJ F1 N1
    refine byc ?_; intro hGG
    obtain ⟨e1, e2, e3, e4, ws, wn, rfl, hI⟩ := hJ
    obtain ⟨d, a, b, t, u, hab, rfl, hdm⟩ := hp.get hv
    refine hGG ?_; clear hGG
    have F2 := (((((FrK.ini F1).k e1).k e2).k e3).k e4).fr
    clear F1
    have oO := own_off hown (.head _)
    have oW := own_off hown (.tail _ (.head _))
    simp only [List.cons_append, List.append_assoc] at N1
    have zw := hI.length
    rw [wrds_length, List.length_take] at zw
    have zw2 : ws.length ≤ 50 := by omega
    clear zw
    k_steps
    rename News g' L' _ _ => N7
    rename Fr g' L' _ _ => F7
    refine' InvEndG.intro F7 N7 ⟨?hl, rfl, rfl, rfl, rfl, ws ++ [_, _] ++ [_, _, _], _, rfl, ?hI⟩ hown ?hn ?ho
    case hn => k_extra "my sub"
    case ho => k_extra "my sub"
    case hl => k_mem
    case hI =>
      rw [words_take hab]
      refine (hI.append ?_).append ?_
      · exact .cons _ _ (.cons _ _ .nil)
      · exact .cons _ _ (.cons _ _ (.cons _ _ .nil))
  case done =>
    intro m₁ nx h6 tk6 hJ F1 N1
    refine byc ?_; intro hGG
    obtain ⟨e1, e2, e3, e4, ws, wn, rfl, hI⟩ := hJ
    refine hGG ?_; clear hGG
    rw [show ps.take pv.length = ps by rw [zp, List.take_length]] at hI
    have F2 := (((((FrK.ini F1).k e1).k e2).k e3).k e4).fr
    clear F1 N9 F9
    have zw := hI.length
    rw [wrds_length] at zw
    have zw2 : ws.length ≤ 50 := by omega
    clear zw
    k_steps
    refine ⟨?_⟩
    intro r chg new h7 tk7 F5 N5 o5 hp5
    refine byc ?_; intro hGG
    obtain ⟨O, D, S, t0, t1, t2, t3, t4, t5, t6, t7, t8, u1, u2, u3, rfl, rfl, rfl, y5, y6, y7⟩ := hp5
    refine hGG ?_; clear hGG
    simp only [List.cons_append, List.nil_append] at N5
    simp only [List.forall_mem_cons, List.cons_append, List.nil_append, List.append_nil, Mine.off_cons, Mine.off_append, List.not_mem_nil, false_implies, implies_true, and_true] at o5
    refine byc ?_; intro hGG
    k_extra "my split"
    refine hGG ?_; clear hGG
    k_steps
    rename _ = ws ++ _ => hcw
    have hcw2 : ∃ t, _ = ws ++ [Value.int (30 + 8388608 * ((ks.length : Int) + 1)) t] := ⟨_, hcw⟩
    refine byc ?_; intro hGG
    obtain ⟨tkx, hcw2⟩ := hcw2
    refine hGG ?_; clear hGG
    clear hcw
    refine byc ?_; intro hGG
    subst hcw2
    refine hGG ?_; clear hGG
    rename _ = rv ++ _ => hcv
    refine byc ?_; intro hGG
    subst hcv
    k_extra "my split"
    refine hGG ?_; clear hGG
    refine' hret _ ((pl, _) :: (rl, _) :: (al, _) :: (521, tabObj _) :: tl) [(O, _), (D, _), (S, _), (_, listOf (ws ++ [Value.int (30 + 8388608 * ((ks.length : Int) + 1)) tkx]).toArray _), (wx, _), (wd, _), (f, _), (_, eo)] c9 oc9 _ _ ?f ?n ?o mo ⟨O, _, rfl, .mk ?mo (hI.append (.cons (30 + 8388608 * ((ks.length : Int) + 1)) tkx .nil)) hC, hcr, ?th, rfl⟩
    (case f => assumption); (case n => refine kst_newsOf (by assumption) ?_; k_extra "my sub"); (case o => k_extra "my off")
    case th => assumption
    case mo => constructor <;> (repeat' (first | with_reducible refine And.intro ?_ ?_ | k_extra "my ne"))

theorem begun {w : World} {p loose mean mg mb} {pl rl al : Addr} {pv rv av : List Value} {pn rn an : Nat} {ps : List (Nat × Nat)} {ks : List Int} {tl : Led} {tps : Array Value} (hp : PairsAre tl pv ps) (hr : IntsAre rv ks) (hk2 : ks.length ≤ 10) (hb : ∀ p ∈ ps, p.1 < 10 ∧ p.2 < 10) (hl : ps.length ≤ 10) (ht : TabOk tps) (hn : codeAmong kpos tps.toList = none) (q1 : pl ≠ 521) (q2 : rl ≠ 521) (q3 : Off 521 tl) (q4 : al ≠ 521) :
    CSpec PySem.Challenge.rw_xm0628_02.prog w (hd02.heap_1 w.params) p loose mean mg mb 526 3 [.ref pl, .ref rl, .ref al] ((pl, listOf pv.toArray pn) :: (rl, listOf rv.toArray rn) :: (al, listOf av.toArray an) :: (521, tabObj tps) :: tl)
      (fun r chg new => ∃ x c co ml tps', r = .ref x ∧ Mach w p loose mean mg mb (wrdsOf ks.length ps ++ [30 + 8388608 * ((ks.length : Int) + 1)]) (rv ++ [Value.none] ++ List.replicate 12 Value.none) 0 x c al co ml ∧ CRec co ∧ TabHit kpos tps' c ∧
        chg = (pl, listOf pv.toArray pn) :: (rl, listOf rv.toArray rn) :: (al, listOf av.toArray an) :: (521, tabObj tps') :: tl ∧ new = ml ++ [(c, co)]) := by
  intro dp un gd cn cs a ccd cl outer A₀ base h₀ L m rest s Q E B F X N ho T hk hd hu ret
  refine begun_any (o := none) hp hr hk2 hb hl ht hn (fun e q => nomatch q) q1 q2 q3 q4 dp un gd cn cs a ccd cl outer A₀ base h₀ L m rest s Q E B F X N ho T hk hd hu fun r chg ml c co h' tk' F' N' o' mo hp' => ?_
  refine byc ?_; intro hGG
  obtain ⟨x, tps', h1, h2, h3, h4, h5⟩ := hp'
  refine hGG ?_; clear hGG
  exact ret r chg (ml ++ [(c, co)]) h' tk' F' (by rw [List.append_assoc]; exact N') (fun p hp => (List.mem_append.mp hp).elim (o' p) fun hp => (List.mem_singleton.mp hp) ▸ mo) ⟨x, c, co, ml, tps', h1, h2, h3, h4, h5, rfl⟩
theorem begun_hit {w : World} {p loose mean mg mb} {pl rl al : Addr} {pv rv av : List Value} {pn rn an : Nat} {ps : List (Nat × Nat)} {ks : List Int} {tl : Led} {tps : Array Value} (hp : PairsAre tl pv ps) (hr : IntsAre rv ks) (hk2 : ks.length ≤ 10) (hb : ∀ p ∈ ps, p.1 < 10 ∧ p.2 < 10) (hl : ps.length ≤ 10) {c9 : Addr} {oc9 : Obj} (ht : TabHit kpos tps c9) (hcr : CRec oc9) (q5 : c9 ≠ 521) (q6 : c9 ≠ al) (q1 : pl ≠ 521) (q2 : rl ≠ 521) (q3 : Off 521 tl) (q4 : al ≠ 521) :
    CSpec PySem.Challenge.rw_xm0628_02.prog w (hd02.heap_1 w.params) p loose mean mg mb 526 3 [.ref pl, .ref rl, .ref al] ((pl, listOf pv.toArray pn) :: (rl, listOf rv.toArray rn) :: (al, listOf av.toArray an) :: (521, tabObj tps) :: (c9, oc9) :: tl)
      (fun r chg new => ∃ x ml tps', r = .ref x ∧ Mach w p loose mean mg mb (wrdsOf ks.length ps ++ [30 + 8388608 * ((ks.length : Int) + 1)]) (rv ++ [Value.none] ++ List.replicate 12 Value.none) 0 x c9 al oc9 ml ∧ TabHit kpos tps' c9 ∧
        chg = (pl, listOf pv.toArray pn) :: (rl, listOf rv.toArray rn) :: (al, listOf av.toArray an) :: (521, tabObj tps') :: (c9, oc9) :: tl ∧ new = ml) := by
  intro dp un gd cn cs a ccd cl outer A₀ base h₀ L m rest s Q E B F X N ho T hk hd hu ret
  refine begun_any (o := some (c9, oc9)) (tl := (c9, oc9) :: tl) (hp.mono fun p h => .tail _ h) hr hk2 hb hl ht.ok ⟨ht, .head _, hcr⟩ (fun e q => by cases q; exact ⟨q5, q6⟩) q1 q2 (off_c q5 q3) q4 dp un gd cn cs a ccd cl outer A₀ base h₀ L m rest s Q E B F X N ho T hk hd hu fun r chg ml c co h' tk' F' N' o' mo hp' => ?_
  refine byc ?_; intro hGG
  obtain ⟨x, tps', h1, h2, h3, h4, h5⟩ := hp'
  refine hGG ?_; clear hGG
  cases mo
  exact ret r chg ml h' tk' F' (kst_newsOf N' fun p hp => (List.mem_append.mp hp).elim (fun h => List.mem_append_left _ h) fun h => List.mem_append_right _ ((List.mem_append.mp h).elim (fun h => List.mem_append_left _ h) fun h => List.mem_append_right _ (.tail _ h))) o' ⟨x, ml, tps', h1, h2, h4, h5, rfl⟩

/-- compare, and change places -/
def cx (r : List Int) (p : Nat × Nat) : List Int := if r.getD p.2 0 < r.getD p.1 0 then (r.set p.1 (r.getD p.2 0)).set p.2 (r.getD p.1 0) else r
def ran (ps : List (Nat × Nat)) (r : List Int) : List Int := ps.foldl cx r
theorem cx_length {r : List Int} {p : Nat × Nat} : (cx r p).length = r.length := by
  unfold cx; split <;> simp
theorem ran_length : ∀ {ps : List (Nat × Nat)} {r : List Int}, (ran ps r).length = r.length
  | [], _ => rfl
  | p :: ps, r => by show (ran ps (cx r p)).length = _; rw [ran_length, cx_length]
theorem ran_succ {ps : List (Nat × Nat)} {r : List Int} {j : Nat} {p : Nat × Nat} (h : ps[j]? = some p) : ran (ps.take (j + 1)) r = cx (ran (ps.take j) r) p := by
  unfold ran
  rw [List.take_add_one, h, List.foldl_append]; rfl
abbrev mv3 (n a b : Nat) : List (Nat × Nat) := [(n, a), (a, b), (b, n)]
inductive Ph (n : Nat) (ps : List (Nat × Nat)) (row : List Int) (pc : Nat) (st : List Value) (asks : Nat) : Prop
  | cmp (j : Nat) (h1 : pc = 5 * j) (h2 : j ≤ ps.length) (h3 : asks = j) (h4 : st.length = n + 13) (h5 : IntsAre (st.take n) (ran (ps.take j) row)) : Ph n ps row pc st asks
  | mov (j i a b : Nat) (st1 : List Value) (h1 : pc = 5 * j + 2 + i) (h2 : i < 3) (h3 : asks = j + 1) (h4 : st1.length = n + 13) (h5 : IntsAre (st1.take n) (ran (ps.take j) row)) (h6 : ps[j]? = some (a, b))
      (h7 : (ran (ps.take j) row).getD b 0 < (ran (ps.take j) row).getD a 0) (h8 : st = execR Value.none ((mv3 n a b).take i) st1) : Ph n ps row pc st asks
theorem Ph.len {n pc asks : Nat} {ps : List (Nat × Nat)} {row : List Int} {st : List Value} (h : Ph n ps row pc st asks) : st.length = n + 13 := by
  cases h with
  | cmp j h1 h2 h3 h4 h5 => exact h4
  | mov j i a b st1 h1 h2 h3 h4 h5 h6 h7 h8 => rw [h8, execR_length, h4]
theorem Ph.asks_le {n pc asks : Nat} {ps : List (Nat × Nat)} {row : List Int} {st : List Value} (h : Ph n ps row pc st asks) : asks ≤ ps.length ∧ pc ≤ 5 * ps.length := by
  cases h with
  | cmp j h1 h2 h3 h4 h5 => omega
  | mov j i a b st1 h1 h2 h3 h4 h5 h6 h7 h8 =>
    have := (List.getElem?_eq_some_iff.mp h6).1
    omega
theorem st_read {n a : Nat} {st : List Value} {r : List Int} (h : IntsAre (st.take n) r) (hl : st.length = n + 13) (ha : a < n) : ∃ u, st.getD a .none = .int (r.getD a 0) u := by
  obtain ⟨u, e⟩ := ints_get h a (by rw [List.length_take]; omega)
  exact ⟨u, by rw [← e, getD_take ha]⟩
theorem ph_swap {n a b : Nat} {st : List Value} {r : List Int} (h : IntsAre (st.take n) r) (hl : st.length = n + 13) (ha : a < n) (hb : b < n) (hab : a ≠ b) (hlt : r.getD b 0 < r.getD a 0) :
    IntsAre ((execR Value.none (mv3 n a b) st).take n) (cx r (a, b)) := by
  have hr : r.length = n := by rw [← h.length, List.length_take]; omega
  have hx : (execR Value.none (mv3 n a b) st).length = n + 13 := by rw [execR_length, hl]
  refine ints_of_get (by rw [cx_length, List.length_take, hx, hr]; omega) fun j hj => ?_
  rw [List.length_take, hx] at hj
  have hj2 : j < n := by omega
  rw [getD_take hj2]
  have l1 : (st.set n (st.getD a .none)).length = n + 13 := by rw [List.length_set, hl]
  have g1 : (st.set n (st.getD a .none)).getD b .none = st.getD b .none := by rw [getD_set (by omega), if_neg (show ¬ b = n by omega)]
  have e : execR Value.none (mv3 n a b) st = (((st.set n (st.getD a .none)).set a ((st.set n (st.getD a .none)).getD b .none)).set b (((st.set n (st.getD a .none)).set a ((st.set n (st.getD a .none)).getD b .none)).getD n .none)) := rfl
  rw [e, g1]
  have l2 : ((st.set n (st.getD a .none)).set a (st.getD b .none)).length = n + 13 := by rw [List.length_set, l1]
  have g2 : ((st.set n (st.getD a .none)).set a (st.getD b .none)).getD n .none = st.getD a .none := by
    rw [getD_set (by omega), if_neg (show ¬ n = a by omega), getD_set (by omega), if_pos rfl]
  have g3 : ((st.set n (st.getD a .none)).set a (st.getD b .none)).getD j .none = if j = a then st.getD b .none else st.getD j .none := by
    rw [getD_set (by omega), getD_set (by omega), if_neg (show ¬ j = n by omega)]
  rw [g2, getD_set (by omega), g3]
  unfold cx
  rw [if_pos hlt, getD_set (by rw [List.length_set]; omega), getD_set (by omega)]
  by_cases h1 : j = b
  · rw [if_pos h1, if_pos h1]; exact st_read h hl ha
  · rw [if_neg h1, if_neg h1]
    by_cases h2 : j = a
    · rw [if_pos h2, if_pos h2]; exact st_read h hl hb
    · rw [if_neg h2, if_neg h2]; exact st_read h hl hj2
theorem wrds_at {n : Nat} {e : List Int} {k a b : Nat} (hk : k < 5) : ∀ {ps : List (Nat × Nat)} {j : Nat}, ps[j]? = some (a, b) →
    (wrdsOf n ps ++ e).getD (5 * j + k) 0 = [24 + 16384 * (a : Int) + 8388608 * (b : Int), 22 + 16384 * 131074, 64 * (n : Int) + 8388608 * (a : Int), 64 * (a : Int) + 8388608 * (b : Int), 64 * (b : Int) + 8388608 * (n : Int)].getD k 0
  | [], j, h => by simp at h
  | p :: ps, 0, h => by
    have hp : p = (a, b) := by simpa using h
    subst hp
    unfold wrdsOf
    rw [List.flatMap_cons, List.append_assoc]
    rw [List.getD_eq_getElem?_getD, List.getD_eq_getElem?_getD, List.getElem?_append_left (by simp; omega)]
    simp
  | p :: ps, j + 1, h => by
    have ih := wrds_at (n := n) (e := e) hk (ps := ps) (j := j) (by simpa using h)
    rw [← ih]
    unfold wrdsOf
    rw [List.flatMap_cons, List.append_assoc, List.getD_eq_getElem?_getD, List.getD_eq_getElem?_getD]
    have e : 5 * (j + 1) + k - [24 + 16384 * (p.1 : Int) + 8388608 * (p.2 : Int), 22 + 16384 * 131074, 64 * (n : Int) + 8388608 * (p.1 : Int), 64 * (p.1 : Int) + 8388608 * (p.2 : Int), 64 * (p.2 : Int) + 8388608 * (n : Int)].length = 5 * j + k := by
      simp only [List.length_cons, List.length_nil]; omega
    rw [List.getElem?_append_right (by simp only [List.length_cons, List.length_nil]; omega), e]
theorem wrds_end {n : Nat} {e : Int} {ps : List (Nat × Nat)} : (wrdsOf n ps ++ [e]).getD (5 * ps.length) 0 = e := by
  rw [List.getD_eq_getElem?_getD, List.getElem?_append_right (by rw [wrds_length]; exact Nat.le_refl _), wrds_length, Nat.sub_self]; rfl
theorem Ph.skip {n j a b : Nat} {ps : List (Nat × Nat)} {row : List Int} {st : List Value} (h2 : ps[j]? = some (a, b)) (h4 : st.length = n + 13) (h5 : IntsAre (st.take n) (ran (ps.take j) row)) (h : ¬ (ran (ps.take j) row).getD b 0 < (ran (ps.take j) row).getD a 0) :
    Ph n ps row (5 * j + 5) st (j + 1) := by
  refine .cmp (j + 1) (by omega) (List.getElem?_eq_some_iff.mp h2).1 rfl h4 ?_
  rw [ran_succ h2]
  unfold cx
  rw [if_neg h]; exact h5
theorem Ph.swap {n j a b : Nat} {ps : List (Nat × Nat)} {row : List Int} {st : List Value} (h2 : ps[j]? = some (a, b)) (h4 : st.length = n + 13) (h5 : IntsAre (st.take n) (ran (ps.take j) row)) (h : (ran (ps.take j) row).getD b 0 < (ran (ps.take j) row).getD a 0) :
    Ph n ps row (5 * j + 2) st (j + 1) := .mov j 0 a b st (by omega) (by omega) rfl h4 h5 h2 h rfl
theorem Ph.step {n j i a b : Nat} {ps : List (Nat × Nat)} {row : List Int} {st1 : List Value} (h2 : i < 3) (h4 : st1.length = n + 13) (h5 : IntsAre (st1.take n) (ran (ps.take j) row)) (h6 : ps[j]? = some (a, b)) (h7 : (ran (ps.take j) row).getD b 0 < (ran (ps.take j) row).getD a 0)
    (ha : a < n) (hb : b < n) (hab : a ≠ b) :
    Ph n ps row (5 * j + 2 + i + 1) ((execR Value.none ((mv3 n a b).take i) st1).set ((mv3 n a b).getD i (0, 0)).1 ((execR Value.none ((mv3 n a b).take i) st1).getD ((mv3 n a b).getD i (0, 0)).2 .none)) (j + 1) := by
  have e : (execR Value.none ((mv3 n a b).take i) st1).set ((mv3 n a b).getD i (0, 0)).1 ((execR Value.none ((mv3 n a b).take i) st1).getD ((mv3 n a b).getD i (0, 0)).2 .none) = execR Value.none ((mv3 n a b).take (i + 1)) st1 := by
    rw [List.take_add_one, execR_append, List.getElem?_eq_getElem (show i < (mv3 n a b).length from h2), List.getD_eq_getElem?_getD, List.getElem?_eq_getElem (show i < (mv3 n a b).length from h2)]
    rfl
  rw [e]
  by_cases h : i + 1 < 3
  · exact .mov j (i + 1) a b st1 (by omega) h rfl h4 h5 h6 h7 rfl
  · obtain rfl : i = 2 := by omega
    refine .cmp (j + 1) (by omega) (List.getElem?_eq_some_iff.mp h6).1 rfl (by rw [execR_length, h4]) ?_
    rw [ran_succ h6]
    exact ph_swap h5 h4 ha hb hab h7
theorem wrds_mov {n : Nat} {e : List Int} {i j a b : Nat} {ps : List (Nat × Nat)} (hi : i < 3) (h : ps[j]? = some (a, b)) :
    (wrdsOf n ps ++ e).getD (5 * j + 2 + i) 0 = 64 * (((mv3 n a b).getD i (0, 0)).1 : Int) + 8388608 * (((mv3 n a b).getD i (0, 0)).2 : Int) := by
  have := wrds_at (n := n) (e := e) (k := 2 + i) (by omega) h
  rw [show 5 * j + (2 + i) = 5 * j + 2 + i by omega] at this
  rw [this]
  rcases i with _ | _ | _ | i
  · rfl
  · rfl
  · rfl
  · omega
theorem mv3_lt {n a b i m : Nat} (ha : a < n) (hb : b < n) (hm : n < m) (hi : i < 3) : ((mv3 n a b).getD i (0, 0)).1 < m ∧ ((mv3 n a b).getD i (0, 0)).2 < m := by
  rcases i with _ | _ | _ | i
  · exact ⟨hm, by show a < m; omega⟩
  · exact ⟨by show a < m; omega, by show b < m; omega⟩
  · exact ⟨by show b < m; omega, hm⟩
  · omega

theorem picks_app : ∀ {l r : Led}, Picks l (l ++ r) r
  | [], _ => .nil
  | _ :: l, _ => .cons .head (picks_app (l := l))
inductive ZAre (led : Led) : List Value → List (List Int) → Prop
  | nil : ZAre led [] []
  | cons {d : Addr} {ivs : List Value} {k : Nat} {r : List Int} {vs : List Value} {rs : List (List Int)} : (d, listOf ivs.toArray k) ∈ led → IntsAre ivs r → ZAre led vs rs → ZAre led (.ref d :: vs) (r :: rs)
theorem ZAre.mono {led led' : Led} {vs : List Value} {rs : List (List Int)} (h : ZAre led vs rs) (hs : ∀ p ∈ led, p ∈ led') : ZAre led' vs rs := by
  induction h with
  | nil => exact .nil
  | cons a b _ ih => exact .cons (hs _ a) b ih
theorem ZAre.snoc {led : Led} {vs : List Value} {rs : List (List Int)} (h : ZAre led vs rs) {d : Addr} {ivs : List Value} {k : Nat} {r : List Int} (a : (d, listOf ivs.toArray k) ∈ led) (b : IntsAre ivs r) : ZAre led (vs ++ [.ref d]) (rs ++ [r]) := by
  induction h with
  | nil => exact .cons a b .nil
  | cons x y _ ih => exact .cons x y ih
theorem ZAre.length {led : Led} {vs : List Value} {rs : List (List Int)} (h : ZAre led vs rs) : vs.length = rs.length := by
  induction h with
  | nil => rfl
  | cons _ _ _ ih => rw [List.length_cons, List.length_cons, ih]
theorem ZAre.get {led : Led} {vs : List Value} {rs : List (List Int)} (h : ZAre led vs rs) {i : Nat} {v : Value} (e : vs[i]? = some v) : ∃ d ivs k r, rs[i]? = some r ∧ v = .ref d ∧ (d, listOf (List.toArray ivs) k) ∈ led ∧ IntsAre ivs r := by
  induction h generalizing i with
  | nil => cases e
  | cons a b _ ih =>
    cases i with
    | zero => cases e; exact ⟨_, _, _, _, rfl, rfl, a, b⟩
    | succ i => exact ih e
/-- the states behind each pair -/
def rsts : List (Nat × Nat) → List Int → List (List Int)
  | [], _ => []
  | p :: ps, r => cx r p :: rsts ps (cx r p)
theorem rsts_length : ∀ {ps : List (Nat × Nat)} {r : List Int}, (rsts ps r).length = ps.length
  | [], _ => rfl
  | p :: ps, r => by show (rsts ps (cx r p)).length + 1 = _; rw [rsts_length]; rfl
theorem rsts_snoc {p : Nat × Nat} : ∀ {ps : List (Nat × Nat)} {r : List Int}, rsts (ps ++ [p]) r = rsts ps r ++ [cx (ran ps r) p]
  | [], _ => rfl
  | q :: ps, r => by
    show cx r q :: rsts (ps ++ [p]) (cx r q) = cx r q :: (rsts ps (cx r q) ++ [cx (ran ps (cx r q)) p])
    rw [rsts_snoc]
theorem rsts_succ {ps : List (Nat × Nat)} {r : List Int} {j : Nat} {p : Nat × Nat} (h : ps[j]? = some p) : rsts (ps.take (j + 1)) r = rsts (ps.take j) r ++ [ran (ps.take (j + 1)) r] := by
  rw [ran_succ h, List.take_add_one, h]
  exact rsts_snoc
theorem Ph.at5 {n pc asks i : Nat} {ps : List (Nat × Nat)} {row : List Int} {st : List Value} (h : Ph n ps row pc st asks) (e : pc = 5 * i) : IntsAre (st.take n) (ran (ps.take i) row) ∧ st.length = n + 13 := by
  cases h with
  | cmp j h1 h2 h3 h4 h5 => obtain rfl : i = j := by omega
                            exact ⟨h5, h4⟩
  | mov j k a b st1 h1 h2 h3 h4 h5 h6 h7 h8 => omega
theorem offs_append {l r X : Led} (h : ∀ p ∈ l, Off p.1 X) (k : ∀ p ∈ r, Off p.1 X) : ∀ p ∈ l ++ r, Off p.1 X := fun p hp => (List.mem_append.mp hp).elim (h p) (k p)
theorem off_rest {A r own : Led} (h : ∀ p ∈ A, Off p.1 r) (k : OwnOff own (A.map (·.1))) : ∀ p ∈ A, Off p.1 (r ++ own) := fun p hp => .append (h p hp) (own_off (d := p.1) (o := p.2) k hp)
theorem own_map {own l l' : Led} (h : OwnOff own (l.map (·.1))) (e : l'.map (·.1) = l.map (·.1)) : OwnOff own (l'.map (·.1)) := by rw [e]; exact h
theorem map_app {a a' b b' : Led} (h : a'.map (·.1) = a.map (·.1)) (k : b'.map (·.1) = b.map (·.1)) : (a' ++ b').map (·.1) = (a ++ b).map (·.1) := by rw [List.map_append, List.map_append, h, k]
section
variable {prog : Program} {w : World} {A : Around} {E : Value → Shared → Prop} {s : Shared} {h₀ : Heap} {L a : Addr} {m : Str → Option Value} {news : Led} {vs : List Value} {n1 : Nat}
theorem slice_to {value slice : PySem.Expr} {y : Int} {t2 : Tok} {Q : Value → Shared → Prop} (F : Fr h₀ L s.heap m) (N : News h₀ L s.heap news) (hm : (a, listOf vs.toArray n1) ∈ news) (h0 : 0 ≤ y) (hz : vs.length ≤ 1000000)
    (h : ∀ D h', Fr h₀ L h' m → News h₀ L h' ((D, listOf (vs.take y.toNat).toArray 0) :: news) → (∀ p ∈ news, p.1 < D) → Q (.ref D) { s with heap := h' })
    (hs : subscripted slice false (.ref a) (.ref s.heap.objs.size) = operate [.ref s.heap.objs.size, .ref a] (getItem (.ref a) (.ref s.heap.objs.size))) (ht : ∀ r, letTemporaryGo value (.ref a) r = pure ()) :
    wpAny (model prog w) A (subscriptTail value slice (.ref a) (.ref s.heap.objs.size)) Q E { s with heap := s.heap.push { cls := .type "slice", data := .fields #[.none, .int y t2, .none] } } := by
  refine kms_slice_lit F N (PySem.IsL.isList (n := n1) (N _ hm).1) IsPart.none (IsPart.int _ _) ?_ h hs ht (by rw [sizeLine_eq, List.size_toArray]; omega)
  show (vs.drop (kms_lo none vs.length)).take (kms_hi (some y) vs.length - kms_lo none vs.length) = vs.take y.toNat
  have e1 : kms_lo none vs.length = 0 := by simp [kms_lo]
  have e2 : kms_hi (some y) vs.length = min y.toNat vs.length := by
    show (if y < 0 then vs.length - (-y).toNat else min y.toNat vs.length) = _
    exact if_neg (by omega)
  rw [e1, e2, List.drop_zero, Nat.sub_zero, ← List.take_eq_take_min]
end
theorem off_grow {a S D : Addr} {o o' od : Obj} {led base : Led} (h : Off a ((S, o) :: (led ++ base))) (k : a < D) : Off a ((S, o') :: (((D, od) :: led) ++ base)) := by
  rw [List.cons_append]
  rw [off_cons] at h
  exact .cons h.1 (.cons (Nat.ne_of_gt k) h.2)

theorem lines_E3 : True := by
  k_with_none
  k_with "my own omega" => (first | omega (splitDisjunctions := false) | ((repeat (rename _ ∧ _ => hC_q121; cases hC_q121)); (repeat (rename _ ≠ _ => hX_q121; clear hX_q121)); omega (splitDisjunctions := true)))
  k_with "my mem" => (first | with_reducible exact mem_c | with_reducible exact mem_2 | with_reducible exact mem_3 | with_reducible exact mem_4 | (with_reducible refine skip_4 ?_; k_extra "my mem") | (with_reducible refine skip_1 ?_; k_extra "my mem") | with_reducible assumption | (with_reducible refine List.mem_append_left _ ?_; k_extra "my mem") | (with_reducible refine List.mem_append_right _ ?_; k_extra "my mem"))
  k_with "my mem2" => (first | exact List.mem_cons_self | assumption | (refine List.mem_cons_of_mem _ ?_; k_extra "my mem2") | (refine List.mem_append_left _ ?_; k_extra "my mem2") | (refine List.mem_append_right _ ?_; k_extra "my mem2"))
  k_with "my own k_mem" => (first | k_extra "my mem" | k_extra "my mem2")
  k_with "my ne" => (first | with_reducible assumption | with_reducible exact Ne.symm (by with_reducible assumption) | with_reducible exact Nat.ne_of_lt (by with_reducible assumption) | with_reducible exact Nat.ne_of_gt (by with_reducible assumption))
  k_with "my own k_ne" => ((refine neN ?_; first | k_extra "my ne" | ((try dsimp only); k_extra "my ne") | (k_extra "my split"; (try dsimp only); first | k_extra "my ne" | omega (splitDisjunctions := false))))
  k_with "my upd" => (first | (refine' Upd.head ?a_q127; (case a_q127 => k_all)) | (refine' Upd.tail ?a_q127 ?b_q127; (case a_q127 => k_ne); (case b_q127 => k_extra "my upd")))
  k_with "my own k_upd" => (k_extra "my upd")
  k_with "my updF" => (first | (refine' UpdF.head ?a_q129; (case a_q129 => k_all)) | (refine' UpdF.tail ?a_q129 ?b_q129; (case a_q129 => k_ne); (case b_q129 => k_extra "my updF")))
  k_with "my own k_updF" => (k_extra "my updF")
  k_with "my split" => (repeat (first | (rename _ ∧ _ ∧ _ ∧ _ ∧ _ ∧ _ ∧ _ ∧ _ => hC_q131; refine elim_8 hC_q131 ?_; clear hC_q131; intro _ _ _ _ _ _ _ _) | (rename _ ∧ _ ∧ _ ∧ _ => hC_q131; refine elim_4 hC_q131 ?_; clear hC_q131; intro _ _ _ _) | (rename _ ∧ _ => hC_q131; cases hC_q131)))
  k_with "my offleaf" => (first | assumption | exact Off.nil | exact Off.of1 (by assumption) | exact Off.ofLt (by assumption) | exact Off.ofLt (allLt_left (by assumption)) | exact Off.ofLt (allLt_right (by assumption)) | exact Off.ofLt (allLt_left (allLt_right (by assumption))) | exact Off.ofLt (allLt_right (allLt_right (by assumption))))
  k_with "my own k_all" => ((show Off _ _; first | assumption | (k_extra "my split"; repeat' (first | with_reducible exact Off.nil | with_reducible refine off_c ?_ ?_ | with_reducible refine Off.append ?_ ?_ | k_ne | k_extra "my offleaf"))))
  k_with "my enter" => (k_dflt (first | (refine' code_def ?k1_q134 ?k2_q134 ?k3_q134 ?k4_q134 ?k5_q134 ?kA_q134 ?kF_q134 ?kK_q134 ?k6_q134 ?k7_q134 ?k8_q134 ?k9_q134 ?kB_q134 ?_ ?c2_q134 ?c3_q134 ?c4_q134 ?c5_q134; (case kA_q134 => exact rfl); (case kF_q134 => exact rfl); (case kK_q134 => first | exact rfl | assumption); (case k1_q134 => k_asm); (case k2_q134 => k_asm); (case k3_q134 => k_asm); (case k4_q134 => k_asm); (case k5_q134 => k_asm); (case k6_q134 => k_is); (case k7_q134 => k_is); (case k8_q134 => ktr_room); (case k9_q134 => first | exact BindsTo.of_eq rfl | exact binds_K (by k_in) rfl (by k_is) rfl rfl rfl); (case c5_q134 => decide); (case kB_q134 => exact locs rfl); (case c2_q134 => exact rfl); (case c3_q134 => exact rfl); (case c4_q134 => exact rfl); k_whole; intro g'_q134 L'_q134 h'_q134 FG'_q134 F'_q134 N'_q134 B'_q134 X'_q134 T'_q134; (try dsimp only); (try k_fold)) | (refine' code_defC ?k1_q134 ?k2_q134 ?k3_q134 ?k4_q134 ?k5_q134 ?kA_q134 ?kF_q134 ?kK_q134 ?k6_q134 ?k7_q134 ?k8_q134 ?k9_q134 ?kB_q134 ?kD_q134 ?_ ?c2_q134 ?c3_q134 ?c4_q134; (case kA_q134 => exact rfl); (case kF_q134 => exact rfl); (case kK_q134 => first | exact rfl | assumption); (case k1_q134 => k_asm); (case k2_q134 => k_asm); (case k3_q134 => k_asm); (case k4_q134 => k_asm); (case k5_q134 => k_asm); (case k6_q134 => k_is); (case k7_q134 => k_is); (case k8_q134 => ktr_room); (case k9_q134 => first | exact BindsTo.of_eq rfl | exact binds_K (by k_in) rfl (by k_is) rfl rfl rfl); (case kB_q134 => exact rfl); (case kD_q134 => decide +kernel); (case c2_q134 => exact rfl); (case c3_q134 => exact rfl); (case c4_q134 => exact rfl); k_whole; intro g'_q134 L'_q134 h'_q134 tk'_q134 cells'_q134 FG'_q134 F'_q134 N'_q134 Y'_q134 B'_q134 X'_q134 T'_q134 l1_q134; (try k_lt l1_q134); (k_cells Y'_q134); (try simp only [List.cons_append, List.nil_append] at N'_q134); (try dsimp only); (try k_fold))))
  k_with "my in" => (first | assumption | (refine List.Mem.tail _ ?_; k_extra "my in") | (refine List.mem_append.mpr (Or.inl ?_); k_extra "my in") | (refine List.mem_append.mpr (Or.inr ?_); k_extra "my in"))
  k_with "my sub" => (((try simp only [List.nil_append, List.cons_append, List.append_assoc]); repeat' (first | with_reducible exact sub_nil | with_reducible refine sub_cons ?_ ?_ | with_reducible refine sub_append ?_ ?_ | (intro p_q136 hp_q136; k_extra "my in") | k_mem)))
  k_with "my off" => (((try simp only [List.nil_append, List.cons_append]); repeat' (first | with_reducible exact offs_nil | with_reducible refine offs_cons ?_ ?_ | k_all)))
  k_with "my pick" => ((repeat' (first | exact Picks.nil | refine' Picks.cons ?_ ?_ | exact Pick.head | refine' Pick.tail ?_)))
  k_with "pyIter ref" => ((k_here; (with_reducible show wpAny _ _ (pyIter (Value.ref _)) (fun it_q139 s₂_q139 => LoopAtV _ _ _ _ _ _ _ _ _ it_q139 s₂_q139) _ _); refine of_stop ?_))
  k_with "exec While" => ((k_here; refine of_stop ?_))
  k_with "call builtin:list.index" => ((k_here; (with_reducible show wpAny _ _ (call (Value.builtin _) [Value.ref _, Value.int _ _]) _ _ _); k_dflt (refine' idx_nat ?N_q141 ?m_q141 ?i_q141 ?k_q141 ?z_q141 ?_; (case N_q141 => k_asm); (case m_q141 => k_mem); (case i_q141 => assumption); (case k_q141 => assumption); (case z_q141 => (first | assumption | omega)); k_whole); intro u'_q141))
  k_with "call builtin:list.extend" => ((k_here; (with_reducible show wpAny _ _ (call (Value.builtin _) [Value.ref _, Value.ref _]) _ _ _); k_extra "my split"; (try (rename List.length _ = List.length (List.map _ _) => hL9_q142; simp only [List.length_map, rangeKs_length] at hL9_q142)); k_dflt (refine' ext_any ?F_q142 ?N_q142 ?b_q142 ?U_q142 ?z_q142 ?_; (case F_q142 => k_asm); (case N_q142 => k_asm); (case b_q142 => k_mem); (case U_q142 => k_upd); (case z_q142 => k_extra "my len"); k_whole); intro h'_q142 F'_q142 N'_q142; (try k_sweep)))
  k_with "my ints" => (first | assumption | exact IntsAre.nil | exact IntsAre.cons _ _ IntsAre.nil)
  k_with "my len" => (first | omega | (simp only [List.length_append, List.length_map, List.length_replicate, Int.reduceToNat, List.length_cons, List.length_nil, List.length_range, rangeKs_length]; omega))
  k_with "binaryOp Add ref ref" => ((k_here; (with_reducible show wpAny _ _ (binaryOp _ (Value.ref _) (Value.ref _)) _ _ _); k_extra "my split"; k_dflt (refine' add_any ?F_q145 ?N_q145 ?a_q145 ?b_q145 ?z_q145 ?_; (case F_q145 => k_asm); (case N_q145 => k_asm); (case a_q145 => k_mem); (case b_q145 => k_mem); (case z_q145 => k_extra "my len"); k_whole); intro D'_q145 us'_q145 h'_q145 F'_q145 N'_q145 l1_q145 he'_q145 hl'_q145; (try k_lt l1_q145); (try simp only [List.length_cons, List.length_nil, List.length_map] at hl'_q145); (try k_sweep)))
  k_with "binaryOp Add ref ref" => ((k_here; (with_reducible show wpAny _ _ (binaryOp _ (Value.ref _) (Value.ref _)) _ _ _); k_extra "my split"; k_dflt (refine' add_ints ?F_q146 ?N_q146 ?a_q146 ?b_q146 ?i_q146 ?j_q146 ?z_q146 ?_; (case F_q146 => k_asm); (case N_q146 => k_asm); (case a_q146 => k_mem); (case b_q146 => k_mem); (case i_q146 => k_extra "my ints"); (case j_q146 => k_extra "my ints"); (case z_q146 => k_extra "my len"); k_whole); intro D'_q146 us'_q146 ns'_q146 h'_q146 F'_q146 N'_q146 l1_q146 hI'_q146 he'_q146 hl'_q146 hv'_q146; (try k_lt l1_q146); (try simp only [List.length_cons, List.length_nil, List.length_map] at hl'_q146); (try k_sweep)))
  k_with "subscriptTail Name Name ref int" => ((k_here; (with_reducible show wpAny _ _ (subscriptTail _ _ (Value.ref _) (Value.int _ _)) _ _ _); k_dflt (refine' ksa_sub ?k1_q147 ?k2_q147 ?k3_q147 ?k4_q147 ?k5_q147 ?k6_q147 ?_ ?k7_q147; (case k1_q147 => k_asm); (case k2_q147 => k_mem); (case k3_q147 => assumption); (case k4_q147 => omega); (case k5_q147 => k_extra "my len"); (case k6_q147 => omega); (case k7_q147 => with_unfolding_all rfl); k_whole); intro _))
  k_with "subscriptTail Name BinOp ref int" => ((k_here; (with_reducible show wpAny _ _ (subscriptTail _ _ (Value.ref _) (Value.int _ _)) _ _ _); k_dflt (refine' ksa_sub ?k1_q148 ?k2_q148 ?k3_q148 ?k4_q148 ?k5_q148 ?k6_q148 ?_ ?k7_q148; (case k1_q148 => k_asm); (case k2_q148 => k_mem); (case k3_q148 => assumption); (case k4_q148 => omega); (case k5_q148 => k_extra "my len"); (case k6_q148 => omega); (case k7_q148 => with_unfolding_all rfl); k_whole); intro _))
  k_with "call builtin:len" => ((k_here; (with_reducible show wpAny _ _ (call (Value.builtin _) [Value.ref _]) _ _ _); k_dflt (refine' len_any ?N_q149 ?m_q149 ?e_q149 ?z_q149 ?_; (case N_q149 => k_asm); (case m_q149 => k_mem); (case e_q149 => assumption); (case z_q149 => k_extra "my len"); k_whole); intro _ _))
  k_with "eval Lambda" => ((k_here; k_dflt (refine' lam_hit (P := 521) (c := 525) ?F_q150 ?N_q150 ?T_q150 ?C_q150 ?cd_q150 ?U_q150 ?t_q150 ?cl_q150 ?d_q150 ?_; (case F_q150 => k_asm); (case N_q150 => k_asm); (case T_q150 => k_asm); (case cd_q150 => exact rfl); (case U_q150 => k_updF); (case C_q150 => exact codeHd_of_K (by assumption) (by kernel_rfl)); (case t_q150 => assumption); (case cl_q150 => exact rfl); (case d_q150 => exact rfl); k_whole); intro f'_q150 ps'_q150 h'_q150 tk'_q150 F'_q150 N'_q150 ht'_q150; (try dsimp only at N'_q150); (try k_sweep)))
  k_with "my own k_room" => (ktr_room)
  k_with "binaryOp Mult ref int" => ((k_here; (with_reducible show wpAny _ _ (binaryOp Operator.Mult (Value.ref _) (Value.int _ _)) _ _ _); k_dflt (refine' mul_one' ?F_q152 ?N_q152 ?l_q152 ?lo_q152 ?hi_q152 ?z_q152 ?_; (case F_q152 => k_asm); (case N_q152 => k_asm); (case l_q152 => k_mem); (case lo_q152 => omega); (case hi_q152 => omega); (case z_q152 => decide); k_whole); intro D'_q152 h'_q152 F'_q152 N'_q152 l1_q152; (try k_lt l1_q152); (try k_sweep)))
  k_with "setItem ref int" => ((k_here; (with_reducible show wpAny _ _ (setItem (Value.ref _) (Value.int _ _) _) _ _ _); k_dflt (refine' set_any ?F_q153 ?N_q153 ?U_q153 ?z0_q153 ?z1_q153 ?z2_q153 ?_; (case F_q153 => k_asm); (case N_q153 => k_asm); (case U_q153 => k_upd); (case z0_q153 => omega); (case z1_q153 => k_extra "my len"); (case z2_q153 => k_extra "my len"); k_whole); intro h'_q153 F'_q153 N'_q153; (try k_sweep)))
  k_with "my item" => ((k_here; (with_reducible show wpAny _ _ (subscriptTail _ _ (Value.ref _) (Value.int _ _)) _ _ _); k_dflt (refine' item_any ?N_q154 ?m_q154 ?z0_q154 ?z1_q154 ?z2_q154 ?_ ?hs_q154 ?hg_q154; (case N_q154 => k_asm); (case m_q154 => k_mem); (case z0_q154 => omega); (case z1_q154 => k_extra "my len"); (case z2_q154 => k_extra "my len"); (case hs_q154 => with_unfolding_all rfl); (case hg_q154 => intro _; with_unfolding_all rfl); k_whole)))
  k_with "subscriptTail Name Slice ref ref" => ((k_here; (with_reducible show wpAny _ _ (subscriptTail _ (PySem.Expr.Slice _ _ none _) (Value.ref _) (Value.ref _)) _ _ _); k_dflt (refine' slice_head ?F_q155 ?N_q155 ?m_q155 ?x_q155 ?y_q155 ?z_q155 ?_ ?s_q155 ?t_q155; (case F_q155 => k_asm); (case N_q155 => k_asm); (case m_q155 => k_mem); (case x_q155 => first | exact rfl | omega); (case y_q155 => omega); (case z_q155 => k_extra "my len"); (case s_q155 => with_unfolding_all rfl); (case t_q155 => kmk_pure)); intro D'_q155 h'_q155 F'_q155 N'_q155 l1_q155; (try k_lt l1_q155); (try k_sweep)))
  k_with "call ref" => ((k_here; (with_reducible show wpAny _ _ (call (Value.ref 28) [Value.int _ _]) _ _ _); k_dflt (refine' CSpec.use0 ?B_q156 ?F_q156 ?X_q156 ?N_q156 ?T_q156 (op_of_walk ?e_q156) ?hk_q156 ?hd_q156 ?hu_q156 ?_; (case B_q156 => k_asm); (case F_q156 => k_asm); (case X_q156 => k_asm); (case N_q156 => k_asm); (case T_q156 => k_asm); (case e_q156 => first | assumption | exact rfl); (case hk_q156 => first | exact rfl | assumption); (case hd_q156 => ktr_room); (case hu_q156 => ktr_units); k_whole); intro u'_q156 h'_q156 tk'_q156 F'_q156 N'_q156; (try k_sweep)))
  k_with "call ref" => ((k_here; (with_reducible show wpAny _ _ (call (Value.ref 35) [Value.int _ _]) _ _ _); k_dflt (refine' CSpec.use0 ?B_q157 ?F_q157 ?X_q157 ?N_q157 ?T_q157 (a_of_walk ?e_q157) ?hk_q157 ?hd_q157 ?hu_q157 ?_; (case B_q157 => k_asm); (case F_q157 => k_asm); (case X_q157 => k_asm); (case N_q157 => k_asm); (case T_q157 => k_asm); (case e_q157 => first | assumption | exact rfl); (case hk_q157 => first | exact rfl | assumption); (case hd_q157 => ktr_room); (case hu_q157 => ktr_units); k_whole); intro u'_q157 h'_q157 tk'_q157 F'_q157 N'_q157; (try k_sweep)))
  k_with "call ref" => ((k_here; (with_reducible show wpAny _ _ (call (Value.ref 42) [Value.int _ _]) _ _ _); k_dflt (refine' CSpec.use0 ?B_q158 ?F_q158 ?X_q158 ?N_q158 ?T_q158 (b_of_walk ?e_q158) ?hk_q158 ?hd_q158 ?hu_q158 ?_; (case B_q158 => k_asm); (case F_q158 => k_asm); (case X_q158 => k_asm); (case N_q158 => k_asm); (case T_q158 => k_asm); (case e_q158 => first | assumption | exact rfl); (case hk_q158 => first | exact rfl | assumption); (case hd_q158 => ktr_room); (case hu_q158 => ktr_units); k_whole); intro u'_q158 h'_q158 tk'_q158 F'_q158 N'_q158; (try k_sweep)))
  k_with "subscriptTail Name BinOp ref int" => (k_extra "my item")
  k_with "call ref" => ((k_here; (with_reducible show wpAny _ _ (call (Value.ref 49) [Value.int _ _]) _ _ _); k_dflt (refine' CSpec.use0 ?B_q160 ?F_q160 ?X_q160 ?N_q160 ?T_q160 (c_of_walk ?e_q160) ?hk_q160 ?hd_q160 ?hu_q160 ?_; (case B_q160 => k_asm); (case F_q160 => k_asm); (case X_q160 => k_asm); (case N_q160 => k_asm); (case T_q160 => k_asm); (case e_q160 => first | assumption | exact rfl); (case hk_q160 => first | exact rfl | assumption); (case hd_q160 => ktr_room); (case hu_q160 => ktr_units); k_whole); intro u'_q160 h'_q160 tk'_q160 F'_q160 N'_q160; (try k_sweep)))
  k_with "call ref" => ((k_here; (with_reducible show wpAny _ _ (call (Value.ref 63) [Value.int _ _]) _ _ _); k_dflt (refine' CSpec.use0 ?B_q161 ?F_q161 ?X_q161 ?N_q161 ?T_q161 (jump_of_walk ?e_q161 ?x0_q161 ?x1_q161) ?hk_q161 ?hd_q161 ?hu_q161 ?_; (case B_q161 => k_asm); (case F_q161 => k_asm); (case X_q161 => k_asm); (case N_q161 => k_asm); (case T_q161 => k_asm); (case e_q161 => first | assumption | exact rfl); (case x0_q161 => assumption); (case x1_q161 => assumption); (case hk_q161 => first | exact rfl | assumption); (case hd_q161 => ktr_room); (case hu_q161 => ktr_units); k_whole); intro u'_q161 h'_q161 tk'_q161 F'_q161 N'_q161; (try k_sweep)))
  trivial

theorem operand_walk {w : World} {p loose mean mg mb} {k : Nat} {S C : Addr} {st : List Value} {n : Nat} {t1 t2 : Tok} {v : Value} (hk2 : k < 200) (hs : k < st.length) (hv : st.getD k .none = v) (hz : st.length ≤ 1000) :
    CSpec PySem.Challenge.rw_xm0628_02.prog w (hd02.heap_1 w.params) p loose mean mg mb 310 1 [.ref S, .int 0 t1, .ref C, .int (k : Int) t2] [(S, listOf st.toArray n)]
      (fun r chg new => r = v ∧ chg = [(S, listOf st.toArray n)] ∧ new = []) := by
  refine byc ?_; intro hGG
  subst hv
  refine hGG ?_; clear hGG
  have hb : Builtin.bitAnd (k : Int) 256 = 0 := bitAnd_256 (by omega) (by omega)
  unfold CSpec; k_fill
  intro dp un gd cn cs ad ccd cl outer A₀ base h₀ L m rest s Q E B F X N hoff T hk hd hu hret
  (try simp only [List.forall_mem_cons, List.not_mem_nil, false_implies, implies_true, and_true, List.nil_append, List.cons_append] at hoff N)
  (try simp only [List.forall_mem_cons, List.not_mem_nil, false_implies, implies_true, and_true, List.nil_append, List.cons_append] at hret)
  refine wpAny_call ?_; k_extra "my enter"
  k_steps
  · exact absurd hb (by assumption)
  rw [show ((0 : Int) + (k : Int)).toNat = k by omega]
  refine' hret _ [(S, _)] [] _ _ ?f ?n ?o ⟨rfl, rfl, rfl⟩
  (case f => assumption); (case n => refine kst_newsOf (by assumption) ?_; k_extra "my sub"); (case o => k_extra "my off")

theorem lines_E4 : True := by
  k_with_none
  k_with "my own omega" => (first | omega (splitDisjunctions := false) | ((repeat (rename _ ∧ _ => hC_q162; cases hC_q162)); (repeat (rename _ ≠ _ => hX_q162; clear hX_q162)); omega (splitDisjunctions := true)))
  k_with "my mem" => (first | with_reducible exact mem_c | with_reducible exact mem_2 | with_reducible exact mem_3 | with_reducible exact mem_4 | (with_reducible refine skip_4 ?_; k_extra "my mem") | (with_reducible refine skip_1 ?_; k_extra "my mem") | with_reducible assumption | (with_reducible refine List.mem_append_left _ ?_; k_extra "my mem") | (with_reducible refine List.mem_append_right _ ?_; k_extra "my mem"))
  k_with "my mem2" => (first | exact List.mem_cons_self | assumption | (refine List.mem_cons_of_mem _ ?_; k_extra "my mem2") | (refine List.mem_append_left _ ?_; k_extra "my mem2") | (refine List.mem_append_right _ ?_; k_extra "my mem2"))
  k_with "my own k_mem" => (first | k_extra "my mem" | k_extra "my mem2")
  k_with "my ne" => (first | with_reducible assumption | with_reducible exact Ne.symm (by with_reducible assumption) | with_reducible exact Nat.ne_of_lt (by with_reducible assumption) | with_reducible exact Nat.ne_of_gt (by with_reducible assumption))
  k_with "my own k_ne" => ((refine neN ?_; first | k_extra "my ne" | ((try dsimp only); k_extra "my ne") | (k_extra "my split"; (try dsimp only); first | k_extra "my ne" | omega (splitDisjunctions := false))))
  k_with "my upd" => (first | (refine' Upd.head ?a_q168; (case a_q168 => k_all)) | (refine' Upd.tail ?a_q168 ?b_q168; (case a_q168 => k_ne); (case b_q168 => k_extra "my upd")))
  k_with "my own k_upd" => (k_extra "my upd")
  k_with "my updF" => (first | (refine' UpdF.head ?a_q170; (case a_q170 => k_all)) | (refine' UpdF.tail ?a_q170 ?b_q170; (case a_q170 => k_ne); (case b_q170 => k_extra "my updF")))
  k_with "my own k_updF" => (k_extra "my updF")
  k_with "my split" => (repeat (first | (rename _ ∧ _ ∧ _ ∧ _ ∧ _ ∧ _ ∧ _ ∧ _ => hC_q172; refine elim_8 hC_q172 ?_; clear hC_q172; intro _ _ _ _ _ _ _ _) | (rename _ ∧ _ ∧ _ ∧ _ => hC_q172; refine elim_4 hC_q172 ?_; clear hC_q172; intro _ _ _ _) | (rename _ ∧ _ => hC_q172; cases hC_q172)))
  k_with "my offleaf" => (first | assumption | exact Off.nil | exact Off.of1 (by assumption) | exact Off.ofLt (by assumption) | exact Off.ofLt (allLt_left (by assumption)) | exact Off.ofLt (allLt_right (by assumption)) | exact Off.ofLt (allLt_left (allLt_right (by assumption))) | exact Off.ofLt (allLt_right (allLt_right (by assumption))))
  k_with "my own k_all" => ((show Off _ _; first | assumption | (k_extra "my split"; repeat' (first | with_reducible exact Off.nil | with_reducible refine off_c ?_ ?_ | with_reducible refine Off.append ?_ ?_ | k_ne | k_extra "my offleaf"))))
  k_with "my enter" => (k_dflt (first | (refine' code_def ?k1_q175 ?k2_q175 ?k3_q175 ?k4_q175 ?k5_q175 ?kA_q175 ?kF_q175 ?kK_q175 ?k6_q175 ?k7_q175 ?k8_q175 ?k9_q175 ?kB_q175 ?_ ?c2_q175 ?c3_q175 ?c4_q175 ?c5_q175; (case kA_q175 => exact rfl); (case kF_q175 => exact rfl); (case kK_q175 => first | exact rfl | assumption); (case k1_q175 => k_asm); (case k2_q175 => k_asm); (case k3_q175 => k_asm); (case k4_q175 => k_asm); (case k5_q175 => k_asm); (case k6_q175 => k_is); (case k7_q175 => k_is); (case k8_q175 => ktr_room); (case k9_q175 => first | exact BindsTo.of_eq rfl | exact binds_K (by k_in) rfl (by k_is) rfl rfl rfl); (case c5_q175 => decide); (case kB_q175 => exact locs rfl); (case c2_q175 => exact rfl); (case c3_q175 => exact rfl); (case c4_q175 => exact rfl); k_whole; intro g'_q175 L'_q175 h'_q175 FG'_q175 F'_q175 N'_q175 B'_q175 X'_q175 T'_q175; (try dsimp only); (try k_fold)) | (refine' code_defC ?k1_q175 ?k2_q175 ?k3_q175 ?k4_q175 ?k5_q175 ?kA_q175 ?kF_q175 ?kK_q175 ?k6_q175 ?k7_q175 ?k8_q175 ?k9_q175 ?kB_q175 ?kD_q175 ?_ ?c2_q175 ?c3_q175 ?c4_q175; (case kA_q175 => exact rfl); (case kF_q175 => exact rfl); (case kK_q175 => first | exact rfl | assumption); (case k1_q175 => k_asm); (case k2_q175 => k_asm); (case k3_q175 => k_asm); (case k4_q175 => k_asm); (case k5_q175 => k_asm); (case k6_q175 => k_is); (case k7_q175 => k_is); (case k8_q175 => ktr_room); (case k9_q175 => first | exact BindsTo.of_eq rfl | exact binds_K (by k_in) rfl (by k_is) rfl rfl rfl); (case kB_q175 => exact rfl); (case kD_q175 => decide +kernel); (case c2_q175 => exact rfl); (case c3_q175 => exact rfl); (case c4_q175 => exact rfl); k_whole; intro g'_q175 L'_q175 h'_q175 tk'_q175 cells'_q175 FG'_q175 F'_q175 N'_q175 Y'_q175 B'_q175 X'_q175 T'_q175 l1_q175; (try k_lt l1_q175); (k_cells Y'_q175); (try simp only [List.cons_append, List.nil_append] at N'_q175); (try dsimp only); (try k_fold))))
  k_with "my in" => (first | assumption | (refine List.Mem.tail _ ?_; k_extra "my in") | (refine List.mem_append.mpr (Or.inl ?_); k_extra "my in") | (refine List.mem_append.mpr (Or.inr ?_); k_extra "my in"))
  k_with "my sub" => (((try simp only [List.nil_append, List.cons_append, List.append_assoc]); repeat' (first | with_reducible exact sub_nil | with_reducible refine sub_cons ?_ ?_ | with_reducible refine sub_append ?_ ?_ | (intro p_q177 hp_q177; k_extra "my in") | k_mem)))
  k_with "my off" => (((try simp only [List.nil_append, List.cons_append]); repeat' (first | with_reducible exact offs_nil | with_reducible refine offs_cons ?_ ?_ | k_all)))
  k_with "my pick" => ((repeat' (first | exact Picks.nil | refine' Picks.cons ?_ ?_ | exact Pick.head | refine' Pick.tail ?_)))
  k_with "pyIter ref" => ((k_here; (with_reducible show wpAny _ _ (pyIter (Value.ref _)) (fun it_q180 s₂_q180 => LoopAtV _ _ _ _ _ _ _ _ _ it_q180 s₂_q180) _ _); refine of_stop ?_))
  k_with "exec While" => ((k_here; refine of_stop ?_))
  k_with "call builtin:list.index" => ((k_here; (with_reducible show wpAny _ _ (call (Value.builtin _) [Value.ref _, Value.int _ _]) _ _ _); k_dflt (refine' idx_nat ?N_q182 ?m_q182 ?i_q182 ?k_q182 ?z_q182 ?_; (case N_q182 => k_asm); (case m_q182 => k_mem); (case i_q182 => assumption); (case k_q182 => assumption); (case z_q182 => (first | assumption | omega)); k_whole); intro u'_q182))
  k_with "call builtin:list.extend" => ((k_here; (with_reducible show wpAny _ _ (call (Value.builtin _) [Value.ref _, Value.ref _]) _ _ _); k_extra "my split"; (try (rename List.length _ = List.length (List.map _ _) => hL9_q183; simp only [List.length_map, rangeKs_length] at hL9_q183)); k_dflt (refine' ext_any ?F_q183 ?N_q183 ?b_q183 ?U_q183 ?z_q183 ?_; (case F_q183 => k_asm); (case N_q183 => k_asm); (case b_q183 => k_mem); (case U_q183 => k_upd); (case z_q183 => k_extra "my len"); k_whole); intro h'_q183 F'_q183 N'_q183; (try k_sweep)))
  k_with "my ints" => (first | assumption | exact IntsAre.nil | exact IntsAre.cons _ _ IntsAre.nil)
  k_with "my len" => (first | omega | (simp only [List.length_append, List.length_map, List.length_replicate, Int.reduceToNat, List.length_cons, List.length_nil, List.length_range, rangeKs_length]; omega))
  k_with "binaryOp Add ref ref" => ((k_here; (with_reducible show wpAny _ _ (binaryOp _ (Value.ref _) (Value.ref _)) _ _ _); k_extra "my split"; k_dflt (refine' add_any ?F_q186 ?N_q186 ?a_q186 ?b_q186 ?z_q186 ?_; (case F_q186 => k_asm); (case N_q186 => k_asm); (case a_q186 => k_mem); (case b_q186 => k_mem); (case z_q186 => k_extra "my len"); k_whole); intro D'_q186 us'_q186 h'_q186 F'_q186 N'_q186 l1_q186 he'_q186 hl'_q186; (try k_lt l1_q186); (try simp only [List.length_cons, List.length_nil, List.length_map] at hl'_q186); (try k_sweep)))
  k_with "binaryOp Add ref ref" => ((k_here; (with_reducible show wpAny _ _ (binaryOp _ (Value.ref _) (Value.ref _)) _ _ _); k_extra "my split"; k_dflt (refine' add_ints ?F_q187 ?N_q187 ?a_q187 ?b_q187 ?i_q187 ?j_q187 ?z_q187 ?_; (case F_q187 => k_asm); (case N_q187 => k_asm); (case a_q187 => k_mem); (case b_q187 => k_mem); (case i_q187 => k_extra "my ints"); (case j_q187 => k_extra "my ints"); (case z_q187 => k_extra "my len"); k_whole); intro D'_q187 us'_q187 ns'_q187 h'_q187 F'_q187 N'_q187 l1_q187 hI'_q187 he'_q187 hl'_q187 hv'_q187; (try k_lt l1_q187); (try simp only [List.length_cons, List.length_nil, List.length_map] at hl'_q187); (try k_sweep)))
  k_with "subscriptTail Name Name ref int" => ((k_here; (with_reducible show wpAny _ _ (subscriptTail _ _ (Value.ref _) (Value.int _ _)) _ _ _); k_dflt (refine' ksa_sub ?k1_q188 ?k2_q188 ?k3_q188 ?k4_q188 ?k5_q188 ?k6_q188 ?_ ?k7_q188; (case k1_q188 => k_asm); (case k2_q188 => k_mem); (case k3_q188 => assumption); (case k4_q188 => omega); (case k5_q188 => k_extra "my len"); (case k6_q188 => omega); (case k7_q188 => with_unfolding_all rfl); k_whole); intro _))
  k_with "subscriptTail Name BinOp ref int" => ((k_here; (with_reducible show wpAny _ _ (subscriptTail _ _ (Value.ref _) (Value.int _ _)) _ _ _); k_dflt (refine' ksa_sub ?k1_q189 ?k2_q189 ?k3_q189 ?k4_q189 ?k5_q189 ?k6_q189 ?_ ?k7_q189; (case k1_q189 => k_asm); (case k2_q189 => k_mem); (case k3_q189 => assumption); (case k4_q189 => omega); (case k5_q189 => k_extra "my len"); (case k6_q189 => omega); (case k7_q189 => with_unfolding_all rfl); k_whole); intro _))
  k_with "call builtin:len" => ((k_here; (with_reducible show wpAny _ _ (call (Value.builtin _) [Value.ref _]) _ _ _); k_dflt (refine' len_any ?N_q190 ?m_q190 ?e_q190 ?z_q190 ?_; (case N_q190 => k_asm); (case m_q190 => k_mem); (case e_q190 => assumption); (case z_q190 => k_extra "my len"); k_whole); intro _ _))
  k_with "eval Lambda" => ((k_here; k_dflt (refine' lam_hit (P := 521) (c := 525) ?F_q191 ?N_q191 ?T_q191 ?C_q191 ?cd_q191 ?U_q191 ?t_q191 ?cl_q191 ?d_q191 ?_; (case F_q191 => k_asm); (case N_q191 => k_asm); (case T_q191 => k_asm); (case cd_q191 => exact rfl); (case U_q191 => k_updF); (case C_q191 => exact codeHd_of_K (by assumption) (by kernel_rfl)); (case t_q191 => assumption); (case cl_q191 => exact rfl); (case d_q191 => exact rfl); k_whole); intro f'_q191 ps'_q191 h'_q191 tk'_q191 F'_q191 N'_q191 ht'_q191; (try dsimp only at N'_q191); (try k_sweep)))
  k_with "my own k_room" => (ktr_room)
  k_with "binaryOp Mult ref int" => ((k_here; (with_reducible show wpAny _ _ (binaryOp Operator.Mult (Value.ref _) (Value.int _ _)) _ _ _); k_dflt (refine' mul_one' ?F_q193 ?N_q193 ?l_q193 ?lo_q193 ?hi_q193 ?z_q193 ?_; (case F_q193 => k_asm); (case N_q193 => k_asm); (case l_q193 => k_mem); (case lo_q193 => omega); (case hi_q193 => omega); (case z_q193 => decide); k_whole); intro D'_q193 h'_q193 F'_q193 N'_q193 l1_q193; (try k_lt l1_q193); (try k_sweep)))
  k_with "setItem ref int" => ((k_here; (with_reducible show wpAny _ _ (setItem (Value.ref _) (Value.int _ _) _) _ _ _); k_dflt (refine' set_any ?F_q194 ?N_q194 ?U_q194 ?z0_q194 ?z1_q194 ?z2_q194 ?_; (case F_q194 => k_asm); (case N_q194 => k_asm); (case U_q194 => k_upd); (case z0_q194 => omega); (case z1_q194 => k_extra "my len"); (case z2_q194 => k_extra "my len"); k_whole); intro h'_q194 F'_q194 N'_q194; (try k_sweep)))
  k_with "my item" => ((k_here; (with_reducible show wpAny _ _ (subscriptTail _ _ (Value.ref _) (Value.int _ _)) _ _ _); k_dflt (refine' item_any ?N_q195 ?m_q195 ?z0_q195 ?z1_q195 ?z2_q195 ?_ ?hs_q195 ?hg_q195; (case N_q195 => k_asm); (case m_q195 => k_mem); (case z0_q195 => omega); (case z1_q195 => k_extra "my len"); (case z2_q195 => k_extra "my len"); (case hs_q195 => with_unfolding_all rfl); (case hg_q195 => intro _; with_unfolding_all rfl); k_whole)))
  k_with "subscriptTail Name Slice ref ref" => ((k_here; (with_reducible show wpAny _ _ (subscriptTail _ (PySem.Expr.Slice _ _ none _) (Value.ref _) (Value.ref _)) _ _ _); k_dflt (refine' slice_head ?F_q196 ?N_q196 ?m_q196 ?x_q196 ?y_q196 ?z_q196 ?_ ?s_q196 ?t_q196; (case F_q196 => k_asm); (case N_q196 => k_asm); (case m_q196 => k_mem); (case x_q196 => first | exact rfl | omega); (case y_q196 => omega); (case z_q196 => k_extra "my len"); (case s_q196 => with_unfolding_all rfl); (case t_q196 => kmk_pure)); intro D'_q196 h'_q196 F'_q196 N'_q196 l1_q196; (try k_lt l1_q196); (try k_sweep)))
  k_with "call ref" => ((k_here; (with_reducible show wpAny _ _ (call (Value.ref 28) [Value.int _ _]) _ _ _); k_dflt (refine' CSpec.use0 ?B_q197 ?F_q197 ?X_q197 ?N_q197 ?T_q197 (op_of_walk ?e_q197) ?hk_q197 ?hd_q197 ?hu_q197 ?_; (case B_q197 => k_asm); (case F_q197 => k_asm); (case X_q197 => k_asm); (case N_q197 => k_asm); (case T_q197 => k_asm); (case e_q197 => first | assumption | exact rfl); (case hk_q197 => first | exact rfl | assumption); (case hd_q197 => ktr_room); (case hu_q197 => ktr_units); k_whole); intro u'_q197 h'_q197 tk'_q197 F'_q197 N'_q197; (try k_sweep)))
  k_with "call ref" => ((k_here; (with_reducible show wpAny _ _ (call (Value.ref 35) [Value.int _ _]) _ _ _); k_dflt (refine' CSpec.use0 ?B_q198 ?F_q198 ?X_q198 ?N_q198 ?T_q198 (a_of_walk ?e_q198) ?hk_q198 ?hd_q198 ?hu_q198 ?_; (case B_q198 => k_asm); (case F_q198 => k_asm); (case X_q198 => k_asm); (case N_q198 => k_asm); (case T_q198 => k_asm); (case e_q198 => first | assumption | exact rfl); (case hk_q198 => first | exact rfl | assumption); (case hd_q198 => ktr_room); (case hu_q198 => ktr_units); k_whole); intro u'_q198 h'_q198 tk'_q198 F'_q198 N'_q198; (try k_sweep)))
  k_with "call ref" => ((k_here; (with_reducible show wpAny _ _ (call (Value.ref 42) [Value.int _ _]) _ _ _); k_dflt (refine' CSpec.use0 ?B_q199 ?F_q199 ?X_q199 ?N_q199 ?T_q199 (b_of_walk ?e_q199) ?hk_q199 ?hd_q199 ?hu_q199 ?_; (case B_q199 => k_asm); (case F_q199 => k_asm); (case X_q199 => k_asm); (case N_q199 => k_asm); (case T_q199 => k_asm); (case e_q199 => first | assumption | exact rfl); (case hk_q199 => first | exact rfl | assumption); (case hd_q199 => ktr_room); (case hu_q199 => ktr_units); k_whole); intro u'_q199 h'_q199 tk'_q199 F'_q199 N'_q199; (try k_sweep)))
  k_with "subscriptTail Name BinOp ref int" => (k_extra "my item")
  k_with "call ref" => ((k_here; (with_reducible show wpAny _ _ (call (Value.ref 49) [Value.int _ _]) _ _ _); k_dflt (refine' CSpec.use0 ?B_q201 ?F_q201 ?X_q201 ?N_q201 ?T_q201 (c_of_walk ?e_q201) ?hk_q201 ?hd_q201 ?hu_q201 ?_; (case B_q201 => k_asm); (case F_q201 => k_asm); (case X_q201 => k_asm); (case N_q201 => k_asm); (case T_q201 => k_asm); (case e_q201 => first | assumption | exact rfl); (case hk_q201 => first | exact rfl | assumption); (case hd_q201 => ktr_room); (case hu_q201 => ktr_units); k_whole); intro u'_q201 h'_q201 tk'_q201 F'_q201 N'_q201; (try k_sweep)))
  k_with "call ref" => ((k_here; (with_reducible show wpAny _ _ (call (Value.ref 63) [Value.int _ _]) _ _ _); k_dflt (refine' CSpec.use0 ?B_q202 ?F_q202 ?X_q202 ?N_q202 ?T_q202 (jump_of_walk ?e_q202 ?x0_q202 ?x1_q202) ?hk_q202 ?hd_q202 ?hu_q202 ?_; (case B_q202 => k_asm); (case F_q202 => k_asm); (case X_q202 => k_asm); (case N_q202 => k_asm); (case T_q202 => k_asm); (case e_q202 => first | assumption | exact rfl); (case x0_q202 => assumption); (case x1_q202 => assumption); (case hk_q202 => first | exact rfl | assumption); (case hd_q202 => ktr_room); (case hu_q202 => ktr_units); k_whole); intro u'_q202 h'_q202 tk'_q202 F'_q202 N'_q202; (try k_sweep)))
  k_with "call ref" => ((k_here; (with_reducible show wpAny _ _ (call (Value.ref 310) _) _ _ _); k_dflt (refine' CSpec.use ?B_q203 ?F_q203 ?X_q203 ?N_q203 ?T_q203 ?P_q203 (operand_walk ?k2_q203 ?ks_q203 ?kv_q203 ?kz_q203) ?hk_q203 ?ho_q203 ?hd_q203 ?hu_q203 ?_; (case B_q203 => k_asm); (case F_q203 => k_asm); (case X_q203 => k_asm); (case N_q203 => k_asm); (case T_q203 => k_asm); (case P_q203 => k_extra "my pick"); (case kv_q203 => assumption); (case k2_q203 => omega); (case ks_q203 => assumption); (case kz_q203 => assumption); (case hk_q203 => first | exact rfl | assumption); (case ho_q203 => k_extra "my off"); (case hd_q203 => ktr_room); (case hu_q203 => ktr_units); k_whole; refine of_stop ?_)))
  trivial

theorem two_walk {w : World} {p loose mean mg mb} {x : Int} {a b : Nat} {S C : Addr} {st : List Value} {n : Nat} {t0 t1 : Tok} {v1 v2 : Value} (hc : x / 16384 % 512 = (a : Int)) (hb : x / 8388608 = (b : Int)) (ha2 : a < 200) (hb2 : b < 200) (ha3 : a < st.length) (hb3 : b < st.length) (hv1 : st.getD b .none = v1) (hv2 : st.getD a .none = v2) (hz : st.length ≤ 1000) :
    CSpec PySem.Challenge.rw_xm0628_02.prog w (hd02.heap_1 w.params) p loose mean mg mb 317 2 [.int x t0, .ref S, .int 0 t1, .ref C] [(S, listOf st.toArray n)]
      (fun r chg new => ∃ D, r = .ref D ∧ chg = [(S, listOf st.toArray n)] ∧ new = [(D, { cls := Value.type "tuple", data := Data.seq #[v1, v2] })]) := by
  unfold CSpec; k_fill
  intro dp un gd cn cs ad ccd cl outer A₀ base h₀ L m rest s Q E B F X N hoff T hk hd hu hret
  (try simp only [List.forall_mem_cons, List.not_mem_nil, false_implies, implies_true, and_true, List.nil_append, List.cons_append] at hoff N)
  (try simp only [List.forall_mem_cons, List.not_mem_nil, false_implies, implies_true, and_true, List.nil_append, List.cons_append] at hret)
  refine wpAny_call ?_; k_extra "my enter"
  k_steps
  refine ⟨?_⟩
  intro r chg new h1 tk1 F1 N1 o1 hp
  refine byc ?_; intro hGG
  obtain ⟨rfl, rfl, rfl⟩ := hp
  refine hGG ?_; clear hGG
  simp only [List.cons_append, List.nil_append] at N1
  k_steps
  refine ⟨?_⟩
  intro r chg new h1 tk1 F1 N1 o1 hp
  refine byc ?_; intro hGG
  obtain ⟨rfl, rfl, rfl⟩ := hp
  refine hGG ?_; clear hGG
  simp only [List.cons_append, List.nil_append] at N1
  k_steps
  refine byc ?_; intro hGG
  k_extra "my split"
  refine hGG ?_; clear hGG
  refine' hret _ [(S, _)] [(_, _)] _ _ ?f ?n ?o ⟨_, rfl, rfl, rfl⟩
  (case f => assumption); (case n => refine kst_newsOf (by assumption) ?_; k_extra "my sub"); (case o => k_extra "my off")

theorem lines_E5 : True := by
  k_with_none
  k_with "my own omega" => (first | omega (splitDisjunctions := false) | ((repeat (rename _ ∧ _ => hC_q204; cases hC_q204)); (repeat (rename _ ≠ _ => hX_q204; clear hX_q204)); omega (splitDisjunctions := true)))
  k_with "my mem" => (first | with_reducible exact mem_c | with_reducible exact mem_2 | with_reducible exact mem_3 | with_reducible exact mem_4 | (with_reducible refine skip_4 ?_; k_extra "my mem") | (with_reducible refine skip_1 ?_; k_extra "my mem") | with_reducible assumption | (with_reducible refine List.mem_append_left _ ?_; k_extra "my mem") | (with_reducible refine List.mem_append_right _ ?_; k_extra "my mem"))
  k_with "my mem2" => (first | exact List.mem_cons_self | assumption | (refine List.mem_cons_of_mem _ ?_; k_extra "my mem2") | (refine List.mem_append_left _ ?_; k_extra "my mem2") | (refine List.mem_append_right _ ?_; k_extra "my mem2"))
  k_with "my own k_mem" => (first | k_extra "my mem" | k_extra "my mem2")
  k_with "my ne" => (first | with_reducible assumption | with_reducible exact Ne.symm (by with_reducible assumption) | with_reducible exact Nat.ne_of_lt (by with_reducible assumption) | with_reducible exact Nat.ne_of_gt (by with_reducible assumption))
  k_with "my own k_ne" => ((refine neN ?_; first | k_extra "my ne" | ((try dsimp only); k_extra "my ne") | (k_extra "my split"; (try dsimp only); first | k_extra "my ne" | omega (splitDisjunctions := false))))
  k_with "my upd" => (first | (refine' Upd.head ?a_q210; (case a_q210 => k_all)) | (refine' Upd.tail ?a_q210 ?b_q210; (case a_q210 => k_ne); (case b_q210 => k_extra "my upd")))
  k_with "my own k_upd" => (k_extra "my upd")
  k_with "my updF" => (first | (refine' UpdF.head ?a_q212; (case a_q212 => k_all)) | (refine' UpdF.tail ?a_q212 ?b_q212; (case a_q212 => k_ne); (case b_q212 => k_extra "my updF")))
  k_with "my own k_updF" => (k_extra "my updF")
  k_with "my split" => (repeat (first | (rename _ ∧ _ ∧ _ ∧ _ ∧ _ ∧ _ ∧ _ ∧ _ => hC_q214; refine elim_8 hC_q214 ?_; clear hC_q214; intro _ _ _ _ _ _ _ _) | (rename _ ∧ _ ∧ _ ∧ _ => hC_q214; refine elim_4 hC_q214 ?_; clear hC_q214; intro _ _ _ _) | (rename _ ∧ _ => hC_q214; cases hC_q214)))
  k_with "my offleaf" => (first | assumption | exact Off.nil | exact Off.of1 (by assumption) | exact Off.ofLt (by assumption) | exact Off.ofLt (allLt_left (by assumption)) | exact Off.ofLt (allLt_right (by assumption)) | exact Off.ofLt (allLt_left (allLt_right (by assumption))) | exact Off.ofLt (allLt_right (allLt_right (by assumption))))
  k_with "my own k_all" => ((show Off _ _; first | assumption | (k_extra "my split"; repeat' (first | with_reducible exact Off.nil | with_reducible refine off_c ?_ ?_ | with_reducible refine Off.append ?_ ?_ | k_ne | k_extra "my offleaf"))))
  k_with "my enter" => (k_dflt (first | (refine' code_def ?k1_q217 ?k2_q217 ?k3_q217 ?k4_q217 ?k5_q217 ?kA_q217 ?kF_q217 ?kK_q217 ?k6_q217 ?k7_q217 ?k8_q217 ?k9_q217 ?kB_q217 ?_ ?c2_q217 ?c3_q217 ?c4_q217 ?c5_q217; (case kA_q217 => exact rfl); (case kF_q217 => exact rfl); (case kK_q217 => first | exact rfl | assumption); (case k1_q217 => k_asm); (case k2_q217 => k_asm); (case k3_q217 => k_asm); (case k4_q217 => k_asm); (case k5_q217 => k_asm); (case k6_q217 => k_is); (case k7_q217 => k_is); (case k8_q217 => ktr_room); (case k9_q217 => first | exact BindsTo.of_eq rfl | exact binds_K (by k_in) rfl (by k_is) rfl rfl rfl); (case c5_q217 => decide); (case kB_q217 => exact locs rfl); (case c2_q217 => exact rfl); (case c3_q217 => exact rfl); (case c4_q217 => exact rfl); k_whole; intro g'_q217 L'_q217 h'_q217 FG'_q217 F'_q217 N'_q217 B'_q217 X'_q217 T'_q217; (try dsimp only); (try k_fold)) | (refine' code_defC ?k1_q217 ?k2_q217 ?k3_q217 ?k4_q217 ?k5_q217 ?kA_q217 ?kF_q217 ?kK_q217 ?k6_q217 ?k7_q217 ?k8_q217 ?k9_q217 ?kB_q217 ?kD_q217 ?_ ?c2_q217 ?c3_q217 ?c4_q217; (case kA_q217 => exact rfl); (case kF_q217 => exact rfl); (case kK_q217 => first | exact rfl | assumption); (case k1_q217 => k_asm); (case k2_q217 => k_asm); (case k3_q217 => k_asm); (case k4_q217 => k_asm); (case k5_q217 => k_asm); (case k6_q217 => k_is); (case k7_q217 => k_is); (case k8_q217 => ktr_room); (case k9_q217 => first | exact BindsTo.of_eq rfl | exact binds_K (by k_in) rfl (by k_is) rfl rfl rfl); (case kB_q217 => exact rfl); (case kD_q217 => decide +kernel); (case c2_q217 => exact rfl); (case c3_q217 => exact rfl); (case c4_q217 => exact rfl); k_whole; intro g'_q217 L'_q217 h'_q217 tk'_q217 cells'_q217 FG'_q217 F'_q217 N'_q217 Y'_q217 B'_q217 X'_q217 T'_q217 l1_q217; (try k_lt l1_q217); (k_cells Y'_q217); (try simp only [List.cons_append, List.nil_append] at N'_q217); (try dsimp only); (try k_fold))))
  k_with "my in" => (first | assumption | (refine List.Mem.tail _ ?_; k_extra "my in") | (refine List.mem_append.mpr (Or.inl ?_); k_extra "my in") | (refine List.mem_append.mpr (Or.inr ?_); k_extra "my in"))
  k_with "my sub" => (((try simp only [List.nil_append, List.cons_append, List.append_assoc]); repeat' (first | with_reducible exact sub_nil | with_reducible refine sub_cons ?_ ?_ | with_reducible refine sub_append ?_ ?_ | (intro p_q219 hp_q219; k_extra "my in") | k_mem)))
  k_with "my off" => (((try simp only [List.nil_append, List.cons_append]); repeat' (first | with_reducible exact offs_nil | with_reducible refine offs_cons ?_ ?_ | k_all)))
  k_with "my pick" => ((repeat' (first | exact Picks.nil | refine' Picks.cons ?_ ?_ | exact Pick.head | refine' Pick.tail ?_)))
  k_with "pyIter ref" => ((k_here; (with_reducible show wpAny _ _ (pyIter (Value.ref _)) (fun it_q222 s₂_q222 => LoopAtV _ _ _ _ _ _ _ _ _ it_q222 s₂_q222) _ _); refine of_stop ?_))
  k_with "exec While" => ((k_here; refine of_stop ?_))
  k_with "call builtin:list.index" => ((k_here; (with_reducible show wpAny _ _ (call (Value.builtin _) [Value.ref _, Value.int _ _]) _ _ _); k_dflt (refine' idx_nat ?N_q224 ?m_q224 ?i_q224 ?k_q224 ?z_q224 ?_; (case N_q224 => k_asm); (case m_q224 => k_mem); (case i_q224 => assumption); (case k_q224 => assumption); (case z_q224 => (first | assumption | omega)); k_whole); intro u'_q224))
  k_with "call builtin:list.extend" => ((k_here; (with_reducible show wpAny _ _ (call (Value.builtin _) [Value.ref _, Value.ref _]) _ _ _); k_extra "my split"; (try (rename List.length _ = List.length (List.map _ _) => hL9_q225; simp only [List.length_map, rangeKs_length] at hL9_q225)); k_dflt (refine' ext_any ?F_q225 ?N_q225 ?b_q225 ?U_q225 ?z_q225 ?_; (case F_q225 => k_asm); (case N_q225 => k_asm); (case b_q225 => k_mem); (case U_q225 => k_upd); (case z_q225 => k_extra "my len"); k_whole); intro h'_q225 F'_q225 N'_q225; (try k_sweep)))
  k_with "my ints" => (first | assumption | exact IntsAre.nil | exact IntsAre.cons _ _ IntsAre.nil)
  k_with "my len" => (first | omega | (simp only [List.length_append, List.length_map, List.length_replicate, Int.reduceToNat, List.length_cons, List.length_nil, List.length_range, rangeKs_length]; omega))
  k_with "binaryOp Add ref ref" => ((k_here; (with_reducible show wpAny _ _ (binaryOp _ (Value.ref _) (Value.ref _)) _ _ _); k_extra "my split"; k_dflt (refine' add_any ?F_q228 ?N_q228 ?a_q228 ?b_q228 ?z_q228 ?_; (case F_q228 => k_asm); (case N_q228 => k_asm); (case a_q228 => k_mem); (case b_q228 => k_mem); (case z_q228 => k_extra "my len"); k_whole); intro D'_q228 us'_q228 h'_q228 F'_q228 N'_q228 l1_q228 he'_q228 hl'_q228; (try k_lt l1_q228); (try simp only [List.length_cons, List.length_nil, List.length_map] at hl'_q228); (try k_sweep)))
  k_with "binaryOp Add ref ref" => ((k_here; (with_reducible show wpAny _ _ (binaryOp _ (Value.ref _) (Value.ref _)) _ _ _); k_extra "my split"; k_dflt (refine' add_ints ?F_q229 ?N_q229 ?a_q229 ?b_q229 ?i_q229 ?j_q229 ?z_q229 ?_; (case F_q229 => k_asm); (case N_q229 => k_asm); (case a_q229 => k_mem); (case b_q229 => k_mem); (case i_q229 => k_extra "my ints"); (case j_q229 => k_extra "my ints"); (case z_q229 => k_extra "my len"); k_whole); intro D'_q229 us'_q229 ns'_q229 h'_q229 F'_q229 N'_q229 l1_q229 hI'_q229 he'_q229 hl'_q229 hv'_q229; (try k_lt l1_q229); (try simp only [List.length_cons, List.length_nil, List.length_map] at hl'_q229); (try k_sweep)))
  k_with "subscriptTail Name Name ref int" => ((k_here; (with_reducible show wpAny _ _ (subscriptTail _ _ (Value.ref _) (Value.int _ _)) _ _ _); k_dflt (refine' ksa_sub ?k1_q230 ?k2_q230 ?k3_q230 ?k4_q230 ?k5_q230 ?k6_q230 ?_ ?k7_q230; (case k1_q230 => k_asm); (case k2_q230 => k_mem); (case k3_q230 => assumption); (case k4_q230 => omega); (case k5_q230 => k_extra "my len"); (case k6_q230 => omega); (case k7_q230 => with_unfolding_all rfl); k_whole); intro _))
  k_with "subscriptTail Name BinOp ref int" => ((k_here; (with_reducible show wpAny _ _ (subscriptTail _ _ (Value.ref _) (Value.int _ _)) _ _ _); k_dflt (refine' ksa_sub ?k1_q231 ?k2_q231 ?k3_q231 ?k4_q231 ?k5_q231 ?k6_q231 ?_ ?k7_q231; (case k1_q231 => k_asm); (case k2_q231 => k_mem); (case k3_q231 => assumption); (case k4_q231 => omega); (case k5_q231 => k_extra "my len"); (case k6_q231 => omega); (case k7_q231 => with_unfolding_all rfl); k_whole); intro _))
  k_with "call builtin:len" => ((k_here; (with_reducible show wpAny _ _ (call (Value.builtin _) [Value.ref _]) _ _ _); k_dflt (refine' len_any ?N_q232 ?m_q232 ?e_q232 ?z_q232 ?_; (case N_q232 => k_asm); (case m_q232 => k_mem); (case e_q232 => assumption); (case z_q232 => k_extra "my len"); k_whole); intro _ _))
  k_with "eval Lambda" => ((k_here; k_dflt (refine' lam_hit (P := 521) (c := 525) ?F_q233 ?N_q233 ?T_q233 ?C_q233 ?cd_q233 ?U_q233 ?t_q233 ?cl_q233 ?d_q233 ?_; (case F_q233 => k_asm); (case N_q233 => k_asm); (case T_q233 => k_asm); (case cd_q233 => exact rfl); (case U_q233 => k_updF); (case C_q233 => exact codeHd_of_K (by assumption) (by kernel_rfl)); (case t_q233 => assumption); (case cl_q233 => exact rfl); (case d_q233 => exact rfl); k_whole); intro f'_q233 ps'_q233 h'_q233 tk'_q233 F'_q233 N'_q233 ht'_q233; (try dsimp only at N'_q233); (try k_sweep)))
  k_with "my own k_room" => (ktr_room)
  k_with "binaryOp Mult ref int" => ((k_here; (with_reducible show wpAny _ _ (binaryOp Operator.Mult (Value.ref _) (Value.int _ _)) _ _ _); k_dflt (refine' mul_one' ?F_q235 ?N_q235 ?l_q235 ?lo_q235 ?hi_q235 ?z_q235 ?_; (case F_q235 => k_asm); (case N_q235 => k_asm); (case l_q235 => k_mem); (case lo_q235 => omega); (case hi_q235 => omega); (case z_q235 => decide); k_whole); intro D'_q235 h'_q235 F'_q235 N'_q235 l1_q235; (try k_lt l1_q235); (try k_sweep)))
  k_with "setItem ref int" => ((k_here; (with_reducible show wpAny _ _ (setItem (Value.ref _) (Value.int _ _) _) _ _ _); k_dflt (refine' set_any ?F_q236 ?N_q236 ?U_q236 ?z0_q236 ?z1_q236 ?z2_q236 ?_; (case F_q236 => k_asm); (case N_q236 => k_asm); (case U_q236 => k_upd); (case z0_q236 => omega); (case z1_q236 => k_extra "my len"); (case z2_q236 => k_extra "my len"); k_whole); intro h'_q236 F'_q236 N'_q236; (try k_sweep)))
  k_with "my item" => ((k_here; (with_reducible show wpAny _ _ (subscriptTail _ _ (Value.ref _) (Value.int _ _)) _ _ _); k_dflt (refine' item_any ?N_q237 ?m_q237 ?z0_q237 ?z1_q237 ?z2_q237 ?_ ?hs_q237 ?hg_q237; (case N_q237 => k_asm); (case m_q237 => k_mem); (case z0_q237 => omega); (case z1_q237 => k_extra "my len"); (case z2_q237 => k_extra "my len"); (case hs_q237 => with_unfolding_all rfl); (case hg_q237 => intro _; with_unfolding_all rfl); k_whole)))
  k_with "subscriptTail Name Slice ref ref" => ((k_here; (with_reducible show wpAny _ _ (subscriptTail _ (PySem.Expr.Slice _ _ none _) (Value.ref _) (Value.ref _)) _ _ _); k_dflt (refine' slice_head ?F_q238 ?N_q238 ?m_q238 ?x_q238 ?y_q238 ?z_q238 ?_ ?s_q238 ?t_q238; (case F_q238 => k_asm); (case N_q238 => k_asm); (case m_q238 => k_mem); (case x_q238 => first | exact rfl | omega); (case y_q238 => omega); (case z_q238 => k_extra "my len"); (case s_q238 => with_unfolding_all rfl); (case t_q238 => kmk_pure)); intro D'_q238 h'_q238 F'_q238 N'_q238 l1_q238; (try k_lt l1_q238); (try k_sweep)))
  k_with "call ref" => ((k_here; (with_reducible show wpAny _ _ (call (Value.ref 28) [Value.int _ _]) _ _ _); k_dflt (refine' CSpec.use0 ?B_q239 ?F_q239 ?X_q239 ?N_q239 ?T_q239 (op_of_walk ?e_q239) ?hk_q239 ?hd_q239 ?hu_q239 ?_; (case B_q239 => k_asm); (case F_q239 => k_asm); (case X_q239 => k_asm); (case N_q239 => k_asm); (case T_q239 => k_asm); (case e_q239 => first | assumption | exact rfl); (case hk_q239 => first | exact rfl | assumption); (case hd_q239 => ktr_room); (case hu_q239 => ktr_units); k_whole); intro u'_q239 h'_q239 tk'_q239 F'_q239 N'_q239; (try k_sweep)))
  k_with "call ref" => ((k_here; (with_reducible show wpAny _ _ (call (Value.ref 35) [Value.int _ _]) _ _ _); k_dflt (refine' CSpec.use0 ?B_q240 ?F_q240 ?X_q240 ?N_q240 ?T_q240 (a_of_walk ?e_q240) ?hk_q240 ?hd_q240 ?hu_q240 ?_; (case B_q240 => k_asm); (case F_q240 => k_asm); (case X_q240 => k_asm); (case N_q240 => k_asm); (case T_q240 => k_asm); (case e_q240 => first | assumption | exact rfl); (case hk_q240 => first | exact rfl | assumption); (case hd_q240 => ktr_room); (case hu_q240 => ktr_units); k_whole); intro u'_q240 h'_q240 tk'_q240 F'_q240 N'_q240; (try k_sweep)))
  k_with "call ref" => ((k_here; (with_reducible show wpAny _ _ (call (Value.ref 42) [Value.int _ _]) _ _ _); k_dflt (refine' CSpec.use0 ?B_q241 ?F_q241 ?X_q241 ?N_q241 ?T_q241 (b_of_walk ?e_q241) ?hk_q241 ?hd_q241 ?hu_q241 ?_; (case B_q241 => k_asm); (case F_q241 => k_asm); (case X_q241 => k_asm); (case N_q241 => k_asm); (case T_q241 => k_asm); (case e_q241 => first | assumption | exact rfl); (case hk_q241 => first | exact rfl | assumption); (case hd_q241 => ktr_room); (case hu_q241 => ktr_units); k_whole); intro u'_q241 h'_q241 tk'_q241 F'_q241 N'_q241; (try k_sweep)))
  k_with "subscriptTail Name BinOp ref int" => (k_extra "my item")
  k_with "call ref" => ((k_here; (with_reducible show wpAny _ _ (call (Value.ref 49) [Value.int _ _]) _ _ _); k_dflt (refine' CSpec.use0 ?B_q243 ?F_q243 ?X_q243 ?N_q243 ?T_q243 (c_of_walk ?e_q243) ?hk_q243 ?hd_q243 ?hu_q243 ?_; (case B_q243 => k_asm); (case F_q243 => k_asm); (case X_q243 => k_asm); (case N_q243 => k_asm); (case T_q243 => k_asm); (case e_q243 => first | assumption | exact rfl); (case hk_q243 => first | exact rfl | assumption); (case hd_q243 => ktr_room); (case hu_q243 => ktr_units); k_whole); intro u'_q243 h'_q243 tk'_q243 F'_q243 N'_q243; (try k_sweep)))
  k_with "call ref" => ((k_here; (with_reducible show wpAny _ _ (call (Value.ref 63) [Value.int _ _]) _ _ _); k_dflt (refine' CSpec.use0 ?B_q244 ?F_q244 ?X_q244 ?N_q244 ?T_q244 (jump_of_walk ?e_q244 ?x0_q244 ?x1_q244) ?hk_q244 ?hd_q244 ?hu_q244 ?_; (case B_q244 => k_asm); (case F_q244 => k_asm); (case X_q244 => k_asm); (case N_q244 => k_asm); (case T_q244 => k_asm); (case e_q244 => first | assumption | exact rfl); (case x0_q244 => assumption); (case x1_q244 => assumption); (case hk_q244 => first | exact rfl | assumption); (case hd_q244 => ktr_room); (case hu_q244 => ktr_units); k_whole); intro u'_q244 h'_q244 tk'_q244 F'_q244 N'_q244; (try k_sweep)))
  k_with "call ref" => ((k_here; (with_reducible show wpAny _ _ (call (Value.ref 317) _) _ _ _); k_dflt (refine' CSpec.use ?B_q245 ?F_q245 ?X_q245 ?N_q245 ?T_q245 ?P_q245 (two_walk ?hc_q245 ?hb_q245 ?a2_q245 ?b2_q245 ?a3_q245 ?b3_q245 ?v1_q245 ?v2_q245 ?kz_q245) ?hk_q245 ?ho_q245 ?hd_q245 ?hu_q245 ?_; (case B_q245 => k_asm); (case F_q245 => k_asm); (case X_q245 => k_asm); (case N_q245 => k_asm); (case T_q245 => k_asm); (case P_q245 => k_extra "my pick"); (case hc_q245 => assumption); (case hb_q245 => assumption); (case a2_q245 => assumption); (case b2_q245 => assumption); (case a3_q245 => assumption); (case b3_q245 => assumption); (case v1_q245 => assumption); (case v2_q245 => assumption); (case kz_q245 => omega); (case hk_q245 => first | exact rfl | assumption); (case ho_q245 => k_extra "my off"); (case hd_q245 => ktr_room); (case hu_q245 => ktr_units); k_whole; refine of_stop ?_)))
  k_with "call ref" => ((k_here; (with_reducible show wpAny _ _ (call (Value.ref _) [Value.int 24 _, Value.int _ _, Value.int _ _]) _ _ _); refine of_stop ?_))
  k_with "callWith ref" => ((k_here; (with_reducible show wpAny _ _ (callWith _ (Value.ref f) _ _ _) _ _ _); k_dflt (refine' callWith_F ?k1_q247 ?_; (case k1_q247 => refine' FnAt.of (oc := ?x1_q247) (od := ?x2_q247) (fd := ?x3_q247) (sl := ?x4_q247) ?x5_q247 ?x6_q247; (case x5_q247 => k_asm); (case x6_q247 => k_extra "my mem")); k_whole)))
  trivial

theorem done_cmp {w : World} {p loose mean mg mb} {x : Int} {a b : Nat} {pc : Nat} {code : List Int} {al c o : Addr} {co : Obj} {ml : Led} {st av : List Value} {an : Nat} {t t1 u1 u2 : Tok} {l r : Int} (hx : x % 64 = 24) (hx0 : x / 64 % 256 = 0) (hc : x / 16384 % 512 = (a : Int)) (hb : x / 8388608 = (b : Int)) (ha2 : a < 200) (hb2 : b < 200) (ha3 : a < st.length) (hb3 : b < st.length) (hv1 : st.getD b .none = .int l u1) (hv2 : st.getD a .none = .int r u2) (hz : st.length ≤ 200) (hz2 : av.length ≤ 200)
    (hM : Mach w p loose mean mg mb code st pc o c al co ml) (hp1 : pc < code.length) (hp2 : code.length ≤ 1000) (hj : code.getD pc 0 = 22 + 16384 * 131074) :
    CSpec PySem.Challenge.rw_xm0628_02.prog w (hd02.heap_1 w.params) p loose mean mg mb 449 5 [.ref o, .int 24 t, .int x t1] (ml ++ [(al, listOf av.toArray an), (c, co)])
      (fun x chg new => ∃ ml' av' an', x = .bool true ∧ Mach w p loose mean mg mb code st (if l < r then pc + 1 else pc + 4) o c al co ml' ∧ ml'.map (·.1) = ml.map (·.1) ∧ av'.length = av.length + 1 ∧ chg = ml' ++ [(al, listOf (List.toArray av') an'), (c, co)] ∧ new = []) := by
  refine byc ?_; intro hGG
  cases hM with
  | @mk d S cd kk li wx wd f ce t0 t1 t2 t3 t4 t5 t6 t7 t8 u w0 w1 w2 w3 w4 w5 v3 v7 a0 a1 a2 a3 a5 sn wn ws fd eo hO hI hC =>
  have hO9 := hO
  obtain ⟨⟨d1, d2, d3, d4, d5, d6, d7, d8, d9⟩, ⟨s1, s2, s3, s4, s5, s6, s7, s8⟩, ⟨b1, b2, b3, b4, b5, b6, b7⟩, ⟨f1, f2, f3, f4⟩, ⟨e1, e2, e3, e4⟩, ⟨c1, c2, c3, c4⟩, ⟨x1, x2, x3⟩⟩ := hO
  refine hGG ?_; clear hGG
  have zw := hI.length
  unfold CSpec; k_fill
  intro dp un gd cn cs ad ccd cl outer A₀ base h₀ L m rest s Q E B F X N hoff T hk hd hu hret
  (try simp only [List.forall_mem_cons, List.not_mem_nil, false_implies, implies_true, and_true, List.nil_append, List.cons_append] at hoff N)
  (try simp only [List.forall_mem_cons, List.not_mem_nil, false_implies, implies_true, and_true, List.nil_append, List.cons_append] at hret)
  refine wpAny_call ?_; k_extra "my enter"
  k_steps
  refine ⟨?_⟩
  intro r3 chg new h1 tk1 F1 N1 o1 hp
  refine byc ?_; intro hGG
  obtain ⟨D9, rfl, rfl, rfl⟩ := hp
  refine hGG ?_; clear hGG
  simp only [List.cons_append, List.nil_append] at N1
  simp only [List.forall_mem_cons, List.cons_append, List.nil_append, List.append_nil, Mine.off_cons, Mine.off_append, List.not_mem_nil, false_implies, implies_true, and_true] at o1
  refine byc ?_; intro hGG
  k_extra "my split"
  refine hGG ?_; clear hGG
  k_steps
  refine ⟨?_⟩
  k_dflt (refine' CSpec.use ?B ?F ?X ?N ?T ?P (hC l r _ _ _ av an ?hz) ?hk ?ho ?hd ?hu ?_)
  (case B => k_asm); (case F => k_asm); (case X => k_asm); (case N => k_asm); (case T => k_asm); (case P => k_extra "my pick")
  case hz => omega
  (case hk => first | exact rfl | assumption)
  (case ho => k_extra "my off"); (case hd => ktr_room); (case hu => ktr_units)
  k_whole
  intro r4 chg new h2 tk2 F2 N2 o2 hp
  refine byc ?_; intro hGG
  obtain ⟨av', an', rfl, hl9, rfl, rfl⟩ := hp
  refine hGG ?_; clear hGG
  simp only [List.cons_append, List.nil_append] at N2
  have ej : code.getD ((pc : Int)).toNat 0 / 16384 - 131071 = 3 := by rw [Int.toNat_natCast, hj]; decide
  have ej0 : 0 ≤ code.getD ((pc : Int)).toNat 0 := by rw [Int.toNat_natCast, hj]; decide
  have ej1 : code.getD ((pc : Int)).toNat 0 < 4294967296 := by rw [Int.toNat_natCast, hj]; decide
  k_steps
  · have hlr : ¬ l < r := by
      have := (by assumption : (decide (l < r) == (0 != 0)) = true)
      revert this
      by_cases hh : l < r <;> simp [hh]
    rename News h₀ _ _ _ => kN
    rw [show (pc : Int) + 1 + 3 = ((pc + 4 : Nat) : Int) by omega] at kN
    refine' hret _ [(o, _), (d, _), (S, _), (cd, _), (wx, _), (wd, _), (f, fnObj fd), (ce, eo), (al, listOf (List.toArray av') an'), (c, co)] [] _ _ ?f1 ?n1 ?o1 ⟨[(o, _), (d, _), (S, _), (cd, _), (wx, _), (wd, _), (f, fnObj fd), (ce, eo)], av', an', rfl, ?m1, ?mp1, hl9, rfl, rfl⟩
    (case n1 => refine kst_newsOf kN ?_; k_extra "my sub")
    (case f1 => assumption); (case o1 => k_extra "my off")
    case mp1 => rfl
    case m1 => rw [if_neg hlr]; exact .mk hO9 hI hC
  · have hlr : l < r := by
      have := (by assumption : (decide (l < r) == (0 != 0)) = false)
      revert this
      by_cases hh : l < r <;> simp [hh]
    rename News h₀ _ _ _ => kN
    rw [show (pc : Int) + 1 = ((pc + 1 : Nat) : Int) by omega] at kN
    refine' hret _ [(o, _), (d, _), (S, _), (cd, _), (wx, _), (wd, _), (f, fnObj fd), (ce, eo), (al, listOf (List.toArray av') an'), (c, co)] [] _ _ ?f2 ?n2 ?o2 ⟨[(o, _), (d, _), (S, _), (cd, _), (wx, _), (wd, _), (f, fnObj fd), (ce, eo)], av', an', rfl, ?m2, ?mp2, hl9, rfl, rfl⟩
    (case n2 => refine kst_newsOf kN ?_; k_extra "my sub")
    (case f2 => assumption); (case o2 => k_extra "my off")
    case mp2 => rfl
    case m2 => rw [if_pos hlr]; exact .mk hO9 hI hC

theorem lines_E6 : True := by
  k_with_none
  k_with "my own omega" => (first | omega (splitDisjunctions := false) | ((repeat (rename _ ∧ _ => hC_q248; cases hC_q248)); (repeat (rename _ ≠ _ => hX_q248; clear hX_q248)); omega (splitDisjunctions := true)))
  k_with "my mem" => (first | with_reducible exact mem_c | with_reducible exact mem_2 | with_reducible exact mem_3 | with_reducible exact mem_4 | (with_reducible refine skip_4 ?_; k_extra "my mem") | (with_reducible refine skip_1 ?_; k_extra "my mem") | with_reducible assumption | (with_reducible refine List.mem_append_left _ ?_; k_extra "my mem") | (with_reducible refine List.mem_append_right _ ?_; k_extra "my mem"))
  k_with "my mem2" => (first | exact List.mem_cons_self | assumption | (refine List.mem_cons_of_mem _ ?_; k_extra "my mem2") | (refine List.mem_append_left _ ?_; k_extra "my mem2") | (refine List.mem_append_right _ ?_; k_extra "my mem2"))
  k_with "my own k_mem" => (first | k_extra "my mem" | k_extra "my mem2")
  k_with "my ne" => (first | with_reducible assumption | with_reducible exact Ne.symm (by with_reducible assumption) | with_reducible exact Nat.ne_of_lt (by with_reducible assumption) | with_reducible exact Nat.ne_of_gt (by with_reducible assumption))
  k_with "my own k_ne" => ((refine neN ?_; first | k_extra "my ne" | ((try dsimp only); k_extra "my ne") | (k_extra "my split"; (try dsimp only); first | k_extra "my ne" | omega (splitDisjunctions := false))))
  k_with "my upd" => (first | (refine' Upd.head ?a_q254; (case a_q254 => k_all)) | (refine' Upd.tail ?a_q254 ?b_q254; (case a_q254 => k_ne); (case b_q254 => k_extra "my upd")))
  k_with "my own k_upd" => (k_extra "my upd")
  k_with "my updF" => (first | (refine' UpdF.head ?a_q256; (case a_q256 => k_all)) | (refine' UpdF.tail ?a_q256 ?b_q256; (case a_q256 => k_ne); (case b_q256 => k_extra "my updF")))
  k_with "my own k_updF" => (k_extra "my updF")
  k_with "my split" => (repeat (first | (rename _ ∧ _ ∧ _ ∧ _ ∧ _ ∧ _ ∧ _ ∧ _ => hC_q258; refine elim_8 hC_q258 ?_; clear hC_q258; intro _ _ _ _ _ _ _ _) | (rename _ ∧ _ ∧ _ ∧ _ => hC_q258; refine elim_4 hC_q258 ?_; clear hC_q258; intro _ _ _ _) | (rename _ ∧ _ => hC_q258; cases hC_q258)))
  k_with "my offleaf" => (first | assumption | exact Off.nil | exact Off.of1 (by assumption) | exact Off.ofLt (by assumption) | exact Off.ofLt (allLt_left (by assumption)) | exact Off.ofLt (allLt_right (by assumption)) | exact Off.ofLt (allLt_left (allLt_right (by assumption))) | exact Off.ofLt (allLt_right (allLt_right (by assumption))))
  k_with "my own k_all" => ((show Off _ _; first | assumption | (k_extra "my split"; repeat' (first | with_reducible exact Off.nil | with_reducible refine off_c ?_ ?_ | with_reducible refine Off.append ?_ ?_ | k_ne | k_extra "my offleaf"))))
  k_with "my enter" => (k_dflt (first | (refine' code_def ?k1_q261 ?k2_q261 ?k3_q261 ?k4_q261 ?k5_q261 ?kA_q261 ?kF_q261 ?kK_q261 ?k6_q261 ?k7_q261 ?k8_q261 ?k9_q261 ?kB_q261 ?_ ?c2_q261 ?c3_q261 ?c4_q261 ?c5_q261; (case kA_q261 => exact rfl); (case kF_q261 => exact rfl); (case kK_q261 => first | exact rfl | assumption); (case k1_q261 => k_asm); (case k2_q261 => k_asm); (case k3_q261 => k_asm); (case k4_q261 => k_asm); (case k5_q261 => k_asm); (case k6_q261 => k_is); (case k7_q261 => k_is); (case k8_q261 => ktr_room); (case k9_q261 => first | exact BindsTo.of_eq rfl | exact binds_K (by k_in) rfl (by k_is) rfl rfl rfl); (case c5_q261 => decide); (case kB_q261 => exact locs rfl); (case c2_q261 => exact rfl); (case c3_q261 => exact rfl); (case c4_q261 => exact rfl); k_whole; intro g'_q261 L'_q261 h'_q261 FG'_q261 F'_q261 N'_q261 B'_q261 X'_q261 T'_q261; (try dsimp only); (try k_fold)) | (refine' code_defC ?k1_q261 ?k2_q261 ?k3_q261 ?k4_q261 ?k5_q261 ?kA_q261 ?kF_q261 ?kK_q261 ?k6_q261 ?k7_q261 ?k8_q261 ?k9_q261 ?kB_q261 ?kD_q261 ?_ ?c2_q261 ?c3_q261 ?c4_q261; (case kA_q261 => exact rfl); (case kF_q261 => exact rfl); (case kK_q261 => first | exact rfl | assumption); (case k1_q261 => k_asm); (case k2_q261 => k_asm); (case k3_q261 => k_asm); (case k4_q261 => k_asm); (case k5_q261 => k_asm); (case k6_q261 => k_is); (case k7_q261 => k_is); (case k8_q261 => ktr_room); (case k9_q261 => first | exact BindsTo.of_eq rfl | exact binds_K (by k_in) rfl (by k_is) rfl rfl rfl); (case kB_q261 => exact rfl); (case kD_q261 => decide +kernel); (case c2_q261 => exact rfl); (case c3_q261 => exact rfl); (case c4_q261 => exact rfl); k_whole; intro g'_q261 L'_q261 h'_q261 tk'_q261 cells'_q261 FG'_q261 F'_q261 N'_q261 Y'_q261 B'_q261 X'_q261 T'_q261 l1_q261; (try k_lt l1_q261); (k_cells Y'_q261); (try simp only [List.cons_append, List.nil_append] at N'_q261); (try dsimp only); (try k_fold))))
  k_with "my in" => (first | assumption | (refine List.Mem.tail _ ?_; k_extra "my in") | (refine List.mem_append.mpr (Or.inl ?_); k_extra "my in") | (refine List.mem_append.mpr (Or.inr ?_); k_extra "my in"))
  k_with "my sub" => (((try simp only [List.nil_append, List.cons_append, List.append_assoc]); repeat' (first | with_reducible exact sub_nil | with_reducible refine sub_cons ?_ ?_ | with_reducible refine sub_append ?_ ?_ | (intro p_q263 hp_q263; k_extra "my in") | k_mem)))
  k_with "my off" => (((try simp only [List.nil_append, List.cons_append]); repeat' (first | with_reducible exact offs_nil | with_reducible refine offs_cons ?_ ?_ | k_all)))
  k_with "my pick" => ((repeat' (first | exact Picks.nil | refine' Picks.cons ?_ ?_ | exact Pick.head | refine' Pick.tail ?_)))
  k_with "pyIter ref" => ((k_here; (with_reducible show wpAny _ _ (pyIter (Value.ref _)) (fun it_q266 s₂_q266 => LoopAtV _ _ _ _ _ _ _ _ _ it_q266 s₂_q266) _ _); refine of_stop ?_))
  k_with "exec While" => ((k_here; refine of_stop ?_))
  k_with "call builtin:list.index" => ((k_here; (with_reducible show wpAny _ _ (call (Value.builtin _) [Value.ref _, Value.int _ _]) _ _ _); k_dflt (refine' idx_nat ?N_q268 ?m_q268 ?i_q268 ?k_q268 ?z_q268 ?_; (case N_q268 => k_asm); (case m_q268 => k_mem); (case i_q268 => assumption); (case k_q268 => assumption); (case z_q268 => (first | assumption | omega)); k_whole); intro u'_q268))
  k_with "call builtin:list.extend" => ((k_here; (with_reducible show wpAny _ _ (call (Value.builtin _) [Value.ref _, Value.ref _]) _ _ _); k_extra "my split"; (try (rename List.length _ = List.length (List.map _ _) => hL9_q269; simp only [List.length_map, rangeKs_length] at hL9_q269)); k_dflt (refine' ext_any ?F_q269 ?N_q269 ?b_q269 ?U_q269 ?z_q269 ?_; (case F_q269 => k_asm); (case N_q269 => k_asm); (case b_q269 => k_mem); (case U_q269 => k_upd); (case z_q269 => k_extra "my len"); k_whole); intro h'_q269 F'_q269 N'_q269; (try k_sweep)))
  k_with "my ints" => (first | assumption | exact IntsAre.nil | exact IntsAre.cons _ _ IntsAre.nil)
  k_with "my len" => (first | omega | (simp only [List.length_append, List.length_map, List.length_replicate, Int.reduceToNat, List.length_cons, List.length_nil, List.length_range, rangeKs_length]; omega))
  k_with "binaryOp Add ref ref" => ((k_here; (with_reducible show wpAny _ _ (binaryOp _ (Value.ref _) (Value.ref _)) _ _ _); k_extra "my split"; k_dflt (refine' add_any ?F_q272 ?N_q272 ?a_q272 ?b_q272 ?z_q272 ?_; (case F_q272 => k_asm); (case N_q272 => k_asm); (case a_q272 => k_mem); (case b_q272 => k_mem); (case z_q272 => k_extra "my len"); k_whole); intro D'_q272 us'_q272 h'_q272 F'_q272 N'_q272 l1_q272 he'_q272 hl'_q272; (try k_lt l1_q272); (try simp only [List.length_cons, List.length_nil, List.length_map] at hl'_q272); (try k_sweep)))
  k_with "binaryOp Add ref ref" => ((k_here; (with_reducible show wpAny _ _ (binaryOp _ (Value.ref _) (Value.ref _)) _ _ _); k_extra "my split"; k_dflt (refine' add_ints ?F_q273 ?N_q273 ?a_q273 ?b_q273 ?i_q273 ?j_q273 ?z_q273 ?_; (case F_q273 => k_asm); (case N_q273 => k_asm); (case a_q273 => k_mem); (case b_q273 => k_mem); (case i_q273 => k_extra "my ints"); (case j_q273 => k_extra "my ints"); (case z_q273 => k_extra "my len"); k_whole); intro D'_q273 us'_q273 ns'_q273 h'_q273 F'_q273 N'_q273 l1_q273 hI'_q273 he'_q273 hl'_q273 hv'_q273; (try k_lt l1_q273); (try simp only [List.length_cons, List.length_nil, List.length_map] at hl'_q273); (try k_sweep)))
  k_with "subscriptTail Name Name ref int" => ((k_here; (with_reducible show wpAny _ _ (subscriptTail _ _ (Value.ref _) (Value.int _ _)) _ _ _); k_dflt (refine' ksa_sub ?k1_q274 ?k2_q274 ?k3_q274 ?k4_q274 ?k5_q274 ?k6_q274 ?_ ?k7_q274; (case k1_q274 => k_asm); (case k2_q274 => k_mem); (case k3_q274 => assumption); (case k4_q274 => omega); (case k5_q274 => k_extra "my len"); (case k6_q274 => omega); (case k7_q274 => with_unfolding_all rfl); k_whole); intro _))
  k_with "subscriptTail Name BinOp ref int" => ((k_here; (with_reducible show wpAny _ _ (subscriptTail _ _ (Value.ref _) (Value.int _ _)) _ _ _); k_dflt (refine' ksa_sub ?k1_q275 ?k2_q275 ?k3_q275 ?k4_q275 ?k5_q275 ?k6_q275 ?_ ?k7_q275; (case k1_q275 => k_asm); (case k2_q275 => k_mem); (case k3_q275 => assumption); (case k4_q275 => omega); (case k5_q275 => k_extra "my len"); (case k6_q275 => omega); (case k7_q275 => with_unfolding_all rfl); k_whole); intro _))
  k_with "call builtin:len" => ((k_here; (with_reducible show wpAny _ _ (call (Value.builtin _) [Value.ref _]) _ _ _); k_dflt (refine' len_any ?N_q276 ?m_q276 ?e_q276 ?z_q276 ?_; (case N_q276 => k_asm); (case m_q276 => k_mem); (case e_q276 => assumption); (case z_q276 => k_extra "my len"); k_whole); intro _ _))
  k_with "eval Lambda" => ((k_here; k_dflt (refine' lam_hit (P := 521) (c := 525) ?F_q277 ?N_q277 ?T_q277 ?C_q277 ?cd_q277 ?U_q277 ?t_q277 ?cl_q277 ?d_q277 ?_; (case F_q277 => k_asm); (case N_q277 => k_asm); (case T_q277 => k_asm); (case cd_q277 => exact rfl); (case U_q277 => k_updF); (case C_q277 => exact codeHd_of_K (by assumption) (by kernel_rfl)); (case t_q277 => assumption); (case cl_q277 => exact rfl); (case d_q277 => exact rfl); k_whole); intro f'_q277 ps'_q277 h'_q277 tk'_q277 F'_q277 N'_q277 ht'_q277; (try dsimp only at N'_q277); (try k_sweep)))
  k_with "my own k_room" => (ktr_room)
  k_with "binaryOp Mult ref int" => ((k_here; (with_reducible show wpAny _ _ (binaryOp Operator.Mult (Value.ref _) (Value.int _ _)) _ _ _); k_dflt (refine' mul_one' ?F_q279 ?N_q279 ?l_q279 ?lo_q279 ?hi_q279 ?z_q279 ?_; (case F_q279 => k_asm); (case N_q279 => k_asm); (case l_q279 => k_mem); (case lo_q279 => omega); (case hi_q279 => omega); (case z_q279 => decide); k_whole); intro D'_q279 h'_q279 F'_q279 N'_q279 l1_q279; (try k_lt l1_q279); (try k_sweep)))
  k_with "setItem ref int" => ((k_here; (with_reducible show wpAny _ _ (setItem (Value.ref _) (Value.int _ _) _) _ _ _); k_dflt (refine' set_any ?F_q280 ?N_q280 ?U_q280 ?z0_q280 ?z1_q280 ?z2_q280 ?_; (case F_q280 => k_asm); (case N_q280 => k_asm); (case U_q280 => k_upd); (case z0_q280 => omega); (case z1_q280 => k_extra "my len"); (case z2_q280 => k_extra "my len"); k_whole); intro h'_q280 F'_q280 N'_q280; (try k_sweep)))
  k_with "my item" => ((k_here; (with_reducible show wpAny _ _ (subscriptTail _ _ (Value.ref _) (Value.int _ _)) _ _ _); k_dflt (refine' item_any ?N_q281 ?m_q281 ?z0_q281 ?z1_q281 ?z2_q281 ?_ ?hs_q281 ?hg_q281; (case N_q281 => k_asm); (case m_q281 => k_mem); (case z0_q281 => omega); (case z1_q281 => k_extra "my len"); (case z2_q281 => k_extra "my len"); (case hs_q281 => with_unfolding_all rfl); (case hg_q281 => intro _; with_unfolding_all rfl); k_whole)))
  k_with "subscriptTail Name Slice ref ref" => ((k_here; (with_reducible show wpAny _ _ (subscriptTail _ (PySem.Expr.Slice _ _ none _) (Value.ref _) (Value.ref _)) _ _ _); k_dflt (refine' slice_head ?F_q282 ?N_q282 ?m_q282 ?x_q282 ?y_q282 ?z_q282 ?_ ?s_q282 ?t_q282; (case F_q282 => k_asm); (case N_q282 => k_asm); (case m_q282 => k_mem); (case x_q282 => first | exact rfl | omega); (case y_q282 => omega); (case z_q282 => k_extra "my len"); (case s_q282 => with_unfolding_all rfl); (case t_q282 => kmk_pure)); intro D'_q282 h'_q282 F'_q282 N'_q282 l1_q282; (try k_lt l1_q282); (try k_sweep)))
  k_with "call ref" => ((k_here; (with_reducible show wpAny _ _ (call (Value.ref 28) [Value.int _ _]) _ _ _); k_dflt (refine' CSpec.use0 ?B_q283 ?F_q283 ?X_q283 ?N_q283 ?T_q283 (op_of_walk ?e_q283) ?hk_q283 ?hd_q283 ?hu_q283 ?_; (case B_q283 => k_asm); (case F_q283 => k_asm); (case X_q283 => k_asm); (case N_q283 => k_asm); (case T_q283 => k_asm); (case e_q283 => first | assumption | exact rfl); (case hk_q283 => first | exact rfl | assumption); (case hd_q283 => ktr_room); (case hu_q283 => ktr_units); k_whole); intro u'_q283 h'_q283 tk'_q283 F'_q283 N'_q283; (try k_sweep)))
  k_with "call ref" => ((k_here; (with_reducible show wpAny _ _ (call (Value.ref 35) [Value.int _ _]) _ _ _); k_dflt (refine' CSpec.use0 ?B_q284 ?F_q284 ?X_q284 ?N_q284 ?T_q284 (a_of_walk ?e_q284) ?hk_q284 ?hd_q284 ?hu_q284 ?_; (case B_q284 => k_asm); (case F_q284 => k_asm); (case X_q284 => k_asm); (case N_q284 => k_asm); (case T_q284 => k_asm); (case e_q284 => first | assumption | exact rfl); (case hk_q284 => first | exact rfl | assumption); (case hd_q284 => ktr_room); (case hu_q284 => ktr_units); k_whole); intro u'_q284 h'_q284 tk'_q284 F'_q284 N'_q284; (try k_sweep)))
  k_with "call ref" => ((k_here; (with_reducible show wpAny _ _ (call (Value.ref 42) [Value.int _ _]) _ _ _); k_dflt (refine' CSpec.use0 ?B_q285 ?F_q285 ?X_q285 ?N_q285 ?T_q285 (b_of_walk ?e_q285) ?hk_q285 ?hd_q285 ?hu_q285 ?_; (case B_q285 => k_asm); (case F_q285 => k_asm); (case X_q285 => k_asm); (case N_q285 => k_asm); (case T_q285 => k_asm); (case e_q285 => first | assumption | exact rfl); (case hk_q285 => first | exact rfl | assumption); (case hd_q285 => ktr_room); (case hu_q285 => ktr_units); k_whole); intro u'_q285 h'_q285 tk'_q285 F'_q285 N'_q285; (try k_sweep)))
  k_with "subscriptTail Name BinOp ref int" => (k_extra "my item")
  k_with "call ref" => ((k_here; (with_reducible show wpAny _ _ (call (Value.ref 449) _) _ _ _); refine of_stop ?_))
  k_with "subscriptTail Attribute Name ref int" => ((k_here; (with_reducible show wpAny _ _ (subscriptTail _ _ (Value.ref _) (Value.int _ _)) _ _ _); k_dflt (refine' ksa_sub ?k1_q288 ?k2_q288 ?k3_q288 ?k4_q288 ?k5_q288 ?k6_q288 ?_ ?k7_q288; (case k1_q288 => k_asm); (case k2_q288 => k_mem); (case k3_q288 => assumption); (case k4_q288 => omega); (case k5_q288 => k_extra "my len"); (case k6_q288 => omega); (case k7_q288 => with_unfolding_all rfl); k_whole); intro _))
  trivial

theorem off_of_map {ml ml' r : Led} (h : ∀ p ∈ ml, Off p.1 r) (e : ml'.map (·.1) = ml.map (·.1)) : ∀ p ∈ ml', Off p.1 r := by
  intro p hp
  have : p.1 ∈ ml.map (·.1) := e ▸ List.mem_map.mpr ⟨p, hp, rfl⟩
  refine byc ?_; intro hGG
  obtain ⟨q, hq, e2⟩ := List.mem_map.mp this
  refine hGG ?_; clear hGG
  exact e2 ▸ h q hq
theorem off_map {d : Addr} {l l' : Led} (e : l'.map (·.1) = l.map (·.1)) (h : Off d l') : Off d l := fun q hq => by
  have : q.1 ∈ l'.map (·.1) := e ▸ List.mem_map.mpr ⟨q, hq, rfl⟩
  refine byc ?_; intro hGG
  obtain ⟨r, hr, e2⟩ := List.mem_map.mp this
  refine hGG ?_; clear hGG
  exact e2 ▸ h r hr
inductive JR (w : World) (p : Program) (loose : List Str) (mean : ExcName → Option Value) (mg mb : Str → Option Value) (n : Nat) (ps : List (Nat × Nat)) (row : List Int) (pc0 : Nat) (o c al : Addr) (co : Obj) (ml : Led) (rest : Led) (i : Nat) (m : Str → Option Value) : Led → Prop
  | mk {ml' : Led} {st av : List Value} {an pc : Nat} : m (Str.ofString "self") = some (.ref o) → Mach w p loose mean mg mb (wrdsOf n ps ++ [30 + 8388608 * ((n : Int) + 1)]) st pc o c al co ml' → Ph n ps row pc st av.length → ml'.map (·.1) = ml.map (·.1) →
    pc0 + i ≤ pc → (i = 0 → pc = pc0) → (i = 1 → pc ≤ 5 * (pc0 / 5) + 5) → JR w p loose mean mg mb n ps row pc0 o c al co ml rest i m (ml' ++ (al, listOf av.toArray an) :: (c, co) :: rest)
theorem Mach.atK {w p loose mean mg mb} {code : List Int} {st : List Value} {pc : Nat} {x d S cd wx wd f ce c al : Addr} {co : Obj} {ml : Led} {o1 o2 o3 o4 o5 o6 o7 o8 : Obj} {G : Led → Prop} (M : Mach w p loose mean mg mb code st pc x c al co ml) (e : ml.map (·.1) = [(x, o1), (d, o2), (S, o3), (cd, o4), (wx, o5), (wd, o6), (f, o7), (ce, o8)].map (·.1))
    (k : ∀ kk li t0 t1 t2 t3 t4 t5 t6 t7 t8 u w0 w1 w2 w3 w4 w5 v3 v7 a0 a1 a2 a3 a5 sn wn ws fd eo, MOff x d S cd wx wd f ce c al → IntsAre ws code → ClosOk w p loose mean mg mb f c ce al fd co eo →
      G [(x, instObj 508 d), (d, dictOf (sEnts w t0 t1 t2 t3 t4 t5 t6 t7 t8 (.ref cd) (.ref kk) (.ref S) v3 (.ref li) (.ref wx) (.int (pc : Int) u) v7 .none) 9), (S, listOf st.toArray sn), (cd, listOf (List.toArray ws) wn),
      (wx, instObj 417 wd), (wd, dictOf (wEnts w w0 w1 w2 w3 w4 w5 a0 a1 a2 a3 (.ref f) a5) 6), (f, fnObj fd), (ce, eo)]) : G ml := by
  refine byc ?_; intro hGG
  cases M with
  | mk hO hI hC =>
  refine hGG ?_; clear hGG
  simp only [List.map_cons, List.map_nil, List.cons.injEq, and_true] at e
  refine byc ?_; intro hGG
  obtain ⟨-, rfl, rfl, rfl, rfl, rfl, rfl, rfl⟩ := e
  refine hGG ?_; clear hGG
  exact k _ _ _ _ _ _ _ _ _ _ _ _ _ _ _ _ _ _ _ _ _ _ _ _ _ _ _ _ _ _ hO hI hC
theorem run_walk {w : World} {p loose mean mg mb} {n : Nat} {N : Int} {k pc0 : Nat} {ps : List (Nat × Nat)} {row : List Int} {al c o : Addr} {co : Obj} {ml : Led} {st av : List Value} {an : Nat} {t : Tok} (hn : row.length = n) (hn2 : n ≤ 10) (hl : ps.length ≤ 10) (hb : ∀ p ∈ ps, p.1 < n ∧ p.2 < n ∧ p.1 ≠ p.2) (hN : N = (k : Int)) (hN2 : k ≤ 100)
    (hM : Mach w p loose mean mg mb (wrdsOf n ps ++ [30 + 8388608 * ((n : Int) + 1)]) st pc0 o c al co ml) (hP : Ph n ps row pc0 st av.length) :
    CSpec PySem.Challenge.rw_xm0628_02.prog w (hd02.heap_1 w.params) p loose mean mg mb 442 6 [.ref o, .int N t] (ml ++ [(al, listOf av.toArray an), (c, co)])
      (fun r chg new => ∃ T ml' av' an', r = .ref T ∧ ml'.map (·.1) = ml.map (·.1) ∧ chg = ml' ++ [(al, listOf (List.toArray av') an'), (c, co)] ∧
        ((∃ pc' st' to, Mach w p loose mean mg mb (wrdsOf n ps ++ [30 + 8388608 * ((n : Int) + 1)]) st' pc' o c al co ml' ∧ Ph n ps row pc' st' av'.length ∧ pc0 + k ≤ pc' ∧ (k = 1 → pc' ≤ 5 * (pc0 / 5) + 5) ∧ ∃ v, new = [(T, { cls := Value.type "tuple", data := Data.seq #[Value.str (Str.ofString "steps") to, v] })]) ∨
         (∃ R rv rn to, new = [(T, { cls := Value.type "tuple", data := Data.seq #[Value.str (Str.ofString "back") to, Value.ref R] }), (R, listOf (List.toArray rv) rn)] ∧ IntsAre rv (ran ps row) ∧ av'.length = ps.length ∧ (k = 1 → pc0 = 5 * ps.length)))) := by
  unfold CSpec; k_fill
  intro dp un gd cn cs ad ccd cl outer A₀ base h₀ L m rest s Q E B F X N hoff T hk hd hu hret
  (try simp only [List.forall_mem_cons, List.not_mem_nil, false_implies, implies_true, and_true, List.nil_append, List.cons_append] at hoff N)
  (try simp only [List.forall_mem_cons, List.not_mem_nil, false_implies, implies_true, and_true, List.nil_append, List.cons_append] at hret)
  refine wpAny_call ?_; k_extra "my enter"
  k_steps
  refine ⟨?_⟩
  refine' loop_range0 (n := k) (nx₀ := ml ++ (al, listOf av.toArray an) :: (c, co) :: rest) (JR w p loose mean mg mb n ps row pc0 o c al co ml rest) rfl (by assumption) (by omega) (by omega) (by assumption) (by assumption) ?hn ?hj ?turn ?done
  case hn => k_extra "my sub"
  case hj => exact .mk rfl hM hP rfl (by omega) (fun _ => rfl) (fun h => absurd h (by decide))
  case turn =>
    intro i m₁ nx h tk own tt hlt hown hJ F1 N1
    refine byc ?_; intro hGG
    cases hJ with
    | @mk ml' st' av' an' pc hself hM' hP' hmap hpc hpi0 hpi1 =>
    cases hM' with
    | @mk d S cd kk li wx wd f ce t0 t1 t2 t3 t4 t5 t6 t7 t8 u w0 w1 w2 w3 w4 w5 v3 v7 a0 a1 a2 a3 a5 sn wn ws fd eo hO hI hC =>
    have hO9 := hO
    obtain ⟨⟨d1, d2, d3, d4, d5, d6, d7, d8, d9⟩, ⟨s1, s2, s3, s4, s5, s6, s7, s8⟩, ⟨b1, b2, b3, b4, b5, b6, b7⟩, ⟨f1, f2, f3, f4⟩, ⟨e1, e2, e3, e4⟩, ⟨c1, c2, c3, c4⟩, ⟨x1, x2, x3⟩⟩ := hO
    refine hGG ?_; clear hGG
    have zw := hI.length
    have zc : (wrdsOf n ps ++ [30 + 8388608 * ((n : Int) + 1)]).length = 5 * ps.length + 1 := by rw [List.length_append, wrds_length]; rfl
    have F2 := ((FrK.ini F1).k ((if_neg (by decide)).trans hself)).fr
    clear F1
    have hof : ∀ p ∈ [(o, instObj 508 d), (d, dictOf (sEnts w t0 t1 t2 t3 t4 t5 t6 t7 t8 (.ref cd) (.ref kk) (.ref S) v3 (.ref li) (.ref wx) (.int (pc : Int) u) v7 .none) 9), (S, listOf st'.toArray sn), (cd, listOf ws.toArray wn),
      (wx, instObj 417 wd), (wd, dictOf (wEnts w w0 w1 w2 w3 w4 w5 a0 a1 a2 a3 (.ref f) a5) 6), (f, fnObj fd), (ce, eo)], Off p.1 rest := off_of_map (fun p hp => hoff p (List.mem_append_left _ hp)) hmap
    have hof2 := hoff (al, listOf av.toArray an) (List.mem_append_right _ (.head _))
    have hof3 := hoff (c, co) (List.mem_append_right _ (.tail _ (.head _)))
    have hmap9 := hmap
    clear hoff hmap
    simp only [List.forall_mem_cons, List.cons_append, List.nil_append, List.not_mem_nil, false_implies, implies_true, and_true] at hof
    refine byc ?_; intro hGG
    obtain ⟨r1, r2, r3, r4, r5, r6, r7, r8⟩ := hof
    refine hGG ?_; clear hGG
    have o1 := own_off hown (.head _)
    have o2 := own_off hown (.tail _ (.head _))
    have o3 := own_off hown (.tail _ (.tail _ (.head _)))
    have o4 := own_off hown (.tail _ (.tail _ (.tail _ (.head _))))
    have o5 := own_off hown (.tail _ (.tail _ (.tail _ (.tail _ (.head _)))))
    have o6 := own_off hown (.tail _ (.tail _ (.tail _ (.tail _ (.tail _ (.head _))))))
    have o7 := own_off hown (.tail _ (.tail _ (.tail _ (.tail _ (.tail _ (.tail _ (.head _)))))))
    have o8 := own_off hown (.tail _ (.tail _ (.tail _ (.tail _ (.tail _ (.tail _ (.tail _ (.head _))))))))
    have o9 := own_off hown (.tail _ (.tail _ (.tail _ (.tail _ (.tail _ (.tail _ (.tail _ (.tail _ (.head _)))))))))
    have o10 := own_off hown (.tail _ (.tail _ (.tail _ (.tail _ (.tail _ (.tail _ (.tail _ (.tail _ (.tail _ (.head _))))))))))
    simp only [List.cons_append, List.append_assoc, List.nil_append] at N1
    have zl := hP'.len
    have zp := hP'.asks_le
    rw [zc] at zw
    have hpc0 : ((pc : Int)).toNat = pc := Int.toNat_natCast pc
    cases id hP' with
    | cmp j h1 h2 h3 h4 h5 =>
      rcases Nat.lt_or_ge j ps.length with hj | hj
      · obtain ⟨⟨a, b⟩, hab⟩ : ∃ p, ps[j]? = some p := ⟨_, List.getElem?_eq_getElem hj⟩
        refine byc ?_; intro hGG
        obtain ⟨ha, hb2, hne⟩ := hb _ (List.mem_of_getElem? hab)
        refine hGG ?_; clear hGG
        dsimp only at ha hb2 hne
        have hw := wrds_at (n := n) (e := [30 + 8388608 * ((n : Int) + 1)]) (k := 0) (by decide) hab
        have hw1 := wrds_at (n := n) (e := [30 + 8388608 * ((n : Int) + 1)]) (k := 1) (by decide) hab
        rw [Nat.add_zero, ← h1, ← hpc0] at hw
        have hw1' : (wrdsOf n ps ++ [30 + 8388608 * ((n : Int) + 1)]).getD (pc + 1) 0 = _ := h1 ▸ hw1
        generalize hcode : wrdsOf n ps ++ [30 + 8388608 * ((n : Int) + 1)] = code at *
        have hw : code.getD ((pc : Int)).toNat 0 = 24 + 16384 * (a : Int) + 8388608 * (b : Int) := hw
        have hx : code.getD ((pc : Int)).toNat 0 % 64 = 24 := by rw [hw]; omega
        have hx0 : code.getD ((pc : Int)).toNat 0 / 64 % 256 = 0 := by rw [hw]; omega
        have hxc : code.getD ((pc : Int)).toNat 0 / 16384 % 512 = (a : Int) := by rw [hw]; omega
        have hxb : code.getD ((pc : Int)).toNat 0 / 8388608 = (b : Int) := by rw [hw]; omega
        refine byc ?_; intro hGG
        obtain ⟨u1, hv1⟩ := st_read h5 h4 hb2
        obtain ⟨u2, hv2⟩ := st_read h5 h4 ha
        refine hGG ?_; clear hGG
        have hj1 : code.getD (pc + 1) 0 = 22 + 16384 * 131074 := by rw [hw1']; rfl
        have hv1' : st'.getD b Value.none = .int ((ran (ps.take j) row).getD b 0) u1 := hv1
        k_steps
        refine ⟨?_⟩
        rename News _ _ _ _ => kN
        rw [show (pc : Int) + 1 = ((pc + 1 : Nat) : Int) by omega] at kN
        k_dflt (refine' CSpec.use ?B ?F ?X ?N ?T ?P (done_cmp (pc := pc + 1) hx hx0 hxc hxb ?q1 ?q2 ?q3 ?q4 hv1 hv2 ?q5 ?q6 (.mk hO9 hI hC) ?q7 ?q8 hj1) ?hk ?ho ?hd ?hu ?_)
        (case B => k_asm); (case F => k_asm); (case X => k_asm); (case N => exact kN); (case T => k_asm); (case P => k_extra "my pick")
        (case q1 => omega); (case q2 => omega); (case q3 => omega); (case q4 => omega); (case q5 => omega); (case q6 => omega); (case q7 => omega); (case q8 => omega)
        (case hk => first | exact rfl | assumption)
        (case ho => k_extra "my off"); (case hd => ktr_room); (case hu => ktr_units)
        k_whole
        intro r4 chg new h9 tk9 F9 N9 o9' hp9
        refine byc ?_; intro hGG
        obtain ⟨ml2, av2, an2, rfl, hM2, hmap2, hl2, rfl, rfl⟩ := hp9
        refine hGG ?_; clear hGG
        obtain ⟨pc2, e2, hP2, hlt2, hle2⟩ : ∃ pc2, (if (ran (ps.take j) row).getD b 0 < (ran (ps.take j) row).getD a 0 then pc + 1 + 1 else pc + 1 + 4) = pc2 ∧ Ph n ps row pc2 st' av2.length ∧ pc < pc2 ∧ pc2 ≤ 5 * (pc / 5) + 5 := by
          refine ⟨_, rfl, ?_⟩
          rw [hl2, h3]
          by_cases hq : (ran (ps.take j) row).getD b 0 < (ran (ps.take j) row).getD a 0
          · rw [if_pos hq]
            have := Ph.swap hab h4 h5 hq
            rw [← h1] at this
            exact ⟨this, by omega, by omega⟩
          · rw [if_neg hq]
            have := Ph.skip hab h4 h5 hq
            rw [← h1] at this
            exact ⟨this, by omega, by omega⟩
        rw [e2] at hM2
        clear e2 hv1 hv2 hv1' hx hx0 hxc hxb hw hj1 hw1'
        clear o9'
        revert N9
        apply Mach.atK hM2 hmap2
        intro kk' li' t0' t1' t2' t3' t4' t5' t6' t7' t8' u' w0' w1' w2' w3' w4' w5' v3' v7' a0' a1' a2' a3' a5' sn' wn' ws' fd' eo' hO' hI' hC' N9
        simp only [List.cons_append, List.append_assoc, List.nil_append] at N9
        clear kN N1
        k_steps
        rename News _ _ _ _ => N7
        rename Fr _ _ _ _ => F7
        refine byc ?_; intro hGG
        subst hcode
        refine hGG ?_; clear hGG
        refine' InvEndG.intro F7 N7 (.mk rfl (.mk hO' hI' hC') hP2 ?hm1 ?hp1 ?hp2 ?hp3) ?ha1 ?hn1 ?ho1
        case hp1 => omega
        case hp2 => exact fun h => absurd h (Nat.succ_ne_zero i)
        case hp3 => exact fun h => by have z1 := hpi0 (by omega); rw [z1] at hle2; exact hle2
        case hn1 => k_extra "my sub"
        case ho1 => k_extra "my sub"
        case ha1 => exact hown
        case hm1 => exact hmap9
      · obtain rfl : j = ps.length := by omega
        rw [List.take_length] at h5
        have hw := wrds_end (n := n) (e := 30 + 8388608 * ((n : Int) + 1)) (ps := ps)
        rw [← h1, ← hpc0] at hw
        generalize hcode : wrdsOf n ps ++ [30 + 8388608 * ((n : Int) + 1)] = code at *
        have hx : code.getD ((pc : Int)).toNat 0 % 64 = 30 := by rw [hw]; omega
        have hx0 : code.getD ((pc : Int)).toNat 0 / 64 % 256 = 0 := by rw [hw]; omega
        have hxb : code.getD ((pc : Int)).toNat 0 / 8388608 = (n : Int) + 1 := by rw [hw]; omega
        k_steps
        refine ⟨?_⟩
        k_dflt (refine' CSpec.use ?B2 ?F2 ?X2 ?N2 ?T2 ?P2 (done_back hx hx0 hxb ?q9 ?q10 s1 d2.symm d1.symm) ?hk2 ?ho2 ?hd2 ?hu2 ?_)
        (case B2 => k_asm); (case F2 => k_asm); (case X2 => k_asm); (case N2 => k_asm); (case T2 => k_asm); (case P2 => k_extra "my pick")
        (case q9 => omega); (case q10 => omega)
        (case hk2 => first | exact rfl | assumption)
        (case ho2 => k_extra "my off"); (case hd2 => ktr_room); (case hu2 => ktr_units)
        k_whole
        intro r4 chg new h9 tk9 F9 N9 o9' hp9
        refine byc ?_; intro hGG
        obtain ⟨t0'', t1'', t2'', t3'', t4'', t5'', t6'', t7'', t8'', R, rn, rfl, rfl, rfl⟩ := hp9
        refine hGG ?_; clear hGG
        simp only [List.cons_append, List.append_assoc, List.nil_append] at N9
        simp only [List.forall_mem_cons, List.cons_append, List.nil_append, List.append_nil, Mine.off_cons, Mine.off_append, List.not_mem_nil, false_implies, implies_true, and_true] at o9'
        refine byc ?_; intro hGG
        k_extra "my split"
        refine hGG ?_; clear hGG
        clear N1
        k_steps
        rename News h₀ _ _ _ => N7
        rename Fr h₀ _ _ _ => F7
        refine byc ?_; intro hGG
        k_extra "my split"
        refine hGG ?_; clear hGG
        refine' hret _ [(o, _), (d, _), (S, _), (cd, _), (wx, _), (wd, _), (f, fnObj fd), (ce, eo), (al, listOf av'.toArray an'), (c, co)] [(_, _), (R, _)] _ _ ?f7 ?n7 ?o7 ⟨_, [(o, _), (d, _), (S, _), (cd, _), (wx, _), (wd, _), (f, fnObj fd), (ce, eo)], av', an', rfl, ?mp7, rfl, Or.inr ⟨R, _, _, _, rfl, ?i7, ?l7, ?k7⟩⟩
        (case n7 => refine kst_newsOf N7 ?_; k_extra "my sub")
        (case f7 => assumption); (case o7 => refine offs_cons (Off.append (Off.append (off_map hmap9 ?_) ?_) ?_) (offs_cons (Off.append (Off.append (off_map hmap9 ?_) ?_) ?_) offs_nil) <;> k_all)
        case mp7 => exact hmap9
        case i7 => exact h5
        case l7 => exact h3
        case k7 => exact fun hk => by have z1 := hpi0 (by omega); omega
    | mov j i' a b st1 h1 h2 h3 h4 h5 h6 h7 h8 =>
      refine byc ?_; intro hGG
      obtain ⟨ha, hb2, hne⟩ := hb _ (List.mem_of_getElem? h6)
      refine hGG ?_; clear hGG
      dsimp only at ha hb2 hne
      refine byc ?_; intro hGG
      obtain ⟨x, y, hxy⟩ : ∃ x y, (mv3 n a b).getD i' (0, 0) = (x, y) := ⟨_, _, rfl⟩
      refine hGG ?_; clear hGG
      have hw := wrds_mov (n := n) (e := [30 + 8388608 * ((n : Int) + 1)]) h2 h6
      have hlx := mv3_lt (m := n + 13) ha hb2 (by omega) h2
      have hP2 := Ph.step h2 h4 h5 h6 h7 ha hb2 hne
      rw [← h8, ← h3, ← h1] at hP2
      rw [hxy] at hw hlx hP2
      dsimp only at hw hlx hP2
      refine byc ?_; intro hGG
      obtain ⟨hlx, hly⟩ := hlx
      refine hGG ?_; clear hGG
      rw [← h1, ← hpc0] at hw
      generalize hcode : wrdsOf n ps ++ [30 + 8388608 * ((n : Int) + 1)] = code at *
      have hx : code.getD ((pc : Int)).toNat 0 % 64 = 0 := by rw [hw]; omega
      have hxa : code.getD ((pc : Int)).toNat 0 / 64 % 256 = (x : Int) := by rw [hw]; omega
      have hxb : code.getD ((pc : Int)).toNat 0 / 8388608 = (y : Int) := by rw [hw]; omega
      have hj : j < ps.length := (List.getElem?_eq_some_iff.mp h6).1
      k_steps
      refine ⟨?_⟩
      k_dflt (refine' CSpec.use ?B1 ?F1 ?X1 ?N1 ?T1 ?P1 (done_move hx hxa hxb ?q5 ?q6 ?q7 s1 d2.symm d1.symm) ?hk1 ?ho1 ?hd1 ?hu1 ?_)
      (case B1 => k_asm); (case F1 => k_asm); (case X1 => k_asm); (case N1 => k_asm); (case T1 => k_asm); (case P1 => k_extra "my pick")
      (case q5 => omega); (case q6 => omega); (case q7 => omega)
      (case hk1 => first | exact rfl | assumption)
      (case ho1 => k_extra "my off"); (case hd1 => ktr_room); (case hu1 => ktr_units)
      k_whole
      intro r4 chg new h9 tk9 F9 N9 o9' hp9
      refine byc ?_; intro hGG
      obtain ⟨t0'', t1'', t2'', t3'', t4'', t5'', t6'', t7'', t8'', u'', rfl, rfl, rfl⟩ := hp9
      refine hGG ?_; clear hGG
      simp only [List.cons_append, List.append_assoc, List.nil_append] at N9
      rw [show (pc : Int) + 1 = ((pc + 1 : Nat) : Int) by omega] at N9
      clear N1
      k_steps
      rename News _ _ _ _ => N7
      rename Fr _ _ _ _ => F7
      refine byc ?_; intro hGG
      subst hcode
      refine hGG ?_; clear hGG
      refine' InvEndG.intro F7 N7 (.mk rfl (.mk hO9 hI hC) hP2 ?hm1 ?hp1 ?hp2 ?hp3) ?ha1 ?hn1 ?ho1
      case hp1 => omega
      case hp2 => exact fun h => absurd h (Nat.succ_ne_zero i)
      case hp3 => exact fun h => by have z1 := hpi0 (by omega); omega
      case hn1 => k_extra "my sub"
      case ho1 => k_extra "my sub"
      case ha1 => exact hown
      case hm1 => exact hmap9
  case done =>
    intro m₁ nx h tk hJ F1 N1
    refine byc ?_; intro hGG
    cases hJ with
    | @mk ml' st' av' an' pc hself hM' hP' hmap hpc hpi0 hpi1 =>
    have hM9 := hM'
    cases hM' with
    | @mk d S cd kk li wx wd f ce t0 t1 t2 t3 t4 t5 t6 t7 t8 u w0 w1 w2 w3 w4 w5 v3 v7 a0 a1 a2 a3 a5 sn wn ws fd eo hO hI hC =>
    refine hGG ?_; clear hGG
    have F2 := ((FrK.ini F1).k hself).fr
    clear F1
    simp only [List.cons_append, List.append_assoc, List.nil_append] at N1
    have hmap9 := hmap
    k_steps
    rename News h₀ _ _ _ => N7
    refine byc ?_; intro hGG
    k_extra "my split"
    refine hGG ?_; clear hGG
    refine' hret _ [(o, _), (d, _), (S, _), (cd, _), (wx, _), (wd, _), (f, fnObj fd), (ce, eo), (al, listOf av'.toArray an'), (c, co)] [(_, _)] _ _ ?f8 ?n8 ?o8 ⟨_, _, av', an', rfl, hmap9, rfl, Or.inl ⟨pc, st', _, hM9, hP', hpc, ?k8, _, rfl⟩⟩
    (case n8 => refine kst_newsOf N7 ?_; k_extra "my sub")
    (case f8 => assumption); (case o8 => refine offs_cons (Off.append (Off.append (off_map hmap9 ?_) ?_) ?_) offs_nil <;> k_all)
    case k8 => exact hpi1

theorem lines_D3 : True := by
  k_with_none
  k_with "my own omega" => (first | omega (splitDisjunctions := false) | ((repeat (rename _ ∧ _ => hC_q289; cases hC_q289)); (repeat (rename _ ≠ _ => hX_q289; clear hX_q289)); omega (splitDisjunctions := true)))
  k_with "my mem" => (first | with_reducible exact mem_c | with_reducible exact mem_2 | with_reducible exact mem_3 | with_reducible exact mem_4 | (with_reducible refine skip_4 ?_; k_extra "my mem") | (with_reducible refine skip_1 ?_; k_extra "my mem") | with_reducible assumption | (with_reducible refine List.mem_append_left _ ?_; k_extra "my mem") | (with_reducible refine List.mem_append_right _ ?_; k_extra "my mem"))
  k_with "my mem2" => (first | exact List.mem_cons_self | assumption | (refine List.mem_cons_of_mem _ ?_; k_extra "my mem2") | (refine List.mem_append_left _ ?_; k_extra "my mem2") | (refine List.mem_append_right _ ?_; k_extra "my mem2"))
  k_with "my own k_mem" => (first | k_extra "my mem" | k_extra "my mem2")
  k_with "my ne" => (first | with_reducible assumption | with_reducible exact Ne.symm (by with_reducible assumption) | with_reducible exact Nat.ne_of_lt (by with_reducible assumption) | with_reducible exact Nat.ne_of_gt (by with_reducible assumption))
  k_with "my own k_ne" => ((refine neN ?_; first | k_extra "my ne" | ((try dsimp only); k_extra "my ne") | (k_extra "my split"; (try dsimp only); first | k_extra "my ne" | omega (splitDisjunctions := false))))
  k_with "my upd" => (first | (refine' Upd.head ?a_q295; (case a_q295 => k_all)) | (refine' Upd.tail ?a_q295 ?b_q295; (case a_q295 => k_ne); (case b_q295 => k_extra "my upd")))
  k_with "my own k_upd" => (k_extra "my upd")
  k_with "my updF" => (first | (refine' UpdF.head ?a_q297; (case a_q297 => k_all)) | (refine' UpdF.tail ?a_q297 ?b_q297; (case a_q297 => k_ne); (case b_q297 => k_extra "my updF")))
  k_with "my own k_updF" => (k_extra "my updF")
  k_with "my split" => (repeat (first | (rename _ ∧ _ ∧ _ ∧ _ ∧ _ ∧ _ ∧ _ ∧ _ => hC_q299; refine elim_8 hC_q299 ?_; clear hC_q299; intro _ _ _ _ _ _ _ _) | (rename _ ∧ _ ∧ _ ∧ _ => hC_q299; refine elim_4 hC_q299 ?_; clear hC_q299; intro _ _ _ _) | (rename _ ∧ _ => hC_q299; cases hC_q299)))
  k_with "my offleaf" => (first | assumption | exact Off.nil | exact Off.of1 (by assumption) | exact Off.ofLt (by assumption) | exact Off.ofLt (allLt_left (by assumption)) | exact Off.ofLt (allLt_right (by assumption)) | exact Off.ofLt (allLt_left (allLt_right (by assumption))) | exact Off.ofLt (allLt_right (allLt_right (by assumption))))
  k_with "my own k_all" => ((show Off _ _; first | assumption | (k_extra "my split"; repeat' (first | with_reducible exact Off.nil | with_reducible refine off_c ?_ ?_ | with_reducible refine Off.append ?_ ?_ | k_ne | k_extra "my offleaf"))))
  k_with "my enter" => (k_dflt (first | (refine' code_def ?k1_q302 ?k2_q302 ?k3_q302 ?k4_q302 ?k5_q302 ?kA_q302 ?kF_q302 ?kK_q302 ?k6_q302 ?k7_q302 ?k8_q302 ?k9_q302 ?kB_q302 ?_ ?c2_q302 ?c3_q302 ?c4_q302 ?c5_q302; (case kA_q302 => exact rfl); (case kF_q302 => exact rfl); (case kK_q302 => first | exact rfl | assumption); (case k1_q302 => k_asm); (case k2_q302 => k_asm); (case k3_q302 => k_asm); (case k4_q302 => k_asm); (case k5_q302 => k_asm); (case k6_q302 => k_is); (case k7_q302 => k_is); (case k8_q302 => ktr_room); (case k9_q302 => first | exact BindsTo.of_eq rfl | exact binds_K (by k_in) rfl (by k_is) rfl rfl rfl); (case c5_q302 => decide); (case kB_q302 => exact locs rfl); (case c2_q302 => exact rfl); (case c3_q302 => exact rfl); (case c4_q302 => exact rfl); k_whole; intro g'_q302 L'_q302 h'_q302 FG'_q302 F'_q302 N'_q302 B'_q302 X'_q302 T'_q302; (try dsimp only); (try k_fold)) | (refine' code_defC ?k1_q302 ?k2_q302 ?k3_q302 ?k4_q302 ?k5_q302 ?kA_q302 ?kF_q302 ?kK_q302 ?k6_q302 ?k7_q302 ?k8_q302 ?k9_q302 ?kB_q302 ?kD_q302 ?_ ?c2_q302 ?c3_q302 ?c4_q302; (case kA_q302 => exact rfl); (case kF_q302 => exact rfl); (case kK_q302 => first | exact rfl | assumption); (case k1_q302 => k_asm); (case k2_q302 => k_asm); (case k3_q302 => k_asm); (case k4_q302 => k_asm); (case k5_q302 => k_asm); (case k6_q302 => k_is); (case k7_q302 => k_is); (case k8_q302 => ktr_room); (case k9_q302 => first | exact BindsTo.of_eq rfl | exact binds_K (by k_in) rfl (by k_is) rfl rfl rfl); (case kB_q302 => exact rfl); (case kD_q302 => decide +kernel); (case c2_q302 => exact rfl); (case c3_q302 => exact rfl); (case c4_q302 => exact rfl); k_whole; intro g'_q302 L'_q302 h'_q302 tk'_q302 cells'_q302 FG'_q302 F'_q302 N'_q302 Y'_q302 B'_q302 X'_q302 T'_q302 l1_q302; (try k_lt l1_q302); (k_cells Y'_q302); (try simp only [List.cons_append, List.nil_append] at N'_q302); (try dsimp only); (try k_fold))))
  k_with "my in" => (first | assumption | (refine List.Mem.tail _ ?_; k_extra "my in") | (refine List.mem_append.mpr (Or.inl ?_); k_extra "my in") | (refine List.mem_append.mpr (Or.inr ?_); k_extra "my in"))
  k_with "my sub" => (((try simp only [List.nil_append, List.cons_append, List.append_assoc]); repeat' (first | with_reducible exact sub_nil | with_reducible refine sub_cons ?_ ?_ | with_reducible refine sub_append ?_ ?_ | (intro p_q304 hp_q304; k_extra "my in") | k_mem)))
  k_with "my off" => (((try simp only [List.nil_append, List.cons_append]); repeat' (first | with_reducible exact offs_nil | with_reducible refine offs_cons ?_ ?_ | k_all)))
  k_with "my pick" => ((repeat' (first | exact Picks.nil | refine' Picks.cons ?_ ?_ | exact Pick.head | refine' Pick.tail ?_)))
  k_with "pyIter ref" => ((k_here; (with_reducible show wpAny _ _ (pyIter (Value.ref _)) (fun it_q307 s₂_q307 => LoopAtV _ _ _ _ _ _ _ _ _ it_q307 s₂_q307) _ _); refine of_stop ?_))
  k_with "exec While" => ((k_here; refine of_stop ?_))
  k_with "call builtin:list.index" => ((k_here; (with_reducible show wpAny _ _ (call (Value.builtin _) [Value.ref _, Value.int _ _]) _ _ _); k_dflt (refine' idx_nat ?N_q309 ?m_q309 ?i_q309 ?k_q309 ?z_q309 ?_; (case N_q309 => k_asm); (case m_q309 => k_mem); (case i_q309 => assumption); (case k_q309 => assumption); (case z_q309 => (first | assumption | omega)); k_whole); intro u'_q309))
  k_with "call builtin:list.extend" => ((k_here; (with_reducible show wpAny _ _ (call (Value.builtin _) [Value.ref _, Value.ref _]) _ _ _); k_extra "my split"; (try (rename List.length _ = List.length (List.map _ _) => hL9_q310; simp only [List.length_map, rangeKs_length] at hL9_q310)); k_dflt (refine' ext_any ?F_q310 ?N_q310 ?b_q310 ?U_q310 ?z_q310 ?_; (case F_q310 => k_asm); (case N_q310 => k_asm); (case b_q310 => k_mem); (case U_q310 => k_upd); (case z_q310 => k_extra "my len"); k_whole); intro h'_q310 F'_q310 N'_q310; (try k_sweep)))
  k_with "my ints" => (first | assumption | exact IntsAre.nil | exact IntsAre.cons _ _ IntsAre.nil)
  k_with "my len" => (first | omega | (simp only [List.length_append, List.length_map, List.length_replicate, Int.reduceToNat, List.length_cons, List.length_nil, List.length_range, rangeKs_length]; omega))
  k_with "binaryOp Add ref ref" => ((k_here; (with_reducible show wpAny _ _ (binaryOp _ (Value.ref _) (Value.ref _)) _ _ _); k_extra "my split"; k_dflt (refine' add_any ?F_q313 ?N_q313 ?a_q313 ?b_q313 ?z_q313 ?_; (case F_q313 => k_asm); (case N_q313 => k_asm); (case a_q313 => k_mem); (case b_q313 => k_mem); (case z_q313 => k_extra "my len"); k_whole); intro D'_q313 us'_q313 h'_q313 F'_q313 N'_q313 l1_q313 he'_q313 hl'_q313; (try k_lt l1_q313); (try simp only [List.length_cons, List.length_nil, List.length_map] at hl'_q313); (try k_sweep)))
  k_with "binaryOp Add ref ref" => ((k_here; (with_reducible show wpAny _ _ (binaryOp _ (Value.ref _) (Value.ref _)) _ _ _); k_extra "my split"; k_dflt (refine' add_ints ?F_q314 ?N_q314 ?a_q314 ?b_q314 ?i_q314 ?j_q314 ?z_q314 ?_; (case F_q314 => k_asm); (case N_q314 => k_asm); (case a_q314 => k_mem); (case b_q314 => k_mem); (case i_q314 => k_extra "my ints"); (case j_q314 => k_extra "my ints"); (case z_q314 => k_extra "my len"); k_whole); intro D'_q314 us'_q314 ns'_q314 h'_q314 F'_q314 N'_q314 l1_q314 hI'_q314 he'_q314 hl'_q314 hv'_q314; (try k_lt l1_q314); (try simp only [List.length_cons, List.length_nil, List.length_map] at hl'_q314); (try k_sweep)))
  k_with "subscriptTail Name Name ref int" => ((k_here; (with_reducible show wpAny _ _ (subscriptTail _ _ (Value.ref _) (Value.int _ _)) _ _ _); k_dflt (refine' ksa_sub ?k1_q315 ?k2_q315 ?k3_q315 ?k4_q315 ?k5_q315 ?k6_q315 ?_ ?k7_q315; (case k1_q315 => k_asm); (case k2_q315 => k_mem); (case k3_q315 => assumption); (case k4_q315 => omega); (case k5_q315 => k_extra "my len"); (case k6_q315 => omega); (case k7_q315 => with_unfolding_all rfl); k_whole); intro _))
  k_with "subscriptTail Name BinOp ref int" => ((k_here; (with_reducible show wpAny _ _ (subscriptTail _ _ (Value.ref _) (Value.int _ _)) _ _ _); k_dflt (refine' ksa_sub ?k1_q316 ?k2_q316 ?k3_q316 ?k4_q316 ?k5_q316 ?k6_q316 ?_ ?k7_q316; (case k1_q316 => k_asm); (case k2_q316 => k_mem); (case k3_q316 => assumption); (case k4_q316 => omega); (case k5_q316 => k_extra "my len"); (case k6_q316 => omega); (case k7_q316 => with_unfolding_all rfl); k_whole); intro _))
  k_with "call builtin:len" => ((k_here; (with_reducible show wpAny _ _ (call (Value.builtin _) [Value.ref _]) _ _ _); k_dflt (refine' len_any ?N_q317 ?m_q317 ?e_q317 ?z_q317 ?_; (case N_q317 => k_asm); (case m_q317 => k_mem); (case e_q317 => assumption); (case z_q317 => k_extra "my len"); k_whole); intro _ _))
  k_with "eval Lambda" => ((k_here; k_dflt (refine' lam_hit (P := 521) (c := 525) ?F_q318 ?N_q318 ?T_q318 ?C_q318 ?cd_q318 ?U_q318 ?t_q318 ?cl_q318 ?d_q318 ?_; (case F_q318 => k_asm); (case N_q318 => k_asm); (case T_q318 => k_asm); (case cd_q318 => exact rfl); (case U_q318 => k_updF); (case C_q318 => exact codeHd_of_K (by assumption) (by kernel_rfl)); (case t_q318 => assumption); (case cl_q318 => exact rfl); (case d_q318 => exact rfl); k_whole); intro f'_q318 ps'_q318 h'_q318 tk'_q318 F'_q318 N'_q318 ht'_q318; (try dsimp only at N'_q318); (try k_sweep)))
  k_with "my own k_room" => (ktr_room)
  k_with "binaryOp Mult ref int" => ((k_here; (with_reducible show wpAny _ _ (binaryOp Operator.Mult (Value.ref _) (Value.int _ _)) _ _ _); k_dflt (refine' mul_one' ?F_q320 ?N_q320 ?l_q320 ?lo_q320 ?hi_q320 ?z_q320 ?_; (case F_q320 => k_asm); (case N_q320 => k_asm); (case l_q320 => k_mem); (case lo_q320 => omega); (case hi_q320 => omega); (case z_q320 => decide); k_whole); intro D'_q320 h'_q320 F'_q320 N'_q320 l1_q320; (try k_lt l1_q320); (try k_sweep)))
  k_with "setItem ref int" => ((k_here; (with_reducible show wpAny _ _ (setItem (Value.ref _) (Value.int _ _) _) _ _ _); k_dflt (refine' set_any ?F_q321 ?N_q321 ?U_q321 ?z0_q321 ?z1_q321 ?z2_q321 ?_; (case F_q321 => k_asm); (case N_q321 => k_asm); (case U_q321 => k_upd); (case z0_q321 => omega); (case z1_q321 => k_extra "my len"); (case z2_q321 => k_extra "my len"); k_whole); intro h'_q321 F'_q321 N'_q321; (try k_sweep)))
  k_with "my item" => ((k_here; (with_reducible show wpAny _ _ (subscriptTail _ _ (Value.ref _) (Value.int _ _)) _ _ _); k_dflt (refine' item_any ?N_q322 ?m_q322 ?z0_q322 ?z1_q322 ?z2_q322 ?_ ?hs_q322 ?hg_q322; (case N_q322 => k_asm); (case m_q322 => k_mem); (case z0_q322 => omega); (case z1_q322 => k_extra "my len"); (case z2_q322 => k_extra "my len"); (case hs_q322 => with_unfolding_all rfl); (case hg_q322 => intro _; with_unfolding_all rfl); k_whole)))
  k_with "subscriptTail Name Slice ref ref" => ((k_here; (with_reducible show wpAny _ _ (subscriptTail _ (PySem.Expr.Slice _ _ none _) (Value.ref _) (Value.ref _)) _ _ _); k_dflt (refine' slice_head ?F_q323 ?N_q323 ?m_q323 ?x_q323 ?y_q323 ?z_q323 ?_ ?s_q323 ?t_q323; (case F_q323 => k_asm); (case N_q323 => k_asm); (case m_q323 => k_mem); (case x_q323 => first | exact rfl | omega); (case y_q323 => omega); (case z_q323 => k_extra "my len"); (case s_q323 => with_unfolding_all rfl); (case t_q323 => kmk_pure)); intro D'_q323 h'_q323 F'_q323 N'_q323 l1_q323; (try k_lt l1_q323); (try k_sweep)))
  k_with "subscriptTail" => ((k_here; (with_reducible show wpAny _ _ (subscriptTail _ _ (Value.ref _) (Value.str _ _)) _ _ _); k_dflt (refine kda_item (knd := PySem.strKind _ _) (by k_asm) (by k_mem) (by assumption) (strKind_is _ _ _ _) (by rfl) ?_)))
  trivial

theorem drawn {w : World} {p loose mean mg mb} {Bx Ax G : Addr} {bo : Obj} {av gv : List Value} {an gn : Nat} {sc : List Int} {many : Int} {t : Tok} (hbo : bo.IsDictOf (PySem.strKind PySem.Challenge.rw_xm0628_02.prog w) [(Str.ofString "all", Value.ref Ax), (Str.ofString "gone", Value.ref G)]) (ha : IntsAre av sc) (hz : sc.length ≤ 100) (hz2 : gv.length ≤ 1000) (hm : 1 ≤ many) (hm2 : many ≤ 100) (q1 : Ax ≠ Bx) (q2 : G ≠ Bx) (q3 : G ≠ Ax) :
    CSpec PySem.Challenge.rw_xm0628_02.prog w (hd02.heap_1 w.params) p loose mean mg mb 519 1 [.ref Bx, .int many t] [(Bx, bo), (Ax, listOf av.toArray an), (G, listOf gv.toArray gn)]
      (fun r chg new => ∃ x u gv' gn', r = .int x u ∧ 0 ≤ x ∧ x < many ∧ List.length gv' = gv.length + 1 ∧ chg = [(Bx, bo), (Ax, listOf av.toArray an), (G, listOf (List.toArray gv') gn')] ∧ new = []) := by
  have za := ha.length
  have zg : gv.length = gv.length := rfl
  unfold CSpec; k_fill
  intro dp un gd cn cs ad ccd cl outer A₀ base h₀ L m rest s Q E B F X N hoff T hk hd hu hret
  (try simp only [List.forall_mem_cons, List.not_mem_nil, false_implies, implies_true, and_true, List.nil_append, List.cons_append] at hoff N)
  (try simp only [List.forall_mem_cons, List.not_mem_nil, false_implies, implies_true, and_true, List.nil_append, List.cons_append] at hret)
  refine wpAny_call ?_; k_extra "my enter"
  k_steps
  · rw [Int.fmod_eq_emod_of_nonneg _ (by omega)]
    refine' hret _ [(Bx, _), (Ax, _), (G, _)] [] _ _ ?f1 ?n1 ?o1 ⟨_, _, (gv.toArray.push _).toList, _, rfl, Int.emod_nonneg _ (by omega), Int.emod_lt_of_pos _ (by omega), by simp, rfl, rfl⟩
    (case n1 => refine kst_newsOf (by assumption) ?_; k_extra "my sub"); (case f1 => assumption); (case o1 => k_extra "my off")
  · rw [Int.fmod_eq_emod_of_nonneg _ (by omega)]
    refine' hret _ [(Bx, _), (Ax, _), (G, _)] [] _ _ ?f2 ?n2 ?o2 ⟨_, _, (gv.toArray.push _).toList, _, rfl, Int.emod_nonneg _ (by omega), Int.emod_lt_of_pos _ (by omega), by simp, rfl, rfl⟩
    (case n2 => refine kst_newsOf (by assumption) ?_; k_extra "my sub"); (case f2 => assumption); (case o2 => k_extra "my off")

theorem lines_D4 : True := by
  k_with_none
  k_with "my own omega" => (first | omega (splitDisjunctions := false) | ((repeat (rename _ ∧ _ => hC_q325; cases hC_q325)); (repeat (rename _ ≠ _ => hX_q325; clear hX_q325)); omega (splitDisjunctions := true)))
  k_with "my mem" => (first | with_reducible exact mem_c | with_reducible exact mem_2 | with_reducible exact mem_3 | with_reducible exact mem_4 | (with_reducible refine skip_4 ?_; k_extra "my mem") | (with_reducible refine skip_1 ?_; k_extra "my mem") | with_reducible assumption | (with_reducible refine List.mem_append_left _ ?_; k_extra "my mem") | (with_reducible refine List.mem_append_right _ ?_; k_extra "my mem"))
  k_with "my mem2" => (first | exact List.mem_cons_self | assumption | (refine List.mem_cons_of_mem _ ?_; k_extra "my mem2") | (refine List.mem_append_left _ ?_; k_extra "my mem2") | (refine List.mem_append_right _ ?_; k_extra "my mem2"))
  k_with "my own k_mem" => (first | k_extra "my mem" | k_extra "my mem2")
  k_with "my ne" => (first | with_reducible assumption | with_reducible exact Ne.symm (by with_reducible assumption) | with_reducible exact Nat.ne_of_lt (by with_reducible assumption) | with_reducible exact Nat.ne_of_gt (by with_reducible assumption))
  k_with "my own k_ne" => ((refine neN ?_; first | k_extra "my ne" | ((try dsimp only); k_extra "my ne") | (k_extra "my split"; (try dsimp only); first | k_extra "my ne" | omega (splitDisjunctions := false))))
  k_with "my upd" => (first | (refine' Upd.head ?a_q331; (case a_q331 => k_all)) | (refine' Upd.tail ?a_q331 ?b_q331; (case a_q331 => k_ne); (case b_q331 => k_extra "my upd")))
  k_with "my own k_upd" => (k_extra "my upd")
  k_with "my updF" => (first | (refine' UpdF.head ?a_q333; (case a_q333 => k_all)) | (refine' UpdF.tail ?a_q333 ?b_q333; (case a_q333 => k_ne); (case b_q333 => k_extra "my updF")))
  k_with "my own k_updF" => (k_extra "my updF")
  k_with "my split" => (repeat (first | (rename _ ∧ _ ∧ _ ∧ _ ∧ _ ∧ _ ∧ _ ∧ _ => hC_q335; refine elim_8 hC_q335 ?_; clear hC_q335; intro _ _ _ _ _ _ _ _) | (rename _ ∧ _ ∧ _ ∧ _ => hC_q335; refine elim_4 hC_q335 ?_; clear hC_q335; intro _ _ _ _) | (rename _ ∧ _ => hC_q335; cases hC_q335)))
  k_with "my offleaf" => (first | assumption | exact Off.nil | exact Off.of1 (by assumption) | exact Off.ofLt (by assumption) | exact Off.ofLt (allLt_left (by assumption)) | exact Off.ofLt (allLt_right (by assumption)) | exact Off.ofLt (allLt_left (allLt_right (by assumption))) | exact Off.ofLt (allLt_right (allLt_right (by assumption))))
  k_with "my own k_all" => ((show Off _ _; first | assumption | (k_extra "my split"; repeat' (first | with_reducible exact Off.nil | with_reducible refine off_c ?_ ?_ | with_reducible refine Off.append ?_ ?_ | k_ne | k_extra "my offleaf"))))
  k_with "my enter" => (k_dflt (first | (refine' code_def ?k1_q338 ?k2_q338 ?k3_q338 ?k4_q338 ?k5_q338 ?kA_q338 ?kF_q338 ?kK_q338 ?k6_q338 ?k7_q338 ?k8_q338 ?k9_q338 ?kB_q338 ?_ ?c2_q338 ?c3_q338 ?c4_q338 ?c5_q338; (case kA_q338 => exact rfl); (case kF_q338 => exact rfl); (case kK_q338 => first | exact rfl | assumption); (case k1_q338 => k_asm); (case k2_q338 => k_asm); (case k3_q338 => k_asm); (case k4_q338 => k_asm); (case k5_q338 => k_asm); (case k6_q338 => k_is); (case k7_q338 => k_is); (case k8_q338 => ktr_room); (case k9_q338 => first | exact BindsTo.of_eq rfl | exact binds_K (by k_in) rfl (by k_is) rfl rfl rfl); (case c5_q338 => decide); (case kB_q338 => exact locs rfl); (case c2_q338 => exact rfl); (case c3_q338 => exact rfl); (case c4_q338 => exact rfl); k_whole; intro g'_q338 L'_q338 h'_q338 FG'_q338 F'_q338 N'_q338 B'_q338 X'_q338 T'_q338; (try dsimp only); (try k_fold)) | (refine' code_defC ?k1_q338 ?k2_q338 ?k3_q338 ?k4_q338 ?k5_q338 ?kA_q338 ?kF_q338 ?kK_q338 ?k6_q338 ?k7_q338 ?k8_q338 ?k9_q338 ?kB_q338 ?kD_q338 ?_ ?c2_q338 ?c3_q338 ?c4_q338; (case kA_q338 => exact rfl); (case kF_q338 => exact rfl); (case kK_q338 => first | exact rfl | assumption); (case k1_q338 => k_asm); (case k2_q338 => k_asm); (case k3_q338 => k_asm); (case k4_q338 => k_asm); (case k5_q338 => k_asm); (case k6_q338 => k_is); (case k7_q338 => k_is); (case k8_q338 => ktr_room); (case k9_q338 => first | exact BindsTo.of_eq rfl | exact binds_K (by k_in) rfl (by k_is) rfl rfl rfl); (case kB_q338 => exact rfl); (case kD_q338 => decide +kernel); (case c2_q338 => exact rfl); (case c3_q338 => exact rfl); (case c4_q338 => exact rfl); k_whole; intro g'_q338 L'_q338 h'_q338 tk'_q338 cells'_q338 FG'_q338 F'_q338 N'_q338 Y'_q338 B'_q338 X'_q338 T'_q338 l1_q338; (try k_lt l1_q338); (k_cells Y'_q338); (try simp only [List.cons_append, List.nil_append] at N'_q338); (try dsimp only); (try k_fold))))
  k_with "my in" => (first | assumption | (refine List.Mem.tail _ ?_; k_extra "my in") | (refine List.mem_append.mpr (Or.inl ?_); k_extra "my in") | (refine List.mem_append.mpr (Or.inr ?_); k_extra "my in"))
  k_with "my sub" => (((try simp only [List.nil_append, List.cons_append, List.append_assoc]); repeat' (first | with_reducible exact sub_nil | with_reducible refine sub_cons ?_ ?_ | with_reducible refine sub_append ?_ ?_ | (intro p_q340 hp_q340; k_extra "my in") | k_mem)))
  k_with "my off" => (((try simp only [List.nil_append, List.cons_append]); repeat' (first | with_reducible exact offs_nil | with_reducible refine offs_cons ?_ ?_ | k_all)))
  k_with "my pick" => ((repeat' (first | exact Picks.nil | refine' Picks.cons ?_ ?_ | exact Pick.head | refine' Pick.tail ?_)))
  k_with "pyIter ref" => ((k_here; (with_reducible show wpAny _ _ (pyIter (Value.ref _)) (fun it_q343 s₂_q343 => LoopAtV _ _ _ _ _ _ _ _ _ it_q343 s₂_q343) _ _); refine of_stop ?_))
  k_with "exec While" => ((k_here; refine of_stop ?_))
  k_with "call builtin:list.index" => ((k_here; (with_reducible show wpAny _ _ (call (Value.builtin _) [Value.ref _, Value.int _ _]) _ _ _); k_dflt (refine' idx_nat ?N_q345 ?m_q345 ?i_q345 ?k_q345 ?z_q345 ?_; (case N_q345 => k_asm); (case m_q345 => k_mem); (case i_q345 => assumption); (case k_q345 => assumption); (case z_q345 => (first | assumption | omega)); k_whole); intro u'_q345))
  k_with "call builtin:list.extend" => ((k_here; (with_reducible show wpAny _ _ (call (Value.builtin _) [Value.ref _, Value.ref _]) _ _ _); k_extra "my split"; (try (rename List.length _ = List.length (List.map _ _) => hL9_q346; simp only [List.length_map, rangeKs_length] at hL9_q346)); k_dflt (refine' ext_any ?F_q346 ?N_q346 ?b_q346 ?U_q346 ?z_q346 ?_; (case F_q346 => k_asm); (case N_q346 => k_asm); (case b_q346 => k_mem); (case U_q346 => k_upd); (case z_q346 => k_extra "my len"); k_whole); intro h'_q346 F'_q346 N'_q346; (try k_sweep)))
  k_with "my ints" => (first | assumption | exact IntsAre.nil | exact IntsAre.cons _ _ IntsAre.nil)
  k_with "my len" => (first | omega | (simp only [List.length_append, List.length_map, List.length_replicate, Int.reduceToNat, List.length_cons, List.length_nil, List.length_range, rangeKs_length]; omega))
  k_with "binaryOp Add ref ref" => ((k_here; (with_reducible show wpAny _ _ (binaryOp _ (Value.ref _) (Value.ref _)) _ _ _); k_extra "my split"; k_dflt (refine' add_any ?F_q349 ?N_q349 ?a_q349 ?b_q349 ?z_q349 ?_; (case F_q349 => k_asm); (case N_q349 => k_asm); (case a_q349 => k_mem); (case b_q349 => k_mem); (case z_q349 => k_extra "my len"); k_whole); intro D'_q349 us'_q349 h'_q349 F'_q349 N'_q349 l1_q349 he'_q349 hl'_q349; (try k_lt l1_q349); (try simp only [List.length_cons, List.length_nil, List.length_map] at hl'_q349); (try k_sweep)))
  k_with "binaryOp Add ref ref" => ((k_here; (with_reducible show wpAny _ _ (binaryOp _ (Value.ref _) (Value.ref _)) _ _ _); k_extra "my split"; k_dflt (refine' add_ints ?F_q350 ?N_q350 ?a_q350 ?b_q350 ?i_q350 ?j_q350 ?z_q350 ?_; (case F_q350 => k_asm); (case N_q350 => k_asm); (case a_q350 => k_mem); (case b_q350 => k_mem); (case i_q350 => k_extra "my ints"); (case j_q350 => k_extra "my ints"); (case z_q350 => k_extra "my len"); k_whole); intro D'_q350 us'_q350 ns'_q350 h'_q350 F'_q350 N'_q350 l1_q350 hI'_q350 he'_q350 hl'_q350 hv'_q350; (try k_lt l1_q350); (try simp only [List.length_cons, List.length_nil, List.length_map] at hl'_q350); (try k_sweep)))
  k_with "subscriptTail Name Name ref int" => ((k_here; (with_reducible show wpAny _ _ (subscriptTail _ _ (Value.ref _) (Value.int _ _)) _ _ _); k_dflt (refine' ksa_sub ?k1_q351 ?k2_q351 ?k3_q351 ?k4_q351 ?k5_q351 ?k6_q351 ?_ ?k7_q351; (case k1_q351 => k_asm); (case k2_q351 => k_mem); (case k3_q351 => assumption); (case k4_q351 => omega); (case k5_q351 => k_extra "my len"); (case k6_q351 => omega); (case k7_q351 => with_unfolding_all rfl); k_whole); intro _))
  k_with "subscriptTail Name BinOp ref int" => ((k_here; (with_reducible show wpAny _ _ (subscriptTail _ _ (Value.ref _) (Value.int _ _)) _ _ _); k_dflt (refine' ksa_sub ?k1_q352 ?k2_q352 ?k3_q352 ?k4_q352 ?k5_q352 ?k6_q352 ?_ ?k7_q352; (case k1_q352 => k_asm); (case k2_q352 => k_mem); (case k3_q352 => assumption); (case k4_q352 => omega); (case k5_q352 => k_extra "my len"); (case k6_q352 => omega); (case k7_q352 => with_unfolding_all rfl); k_whole); intro _))
  k_with "call builtin:len" => ((k_here; (with_reducible show wpAny _ _ (call (Value.builtin _) [Value.ref _]) _ _ _); k_dflt (refine' len_any ?N_q353 ?m_q353 ?e_q353 ?z_q353 ?_; (case N_q353 => k_asm); (case m_q353 => k_mem); (case e_q353 => assumption); (case z_q353 => k_extra "my len"); k_whole); intro _ _))
  k_with "eval Lambda" => ((k_here; k_dflt (refine' lam_hit (P := 521) (c := 525) ?F_q354 ?N_q354 ?T_q354 ?C_q354 ?cd_q354 ?U_q354 ?t_q354 ?cl_q354 ?d_q354 ?_; (case F_q354 => k_asm); (case N_q354 => k_asm); (case T_q354 => k_asm); (case cd_q354 => exact rfl); (case U_q354 => k_updF); (case C_q354 => exact codeHd_of_K (by assumption) (by kernel_rfl)); (case t_q354 => assumption); (case cl_q354 => exact rfl); (case d_q354 => exact rfl); k_whole); intro f'_q354 ps'_q354 h'_q354 tk'_q354 F'_q354 N'_q354 ht'_q354; (try dsimp only at N'_q354); (try k_sweep)))
  k_with "my own k_room" => (ktr_room)
  k_with "binaryOp Mult ref int" => ((k_here; (with_reducible show wpAny _ _ (binaryOp Operator.Mult (Value.ref _) (Value.int _ _)) _ _ _); k_dflt (refine' mul_one' ?F_q356 ?N_q356 ?l_q356 ?lo_q356 ?hi_q356 ?z_q356 ?_; (case F_q356 => k_asm); (case N_q356 => k_asm); (case l_q356 => k_mem); (case lo_q356 => omega); (case hi_q356 => omega); (case z_q356 => decide); k_whole); intro D'_q356 h'_q356 F'_q356 N'_q356 l1_q356; (try k_lt l1_q356); (try k_sweep)))
  k_with "setItem ref int" => ((k_here; (with_reducible show wpAny _ _ (setItem (Value.ref _) (Value.int _ _) _) _ _ _); k_dflt (refine' set_any ?F_q357 ?N_q357 ?U_q357 ?z0_q357 ?z1_q357 ?z2_q357 ?_; (case F_q357 => k_asm); (case N_q357 => k_asm); (case U_q357 => k_upd); (case z0_q357 => omega); (case z1_q357 => k_extra "my len"); (case z2_q357 => k_extra "my len"); k_whole); intro h'_q357 F'_q357 N'_q357; (try k_sweep)))
  k_with "my item" => ((k_here; (with_reducible show wpAny _ _ (subscriptTail _ _ (Value.ref _) (Value.int _ _)) _ _ _); k_dflt (refine' item_any ?N_q358 ?m_q358 ?z0_q358 ?z1_q358 ?z2_q358 ?_ ?hs_q358 ?hg_q358; (case N_q358 => k_asm); (case m_q358 => k_mem); (case z0_q358 => omega); (case z1_q358 => k_extra "my len"); (case z2_q358 => k_extra "my len"); (case hs_q358 => with_unfolding_all rfl); (case hg_q358 => intro _; with_unfolding_all rfl); k_whole)))
  k_with "subscriptTail Name Slice ref ref" => ((k_here; (with_reducible show wpAny _ _ (subscriptTail _ (PySem.Expr.Slice _ _ none _) (Value.ref _) (Value.ref _)) _ _ _); k_dflt (refine' slice_head ?F_q359 ?N_q359 ?m_q359 ?x_q359 ?y_q359 ?z_q359 ?_ ?s_q359 ?t_q359; (case F_q359 => k_asm); (case N_q359 => k_asm); (case m_q359 => k_mem); (case x_q359 => first | exact rfl | omega); (case y_q359 => omega); (case z_q359 => k_extra "my len"); (case s_q359 => with_unfolding_all rfl); (case t_q359 => kmk_pure)); intro D'_q359 h'_q359 F'_q359 N'_q359 l1_q359; (try k_lt l1_q359); (try k_sweep)))
  k_with "call ref" => ((k_here; (with_reducible show wpAny _ _ (call (Value.ref 519) _) _ _ _); k_dflt (refine' CSpec.use ?B_q360 ?F_q360 ?X_q360 ?N_q360 ?T_q360 ?P_q360 (drawn ?b_q360 ?a_q360 ?z1_q360 ?z2_q360 ?m1_q360 ?m2_q360 ?q1_q360 ?q2_q360 ?q3_q360) ?hk_q360 ?ho_q360 ?hd_q360 ?hu_q360 ?_; (case B_q360 => k_asm); (case F_q360 => k_asm); (case X_q360 => k_asm); (case N_q360 => k_asm); (case T_q360 => k_asm); (case P_q360 => k_extra "my pick"); (case b_q360 => assumption); (case a_q360 => assumption); (case z1_q360 => omega); (case z2_q360 => omega); (case m1_q360 => omega); (case m2_q360 => omega); (case q1_q360 => k_ne); (case q2_q360 => k_ne); (case q3_q360 => k_ne); (case hk_q360 => first | exact rfl | assumption); (case ho_q360 => k_extra "my off"); (case hd_q360 => ktr_room); (case hu_q360 => ktr_units); k_whole; refine of_stop ?_)))
  trivial

theorem emod_other {m a y : Int} (h0 : 0 ≤ a) (h1 : a < m) (h2 : 0 ≤ y) (h3 : y < m - 1) : (a + 1 + y) % m ≠ a := by
  intro h
  by_cases hc : a + 1 + y < m
  · rw [Int.emod_eq_of_lt (by omega) hc] at h; omega
  · rw [← Int.sub_emod_right, Int.emod_eq_of_lt (by omega) (by omega)] at h; omega
theorem pair_walk {w : World} {p loose mean mg mb} {Bx Ax G : Addr} {bo : Obj} {av gv : List Value} {an gn : Nat} {sc : List Int} {many : Int} {t : Tok} (hbo : bo.IsDictOf (PySem.strKind PySem.Challenge.rw_xm0628_02.prog w) [(Str.ofString "all", Value.ref Ax), (Str.ofString "gone", Value.ref G)]) (ha : IntsAre av sc) (hz : sc.length ≤ 100) (hz2 : gv.length ≤ 900) (hm : 2 ≤ many) (hm2 : many ≤ 100) (q1 : Ax ≠ Bx) (q2 : G ≠ Bx) (q3 : G ≠ Ax) :
    CSpec PySem.Challenge.rw_xm0628_02.prog w (hd02.heap_1 w.params) p loose mean mg mb 552 2 [.ref Bx, .int many t] [(Bx, bo), (Ax, listOf av.toArray an), (G, listOf gv.toArray gn)]
      (fun r chg new => ∃ D a b u1 u2 gv' gn', r = .ref D ∧ (a : Nat) < many ∧ (b : Nat) < many ∧ a ≠ b ∧ List.length gv' = gv.length + 2 ∧ chg = [(Bx, bo), (Ax, listOf av.toArray an), (G, listOf (List.toArray gv') gn')] ∧ new = [(D, { cls := Value.type "tuple", data := Data.seq #[Value.int (a : Int) u1, Value.int (b : Int) u2] })]) := by
  have za := ha.length
  unfold CSpec; k_fill
  intro dp un gd cn cs ad ccd cl outer A₀ base h₀ L m rest s Q E B F X N hoff T hk hd hu hret
  (try simp only [List.forall_mem_cons, List.not_mem_nil, false_implies, implies_true, and_true, List.nil_append, List.cons_append] at hoff N)
  (try simp only [List.forall_mem_cons, List.not_mem_nil, false_implies, implies_true, and_true, List.nil_append, List.cons_append] at hret)
  refine wpAny_call ?_; k_extra "my enter"
  k_steps
  refine ⟨?_⟩
  intro r4 chg new h9 tk9 F9 N9 o9' hp9
  refine byc ?_; intro hGG
  obtain ⟨x1, u1, gv1, gn1, rfl, x10, x11, hl1, rfl, rfl⟩ := hp9
  refine hGG ?_; clear hGG
  simp only [List.cons_append, List.append_assoc, List.nil_append] at N9
  k_steps
  refine ⟨?_⟩
  intro r4 chg new h8 tk8 F8 N8 o8' hp8
  refine byc ?_; intro hGG
  obtain ⟨x2, u2, gv2, gn2, rfl, x20, x21, hl2, rfl, rfl⟩ := hp8
  refine hGG ?_; clear hGG
  simp only [List.cons_append, List.append_assoc, List.nil_append] at N8
  k_steps
  refine byc ?_; intro hGG
  obtain ⟨a, rfl⟩ : ∃ a : Nat, x1 = (a : Int) := ⟨x1.toNat, by omega⟩
  refine hGG ?_; clear hGG
  rename News h₀ _ _ _ => N7
  have hb0 := Int.emod_nonneg ((a : Int) + 1 + x2) (show many ≠ 0 by omega)
  have hb1 := Int.emod_lt_of_pos ((a : Int) + 1 + x2) (show 0 < many by omega)
  have hb2 := emod_other (m := many) (a := (a : Int)) (y := x2) (by omega) (by omega) (by omega) (by omega)
  rw [Int.fmod_eq_emod_of_nonneg _ (by omega)] at N7
  generalize ((a : Int) + 1 + x2) % many = y at N7 hb0 hb1 hb2
  refine byc ?_; intro hGG
  obtain ⟨b, rfl⟩ : ∃ b : Nat, y = (b : Int) := ⟨y.toNat, by omega⟩
  k_extra "my split"
  refine hGG ?_; clear hGG
  refine' hret _ [(Bx, _), (Ax, _), (G, _)] [(_, _)] _ _ ?f1 ?n1 ?o1 ⟨_, a, b, _, _, gv2, gn2, rfl, by omega, by omega, by omega, by omega, rfl, rfl⟩
  (case n1 => refine kst_newsOf N7 ?_; k_extra "my sub"); (case f1 => assumption); (case o1 => k_extra "my off")

theorem lines_O2 : True := by
  k_with_none
  k_with "my own omega" => (first | omega (splitDisjunctions := false) | ((repeat (rename _ ∧ _ => hC_q361; cases hC_q361)); (repeat (rename _ ≠ _ => hX_q361; clear hX_q361)); omega (splitDisjunctions := true)))
  k_with "my mem" => (first | with_reducible exact mem_c | with_reducible exact mem_2 | with_reducible exact mem_3 | with_reducible exact mem_4 | (with_reducible refine skip_4 ?_; k_extra "my mem") | (with_reducible refine skip_1 ?_; k_extra "my mem") | with_reducible assumption | (with_reducible refine List.mem_append_left _ ?_; k_extra "my mem") | (with_reducible refine List.mem_append_right _ ?_; k_extra "my mem"))
  k_with "my mem2" => (first | exact List.mem_cons_self | assumption | (refine List.mem_cons_of_mem _ ?_; k_extra "my mem2") | (refine List.mem_append_left _ ?_; k_extra "my mem2") | (refine List.mem_append_right _ ?_; k_extra "my mem2"))
  k_with "my own k_mem" => (first | k_extra "my mem" | k_extra "my mem2")
  k_with "my ne" => (first | with_reducible assumption | with_reducible exact Ne.symm (by with_reducible assumption) | with_reducible exact Nat.ne_of_lt (by with_reducible assumption) | with_reducible exact Nat.ne_of_gt (by with_reducible assumption))
  k_with "my own k_ne" => ((refine neN ?_; first | k_extra "my ne" | ((try dsimp only); k_extra "my ne") | (k_extra "my split"; (try dsimp only); first | k_extra "my ne" | omega (splitDisjunctions := false))))
  k_with "my upd" => (first | (refine' Upd.head ?a_q367; (case a_q367 => k_all)) | (refine' Upd.tail ?a_q367 ?b_q367; (case a_q367 => k_ne); (case b_q367 => k_extra "my upd")))
  k_with "my own k_upd" => (k_extra "my upd")
  k_with "my updF" => (first | (refine' UpdF.head ?a_q369; (case a_q369 => k_all)) | (refine' UpdF.tail ?a_q369 ?b_q369; (case a_q369 => k_ne); (case b_q369 => k_extra "my updF")))
  k_with "my own k_updF" => (k_extra "my updF")
  k_with "my split" => (repeat (first | (rename _ ∧ _ ∧ _ ∧ _ ∧ _ ∧ _ ∧ _ ∧ _ => hC_q371; refine elim_8 hC_q371 ?_; clear hC_q371; intro _ _ _ _ _ _ _ _) | (rename _ ∧ _ ∧ _ ∧ _ => hC_q371; refine elim_4 hC_q371 ?_; clear hC_q371; intro _ _ _ _) | (rename _ ∧ _ => hC_q371; cases hC_q371)))
  k_with "my offleaf" => (first | assumption | exact Off.nil | exact Off.of1 (by assumption) | exact Off.ofLt (by assumption) | exact Off.ofLt (allLt_left (by assumption)) | exact Off.ofLt (allLt_right (by assumption)) | exact Off.ofLt (allLt_left (allLt_right (by assumption))) | exact Off.ofLt (allLt_right (allLt_right (by assumption))))
  k_with "my own k_all" => ((show Off _ _; first | assumption | (k_extra "my split"; repeat' (first | with_reducible exact Off.nil | with_reducible refine off_c ?_ ?_ | with_reducible refine Off.append ?_ ?_ | k_ne | k_extra "my offleaf"))))
  k_with "my enter" => (k_dflt (first | (refine' code_def ?k1_q374 ?k2_q374 ?k3_q374 ?k4_q374 ?k5_q374 ?kA_q374 ?kF_q374 ?kK_q374 ?k6_q374 ?k7_q374 ?k8_q374 ?k9_q374 ?kB_q374 ?_ ?c2_q374 ?c3_q374 ?c4_q374 ?c5_q374; (case kA_q374 => exact rfl); (case kF_q374 => exact rfl); (case kK_q374 => first | exact rfl | assumption); (case k1_q374 => k_asm); (case k2_q374 => k_asm); (case k3_q374 => k_asm); (case k4_q374 => k_asm); (case k5_q374 => k_asm); (case k6_q374 => k_is); (case k7_q374 => k_is); (case k8_q374 => ktr_room); (case k9_q374 => first | exact BindsTo.of_eq rfl | exact binds_K (by k_in) rfl (by k_is) rfl rfl rfl); (case c5_q374 => decide); (case kB_q374 => exact locs rfl); (case c2_q374 => exact rfl); (case c3_q374 => exact rfl); (case c4_q374 => exact rfl); k_whole; intro g'_q374 L'_q374 h'_q374 FG'_q374 F'_q374 N'_q374 B'_q374 X'_q374 T'_q374; (try dsimp only); (try k_fold)) | (refine' code_defC ?k1_q374 ?k2_q374 ?k3_q374 ?k4_q374 ?k5_q374 ?kA_q374 ?kF_q374 ?kK_q374 ?k6_q374 ?k7_q374 ?k8_q374 ?k9_q374 ?kB_q374 ?kD_q374 ?_ ?c2_q374 ?c3_q374 ?c4_q374; (case kA_q374 => exact rfl); (case kF_q374 => exact rfl); (case kK_q374 => first | exact rfl | assumption); (case k1_q374 => k_asm); (case k2_q374 => k_asm); (case k3_q374 => k_asm); (case k4_q374 => k_asm); (case k5_q374 => k_asm); (case k6_q374 => k_is); (case k7_q374 => k_is); (case k8_q374 => ktr_room); (case k9_q374 => first | exact BindsTo.of_eq rfl | exact binds_K (by k_in) rfl (by k_is) rfl rfl rfl); (case kB_q374 => exact rfl); (case kD_q374 => decide +kernel); (case c2_q374 => exact rfl); (case c3_q374 => exact rfl); (case c4_q374 => exact rfl); k_whole; intro g'_q374 L'_q374 h'_q374 tk'_q374 cells'_q374 FG'_q374 F'_q374 N'_q374 Y'_q374 B'_q374 X'_q374 T'_q374 l1_q374; (try k_lt l1_q374); (k_cells Y'_q374); (try simp only [List.cons_append, List.nil_append] at N'_q374); (try dsimp only); (try k_fold))))
  k_with "my in" => (first | assumption | (refine List.Mem.tail _ ?_; k_extra "my in") | (refine List.mem_append.mpr (Or.inl ?_); k_extra "my in") | (refine List.mem_append.mpr (Or.inr ?_); k_extra "my in"))
  k_with "my sub" => (((try simp only [List.nil_append, List.cons_append, List.append_assoc]); repeat' (first | with_reducible exact sub_nil | with_reducible refine sub_cons ?_ ?_ | with_reducible refine sub_append ?_ ?_ | (intro p_q376 hp_q376; k_extra "my in") | k_mem)))
  k_with "my off" => (((try simp only [List.nil_append, List.cons_append]); repeat' (first | with_reducible exact offs_nil | with_reducible refine offs_cons ?_ ?_ | k_all)))
  k_with "my pick" => ((repeat' (first | exact Picks.nil | refine' Picks.cons ?_ ?_ | exact Pick.head | refine' Pick.tail ?_)))
  k_with "pyIter ref" => ((k_here; (with_reducible show wpAny _ _ (pyIter (Value.ref _)) (fun it_q379 s₂_q379 => LoopAtV _ _ _ _ _ _ _ _ _ it_q379 s₂_q379) _ _); refine of_stop ?_))
  k_with "exec While" => ((k_here; refine of_stop ?_))
  k_with "call builtin:list.index" => ((k_here; (with_reducible show wpAny _ _ (call (Value.builtin _) [Value.ref _, Value.int _ _]) _ _ _); k_dflt (refine' idx_nat ?N_q381 ?m_q381 ?i_q381 ?k_q381 ?z_q381 ?_; (case N_q381 => k_asm); (case m_q381 => k_mem); (case i_q381 => assumption); (case k_q381 => assumption); (case z_q381 => (first | assumption | omega)); k_whole); intro u'_q381))
  k_with "call builtin:list.extend" => ((k_here; (with_reducible show wpAny _ _ (call (Value.builtin _) [Value.ref _, Value.ref _]) _ _ _); k_extra "my split"; (try (rename List.length _ = List.length (List.map _ _) => hL9_q382; simp only [List.length_map, rangeKs_length] at hL9_q382)); k_dflt (refine' ext_any ?F_q382 ?N_q382 ?b_q382 ?U_q382 ?z_q382 ?_; (case F_q382 => k_asm); (case N_q382 => k_asm); (case b_q382 => k_mem); (case U_q382 => k_upd); (case z_q382 => k_extra "my len"); k_whole); intro h'_q382 F'_q382 N'_q382; (try k_sweep)))
  k_with "my ints" => (first | assumption | exact IntsAre.nil | exact IntsAre.cons _ _ IntsAre.nil)
  k_with "my len" => (first | omega | (simp only [List.length_append, List.length_map, List.length_replicate, Int.reduceToNat, List.length_cons, List.length_nil, List.length_range, rangeKs_length]; omega))
  k_with "binaryOp Add ref ref" => ((k_here; (with_reducible show wpAny _ _ (binaryOp _ (Value.ref _) (Value.ref _)) _ _ _); k_extra "my split"; k_dflt (refine' add_any ?F_q385 ?N_q385 ?a_q385 ?b_q385 ?z_q385 ?_; (case F_q385 => k_asm); (case N_q385 => k_asm); (case a_q385 => k_mem); (case b_q385 => k_mem); (case z_q385 => k_extra "my len"); k_whole); intro D'_q385 us'_q385 h'_q385 F'_q385 N'_q385 l1_q385 he'_q385 hl'_q385; (try k_lt l1_q385); (try simp only [List.length_cons, List.length_nil, List.length_map] at hl'_q385); (try k_sweep)))
  k_with "binaryOp Add ref ref" => ((k_here; (with_reducible show wpAny _ _ (binaryOp _ (Value.ref _) (Value.ref _)) _ _ _); k_extra "my split"; k_dflt (refine' add_ints ?F_q386 ?N_q386 ?a_q386 ?b_q386 ?i_q386 ?j_q386 ?z_q386 ?_; (case F_q386 => k_asm); (case N_q386 => k_asm); (case a_q386 => k_mem); (case b_q386 => k_mem); (case i_q386 => k_extra "my ints"); (case j_q386 => k_extra "my ints"); (case z_q386 => k_extra "my len"); k_whole); intro D'_q386 us'_q386 ns'_q386 h'_q386 F'_q386 N'_q386 l1_q386 hI'_q386 he'_q386 hl'_q386 hv'_q386; (try k_lt l1_q386); (try simp only [List.length_cons, List.length_nil, List.length_map] at hl'_q386); (try k_sweep)))
  k_with "subscriptTail Name Name ref int" => ((k_here; (with_reducible show wpAny _ _ (subscriptTail _ _ (Value.ref _) (Value.int _ _)) _ _ _); k_dflt (refine' ksa_sub ?k1_q387 ?k2_q387 ?k3_q387 ?k4_q387 ?k5_q387 ?k6_q387 ?_ ?k7_q387; (case k1_q387 => k_asm); (case k2_q387 => k_mem); (case k3_q387 => assumption); (case k4_q387 => omega); (case k5_q387 => k_extra "my len"); (case k6_q387 => omega); (case k7_q387 => with_unfolding_all rfl); k_whole); intro _))
  k_with "subscriptTail Name BinOp ref int" => ((k_here; (with_reducible show wpAny _ _ (subscriptTail _ _ (Value.ref _) (Value.int _ _)) _ _ _); k_dflt (refine' ksa_sub ?k1_q388 ?k2_q388 ?k3_q388 ?k4_q388 ?k5_q388 ?k6_q388 ?_ ?k7_q388; (case k1_q388 => k_asm); (case k2_q388 => k_mem); (case k3_q388 => assumption); (case k4_q388 => omega); (case k5_q388 => k_extra "my len"); (case k6_q388 => omega); (case k7_q388 => with_unfolding_all rfl); k_whole); intro _))
  k_with "call builtin:len" => ((k_here; (with_reducible show wpAny _ _ (call (Value.builtin _) [Value.ref _]) _ _ _); k_dflt (refine' len_any ?N_q389 ?m_q389 ?e_q389 ?z_q389 ?_; (case N_q389 => k_asm); (case m_q389 => k_mem); (case e_q389 => assumption); (case z_q389 => k_extra "my len"); k_whole); intro _ _))
  k_with "eval Lambda" => ((k_here; k_dflt (refine' lam_hit (P := 521) (c := 525) ?F_q390 ?N_q390 ?T_q390 ?C_q390 ?cd_q390 ?U_q390 ?t_q390 ?cl_q390 ?d_q390 ?_; (case F_q390 => k_asm); (case N_q390 => k_asm); (case T_q390 => k_asm); (case cd_q390 => exact rfl); (case U_q390 => k_updF); (case C_q390 => exact codeHd_of_K (by assumption) (by kernel_rfl)); (case t_q390 => assumption); (case cl_q390 => exact rfl); (case d_q390 => exact rfl); k_whole); intro f'_q390 ps'_q390 h'_q390 tk'_q390 F'_q390 N'_q390 ht'_q390; (try dsimp only at N'_q390); (try k_sweep)))
  k_with "my own k_room" => (ktr_room)
  k_with "binaryOp Mult ref int" => ((k_here; (with_reducible show wpAny _ _ (binaryOp Operator.Mult (Value.ref _) (Value.int _ _)) _ _ _); k_dflt (refine' mul_one' ?F_q392 ?N_q392 ?l_q392 ?lo_q392 ?hi_q392 ?z_q392 ?_; (case F_q392 => k_asm); (case N_q392 => k_asm); (case l_q392 => k_mem); (case lo_q392 => omega); (case hi_q392 => omega); (case z_q392 => decide); k_whole); intro D'_q392 h'_q392 F'_q392 N'_q392 l1_q392; (try k_lt l1_q392); (try k_sweep)))
  k_with "setItem ref int" => ((k_here; (with_reducible show wpAny _ _ (setItem (Value.ref _) (Value.int _ _) _) _ _ _); k_dflt (refine' set_any ?F_q393 ?N_q393 ?U_q393 ?z0_q393 ?z1_q393 ?z2_q393 ?_; (case F_q393 => k_asm); (case N_q393 => k_asm); (case U_q393 => k_upd); (case z0_q393 => omega); (case z1_q393 => k_extra "my len"); (case z2_q393 => k_extra "my len"); k_whole); intro h'_q393 F'_q393 N'_q393; (try k_sweep)))
  k_with "my item" => ((k_here; (with_reducible show wpAny _ _ (subscriptTail _ _ (Value.ref _) (Value.int _ _)) _ _ _); k_dflt (refine' item_any ?N_q394 ?m_q394 ?z0_q394 ?z1_q394 ?z2_q394 ?_ ?hs_q394 ?hg_q394; (case N_q394 => k_asm); (case m_q394 => k_mem); (case z0_q394 => omega); (case z1_q394 => k_extra "my len"); (case z2_q394 => k_extra "my len"); (case hs_q394 => with_unfolding_all rfl); (case hg_q394 => intro _; with_unfolding_all rfl); k_whole)))
  k_with "subscriptTail Name Slice ref ref" => ((k_here; (with_reducible show wpAny _ _ (subscriptTail _ (PySem.Expr.Slice _ _ none _) (Value.ref _) (Value.ref _)) _ _ _); k_dflt (refine' slice_head ?F_q395 ?N_q395 ?m_q395 ?x_q395 ?y_q395 ?z_q395 ?_ ?s_q395 ?t_q395; (case F_q395 => k_asm); (case N_q395 => k_asm); (case m_q395 => k_mem); (case x_q395 => first | exact rfl | omega); (case y_q395 => omega); (case z_q395 => k_extra "my len"); (case s_q395 => with_unfolding_all rfl); (case t_q395 => kmk_pure)); intro D'_q395 h'_q395 F'_q395 N'_q395 l1_q395; (try k_lt l1_q395); (try k_sweep)))
  k_with "exec For Tuple Name cons nil" => ((k_here; (rename Fr _ _ _ _ => lF9_q396); refine For_invTF lF9_q396 ?_ (by intro _; rfl)))
  k_with "pyIter ref" => ((k_here; (with_reducible show wpAny _ _ (pyIter (Value.ref _)) (fun it_q397 s₂_q397 => LoopAtT _ _ _ _ _ _ _ _ _ it_q397 s₂_q397) _ _); refine of_stop ?_))
  k_with "call type:list" => ((k_here; (with_reducible show wpAny _ _ (call (Value.type _) [Value.ref _]) _ _ _); k_dflt (refine' copy_any ?F_q398 ?N_q398 ?m_q398 ?z_q398 ?_; (case F_q398 => k_asm); (case N_q398 => k_asm); (case m_q398 => first | k_mem | assumption); (case z_q398 => omega); k_whole; refine of_stop ?_)))
  k_with "my own k_all" => ((show Off _ _; first | assumption | (k_extra "my split"; repeat' (first | with_reducible exact Off.nil | with_reducible exact Off.ofLt (by with_reducible assumption) | with_reducible refine off_c ?_ ?_ | with_reducible refine Off.append ?_ ?_ | k_ne | k_extra "my offleaf"))))
  k_with "my len" => (first | omega | (simp only [List.length_append, List.length_map, List.length_replicate, Int.reduceToNat, List.length_cons, List.length_nil, List.length_range, rangeKs_length, List.length_set]; omega))
  k_with "call builtin:list.append" => ((k_here; (with_reducible show wpAny _ _ (call (Value.builtin _) [Value.ref _, _]) _ _ _); k_dflt (refine' app_any ?F_q401 ?N_q401 ?U_q401 ?z_q401 ?_; (case F_q401 => k_asm); (case N_q401 => k_asm); (case U_q401 => k_upd); (case z_q401 => k_extra "my len"); k_whole); intro h'_q401 F'_q401 N'_q401; (try k_sweep)))
  trivial

inductive JO (ps : List (Nat × Nat)) (bits : List Nat) (S : Addr) (base : Led) (i : Nat) (m : Str → Option Value) : Led → Prop
  | mk {cur : Addr} {cv sv : List Value} {cn sn : Nat} {led : Led} : m (Str.ofString "states") = some (.ref S) → m (Str.ofString "bits") = some (.ref cur) → (cur, listOf cv.toArray cn) ∈ led ++ base → IntsAre cv (nz (orun (ps.take i) bits)) → ListsAre led sv (osts (ps.take i) bits) →
    Off S led → (∀ p ∈ led, Off p.1 base) → JO ps bits S base i m ((S, listOf sv.toArray sn) :: (led ++ base))
theorem JO.ini {ps : List (Nat × Nat)} {bits : List Nat} {S cur : Addr} {cv : List Value} {cn : Nat} {base : Led} {m : Str → Option Value} (h1 : m (Str.ofString "states") = some (.ref S)) (h2 : m (Str.ofString "bits") = some (.ref cur)) (h3 : (cur, listOf cv.toArray cn) ∈ base) (h4 : IntsAre cv (nz bits)) : JO ps bits S base 0 m ((S, listOf (#[] : Array Value) 0) :: base) :=
  JO.mk (led := []) (sv := []) h1 h2 h3 h4 .nil .nil (fun _ h => nomatch h)
theorem ones_walk {w : World} {p loose mean mg mb} {pl bl : Addr} {pv bv : List Value} {pn bn : Nat} {ps : List (Nat × Nat)} {bits : List Nat} {tl : Led} (hp : PairsAre tl pv ps) (hr : IntsAre bv (nz bits)) (hk2 : bits.length ≤ 10) (hb : ∀ p ∈ ps, p.1 < bits.length ∧ p.2 < bits.length) (hl : ps.length ≤ 10) :
    CSpec PySem.Challenge.rw_xm0628_02.prog w (hd02.heap_1 w.params) p loose mean mg mb 540 2 [.ref pl, .ref bl] ((pl, listOf pv.toArray pn) :: (bl, listOf bv.toArray bn) :: tl)
      (fun r chg new => ∃ R rv rn led, r = .ref R ∧ ListsAre led rv (osts ps bits) ∧ chg = (pl, listOf pv.toArray pn) :: (bl, listOf bv.toArray bn) :: tl ∧ new = (R, listOf (List.toArray rv) rn) :: led) := by
  have zp := hp.length
  unfold CSpec; k_fill
  intro dp un gd cn cs ad ccd cl outer A₀ base h₀ L m rest s Q E B F X N hoff T hk hd hu hret
  (try simp only [List.forall_mem_cons, List.not_mem_nil, false_implies, implies_true, and_true, List.nil_append, List.cons_append] at hoff N)
  (try simp only [List.forall_mem_cons, List.not_mem_nil, false_implies, implies_true, and_true, List.nil_append, List.cons_append] at hret)
  refine wpAny_call ?_; k_extra "my enter"
  k_steps
  refine ⟨?_⟩
  rename News _ _ _ _ => N9
  rename Fr _ _ _ _ => F9
  refine' iterT (JO ps bits _ _) rfl ?hl F9 N9 ?hj ?turn ?done
  case hj => refine JO.ini (cur := bl) (cv := bv) (cn := bn) ?_ ?_ ?_ hr <;> first | rfl | exact .tail _ (.head _)
  case hl => k_mem
  case turn =>
    intro i v m₁ nx s1 own hv hown hl1 hJ F1 N1
    refine byc ?_; intro hGG
    cases hJ with
    | @mk cur cv sv cn sn led e1 e2 hmem hI hL hS hled =>
    obtain ⟨d, a, b, t, u, hab, rfl, hdm⟩ := hp.get hv
    refine hGG ?_; clear hGG
    have F2 := (((FrK.ini F1).k e1).k e2).fr
    clear F1
    have oS := own_off hown (.head _)
    simp only [List.cons_append, List.append_assoc] at N1
    have hm9 := List.mem_append_left own hmem
    simp only [List.cons_append, List.append_assoc] at hm9
    have zc := hI.length
    rw [nz_length, orun_length] at zc
    refine byc ?_; intro hGG
    obtain ⟨ha, hb2⟩ := hb _ (List.mem_of_getElem? hab)
    refine hGG ?_; clear hGG
    dsimp only at ha hb2
    have zs := hL.length
    rw [osts_length, List.length_take] at zs
    clear N9 F9
    k_steps
    refine ⟨?_⟩
    intro Dc c9 h9 F9 N9 l9
    have l8 := l9
    k_lt l9
    have e3 : Builtin.bitAnd ((nz (orun (ps.take i) bits)).getD ((a : Int)).toNat 0) ((nz (orun (ps.take i) bits)).getD ((b : Int)).toNat 0) = (((orun (ps.take i) bits).getD a 0 &&& (orun (ps.take i) bits).getD b 0 : Nat) : Int) := by rw [nz_at, nz_at, band_nat]
    have e4 : Builtin.bitOr ((nz (orun (ps.take i) bits)).getD ((a : Int)).toNat 0) ((nz (orun (ps.take i) bits)).getD ((b : Int)).toNat 0) = (((orun (ps.take i) bits).getD a 0 ||| (orun (ps.take i) bits).getD b 0 : Nat) : Int) := by rw [nz_at, nz_at, bor_nat]
    k_steps
    rename News _ _ _ _ => N7
    rename Fr _ _ _ _ => F7
    rw [e3, e4, Int.toNat_natCast, Int.toNat_natCast] at N7
    refine' InvEndG.intro F7 N7 ⟨?hl1, JO.mk (led := (Dc, listOf (List.toArray ((cv.set a (.int _ _)).set b (.int _ _))) _) :: led) (sv := sv ++ [.ref Dc]) rfl rfl (.head _) ?hI1 ?hL1 ?hS1 ?hled1⟩ ?ha1 ?hn1 ?ho1
    case hn1 => k_extra "my sub"
    case ho1 => k_extra "my sub"
    case hl1 => k_mem
    case hI1 =>
      rw [orun_succ hab]
      unfold ost
      rw [← nz_set, ← nz_set]
      exact ints_set (ints_set hI a) b
    case hL1 =>
      rw [osts_succ hab]
      refine (hL.mono fun p hp => .tail _ hp).snoc (.head _) ?_
      unfold ost
      rw [← nz_set, ← nz_set]
      exact ints_set (ints_set hI a) b
    case hS1 => exact .cons (Nat.ne_of_gt (l8 _ (.head _))) hS
    case hled1 =>
      refine offs_cons (fun q hq => Nat.ne_of_lt (l8 q ?_)) hled
      revert q; k_extra "my sub"
    case ha1 =>
      refine own_of (offs_cons oS (offs_cons (fun q hq => Nat.ne_of_lt (l8 q ?_)) fun p hp => own_off hown (.tail _ hp)))
      revert q; k_extra "my sub"
  case done =>
    intro m₁ nx h6 tk6 hJ F1 N1
    refine byc ?_; intro hGG
    cases hJ with
    | @mk cur cv sv cn sn led e1 e2 hmem hI hL hS hled =>
    refine hGG ?_; clear hGG
    rw [show ps.take pv.length = ps by rw [zp, List.take_length]] at hL
    have F2 := (((FrK.ini F1).k e1).k e2).fr
    clear F1 N9 F9
    k_steps
    refine' hret _ ((pl, _) :: (bl, _) :: tl) ((_, listOf sv.toArray sn) :: led) _ _ ?f1 ?n1 ?o1 ⟨_, sv, sn, led, rfl, hL, rfl, rfl⟩
    (case n1 => refine kst_newsOf (by assumption) ?_; k_extra "my sub"); (case f1 => assumption)
    case o1 => exact offs_cons (by k_all) hled

theorem lines_I2 : True := by
  k_with_none
  k_with "my own omega" => (first | omega (splitDisjunctions := false) | ((repeat (rename _ ∧ _ => hC_q402; cases hC_q402)); (repeat (rename _ ≠ _ => hX_q402; clear hX_q402)); omega (splitDisjunctions := true)))
  k_with "my mem" => (first | with_reducible exact mem_c | with_reducible exact mem_2 | with_reducible exact mem_3 | with_reducible exact mem_4 | (with_reducible refine skip_4 ?_; k_extra "my mem") | (with_reducible refine skip_1 ?_; k_extra "my mem") | with_reducible assumption | (with_reducible refine List.mem_append_left _ ?_; k_extra "my mem") | (with_reducible refine List.mem_append_right _ ?_; k_extra "my mem"))
  k_with "my mem2" => (first | exact List.mem_cons_self | assumption | (refine List.mem_cons_of_mem _ ?_; k_extra "my mem2") | (refine List.mem_append_left _ ?_; k_extra "my mem2") | (refine List.mem_append_right _ ?_; k_extra "my mem2"))
  k_with "my own k_mem" => (first | k_extra "my mem" | k_extra "my mem2")
  k_with "my ne" => (first | with_reducible assumption | with_reducible exact Ne.symm (by with_reducible assumption) | with_reducible exact Nat.ne_of_lt (by with_reducible assumption) | with_reducible exact Nat.ne_of_gt (by with_reducible assumption))
  k_with "my own k_ne" => ((refine neN ?_; first | k_extra "my ne" | ((try dsimp only); k_extra "my ne") | (k_extra "my split"; (try dsimp only); first | k_extra "my ne" | omega (splitDisjunctions := false))))
  k_with "my upd" => (first | (refine' Upd.head ?a_q408; (case a_q408 => k_all)) | (refine' Upd.tail ?a_q408 ?b_q408; (case a_q408 => k_ne); (case b_q408 => k_extra "my upd")))
  k_with "my own k_upd" => (k_extra "my upd")
  k_with "my updF" => (first | (refine' UpdF.head ?a_q410; (case a_q410 => k_all)) | (refine' UpdF.tail ?a_q410 ?b_q410; (case a_q410 => k_ne); (case b_q410 => k_extra "my updF")))
  k_with "my own k_updF" => (k_extra "my updF")
  k_with "my split" => (repeat (first | (rename _ ∧ _ ∧ _ ∧ _ ∧ _ ∧ _ ∧ _ ∧ _ => hC_q412; refine elim_8 hC_q412 ?_; clear hC_q412; intro _ _ _ _ _ _ _ _) | (rename _ ∧ _ ∧ _ ∧ _ => hC_q412; refine elim_4 hC_q412 ?_; clear hC_q412; intro _ _ _ _) | (rename _ ∧ _ => hC_q412; cases hC_q412)))
  k_with "my offleaf" => (first | assumption | exact Off.nil | exact Off.of1 (by assumption) | exact Off.ofLt (by assumption) | exact Off.ofLt (allLt_left (by assumption)) | exact Off.ofLt (allLt_right (by assumption)) | exact Off.ofLt (allLt_left (allLt_right (by assumption))) | exact Off.ofLt (allLt_right (allLt_right (by assumption))))
  k_with "my own k_all" => ((show Off _ _; first | assumption | (k_extra "my split"; repeat' (first | with_reducible exact Off.nil | with_reducible refine off_c ?_ ?_ | with_reducible refine Off.append ?_ ?_ | k_ne | k_extra "my offleaf"))))
  k_with "my enter" => (k_dflt (first | (refine' code_def ?k1_q415 ?k2_q415 ?k3_q415 ?k4_q415 ?k5_q415 ?kA_q415 ?kF_q415 ?kK_q415 ?k6_q415 ?k7_q415 ?k8_q415 ?k9_q415 ?kB_q415 ?_ ?c2_q415 ?c3_q415 ?c4_q415 ?c5_q415; (case kA_q415 => exact rfl); (case kF_q415 => exact rfl); (case kK_q415 => first | exact rfl | assumption); (case k1_q415 => k_asm); (case k2_q415 => k_asm); (case k3_q415 => k_asm); (case k4_q415 => k_asm); (case k5_q415 => k_asm); (case k6_q415 => k_is); (case k7_q415 => k_is); (case k8_q415 => ktr_room); (case k9_q415 => first | exact BindsTo.of_eq rfl | exact binds_K (by k_in) rfl (by k_is) rfl rfl rfl); (case c5_q415 => decide); (case kB_q415 => exact locs rfl); (case c2_q415 => exact rfl); (case c3_q415 => exact rfl); (case c4_q415 => exact rfl); k_whole; intro g'_q415 L'_q415 h'_q415 FG'_q415 F'_q415 N'_q415 B'_q415 X'_q415 T'_q415; (try dsimp only); (try k_fold)) | (refine' code_defC ?k1_q415 ?k2_q415 ?k3_q415 ?k4_q415 ?k5_q415 ?kA_q415 ?kF_q415 ?kK_q415 ?k6_q415 ?k7_q415 ?k8_q415 ?k9_q415 ?kB_q415 ?kD_q415 ?_ ?c2_q415 ?c3_q415 ?c4_q415; (case kA_q415 => exact rfl); (case kF_q415 => exact rfl); (case kK_q415 => first | exact rfl | assumption); (case k1_q415 => k_asm); (case k2_q415 => k_asm); (case k3_q415 => k_asm); (case k4_q415 => k_asm); (case k5_q415 => k_asm); (case k6_q415 => k_is); (case k7_q415 => k_is); (case k8_q415 => ktr_room); (case k9_q415 => first | exact BindsTo.of_eq rfl | exact binds_K (by k_in) rfl (by k_is) rfl rfl rfl); (case kB_q415 => exact rfl); (case kD_q415 => decide +kernel); (case c2_q415 => exact rfl); (case c3_q415 => exact rfl); (case c4_q415 => exact rfl); k_whole; intro g'_q415 L'_q415 h'_q415 tk'_q415 cells'_q415 FG'_q415 F'_q415 N'_q415 Y'_q415 B'_q415 X'_q415 T'_q415 l1_q415; (try k_lt l1_q415); (k_cells Y'_q415); (try simp only [List.cons_append, List.nil_append] at N'_q415); (try dsimp only); (try k_fold))))
  k_with "my in" => (first | assumption | (refine List.Mem.tail _ ?_; k_extra "my in") | (refine List.mem_append.mpr (Or.inl ?_); k_extra "my in") | (refine List.mem_append.mpr (Or.inr ?_); k_extra "my in"))
  k_with "my sub" => (((try simp only [List.nil_append, List.cons_append, List.append_assoc]); repeat' (first | with_reducible exact sub_nil | with_reducible refine sub_cons ?_ ?_ | with_reducible refine sub_append ?_ ?_ | (intro p_q417 hp_q417; k_extra "my in") | k_mem)))
  k_with "my off" => (((try simp only [List.nil_append, List.cons_append]); repeat' (first | with_reducible exact offs_nil | with_reducible refine offs_cons ?_ ?_ | k_all)))
  k_with "my pick" => ((repeat' (first | exact Picks.nil | refine' Picks.cons ?_ ?_ | exact Pick.head | refine' Pick.tail ?_)))
  k_with "pyIter ref" => ((k_here; (with_reducible show wpAny _ _ (pyIter (Value.ref _)) (fun it_q420 s₂_q420 => LoopAtV _ _ _ _ _ _ _ _ _ it_q420 s₂_q420) _ _); refine of_stop ?_))
  k_with "exec While" => ((k_here; refine of_stop ?_))
  k_with "call builtin:list.index" => ((k_here; (with_reducible show wpAny _ _ (call (Value.builtin _) [Value.ref _, Value.int _ _]) _ _ _); k_dflt (refine' idx_nat ?N_q422 ?m_q422 ?i_q422 ?k_q422 ?z_q422 ?_; (case N_q422 => k_asm); (case m_q422 => k_mem); (case i_q422 => assumption); (case k_q422 => assumption); (case z_q422 => (first | assumption | omega)); k_whole); intro u'_q422))
  k_with "call builtin:list.extend" => ((k_here; (with_reducible show wpAny _ _ (call (Value.builtin _) [Value.ref _, Value.ref _]) _ _ _); k_extra "my split"; (try (rename List.length _ = List.length (List.map _ _) => hL9_q423; simp only [List.length_map, rangeKs_length] at hL9_q423)); k_dflt (refine' ext_any ?F_q423 ?N_q423 ?b_q423 ?U_q423 ?z_q423 ?_; (case F_q423 => k_asm); (case N_q423 => k_asm); (case b_q423 => k_mem); (case U_q423 => k_upd); (case z_q423 => k_extra "my len"); k_whole); intro h'_q423 F'_q423 N'_q423; (try k_sweep)))
  k_with "my ints" => (first | assumption | exact IntsAre.nil | exact IntsAre.cons _ _ IntsAre.nil)
  k_with "my len" => (first | omega | (simp only [List.length_append, List.length_map, List.length_replicate, Int.reduceToNat, List.length_cons, List.length_nil, List.length_range, rangeKs_length]; omega))
  k_with "binaryOp Add ref ref" => ((k_here; (with_reducible show wpAny _ _ (binaryOp _ (Value.ref _) (Value.ref _)) _ _ _); k_extra "my split"; k_dflt (refine' add_any ?F_q426 ?N_q426 ?a_q426 ?b_q426 ?z_q426 ?_; (case F_q426 => k_asm); (case N_q426 => k_asm); (case a_q426 => k_mem); (case b_q426 => k_mem); (case z_q426 => k_extra "my len"); k_whole); intro D'_q426 us'_q426 h'_q426 F'_q426 N'_q426 l1_q426 he'_q426 hl'_q426; (try k_lt l1_q426); (try simp only [List.length_cons, List.length_nil, List.length_map] at hl'_q426); (try k_sweep)))
  k_with "binaryOp Add ref ref" => ((k_here; (with_reducible show wpAny _ _ (binaryOp _ (Value.ref _) (Value.ref _)) _ _ _); k_extra "my split"; k_dflt (refine' add_ints ?F_q427 ?N_q427 ?a_q427 ?b_q427 ?i_q427 ?j_q427 ?z_q427 ?_; (case F_q427 => k_asm); (case N_q427 => k_asm); (case a_q427 => k_mem); (case b_q427 => k_mem); (case i_q427 => k_extra "my ints"); (case j_q427 => k_extra "my ints"); (case z_q427 => k_extra "my len"); k_whole); intro D'_q427 us'_q427 ns'_q427 h'_q427 F'_q427 N'_q427 l1_q427 hI'_q427 he'_q427 hl'_q427 hv'_q427; (try k_lt l1_q427); (try simp only [List.length_cons, List.length_nil, List.length_map] at hl'_q427); (try k_sweep)))
  k_with "subscriptTail Name Name ref int" => ((k_here; (with_reducible show wpAny _ _ (subscriptTail _ _ (Value.ref _) (Value.int _ _)) _ _ _); k_dflt (refine' ksa_sub ?k1_q428 ?k2_q428 ?k3_q428 ?k4_q428 ?k5_q428 ?k6_q428 ?_ ?k7_q428; (case k1_q428 => k_asm); (case k2_q428 => k_mem); (case k3_q428 => assumption); (case k4_q428 => omega); (case k5_q428 => k_extra "my len"); (case k6_q428 => omega); (case k7_q428 => with_unfolding_all rfl); k_whole); intro _))
  k_with "subscriptTail Name BinOp ref int" => ((k_here; (with_reducible show wpAny _ _ (subscriptTail _ _ (Value.ref _) (Value.int _ _)) _ _ _); k_dflt (refine' ksa_sub ?k1_q429 ?k2_q429 ?k3_q429 ?k4_q429 ?k5_q429 ?k6_q429 ?_ ?k7_q429; (case k1_q429 => k_asm); (case k2_q429 => k_mem); (case k3_q429 => assumption); (case k4_q429 => omega); (case k5_q429 => k_extra "my len"); (case k6_q429 => omega); (case k7_q429 => with_unfolding_all rfl); k_whole); intro _))
  k_with "call builtin:len" => ((k_here; (with_reducible show wpAny _ _ (call (Value.builtin _) [Value.ref _]) _ _ _); k_dflt (refine' len_any ?N_q430 ?m_q430 ?e_q430 ?z_q430 ?_; (case N_q430 => k_asm); (case m_q430 => k_mem); (case e_q430 => assumption); (case z_q430 => k_extra "my len"); k_whole); intro _ _))
  k_with "eval Lambda" => ((k_here; k_dflt (refine' lam_hit (P := 521) (c := 525) ?F_q431 ?N_q431 ?T_q431 ?C_q431 ?cd_q431 ?U_q431 ?t_q431 ?cl_q431 ?d_q431 ?_; (case F_q431 => k_asm); (case N_q431 => k_asm); (case T_q431 => k_asm); (case cd_q431 => exact rfl); (case U_q431 => k_updF); (case C_q431 => exact codeHd_of_K (by assumption) (by kernel_rfl)); (case t_q431 => assumption); (case cl_q431 => exact rfl); (case d_q431 => exact rfl); k_whole); intro f'_q431 ps'_q431 h'_q431 tk'_q431 F'_q431 N'_q431 ht'_q431; (try dsimp only at N'_q431); (try k_sweep)))
  k_with "my own k_room" => (ktr_room)
  k_with "binaryOp Mult ref int" => ((k_here; (with_reducible show wpAny _ _ (binaryOp Operator.Mult (Value.ref _) (Value.int _ _)) _ _ _); k_dflt (refine' mul_one' ?F_q433 ?N_q433 ?l_q433 ?lo_q433 ?hi_q433 ?z_q433 ?_; (case F_q433 => k_asm); (case N_q433 => k_asm); (case l_q433 => k_mem); (case lo_q433 => omega); (case hi_q433 => omega); (case z_q433 => decide); k_whole); intro D'_q433 h'_q433 F'_q433 N'_q433 l1_q433; (try k_lt l1_q433); (try k_sweep)))
  k_with "setItem ref int" => ((k_here; (with_reducible show wpAny _ _ (setItem (Value.ref _) (Value.int _ _) _) _ _ _); k_dflt (refine' set_any ?F_q434 ?N_q434 ?U_q434 ?z0_q434 ?z1_q434 ?z2_q434 ?_; (case F_q434 => k_asm); (case N_q434 => k_asm); (case U_q434 => k_upd); (case z0_q434 => omega); (case z1_q434 => k_extra "my len"); (case z2_q434 => k_extra "my len"); k_whole); intro h'_q434 F'_q434 N'_q434; (try k_sweep)))
  k_with "my item" => ((k_here; (with_reducible show wpAny _ _ (subscriptTail _ _ (Value.ref _) (Value.int _ _)) _ _ _); k_dflt (refine' item_any ?N_q435 ?m_q435 ?z0_q435 ?z1_q435 ?z2_q435 ?_ ?hs_q435 ?hg_q435; (case N_q435 => k_asm); (case m_q435 => k_mem); (case z0_q435 => omega); (case z1_q435 => k_extra "my len"); (case z2_q435 => k_extra "my len"); (case hs_q435 => with_unfolding_all rfl); (case hg_q435 => intro _; with_unfolding_all rfl); k_whole)))
  k_with "subscriptTail Name Slice ref ref" => ((k_here; (with_reducible show wpAny _ _ (subscriptTail _ (PySem.Expr.Slice _ _ none _) (Value.ref _) (Value.ref _)) _ _ _); k_dflt (refine' slice_head ?F_q436 ?N_q436 ?m_q436 ?x_q436 ?y_q436 ?z_q436 ?_ ?s_q436 ?t_q436; (case F_q436 => k_asm); (case N_q436 => k_asm); (case m_q436 => k_mem); (case x_q436 => first | exact rfl | omega); (case y_q436 => omega); (case z_q436 => k_extra "my len"); (case s_q436 => with_unfolding_all rfl); (case t_q436 => kmk_pure)); intro D'_q436 h'_q436 F'_q436 N'_q436 l1_q436; (try k_lt l1_q436); (try k_sweep)))
  k_with "my pick" => ((repeat' (first | exact Picks.nil | exact picks_app | refine' Picks.cons ?_ ?_ | exact Pick.head | refine' Pick.tail ?_)))
  k_with "call ref" => ((k_here; (with_reducible show wpAny _ _ (call (Value.ref 526) _) _ _ _); refine of_stop ?_))
  k_with "call ref" => ((k_here; (with_reducible show wpAny _ _ (call (Value.ref 442) _) _ _ _); refine of_stop ?_))
  k_with "my off" => (((try simp only [List.nil_append, List.cons_append]); repeat' (first | with_reducible exact offs_nil | with_reducible refine offs_cons ?_ ?_ | with_reducible assumption | k_all)))
  k_with "newList" => ((k_here; k_dflt (refine' newList_K ?F_q441 ?N_q441 ?_ ?z_q441; (case F_q441 => k_asm); (case N_q441 => k_asm); (case z_q441 => size_fits); k_whole; refine of_stop ?_)))
  k_with "my own k_all" => ((show Off _ _; first | assumption | (k_extra "my split"; repeat' (first | with_reducible exact Off.nil | with_reducible exact Off.ofLt (by with_reducible assumption) | with_reducible refine off_c ?_ ?_ | with_reducible refine Off.append ?_ ?_ | k_ne | k_extra "my offleaf"))))
  k_with "my len" => (first | omega | (simp only [List.length_append, List.length_map, List.length_replicate, Int.reduceToNat, List.length_cons, List.length_nil, List.length_range, rangeKs_length, List.length_set]; omega))
  k_with "call builtin:list.append" => ((k_here; (with_reducible show wpAny _ _ (call (Value.builtin _) [Value.ref _, _]) _ _ _); k_dflt (refine' app_any ?F_q444 ?N_q444 ?U_q444 ?z_q444 ?_; (case F_q444 => k_asm); (case N_q444 => k_asm); (case U_q444 => k_upd); (case z_q444 => k_extra "my len"); k_whole); intro h'_q444 F'_q444 N'_q444; (try k_sweep)))
  k_with "subscriptTail Name Slice ref ref" => ((k_here; (with_reducible show wpAny _ _ (subscriptTail _ (PySem.Expr.Slice none _ none _) (Value.ref _) (Value.ref _)) _ _ _); k_dflt (refine' slice_to ?F_q445 ?N_q445 ?m_q445 ?y_q445 ?z_q445 ?_ ?s_q445 ?t_q445; (case F_q445 => k_asm); (case N_q445 => k_asm); (case m_q445 => k_mem); (case y_q445 => omega); (case z_q445 => k_extra "my len"); (case s_q445 => with_unfolding_all rfl); (case t_q445 => kmk_pure)); refine of_stop ?_))
  trivial

abbrev codeOf (n : Nat) (ps : List (Nat × Nat)) : List Int := wrdsOf n ps ++ [30 + 8388608 * ((n : Int) + 1)]
inductive JI (w : World) (p : Program) (loose : List Str) (mean : ExcName → Option Value) (mg mb : Str → Option Value) (n : Nat) (ps : List (Nat × Nat)) (row : List Int) (pl rl o c al S : Addr) (co : Obj) (as : List Addr) (base : Led) (i : Nat) (m : Str → Option Value) : Led → Prop
  | mk {ml : Led} {st av sv : List Value} {an sn pc : Nat} {led : Led} : m (Str.ofString "stepper") = some (.ref o) → m (Str.ofString "states") = some (.ref S) → m (Str.ofString "row") = some (.ref rl) → m (Str.ofString "pairs") = some (.ref pl) → Mach w p loose mean mg mb (codeOf n ps) st pc o c al co ml → Ph n ps row pc st av.length → pc = 5 * i →
    ZAre led sv (rsts (ps.take i) row) → ml.map (·.1) = as → (∀ a ∈ as, Off a ((S, listOf sv.toArray sn) :: (led ++ base))) → Off al ((S, listOf sv.toArray sn) :: (led ++ base)) → Off c ((S, listOf sv.toArray sn) :: (led ++ base)) → Off S (led ++ base) → (∀ p ∈ led, Off p.1 base) →
    JI w p loose mean mg mb n ps row pl rl o c al S co as base i m (ml ++ (al, listOf av.toArray an) :: (c, co) :: (S, listOf sv.toArray sn) :: (led ++ base))
inductive JI2 (w : World) (p : Program) (loose : List Str) (mean : ExcName → Option Value) (mg mb : Str → Option Value) (n : Nat) (ps : List (Nat × Nat)) (row : List Int) (pl rl o c al S : Addr) (co : Obj) (as : List Addr) (i : Nat) (tt : Tok) (R0 : Led) (k : Nat) (m : Str → Option Value) : Led → Prop
  | mk {ml : Led} {st av : List Value} {an pc : Nat} : m (Str.ofString "stepper") = some (.ref o) → m (Str.ofString "states") = some (.ref S) → m (Str.ofString "row") = some (.ref rl) → m (Str.ofString "pairs") = some (.ref pl) → m (Str.ofString "at") = some (.int (i : Int) tt) → Mach w p loose mean mg mb (codeOf n ps) st pc o c al co ml → Ph n ps row pc st av.length →
    5 * i + k ≤ pc → pc ≤ 5 * i + 5 → ml.map (·.1) = as → JI2 w p loose mean mg mb n ps row pl rl o c al S co as i tt R0 k m (ml ++ (al, listOf av.toArray an) :: (c, co) :: R0)
theorem in_step {w : World} {p loose mean mg mb} {pl rl : Addr} {pv rv : List Value} {pn rn : Nat} {ps : List (Nat × Nat)} {ks : List Int} {tl : Led} {tps : Array Value} (hp : PairsAre tl pv ps) (hr : IntsAre rv ks) (hk2 : ks.length ≤ 10) (hb : ∀ p ∈ ps, p.1 < ks.length ∧ p.2 < ks.length ∧ p.1 ≠ p.2) (hl : ps.length ≤ 10) (ht : TabOk tps) (hn : codeAmong kpos tps.toList = none) (q1 : pl ≠ 521) (q2 : rl ≠ 521) (q3 : Off 521 tl) :
    CSpec PySem.Challenge.rw_xm0628_02.prog w (hd02.heap_1 w.params) p loose mean mg mb 533 8 [.ref pl, .ref rl] ((pl, listOf pv.toArray pn) :: (rl, listOf rv.toArray rn) :: (521, tabObj tps) :: tl)
      (fun r chg new => ∃ R sv sn led c co tps', r = .ref R ∧ ZAre led sv (rsts ps ks) ∧ CRec co ∧ TabHit kpos tps' c ∧ chg = (pl, listOf pv.toArray pn) :: (rl, listOf rv.toArray rn) :: (521, tabObj tps') :: tl ∧ new = (c, co) :: (R, listOf (List.toArray sv) sn) :: led) := by
  have zp := hp.length
  have zr := hr.length
  unfold CSpec; k_fill
  intro dp un gd cn cs ad ccd cl outer A₀ base h₀ L m rest s Q E B F X N hoff T hk hd hu hret
  (try simp only [List.forall_mem_cons, List.not_mem_nil, false_implies, implies_true, and_true, List.nil_append, List.cons_append] at hoff N)
  (try simp only [List.forall_mem_cons, List.not_mem_nil, false_implies, implies_true, and_true, List.nil_append, List.cons_append] at hret)
  refine wpAny_call ?_; k_extra "my enter"
  k_steps
  refine ⟨?_⟩
  intro al h5 F5 N5 hal
  have hal0 := hal
  k_lt hal
  k_steps
  refine ⟨?_⟩
  refine byc ?_; intro hGG
  k_extra "my split"
  refine hGG ?_; clear hGG
  k_dflt (refine' CSpec.use ?B ?F ?X ?N ?T ?P (begun hp hr hk2 ?hb hl ht hn q1 q2 q3 ?q4) ?hk ?ho ?hd ?hu ?_)
  (case B => k_asm); (case F => k_asm); (case X => k_asm); (case N => k_asm); (case T => k_asm); (case P => k_extra "my pick")
  case hb => exact fun p hp => ⟨by have := hb p hp; omega, by have := hb p hp; omega⟩
  case q4 => k_ne
  (case hk => first | exact rfl | assumption)
  (case ho => k_extra "my off"); (case hd => ktr_room); (case hu => ktr_units)
  k_whole
  intro r4 chg new h9 tk9 F9 N9 o9 hp9
  refine byc ?_; intro hGG
  obtain ⟨x, c, co, ml, tps', rfl, hM, hcr, ht', rfl, rfl⟩ := hp9
  refine hGG ?_; clear hGG
  simp only [List.cons_append, List.append_assoc, List.nil_append] at N9
  have o9c := o9 (c, co) (List.mem_append_right _ (.head _))
  have o9m : ∀ p ∈ ml, _ := fun p hp => o9 p (List.mem_append_left _ hp)
  clear o9
  k_steps
  refine ⟨?_⟩
  intro S h4 F4 N4 hS
  k_lt hS
  k_steps
  refine ⟨?_⟩
  refine byc ?_; intro hGG
  k_extra "my split"
  refine hGG ?_; clear hGG
  rename AllLt _ (tl ++ (ml ++ _)) => hT
  clear hT
  rename AllLt _ (tl ++ (ml ++ _)) => hS
  rename News _ _ _ _ => N2
  rename Fr _ _ _ _ => F2
  have hSm := allLt_left (allLt_right hS)
  have hSc := (allLt_right (allLt_right hS)).1
  have hSr := (allLt_right (allLt_right hS)).2
  have hSt := allLt_left hS
  refine' loop_range0 (n := ps.length) (nx₀ := ml ++ (al, listOf (List.toArray []) 0) :: (c, co) :: (S, listOf (List.toArray []) 0) :: ([] ++ ((pl, listOf pv.toArray pn) :: (rl, listOf rv.toArray rn) :: (521, tabObj tps') :: (tl ++ rest))))
    (JI w p loose mean mg mb ks.length ps ks pl rl x c al S co (ml.map (·.1)) ((pl, listOf pv.toArray pn) :: (rl, listOf rv.toArray rn) :: (521, tabObj tps') :: (tl ++ rest))) rfl (by assumption) (by omega) (by omega) F2 N2 ?hn ?hj ?turn ?done
  case hj =>
    refine JI.mk (i := 0) (ps := ps) (row := ks) (led := []) (sv := []) (av := []) ?k1 ?k2 ?k3 ?k4 hM (.cmp 0 rfl (Nat.zero_le _) rfl ?l1 ?l2) rfl .nil rfl ?l3 ?l4 ?l5 ?l6 ?l7
    (case k1 => rfl); (case k2 => rfl); (case k3 => rfl); (case k4 => rfl); (case l7 => exact fun _ h => nomatch h)
    case l1 => simp [zr]
    case l2 =>
      have e : (rv ++ [Value.none] ++ List.replicate 12 Value.none).take ks.length = rv := by rw [← zr, List.append_assoc, List.take_left]
      rw [e]; exact hr
    case l3 =>
      intro a ha
      refine byc ?_; intro hGG
      obtain ⟨q, hq, rfl⟩ := List.mem_map.mp ha
      refine hGG ?_; clear hGG
      have z := o9m q hq
      simp only [List.cons_append, List.nil_append, Mine.off_cons, Mine.off_append] at z ⊢
      refine byc ?_; intro hGG
      obtain ⟨z1, z2, z3, z4, z5, z6⟩ := z
      refine hGG ?_; clear hGG
      exact ⟨Nat.ne_of_gt (ktn_ltOf hSm q hq), z1, z2, z4, z5, z6⟩
    case l4 => simp only [List.nil_append]; k_all
    case l5 =>
      simp only [List.cons_append, List.nil_append, Mine.off_cons, Mine.off_append] at o9c ⊢
      refine byc ?_; intro hGG
      obtain ⟨z1, z2, z3, z4, z5, z6⟩ := o9c
      refine hGG ?_; clear hGG
      exact ⟨Nat.ne_of_gt hSc, z1, z2, z4, z5, z6⟩
    case l6 => simp only [List.nil_append]; k_all
  case hn => simp only [List.nil_append]; k_extra "my sub"
  case turn =>
    clear F2 N2
    intro i m₁ nx h tk own tt hlt hown hJ F1 N1
    refine byc ?_; intro hGG
    cases hJ with
    | @mk ml' st av sv an sn pc led e1 e2 e3 e4 hM' hP hpc hZ hmap hA hAl hCc hSo hled =>
    refine hGG ?_; clear hGG
    have F2 := (((((FrK.ini F1).k ((if_neg (by decide)).trans e1)).k ((if_neg (by decide)).trans e2)).k ((if_neg (by decide)).trans e3)).k ((if_neg (by decide)).trans e4)).fr
    clear F1
    simp only [List.append_assoc, List.cons_append] at N1
    generalize hR0 : ((S, listOf sv.toArray sn) :: (led ++ ((pl, listOf pv.toArray pn) :: (rl, listOf rv.toArray rn) :: (521, tabObj tps') :: (tl ++ (rest ++ own)))) : Led) = R0 at N1
    have hAR : ∀ a ∈ ml.map (·.1), Off a R0 := by
      refine byc ?_; intro hGG
      subst hR0
      refine hGG ?_; clear hGG
      intro a ha
      have z := hA a ha
      have z2 : Off a own := by
        rw [← hmap] at ha
        refine byc ?_; intro hGG
        obtain ⟨q, hq, rfl⟩ := List.mem_map.mp ha
        refine hGG ?_; clear hGG
        exact own_off (o := q.2) hown (List.mem_append_left _ hq)
      simp only [Mine.off_cons, Mine.off_append] at z ⊢
      exact ⟨z.1, z.2.1, z.2.2.1, z.2.2.2.1, z.2.2.2.2.1, z.2.2.2.2.2.1, z.2.2.2.2.2.2, z2⟩
    have hAlR : Off al R0 := by
      refine byc ?_; intro hGG
      subst hR0
      refine hGG ?_; clear hGG
      have z := hAl
      have z2 := own_off hown (List.mem_append_right _ (.head _))
      simp only [Mine.off_cons, Mine.off_append] at z ⊢
      exact ⟨z.1, z.2.1, z.2.2.1, z.2.2.2.1, z.2.2.2.2.1, z.2.2.2.2.2.1, z.2.2.2.2.2.2, z2⟩
    have hCR : Off c R0 := by
      refine byc ?_; intro hGG
      subst hR0
      refine hGG ?_; clear hGG
      have z := hCc
      have z2 := own_off hown (List.mem_append_right _ (.tail _ (.head _)))
      simp only [Mine.off_cons, Mine.off_append] at z ⊢
      exact ⟨z.1, z.2.1, z.2.2.1, z.2.2.2.1, z.2.2.2.2.1, z.2.2.2.2.2.1, z.2.2.2.2.2.2, z2⟩
    k_steps
    refine ⟨?_⟩
    rename News _ _ _ _ => N2
    rename Fr _ _ _ _ => F2
    refine' loop_range0 (n := 5) (nx₀ := ml' ++ (al, listOf av.toArray an) :: (c, co) :: R0) (JI2 w p loose mean mg mb ks.length ps ks pl rl x c al S co (ml.map (·.1)) i tt R0) rfl (by assumption) (by omega) (by omega) F2 N2 ?hn2 ?hj2 ?turn2 ?done2
    case hj2 =>
      refine JI2.mk (k := 0) ?k1 ?k2 ?k3 ?k4 ?k5 hM' hP (by omega) (by omega) hmap
      (case k1 => rfl); (case k2 => rfl); (case k3 => rfl); (case k4 => rfl); (case k5 => rfl)
    case hn2 => k_extra "my sub"
    case turn2 =>
      clear N2 F2
      intro k m₂ nx2 h2 tk2 own2 tt2 hk5 hown2 hJ2 F3 N3
      refine byc ?_; intro hGG
      cases hJ2 with
      | @mk ml2 st2 av2 an2 pc2 e1' e2' e3' e4' e5' hM2 hP2 hpc2 hpc3 hmap2 =>
      refine hGG ?_; clear hGG
      have F4 := ((((((FrK.ini F3).k ((if_neg (by decide)).trans e1')).k ((if_neg (by decide)).trans e2')).k ((if_neg (by decide)).trans e3')).k ((if_neg (by decide)).trans e4')).k ((if_neg (by decide)).trans e5')).fr
      clear F3
      have hAll : ∀ p ∈ ml2 ++ [(al, listOf av2.toArray an2), (c, co)], Off p.1 (R0 ++ own2) := by
        refine off_rest (A := ml2 ++ [(al, listOf av2.toArray an2), (c, co)]) ?_ ?_
        · intro p hp
          rcases List.mem_append.mp hp with hp | hp
          · exact hAR p.1 (hmap2 ▸ List.mem_map.mpr ⟨p, hp, rfl⟩)
          · rcases List.mem_cons.mp hp with rfl | hp
            · exact hAlR
            · obtain rfl := List.mem_singleton.mp hp
              exact hCR
        · exact fun q hq b hb => hown2 q hq b (by rw [List.map_append] at hb ⊢; rcases List.mem_append.mp hb with hb | hb; exact List.mem_append_left _ hb; exact List.mem_append_right _ (by rcases List.mem_cons.mp hb with rfl | hb; exact .head _; rcases List.mem_cons.mp hb with rfl | hb; exact .tail _ (.head _); cases hb))
      have hM9 := hM2
      refine byc ?_; intro hGG
      cases hM2 with
      | @mk d S' cd kk li wx wd f ce t0 t1 t2 t3 t4 t5 t6 t7 t8 u w0 w1 w2 w3 w4 w5 v3 v7 a0 a1 a2 a3 a5 sn' wn ws fd eo hO hI hC =>
      refine hGG ?_; clear hGG
      simp only [List.cons_append, List.append_assoc, List.nil_append] at N3
      by_cases hlt5 : pc2 < 5 * i + 5
      · k_steps
        refine ⟨?_⟩
        k_dflt (refine' CSpec.use ?B1 ?F1 ?X1 ?N1 ?T1 ?P1 (run_walk (k := 1) rfl hk2 hl hb rfl (by decide) hM9 hP2) ?hk1 ?ho1 ?hd1 ?hu1 ?_)
        (case B1 => k_asm); (case F1 => k_asm); (case X1 => k_asm); (case N1 => k_asm); (case T1 => k_asm); (case P1 => k_extra "my pick")
        (case hk1 => first | exact rfl | assumption)
        (case ho1 => exact hAll); (case hd1 => ktr_room); (case hu1 => ktr_units)
        k_whole
        intro r4 chg new h9 tk9 F9 N9 o9 hp9
        refine byc ?_; intro hGG
        obtain ⟨T, ml3, av3, an3, rfl, hmap3, rfl, hor⟩ := hp9
        refine hGG ?_; clear hGG
        refine byc ?_
        intro hGG
        rcases hor with ⟨pc3, st3, to, hM3, hP3, hpc4, hpc5, v, rfl⟩ | ⟨R, rv3, rn3, to, rfl, hI3, hl3, hk3⟩
        · refine hGG ?_
          clear hGG
          have hpc6 := hpc5 rfl
          simp only [List.append_assoc, List.cons_append, List.nil_append] at N9
          k_steps
          refine InvEndG.intro (nx := ml3 ++ (al, listOf av3.toArray an3) :: (c, co) :: R0) F9 N9 (JI2.mk ?j1 ?j2 ?j3 ?j4 ?j5 hM3 hP3 (by omega) (by omega) (hmap3.trans hmap2)) (own_map hown2 (map_app hmap3 rfl)) ?hn3 ?ho3
          (case j1 => rfl); (case j2 => rfl); (case j3 => rfl); (case j4 => rfl); (case j5 => rfl)
          case hn3 => k_extra "my sub"
          case ho3 => k_extra "my sub"
        · exact absurd (hk3 rfl) (by omega)
      · k_steps
        rename News _ _ _ _ => N9
        rename Fr _ _ _ _ => F9
        refine InvEndG.intro (nx := _ ++ (al, listOf av2.toArray an2) :: (c, co) :: R0) F9 N9 (JI2.mk ?y1 ?y2 ?y3 ?y4 ?y5 hM9 hP2 (by omega) (by omega) hmap2) hown2 ?hn4 ?ho4
        (case y1 => rfl); (case y2 => rfl); (case y3 => rfl); (case y4 => rfl); (case y5 => rfl)
        case hn4 => k_extra "my sub"
        case ho4 => k_extra "my sub"
    case done2 =>
      clear N2 F2
      intro m₂ nx2 h2 tk2 hJ2 F3 N3
      refine byc ?_; intro hGG
      cases hJ2 with
      | @mk ml2 st2 av2 an2 pc2 e1' e2' e3' e4' e5' hM2 hP2 hpc2 hpc3 hmap2 =>
      refine hGG ?_; clear hGG
      have F4 := ((((((FrK.ini F3).k e1').k e2').k e3').k e4').k e5').fr
      clear F3
      refine byc ?_; intro hGG
      obtain ⟨hI5, hl5⟩ := Ph.at5 (i := i + 1) hP2 (by omega)
      refine hGG ?_; clear hGG
      have hpc9 : pc2 = 5 * i + 5 := by omega
      have zs := hZ.length
      rw [rsts_length, List.length_take] at zs
      have hAll : ∀ p ∈ ml2 ++ [(al, listOf av2.toArray an2), (c, co)], Off p.1 R0 := by
        intro p hp
        rcases List.mem_append.mp hp with hp | hp
        · exact hAR p.1 (hmap2 ▸ List.mem_map.mpr ⟨p, hp, rfl⟩)
        · rcases List.mem_cons.mp hp with rfl | hp
          · exact hAlR
          · obtain rfl := List.mem_singleton.mp hp
            exact hCR
      have hM9 := hM2
      have hSown : Off S own := own_off hown (List.mem_append_right _ (.tail _ (.tail _ (.head _))))
      have hSR : Off S (led ++ ((pl, listOf pv.toArray pn) :: (rl, listOf rv.toArray rn) :: (521, tabObj tps') :: (tl ++ (rest ++ own)))) := by
        simp only [Mine.off_cons, Mine.off_append] at hSo ⊢
        exact ⟨hSo.1, hSo.2.1, hSo.2.2.1, hSo.2.2.2.1, hSo.2.2.2.2.1, hSo.2.2.2.2.2, hSown⟩
      have hSml : Off S (ml2 ++ [(al, listOf av2.toArray an2), (c, co)]) := fun p hp e => (hR0 ▸ hAll p hp) _ (.head _) e.symm
      refine byc ?_; intro hGG
      cases hM2 with
      | @mk d S' cd kk li wx wd f ce t0 t1 t2 t3 t4 t5 t6 t7 t8 u w0 w1 w2 w3 w4 w5 v3 v7 a0 a1 a2 a3 a5 sn' wn ws fd eo hO hI hC =>
      refine hGG ?_; clear hGG
      simp only [List.cons_append, List.append_assoc, List.nil_append] at N3
      simp only [List.cons_append, List.append_assoc, List.nil_append, Mine.off_cons] at hSml
      rw [← hR0] at N3
      refine byc ?_; intro hGG
      k_extra "my split"
      refine hGG ?_; clear hGG
      k_steps
      · exfalso; omega
      refine ⟨?_⟩
      intro Dn h7 F7 N7 l7
      have l8 := l7
      k_lt l7
      rw [Int.toNat_natCast] at N7
      k_steps
      rename News _ _ _ _ => N6
      rename Fr _ _ _ _ => F6
      refine byc ?_; intro hGG
      obtain ⟨pp, hpp⟩ : ∃ p, ps[i]? = some p := ⟨_, List.getElem?_eq_getElem hlt⟩
      refine hGG ?_; clear hGG
      have hDal : al < Dn := l8 (al, listOf av2.toArray an2) (by k_mem)
      have hDc : c < Dn := l8 (c, co) (by k_mem)
      have hDS : S < Dn := l8 (S, listOf sv.toArray sn) (by k_mem)
      have hDm : ∀ a ∈ ml.map (·.1), a < Dn := by
        intro a ha
        rw [← hmap2] at ha
        refine byc ?_; intro hGG
        obtain ⟨q, hq, rfl⟩ := List.mem_map.mp ha
        refine hGG ?_; clear hGG
        refine l8 q ?_
        clear ha
        revert hq
        revert q
        k_extra "my sub"
      refine' InvEndG.intro F6 N6 (JI.mk (led := (Dn, listOf (st2.take ks.length).toArray 0) :: led) (sv := sv ++ [.ref Dn]) ?y1 ?y2 ?y3 ?y4 hM9 hP2 (by omega) ?hz hmap2 ?g1 ?g2 ?g3 ?g4 ?g5) ?ha9 ?hn9 ?ho9
      (case y1 => rfl); (case y2 => rfl); (case y3 => rfl); (case y4 => rfl)
      case hn9 => k_extra "my sub"
      case ho9 => k_extra "my sub"
      case hz =>
        rw [rsts_succ hpp]
        exact (hZ.mono fun p hp => .tail _ hp).snoc (.head _) hI5
      case g1 => exact fun a ha => off_grow (hA a ha) (hDm a ha)
      case g2 => exact off_grow hAl hDal
      case g3 => exact off_grow hCc hDc
      case g4 => exact .cons (Nat.ne_of_gt hDS) hSo
      case g5 =>
        refine offs_cons (fun q hq => Nat.ne_of_lt (l8 q ?_)) hled
        revert q; k_extra "my sub"
      case ha9 =>
        refine own_of fun p hp => ?_
        rcases List.mem_append.mp hp with hp | hp
        · have z : p.1 ∈ ml'.map (·.1) := by rw [hmap, ← hmap2]; exact List.mem_map.mpr ⟨p, hp, rfl⟩
          refine byc ?_; intro hGG
          obtain ⟨q, hq, e⟩ := List.mem_map.mp z
          refine hGG ?_; clear hGG
          rw [← e]; exact own_off (o := q.2) hown (List.mem_append_left _ hq)
        · have hDown : Off Dn own := fun q hq => Nat.ne_of_lt (l8 q (by clear hp; revert hq; revert q; k_extra "my sub"))
          exact offs_cons (own_off hown (List.mem_append_right _ (.head _))) (offs_cons (own_off hown (List.mem_append_right _ (.tail _ (.head _)))) (offs_cons hSown (offs_cons hDown fun p hp => own_off (o := p.2) hown (List.mem_append_right _ (.tail _ (.tail _ (.tail _ hp))))))) p hp
  case done =>
    clear F2 N2
    intro m₁ nx h tk hJ F1 N1
    refine byc ?_; intro hGG
    cases hJ with
    | @mk ml' st av sv an sn pc led e1 e2 e3 e4 hM' hP hpc hZ hmap hA hAl hCc hSo hled =>
    refine hGG ?_; clear hGG
    rw [List.take_length] at hZ
    have F2 := (((((FrK.ini F1).k e1).k e2).k e3).k e4).fr
    clear F1
    k_steps
    rename News h₀ _ _ _ => N7
    refine' hret _ ((pl, _) :: (rl, _) :: (521, _) :: tl) ((c, co) :: (S, listOf sv.toArray sn) :: led) _ _ ?f1 ?n1 ?o1 ⟨S, sv, sn, led, c, co, tps', rfl, hZ, hcr, ht', rfl, rfl⟩
    (case n1 => refine kst_newsOf N7 ?_; k_extra "my sub"); (case f1 => assumption)
    case o1 =>
      have hled2 : ∀ p ∈ led, Off p.1 ((pl, listOf pv.toArray pn) :: (rl, listOf rv.toArray rn) :: (521, tabObj tps) :: (tl ++ rest)) := by
        intro p hp
        have z := hled p hp
        simp only [Mine.off_cons, Mine.off_append] at z ⊢
        exact z
      refine offs_cons ?_ (offs_cons ?_ hled2)
      · simp only [Mine.off_cons, Mine.off_append] at hCc ⊢
        exact hCc.2.2
      · simp only [Mine.off_cons, Mine.off_append] at hSo ⊢
        exact hSo.2

theorem lines_A1 : True := by
  k_with_none
  k_with "my own omega" => (first | omega (splitDisjunctions := false) | ((repeat (rename _ ∧ _ => hC_q446; cases hC_q446)); (repeat (rename _ ≠ _ => hX_q446; clear hX_q446)); omega (splitDisjunctions := true)))
  k_with "my mem" => (first | with_reducible exact mem_c | with_reducible exact mem_2 | with_reducible exact mem_3 | with_reducible exact mem_4 | (with_reducible refine skip_4 ?_; k_extra "my mem") | (with_reducible refine skip_1 ?_; k_extra "my mem") | with_reducible assumption | (with_reducible refine List.mem_append_left _ ?_; k_extra "my mem") | (with_reducible refine List.mem_append_right _ ?_; k_extra "my mem"))
  k_with "my mem2" => (first | exact List.mem_cons_self | assumption | (refine List.mem_cons_of_mem _ ?_; k_extra "my mem2") | (refine List.mem_append_left _ ?_; k_extra "my mem2") | (refine List.mem_append_right _ ?_; k_extra "my mem2"))
  k_with "my own k_mem" => (first | k_extra "my mem" | k_extra "my mem2")
  k_with "my ne" => (first | with_reducible assumption | with_reducible exact Ne.symm (by with_reducible assumption) | with_reducible exact Nat.ne_of_lt (by with_reducible assumption) | with_reducible exact Nat.ne_of_gt (by with_reducible assumption))
  k_with "my own k_ne" => ((refine neN ?_; first | k_extra "my ne" | ((try dsimp only); k_extra "my ne") | (k_extra "my split"; (try dsimp only); first | k_extra "my ne" | omega (splitDisjunctions := false))))
  k_with "my upd" => (first | (refine' Upd.head ?a_q452; (case a_q452 => k_all)) | (refine' Upd.tail ?a_q452 ?b_q452; (case a_q452 => k_ne); (case b_q452 => k_extra "my upd")))
  k_with "my own k_upd" => (k_extra "my upd")
  k_with "my updF" => (first | (refine' UpdF.head ?a_q454; (case a_q454 => k_all)) | (refine' UpdF.tail ?a_q454 ?b_q454; (case a_q454 => k_ne); (case b_q454 => k_extra "my updF")))
  k_with "my own k_updF" => (k_extra "my updF")
  k_with "my split" => (repeat (first | (rename _ ∧ _ ∧ _ ∧ _ ∧ _ ∧ _ ∧ _ ∧ _ => hC_q456; refine elim_8 hC_q456 ?_; clear hC_q456; intro _ _ _ _ _ _ _ _) | (rename _ ∧ _ ∧ _ ∧ _ => hC_q456; refine elim_4 hC_q456 ?_; clear hC_q456; intro _ _ _ _) | (rename _ ∧ _ => hC_q456; cases hC_q456)))
  k_with "my offleaf" => (first | assumption | exact Off.nil | exact Off.of1 (by assumption) | exact Off.ofLt (by assumption) | exact Off.ofLt (allLt_left (by assumption)) | exact Off.ofLt (allLt_right (by assumption)) | exact Off.ofLt (allLt_left (allLt_right (by assumption))) | exact Off.ofLt (allLt_right (allLt_right (by assumption))))
  k_with "my own k_all" => ((show Off _ _; first | assumption | (k_extra "my split"; repeat' (first | with_reducible exact Off.nil | with_reducible refine off_c ?_ ?_ | with_reducible refine Off.append ?_ ?_ | k_ne | k_extra "my offleaf"))))
  k_with "my enter" => (k_dflt (first | (refine' code_def ?k1_q459 ?k2_q459 ?k3_q459 ?k4_q459 ?k5_q459 ?kA_q459 ?kF_q459 ?kK_q459 ?k6_q459 ?k7_q459 ?k8_q459 ?k9_q459 ?kB_q459 ?_ ?c2_q459 ?c3_q459 ?c4_q459 ?c5_q459; (case kA_q459 => exact rfl); (case kF_q459 => exact rfl); (case kK_q459 => first | exact rfl | assumption); (case k1_q459 => k_asm); (case k2_q459 => k_asm); (case k3_q459 => k_asm); (case k4_q459 => k_asm); (case k5_q459 => k_asm); (case k6_q459 => k_is); (case k7_q459 => k_is); (case k8_q459 => ktr_room); (case k9_q459 => first | exact BindsTo.of_eq rfl | exact binds_K (by k_in) rfl (by k_is) rfl rfl rfl); (case c5_q459 => decide); (case kB_q459 => exact locs rfl); (case c2_q459 => exact rfl); (case c3_q459 => exact rfl); (case c4_q459 => exact rfl); k_whole; intro g'_q459 L'_q459 h'_q459 FG'_q459 F'_q459 N'_q459 B'_q459 X'_q459 T'_q459; (try dsimp only); (try k_fold)) | (refine' code_defC ?k1_q459 ?k2_q459 ?k3_q459 ?k4_q459 ?k5_q459 ?kA_q459 ?kF_q459 ?kK_q459 ?k6_q459 ?k7_q459 ?k8_q459 ?k9_q459 ?kB_q459 ?kD_q459 ?_ ?c2_q459 ?c3_q459 ?c4_q459; (case kA_q459 => exact rfl); (case kF_q459 => exact rfl); (case kK_q459 => first | exact rfl | assumption); (case k1_q459 => k_asm); (case k2_q459 => k_asm); (case k3_q459 => k_asm); (case k4_q459 => k_asm); (case k5_q459 => k_asm); (case k6_q459 => k_is); (case k7_q459 => k_is); (case k8_q459 => ktr_room); (case k9_q459 => first | exact BindsTo.of_eq rfl | exact binds_K (by k_in) rfl (by k_is) rfl rfl rfl); (case kB_q459 => exact rfl); (case kD_q459 => decide +kernel); (case c2_q459 => exact rfl); (case c3_q459 => exact rfl); (case c4_q459 => exact rfl); k_whole; intro g'_q459 L'_q459 h'_q459 tk'_q459 cells'_q459 FG'_q459 F'_q459 N'_q459 Y'_q459 B'_q459 X'_q459 T'_q459 l1_q459; (try k_lt l1_q459); (k_cells Y'_q459); (try simp only [List.cons_append, List.nil_append] at N'_q459); (try dsimp only); (try k_fold))))
  k_with "my in" => (first | assumption | (refine List.Mem.tail _ ?_; k_extra "my in") | (refine List.mem_append.mpr (Or.inl ?_); k_extra "my in") | (refine List.mem_append.mpr (Or.inr ?_); k_extra "my in"))
  k_with "my sub" => (((try simp only [List.nil_append, List.cons_append, List.append_assoc]); repeat' (first | with_reducible exact sub_nil | with_reducible refine sub_cons ?_ ?_ | with_reducible refine sub_append ?_ ?_ | (intro p_q461 hp_q461; k_extra "my in") | k_mem)))
  k_with "my off" => (((try simp only [List.nil_append, List.cons_append]); repeat' (first | with_reducible exact offs_nil | with_reducible refine offs_cons ?_ ?_ | k_all)))
  k_with "my pick" => ((repeat' (first | exact Picks.nil | refine' Picks.cons ?_ ?_ | exact Pick.head | refine' Pick.tail ?_)))
  k_with "pyIter ref" => ((k_here; (with_reducible show wpAny _ _ (pyIter (Value.ref _)) (fun it_q464 s₂_q464 => LoopAtV _ _ _ _ _ _ _ _ _ it_q464 s₂_q464) _ _); refine of_stop ?_))
  k_with "exec While" => ((k_here; refine of_stop ?_))
  k_with "call builtin:list.index" => ((k_here; (with_reducible show wpAny _ _ (call (Value.builtin _) [Value.ref _, Value.int _ _]) _ _ _); k_dflt (refine' idx_nat ?N_q466 ?m_q466 ?i_q466 ?k_q466 ?z_q466 ?_; (case N_q466 => k_asm); (case m_q466 => k_mem); (case i_q466 => assumption); (case k_q466 => assumption); (case z_q466 => (first | assumption | omega)); k_whole); intro u'_q466))
  k_with "call builtin:list.extend" => ((k_here; (with_reducible show wpAny _ _ (call (Value.builtin _) [Value.ref _, Value.ref _]) _ _ _); k_extra "my split"; (try (rename List.length _ = List.length (List.map _ _) => hL9_q467; simp only [List.length_map, rangeKs_length] at hL9_q467)); k_dflt (refine' ext_any ?F_q467 ?N_q467 ?b_q467 ?U_q467 ?z_q467 ?_; (case F_q467 => k_asm); (case N_q467 => k_asm); (case b_q467 => k_mem); (case U_q467 => k_upd); (case z_q467 => k_extra "my len"); k_whole); intro h'_q467 F'_q467 N'_q467; (try k_sweep)))
  k_with "my ints" => (first | assumption | exact IntsAre.nil | exact IntsAre.cons _ _ IntsAre.nil)
  k_with "my len" => (first | omega | (simp only [List.length_append, List.length_map, List.length_replicate, Int.reduceToNat, List.length_cons, List.length_nil, List.length_range, rangeKs_length]; omega))
  k_with "binaryOp Add ref ref" => ((k_here; (with_reducible show wpAny _ _ (binaryOp _ (Value.ref _) (Value.ref _)) _ _ _); k_extra "my split"; k_dflt (refine' add_any ?F_q470 ?N_q470 ?a_q470 ?b_q470 ?z_q470 ?_; (case F_q470 => k_asm); (case N_q470 => k_asm); (case a_q470 => k_mem); (case b_q470 => k_mem); (case z_q470 => k_extra "my len"); k_whole); intro D'_q470 us'_q470 h'_q470 F'_q470 N'_q470 l1_q470 he'_q470 hl'_q470; (try k_lt l1_q470); (try simp only [List.length_cons, List.length_nil, List.length_map] at hl'_q470); (try k_sweep)))
  k_with "binaryOp Add ref ref" => ((k_here; (with_reducible show wpAny _ _ (binaryOp _ (Value.ref _) (Value.ref _)) _ _ _); k_extra "my split"; k_dflt (refine' add_ints ?F_q471 ?N_q471 ?a_q471 ?b_q471 ?i_q471 ?j_q471 ?z_q471 ?_; (case F_q471 => k_asm); (case N_q471 => k_asm); (case a_q471 => k_mem); (case b_q471 => k_mem); (case i_q471 => k_extra "my ints"); (case j_q471 => k_extra "my ints"); (case z_q471 => k_extra "my len"); k_whole); intro D'_q471 us'_q471 ns'_q471 h'_q471 F'_q471 N'_q471 l1_q471 hI'_q471 he'_q471 hl'_q471 hv'_q471; (try k_lt l1_q471); (try simp only [List.length_cons, List.length_nil, List.length_map] at hl'_q471); (try k_sweep)))
  k_with "subscriptTail Name Name ref int" => ((k_here; (with_reducible show wpAny _ _ (subscriptTail _ _ (Value.ref _) (Value.int _ _)) _ _ _); k_dflt (refine' ksa_sub ?k1_q472 ?k2_q472 ?k3_q472 ?k4_q472 ?k5_q472 ?k6_q472 ?_ ?k7_q472; (case k1_q472 => k_asm); (case k2_q472 => k_mem); (case k3_q472 => assumption); (case k4_q472 => omega); (case k5_q472 => k_extra "my len"); (case k6_q472 => omega); (case k7_q472 => with_unfolding_all rfl); k_whole); intro _))
  k_with "subscriptTail Name BinOp ref int" => ((k_here; (with_reducible show wpAny _ _ (subscriptTail _ _ (Value.ref _) (Value.int _ _)) _ _ _); k_dflt (refine' ksa_sub ?k1_q473 ?k2_q473 ?k3_q473 ?k4_q473 ?k5_q473 ?k6_q473 ?_ ?k7_q473; (case k1_q473 => k_asm); (case k2_q473 => k_mem); (case k3_q473 => assumption); (case k4_q473 => omega); (case k5_q473 => k_extra "my len"); (case k6_q473 => omega); (case k7_q473 => with_unfolding_all rfl); k_whole); intro _))
  k_with "call builtin:len" => ((k_here; (with_reducible show wpAny _ _ (call (Value.builtin _) [Value.ref _]) _ _ _); k_dflt (refine' len_any ?N_q474 ?m_q474 ?e_q474 ?z_q474 ?_; (case N_q474 => k_asm); (case m_q474 => k_mem); (case e_q474 => assumption); (case z_q474 => k_extra "my len"); k_whole); intro _ _))
  k_with "eval Lambda" => ((k_here; k_dflt (refine' lam_hit (P := 521) (c := 525) ?F_q475 ?N_q475 ?T_q475 ?C_q475 ?cd_q475 ?U_q475 ?t_q475 ?cl_q475 ?d_q475 ?_; (case F_q475 => k_asm); (case N_q475 => k_asm); (case T_q475 => k_asm); (case cd_q475 => exact rfl); (case U_q475 => k_updF); (case C_q475 => exact codeHd_of_K (by assumption) (by kernel_rfl)); (case t_q475 => assumption); (case cl_q475 => exact rfl); (case d_q475 => exact rfl); k_whole); intro f'_q475 ps'_q475 h'_q475 tk'_q475 F'_q475 N'_q475 ht'_q475; (try dsimp only at N'_q475); (try k_sweep)))
  k_with "my own k_room" => (ktr_room)
  k_with "binaryOp Mult ref int" => ((k_here; (with_reducible show wpAny _ _ (binaryOp Operator.Mult (Value.ref _) (Value.int _ _)) _ _ _); k_dflt (refine' mul_one' ?F_q477 ?N_q477 ?l_q477 ?lo_q477 ?hi_q477 ?z_q477 ?_; (case F_q477 => k_asm); (case N_q477 => k_asm); (case l_q477 => k_mem); (case lo_q477 => omega); (case hi_q477 => omega); (case z_q477 => decide); k_whole); intro D'_q477 h'_q477 F'_q477 N'_q477 l1_q477; (try k_lt l1_q477); (try k_sweep)))
  k_with "setItem ref int" => ((k_here; (with_reducible show wpAny _ _ (setItem (Value.ref _) (Value.int _ _) _) _ _ _); k_dflt (refine' set_any ?F_q478 ?N_q478 ?U_q478 ?z0_q478 ?z1_q478 ?z2_q478 ?_; (case F_q478 => k_asm); (case N_q478 => k_asm); (case U_q478 => k_upd); (case z0_q478 => omega); (case z1_q478 => k_extra "my len"); (case z2_q478 => k_extra "my len"); k_whole); intro h'_q478 F'_q478 N'_q478; (try k_sweep)))
  k_with "my item" => ((k_here; (with_reducible show wpAny _ _ (subscriptTail _ _ (Value.ref _) (Value.int _ _)) _ _ _); k_dflt (refine' item_any ?N_q479 ?m_q479 ?z0_q479 ?z1_q479 ?z2_q479 ?_ ?hs_q479 ?hg_q479; (case N_q479 => k_asm); (case m_q479 => k_mem); (case z0_q479 => omega); (case z1_q479 => k_extra "my len"); (case z2_q479 => k_extra "my len"); (case hs_q479 => with_unfolding_all rfl); (case hg_q479 => intro _; with_unfolding_all rfl); k_whole)))
  k_with "subscriptTail Name Slice ref ref" => ((k_here; (with_reducible show wpAny _ _ (subscriptTail _ (PySem.Expr.Slice _ _ none _) (Value.ref _) (Value.ref _)) _ _ _); k_dflt (refine' slice_head ?F_q480 ?N_q480 ?m_q480 ?x_q480 ?y_q480 ?z_q480 ?_ ?s_q480 ?t_q480; (case F_q480 => k_asm); (case N_q480 => k_asm); (case m_q480 => k_mem); (case x_q480 => first | exact rfl | omega); (case y_q480 => omega); (case z_q480 => k_extra "my len"); (case s_q480 => with_unfolding_all rfl); (case t_q480 => kmk_pure)); intro D'_q480 h'_q480 F'_q480 N'_q480 l1_q480; (try k_lt l1_q480); (try k_sweep)))
  k_with "eval ListComp" => ((k_here; refine of_stop ?_))
  k_with "storeName" => ((k_here; k_dflt (refine' storeX_C ?F_q482 ?N_q482 ?c_q482 ?U_q482 ?d_q482 ?_ ?a_q482 ?b_q482; (case F_q482 => k_asm); (case N_q482 => k_asm); (case c_q482 => exact rfl); (case U_q482 => k_updF); (case d_q482 => assumption); (case a_q482 => exact rfl); (case b_q482 => exact rfl); k_whole); intro h'_q482 o'_q482 F'_q482 N'_q482 d1'_q482; (try dsimp only at N'_q482); (try k_sweep)))
  k_with "exec For Name Call cons nil" => ((k_here; (rename Fr _ _ _ _ => lF9_q483); refine For_invTF lF9_q483 ?_ (by intro _; rfl)))
  k_with "pyIter ref" => ((k_here; (with_reducible show wpAny _ _ (pyIter (Value.ref _)) (fun it_q484 s₂_q484 => LoopAtT _ _ _ _ _ _ _ _ _ it_q484 s₂_q484) _ _); refine of_stop ?_))
  k_with "newList" => ((k_here; k_dflt (refine' newList_K ?F_q485 ?N_q485 ?_ ?z_q485; (case F_q485 => k_asm); (case N_q485 => k_asm); (case z_q485 => size_fits); k_whole; refine of_stop ?_)))
  k_with "subscriptTail Name Slice ref ref" => ((k_here; (with_reducible show wpAny _ _ (subscriptTail _ (PySem.Expr.Slice _ none none _) (Value.ref _) (Value.ref _)) _ _ _); k_dflt (refine' slice_from ?F_q486 ?N_q486 ?m_q486 ?y_q486 ?z_q486 ?_ ?s_q486 ?t_q486; (case F_q486 => k_asm); (case N_q486 => k_asm); (case m_q486 => first | k_mem | assumption); (case y_q486 => omega); (case z_q486 => k_extra "my len"); (case s_q486 => with_unfolding_all rfl); (case t_q486 => kmk_pure)); refine of_stop ?_))
  k_with "my own k_all" => ((show Off _ _; first | assumption | (k_extra "my split"; repeat' (first | with_reducible exact Off.nil | with_reducible exact Off.ofLt (by with_reducible assumption) | with_reducible refine off_c ?_ ?_ | with_reducible refine Off.append ?_ ?_ | k_ne | k_extra "my offleaf"))))
  k_with "my len" => (first | omega | (simp only [List.length_append, List.length_map, List.length_replicate, Int.reduceToNat, List.length_cons, List.length_nil, List.length_range, rangeKs_length, List.length_set]; omega))
  trivial

theorem arr_len {k : Nat} (h : k ≤ 3) : (arr k).length ≤ 6 := by
  match k, h with
  | 0, _ => decide
  | 1, _ => decide
  | 2, _ => decide
  | 3, _ => decide
theorem arr_row : ∀ {k : Nat} {r : List Nat}, r ∈ arr k → r.length = k
  | 0, r, h => by rw [List.mem_singleton.mp h]; rfl
  | k + 1, r, h => by
    refine byc ?_; intro hGG
    obtain ⟨a, _, h⟩ := List.mem_flatMap.mp h
    obtain ⟨q, hq, rfl⟩ := List.mem_map.mp h
    refine hGG ?_; clear hGG
    have := arr_row hq
    simp only [List.length_append, List.length_take, List.length_drop, List.length_cons, List.length_nil]
    omega
def arow (k a : Nat) (row : List Nat) : List Nat := row.take a ++ [k] ++ row.drop a
inductive JA (c1 c2 : Addr) (base : Led) (k : Nat) (m : Str → Option Value) : Led → Prop
  | mk {o1 o2 : Obj} {v0 : Option Value} {ax : Addr} {vs : List Value} {k1 : Nat} {led : Led} : o1.data = Data.cell v0 → o2.data = Data.cell (some (.ref ax)) → (ax, listOf vs.toArray k1) ∈ led → ListsAre led vs (arr k) → Off c1 led → Off c2 led → (∀ p ∈ led, Off p.1 base) → JA c1 c2 base k m ((c1, o1) :: (c2, o2) :: (led ++ base))
/-- what the comprehension has made ahead of the place (a, j) -/
inductive IA (k : Nat) (nw : Led) (a j : Nat) (ys : List Value) : Led → Prop
  | mk {ld : Led} : ListsAre ld ys (((List.range a).flatMap fun b => (arr k).map (arow k b)) ++ ((arr k).take j).map (arow k a)) → (∀ p ∈ ld, Off p.1 nw) → ys.length = a * (arr k).length + j → IA k nw a j ys (ld ++ nw)
theorem IA.next {k a : Nat} {nw l : Led} {ys : List Value} {vs : List Value} (hv : vs.length = (arr k).length) (h : IA k nw a vs.length ys l) : IA k nw (a + 1) 0 ys l := by
  refine byc ?_; intro hGG
  cases h with
  | @mk ld h1 h2 h3 =>
  refine hGG ?_; clear hGG
  refine .mk ?_ h2 ?_
  · rw [hv, List.take_length] at h1
    rw [List.range_succ, List.flatMap_append, List.flatMap_singleton, List.take_zero, List.map_nil, List.append_nil]
    exact h1
  · rw [h3, hv, Nat.succ_mul]; rfl
theorem wpAny_stop {M : Model} {A : Around} {α : Type} {t : Sem α} {Q : α → Shared → Prop} {E : Value → Shared → Prop} {s : Shared} (h : wpAny M A t (fun v s => Stop (Q v s)) E s) : wpAny M A t Q E s :=
  wpAny_mono h (fun _ _ q => q.go) fun _ _ q => q
theorem arow_nz {k a : Nat} {rr : List Nat} : List.take ((a : Int)).toNat (nz rr) ++ [(k : Int)] ++ List.drop ((a : Int)).toNat (nz rr) = nz (arow k a rr) := by
  rw [Int.toNat_natCast]
  unfold arow nz
  rw [List.map_append, List.map_append, List.map_take, List.map_drop]; rfl
theorem all_walk {w : World} {p loose mean mg mb} {n : Nat} {t : Tok} (hn : n ≤ 4) :
    CSpec PySem.Challenge.rw_xm0628_02.prog w (hd02.heap_1 w.params) p loose mean mg mb 545 1 [.int (n : Int) t] []
      (fun r chg new => ∃ R rv rn led, r = .ref R ∧ ListsAre led rv (arr n) ∧ chg = [] ∧ new = (R, listOf (List.toArray rv) rn) :: led) := by
  unfold CSpec; k_fill
  intro dp un gd cn cs ad ccd cl outer A₀ base h₀ L m rest s Q E B F X N hoff T hk hd hu hret
  (try simp only [List.forall_mem_cons, List.not_mem_nil, false_implies, implies_true, and_true, List.nil_append, List.cons_append] at hoff N)
  (try simp only [List.forall_mem_cons, List.not_mem_nil, false_implies, implies_true, and_true, List.nil_append, List.cons_append] at hret)
  refine wpAny_call ?_
  k_dflt (refine' code_defC ?k1 ?k2 ?k3 ?k4 ?k5 ?kA ?kF ?kK ?k6 ?k7 ?k8 ?k9 ?kB ?kD ?_ ?c2 ?c3 ?c4; (case kA => exact rfl); (case kF => exact rfl); (case kK => first | exact rfl | assumption); (case k1 => k_asm); (case k2 => k_asm); (case k3 => k_asm); (case k4 => k_asm); (case k5 => k_asm); (case k6 => k_is); (case k7 => k_is); (case k8 => ktr_room); (case k9 => first | exact BindsTo.of_eq rfl | exact binds_K (by k_in) rfl (by k_is) rfl rfl rfl); (case kB => exact rfl); (case kD => decide +kernel); (case c2 => exact rfl); (case c3 => exact rfl); (case c4 => exact rfl))
  intro g' L' h' tk' cells' FG' F' N' Y' B' X' T' l1
  (try k_lt l1); (k_cells Y'); (try simp only [List.cons_append, List.nil_append] at N'); (try dsimp only); (try k_fold)
  have ys1 := allLt_succ (l := rest) l1
  have ys2 := allLt_succ (l := rest) ys1
  have yc1 : L' + 1 + 1 ≠ L' + 1 := Nat.ne_of_gt (Nat.lt_succ_self _)
  k_steps
  refine ⟨?_⟩
  intro ex hx1 F1 N1 hex
  k_lt hex
  k_steps
  refine ⟨?_⟩
  intro ax hx2 F2 N2 hax
  k_lt hax
  k_steps
  refine ⟨?_⟩
  rename News _ _ _ _ => N9
  rename Fr _ _ _ _ => F9
  rename _ = Data.cell (some (Value.ref ax)) => hda
  refine byc ?_; intro hGG
  k_extra "my split"
  refine hGG ?_; clear hGG
  refine' rangeT (n := n) (nx₀ := (L' + 1 + 1, _) :: (L' + 1, _) :: ([(ax, listOf (List.toArray [Value.ref ex]) 0), (ex, listOf (List.toArray []) 0)] ++ rest)) (JA (L' + 1 + 1) (L' + 1) rest) rfl (by assumption) rfl (by omega) F9 N9 ?hn ?hj ?turn ?done (by intro _ _ _ _ q; exact wpAny_pure q)
  case hn => k_extra "my sub"
  case hj => exact .mk (by assumption) hda (.head _) (.cons (.tail _ (.head _)) .nil .nil) (by k_all) (by k_all) (offs_cons (by k_all) (offs_cons (by k_all) offs_nil))
  case turn =>
    clear N9 F9 hda
    intro k m₁ nx s1 own tt hk4 hown hJ F1 N1
    refine byc ?_; intro hGG
    cases hJ with
    | @mk o1 o2 v0 ax2 vs k1 led hd1 hd2 hmem hL hc1 hc2 hled =>
    refine hGG ?_; clear hGG
    have hv := hL.length
    have ha6 := arr_len (k := k) (by omega)
    have oc1 := own_off hown (.head _)
    have oc2 := own_off hown (.tail _ (.head _))
    simp only [List.cons_append, List.append_assoc] at N1
    k_steps
    refine ⟨?_⟩
    rename News _ _ _ _ => N2
    rename Fr _ _ _ _ => F2
    rename _ = Data.cell (some (Value.int _ tt)) => hd3
    clear N1 F1
    refine byc ?_; intro hGG
    obtain ⟨o3, hd3, N2⟩ : ∃ o3 : Obj, o3.data = Data.cell (some (Value.int (k : Int) tt)) ∧ News g' L' _ ((L' + 1 + 1, o3) :: (L' + 1, o2) :: (led ++ (rest ++ own))) := ⟨_, hd3, N2⟩
    refine hGG ?_; clear hGG
    refine comp2_E (n := k + 1) (k1 := k1) (ax := ax2) (vs := vs) (IA k ((L' + 1 + 1, o3) :: (L' + 1, o2) :: (led ++ (rest ++ own)))) F2 N2 rfl rfl (by decide) rfl (by decide) rfl rfl (by decide) (by omega) ?src (by omega) ?mem ?ini (fun a ys l _ h => h.next hv) ?hrow ?helt ?fin
    case src =>
      k_steps
      all_goals first | assumption | (rw [show ((k + 1 : Nat) : Int) = (k : Int) + 1 by omega]; assumption)
    case mem => exact .tail _ (.tail _ (List.mem_append_left _ hmem))
    case ini => exact .mk (ld := []) .nil (fun _ h => nomatch h) (by rw [Nat.zero_mul]; rfl)
    case hrow =>
      intro C h tk a ys led' E' hI F N
      refine byc ?_; intro hGG
      cases hI with
      | @mk ld h1 h2 h3 =>
      refine hGG ?_; clear hGG
      clear N2 F2
      k_steps
    case helt =>
      intro a j ys l v t I0 I1 C D oI0 oI1 oC m₂ h tk E' ha hj hvj hI hC0 hat hrow F N ap mem
      refine byc ?_; intro hGG
      cases hI with
      | @mk ld h1 h2 h3 =>
      obtain ⟨rd, ivs, k9, rr, hrr, rfl, hrm, hri⟩ := hL.get hvj
      refine hGG ?_; clear hGG
      refine wpAny_stop ?_
      have hz9 : ivs.length = k := by rw [hri.length, nz_length, arr_row (List.mem_of_getElem? hrr)]
      clear N2 F2
      k_steps
      refine ⟨?_⟩
      intro nl hx3 F3 N3 l3
      k_lt l3
      k_steps
      refine ⟨?_⟩
      intro Ds hx4 F4 N4 l4
      k_lt l4
      have hsl := ints_drop hri (a : Int).toNat
      have hzr : (nz rr).length = k := by rw [← hri.length, hz9]
      have hzd : (ivs.drop (a : Int).toNat).length ≤ 4 := by rw [List.length_drop]; omega
      have hzd2 : ((nz rr).drop (a : Int).toNat).length ≤ 4 := by rw [List.length_drop]; omega
      k_steps
      refine ⟨?_⟩
      rename _ = _ ++ List.drop _ _ => he2
      rename _ = List.take _ _ ++ [_] => he1
      rename IntsAre _ _ => hIf
      rw [he2, he1, arow_nz] at hIf
      rename News _ _ _ _ => N5
      rename Fr _ _ _ _ => F5
      refine byc ?_; intro hGG
      k_extra "my split"
      refine hGG ?_; clear hGG
      rename AllLt _ (ld ++ _) => hDf
      have hys := hv ▸ (List.getElem?_eq_some_iff.mp hrr).1
      have hsm : ys.length < 99999 := by
        have z1 : a * (arr k).length ≤ 4 * 6 := Nat.mul_le_mul (by omega) ha6
        omega
      refine' ⟨_, _, (_, listOf (List.toArray _) _) :: (ld ++ ((L' + 1 + 1, o3) :: (L' + 1, o2) :: (led ++ (rest ++ own)))), rfl, F5, kst_newsOf N5 ?n5, ⟨.cons ?a1 ap.a, .cons ?a2 ap.b, .cons ?a3 ap.c, .cons ?a4 ap.d⟩, ?m5, hsm, .mk (ld := (_, _) :: ld) ?l5 ?o5 ?z5⟩
      case n5 => k_extra "my sub"
      case m5 => exact .tail _ (List.mem_append_right _ (.tail _ (.tail _ (List.mem_append_left _ hmem))))
      case a1 => exact Nat.ne_of_gt (by assumption)
      case a2 => exact Nat.ne_of_gt (by assumption)
      case a3 => exact Nat.ne_of_gt (by assumption)
      case a4 => exact Nat.ne_of_gt (by assumption)
      case o5 => exact offs_cons (Off.ofLt (allLt_right hDf)) h2
      case z5 => rw [List.length_append, List.length_singleton, h3]; rfl
      case l5 =>
        rw [List.take_add_one, hrr, List.map_append, ← List.append_assoc]
        exact (h1.mono fun p hp => .tail _ hp).snoc (.head _) hIf
    case fin =>
      intro ys l D h tk hI F N hoD
      refine byc ?_; intro hGG
      cases hI with
      | @mk ld h1 h2 h3 =>
      refine hGG ?_; clear hGG
      have N9 : News g' L' h ((L' + 1, o2) :: (L' + 1 + 1, o3) :: (D, LCg.lst ys) :: (ld ++ (led ++ (rest ++ own)))) := kst_newsOf N (by k_extra "my sub")
      clear N N2 F2
      have c1l : Off (L' + 1 + 1) ld := fun q hq e => h2 q hq _ (.head _) e.symm
      have c2l : Off (L' + 1) ld := fun q hq e => h2 q hq _ (.tail _ (.head _)) e.symm
      have hoD' := hoD
      rw [Mine.off_append, Mine.off_cons, Mine.off_cons] at hoD
      refine byc ?_; intro hGG
      obtain ⟨z1, z2, z3, z4⟩ := hoD
      refine hGG ?_; clear hGG
      have oc3 : Off (L' + 1) rest := by k_all
      have oc4 : Off (L' + 1 + 1) rest := by k_all
      k_steps
      rename _ = Data.cell (some (Value.ref D)) => hdD
      rename News _ _ _ _ => N7
      rename Fr _ _ _ _ => F7
      have zr : ∀ p ∈ ld, Off p.1 rest ∧ Off p.1 own := fun p hp => by
        have z := h2 p hp
        rw [Mine.off_cons, Mine.off_cons, Mine.off_append, Mine.off_append] at z
        exact z.2.2.2
      rw [Mine.off_append, Mine.off_append] at z4
      refine' InvEndG.intro F7 N7 (JA.mk (o1 := o3) (ax := D) (vs := ys) (k1 := ys.length) (led := (D, LCg.lst ys) :: ld) hd3 hdD (.head _) ?jL ?j1 ?j2 ?j3) ?ja ?jn ?jo
      case jL =>
        rw [List.take_zero, List.map_nil, List.append_nil] at h1
        exact h1.mono fun p hp => .tail _ hp
      case j1 => exact .cons (Ne.symm z2) c1l
      case j2 => exact .cons (Ne.symm z3) c2l
      case j3 => exact offs_cons z4.2.1 fun p hp => (zr p hp).1
      case jn => k_extra "my sub"
      case jo => k_extra "my sub"
      case ja =>
        refine own_of (offs_cons oc1 (offs_cons oc2 (offs_cons z4.2.2 fun p hp => ?_)))
        rcases List.mem_append.mp hp with hp | hp
        · exact (zr p hp).2
        · exact own_off (o := p.2) hown (.tail _ (.tail _ (List.mem_append_right _ hp)))
  case done =>
    clear N9 F9 hda
    intro m₁ nx h tk hJ F1 N1
    refine byc ?_; intro hGG
    cases hJ with
    | @mk o1 o2 v0 ax2 vs k1 led hd1 hd2 hmem hL hc1 hc2 hled =>
    refine hGG ?_; clear hGG
    k_steps
    rename News h₀ _ _ _ => N7
    refine' hret _ [] ((ax2, listOf vs.toArray k1) :: led) _ _ ?f1 ?n1 ?o1 ⟨ax2, vs, k1, led, rfl, hL, rfl, rfl⟩
    (case n1 => refine kst_newsOf N7 ?_; exact fun p hp => (by rcases List.mem_append.mp hp with hp | hp; cases hp; rcases List.mem_append.mp hp with hp | hp; rcases List.mem_cons.mp hp with rfl | hp; exact .tail _ (.tail _ (List.mem_append_left _ hmem)); exact .tail _ (.tail _ (List.mem_append_left _ hp)); exact .tail _ (.tail _ (List.mem_append_right _ hp)))); (case f1 => assumption)
    case o1 => exact offs_cons (hled _ hmem) hled

/-- the noughts and ones of a bound -/
def thr (b : Int) (r : List Int) : List Nat := r.map fun v => if b ≤ v then 1 else 0
theorem thr_get {b : Int} {r : List Int} {i : Nat} (h : i < r.length) : (thr b r).getD i 0 = if b ≤ r.getD i 0 then 1 else 0 := by
  unfold thr
  rw [List.getD_eq_getElem?_getD, List.getElem?_map, List.getElem?_eq_getElem h, List.getD_eq_getElem?_getD, List.getElem?_eq_getElem h]; rfl
theorem thr_set {b : Int} {r : List Int} {i : Nat} {x : Int} : thr b (r.set i x) = (thr b r).set i (if b ≤ x then 1 else 0) := by
  unfold thr; rw [List.map_set]
theorem set_self {α : Type} {d : α} : ∀ {r : List α} {i : Nat}, i < r.length → r.set i (r.getD i d) = r
  | [], _, h => absurd h (Nat.not_lt_zero _)
  | a :: r, 0, _ => rfl
  | a :: r, i + 1, h => congrArg (List.cons a) (set_self (r := r) (Nat.lt_of_succ_lt_succ h))
theorem thr_cx {b : Int} {r : List Int} {p : Nat × Nat} (h1 : p.1 < r.length) (h2 : p.2 < r.length) : thr b (cx r p) = ost (thr b r) p := by
  have hl : (thr b r).length = r.length := by unfold thr; rw [List.length_map]
  unfold cx ost
  rw [thr_get h1, thr_get h2]
  split
  · rename_i h
    rw [thr_set, thr_set]
    by_cases c1 : b ≤ r.getD p.1 0
    · by_cases c2 : b ≤ r.getD p.2 0
      · rw [if_pos c1, if_pos c2]; rfl
      · rw [if_pos c1, if_neg c2]; rfl
    · rw [if_neg c1, if_neg (by omega)]; rfl
  · rename_i h
    by_cases c1 : b ≤ r.getD p.1 0
    · have c2 : b ≤ r.getD p.2 0 := by omega
      rw [if_pos c1, if_pos c2]
      have e1 : (1 : Nat) &&& 1 = (thr b r).getD p.1 0 := by rw [thr_get h1, if_pos c1]; rfl
      have e2 : (1 : Nat) ||| 1 = (thr b r).getD p.2 0 := by rw [thr_get h2, if_pos c2]; rfl
      rw [e1, e2, set_self (by omega), set_self (by omega)]
    · by_cases c2 : b ≤ r.getD p.2 0
      · rw [if_neg c1, if_pos c2]
        have e1 : (0 : Nat) &&& 1 = (thr b r).getD p.1 0 := by rw [thr_get h1, if_neg c1]; rfl
        have e2 : (0 : Nat) ||| 1 = (thr b r).getD p.2 0 := by rw [thr_get h2, if_pos c2]; rfl
        rw [e1, e2, set_self (by omega), set_self (by omega)]
      · rw [if_neg c1, if_neg c2]
        have e1 : (0 : Nat) &&& 0 = (thr b r).getD p.1 0 := by rw [thr_get h1, if_neg c1]; rfl
        have e2 : (0 : Nat) ||| 0 = (thr b r).getD p.2 0 := by rw [thr_get h2, if_neg c2]; rfl
        rw [e1, e2, set_self (by omega), set_self (by omega)]
/-- ASKED first: the states' noughts and ones are those of and, or alone -/
theorem states_thr {b : Int} : ∀ {ps : List (Nat × Nat)} {r : List Int}, (∀ p ∈ ps, p.1 < r.length ∧ p.2 < r.length) → (rsts ps r).map (thr b) = osts ps (thr b r)
  | [], _, _ => rfl
  | p :: ps, r, h => by
    have hp := h p (.head _)
    show thr b (cx r p) :: (rsts ps (cx r p)).map (thr b) = ost (thr b r) p :: osts ps (ost (thr b r) p)
    rw [thr_cx hp.1 hp.2, states_thr fun q hq => by rw [cx_length]; exact h q (.tail _ hq), thr_cx hp.1 hp.2]
theorem ran_thr {b : Int} : ∀ {ps : List (Nat × Nat)} {r : List Int}, (∀ p ∈ ps, p.1 < r.length ∧ p.2 < r.length) → thr b (ran ps r) = orun ps (thr b r)
  | [], _, _ => rfl
  | p :: ps, r, h => by
    have hp := h p (.head _)
    show thr b (ran ps (cx r p)) = orun ps (ost (thr b r) p)
    rw [ran_thr fun q hq => by rw [cx_length]; exact h q (.tail _ hq), thr_cx hp.1 hp.2]
/-- closed under compare and change: finite -/
def prs (n : Nat) : List (Nat × Nat) := ((List.range n).flatMap fun a => (List.range n).map fun b => (a, b)).filter fun p => p.1 != p.2
theorem closed3 : ((arr 3).all fun a => (prs 3).all fun p => ((arr 3).map nz).contains (cx (nz a) p)) = true := by decide +kernel
theorem closed4 : ((arr 4).all fun a => (prs 4).all fun p => ((arr 4).map nz).contains (cx (nz a) p)) = true := by decide +kernel
/-- no one ahead of a nought -/
def up (l : List Nat) : Bool := (List.range l.length).all fun i => (List.range l.length).all fun j => !(decide (i < j)) || decide (l.getD i 0 ≤ l.getD j 0)
theorem ends3 : ((arr 3).all fun a => ((List.range 4).all fun b => up (thr (b : Nat) (nz a))) == decide (nz a = nz (List.range 3))) = true := by decide +kernel
theorem ends4 : ((arr 4).all fun a => ((List.range 5).all fun b => up (thr (b : Nat) (nz a))) == decide (nz a = nz (List.range 4))) = true := by decide +kernel
def bitsOf (n k : Nat) : List Nat := (List.range n).map fun i => (k >>> i) &&& 1
theorem has3 : ((List.range 8).all fun k => (arr 3).any fun a => (List.range 4).any fun b => thr (b : Nat) (nz a) == bitsOf 3 k) = true := by decide +kernel
theorem has4 : ((List.range 16).all fun k => (arr 4).any fun a => (List.range 5).any fun b => thr (b : Nat) (nz a) == bitsOf 4 k) = true := by decide +kernel
theorem thrs3 : ((arr 3).all fun a => (List.range 4).all fun b => ((List.range 8).map (bitsOf 3)).contains (thr (b : Nat) (nz a))) = true := by decide +kernel
theorem thrs4 : ((arr 4).all fun a => (List.range 5).all fun b => ((List.range 16).map (bitsOf 4)).contains (thr (b : Nat) (nz a))) = true := by decide +kernel

/-- what is checked for three and four -/
structure Fin34 (n : Nat) : Prop where
  clo : ((arr n).all fun a => (prs n).all fun p => ((arr n).map nz).contains (cx (nz a) p)) = true
  ends : ((arr n).all fun a => ((List.range (n + 1)).all fun b => up (thr (b : Nat) (nz a))) == decide (nz a = nz (List.range n))) = true
  has : ((List.range (2 ^ n)).all fun k => (arr n).any fun a => (List.range (n + 1)).any fun b => thr (b : Nat) (nz a) == bitsOf n k) = true
  thrs : ((arr n).all fun a => (List.range (n + 1)).all fun b => ((List.range (2 ^ n)).map (bitsOf n)).contains (thr (b : Nat) (nz a))) = true
theorem fin3 : Fin34 3 := ⟨closed3, ends3, has3, thrs3⟩
theorem fin4 : Fin34 4 := ⟨closed4, ends4, has4, thrs4⟩
theorem mem_prs {n : Nat} {p : Nat × Nat} (h1 : p.1 < n) (h2 : p.2 < n) (h3 : p.1 ≠ p.2) : p ∈ prs n := by
  unfold prs
  refine List.mem_filter.mpr ⟨List.mem_flatMap.mpr ⟨p.1, List.mem_range.mpr h1, List.mem_map.mpr ⟨p.2, List.mem_range.mpr h2, rfl⟩⟩, ?_⟩
  simpa using h3
theorem ran_arr {n : Nat} (K : Fin34 n) : ∀ {ps : List (Nat × Nat)} {a : List Nat}, (∀ p ∈ ps, p.1 < n ∧ p.2 < n ∧ p.1 ≠ p.2) → a ∈ arr n → ∃ a' ∈ arr n, ran ps (nz a) = nz a'
  | [], a, _, ha => ⟨a, ha, rfl⟩
  | p :: ps, a, h, ha => by
    have z := K.clo
    rw [List.all_eq_true] at z
    have z1 := z a ha
    rw [List.all_eq_true] at z1
    have hp := h p (.head _)
    have z2 := z1 p (mem_prs hp.1 hp.2.1 hp.2.2)
    rw [List.contains_iff_mem] at z2
    obtain ⟨a1, h1, e1⟩ := List.mem_map.mp z2
    obtain ⟨a2, h2, e2⟩ := ran_arr K (ps := ps) (fun q hq => h q (.tail _ hq)) h1
    refine ⟨a2, h2, ?_⟩
    show ran ps (cx (nz a) p) = _
    rw [← e1]; exact e2
theorem ends_at {n : Nat} (K : Fin34 n) {a : List Nat} (ha : a ∈ arr n) : (∀ b < n + 1, up (thr (b : Nat) (nz a)) = true) ↔ nz a = nz (List.range n) := by
  have z := K.ends
  rw [List.all_eq_true] at z
  have z1 := z a ha
  rw [beq_iff_eq] at z1
  constructor
  · intro h
    rw [← decide_eq_true_iff (p := nz a = nz (List.range n)), ← z1, List.all_eq_true]
    exact fun b hb => h b (List.mem_range.mp hb)
  · intro h b hb
    rw [decide_eq_true h, List.all_eq_true] at z1
    exact z1 b (List.mem_range.mpr hb)
theorem nz_len {a : List Nat} : (nz a).length = a.length := List.length_map ..
/-- Knuth: all arrangements just if all noughts and ones -/
theorem sorts_iff {n : Nat} (K : Fin34 n) {ps : List (Nat × Nat)} (h : ∀ p ∈ ps, p.1 < n ∧ p.2 < n ∧ p.1 ≠ p.2) :
    (∀ a ∈ arr n, ran ps (nz a) = nz (List.range n)) ↔ (∀ k < 2 ^ n, up (orun ps (bitsOf n k)) = true) := by
  have hb : ∀ a ∈ arr n, ∀ p ∈ ps, p.1 < (nz a).length ∧ p.2 < (nz a).length := fun a ha p hp => by
    rw [nz_len, arr_row ha]; exact ⟨(h p hp).1, (h p hp).2.1⟩
  constructor
  · intro hs k hk
    have z := K.has
    rw [List.all_eq_true] at z
    have z1 := z k (List.mem_range.mpr hk)
    rw [List.any_eq_true] at z1
    obtain ⟨a, ha, z2⟩ := z1
    rw [List.any_eq_true] at z2
    obtain ⟨b, hb2, z3⟩ := z2
    rw [beq_iff_eq] at z3
    rw [← z3, ← ran_thr (hb a ha)]
    obtain ⟨a', ha', e'⟩ := ran_arr K h ha
    rw [e']
    exact (ends_at K ha').mpr (e' ▸ hs a ha) b (List.mem_range.mp hb2)
  · intro hs a ha
    obtain ⟨a', ha', e'⟩ := ran_arr K h ha
    rw [e']
    refine (ends_at K ha').mp fun b hb2 => ?_
    rw [← e', ran_thr (hb a ha)]
    have z := K.thrs
    rw [List.all_eq_true] at z
    have z1 := z a ha
    rw [List.all_eq_true] at z1
    have z2 := z1 b (List.mem_range.mpr hb2)
    rw [List.contains_iff_mem] at z2
    obtain ⟨k, hk, e⟩ := List.mem_map.mp z2
    rw [← e]
    exact hs k (List.mem_range.mp hk)

local macro_rules | `(tactic| k_lt $h:ident) => `(tactic| replace $h := allLt_of $h)

structure MyMarkA : Prop where
  it : True
structure MyMarkIf : Prop where
  it : True
structure MyMarkC : Prop where
  it : True
structure MyMarkN : Prop where
  it : True

abbrev cells4 (L : Nat) (o1 o2 o3 o4 : Obj) (ps : Array Value) : Led := [(L + 1 + 1 + 1 + 1, o4), (L + 1 + 1 + 1, o3), (L + 1 + 1, o2), (L + 1, o1), (521, tabObj ps)]
/-- an address off the cells and the table -/
structure F4 (L a : Nat) : Prop where
  all : a ≠ L + 1 ∧ a ≠ L + 1 + 1 ∧ a ≠ L + 1 + 1 + 1 ∧ a ≠ L + 1 + 1 + 1 + 1 ∧ a ≠ 521
def OffT (as : List Nat) (l : Led) : Prop := ∀ a ∈ as, Off a l
abbrev fix4 (L : Nat) : List Nat := [L + 1, L + 1 + 1, L + 1 + 1 + 1, L + 1 + 1 + 1 + 1, 521]
/-- the box of draws -/
inductive Box (w : World) (L : Nat) (B A G : Addr) (bo : Obj) (av : List Value) (sc : List Int) : Prop
  | mk : bo.IsDictOf (PySem.strKind PySem.Challenge.rw_xm0628_02.prog w) [(Str.ofString "all", Value.ref A), (Str.ofString "gone", Value.ref G)] → IntsAre av sc → sc.length ≤ 24 → F4 L B → F4 L A → F4 L G → (A ≠ B ∧ G ≠ B ∧ G ≠ A) → Box w L B A G bo av sc
inductive T0 (w : World) (h0 : Heap) (L : Nat) (s1 : Shared) : Shared → Prop
  | mk {h : Heap} {tk : Nat} {m : Str → Option Value} {B A G : Addr} {bo : Obj} {av gv : List Value} {an gn : Nat} {sc : List Int} {o1 o2 o3 o4 : Obj} {ps : Array Value} :
    Fr h0 L h m → News h0 L h (cells4 L o1 o2 o3 o4 ps ++ [(B, bo), (A, listOf av.toArray an), (G, listOf gv.toArray gn)]) → TabOk ps → codeAmong kpos ps.toList = none →
    o1.data = Data.cell (some (.ref B)) → o2.data = Data.cell none → o3.data = Data.cell none → o4.data = Data.cell none →
    Box w L B A G bo av sc → gv.length ≤ 0 → T0 w h0 L s1 { heap := h, gens := s1.gens, drawn := s1.drawn, toks := tk, os := s1.os }
inductive T1 (w : World) (h0 : Heap) (L : Nat) (s1 : Shared) : Shared → Prop
  | mk {h : Heap} {tk : Nat} {m : Str → Option Value} {B A G : Addr} {bo : Obj} {av gv : List Value} {an gn : Nat} {sc : List Int} {o1 o2 o3 o4 : Obj} {ps : Array Value} {form : Int} {n : Nat} {t1 t2 : Tok} :
    Fr h0 L h m → News h0 L h (cells4 L o1 o2 o3 o4 ps ++ [(B, bo), (A, listOf av.toArray an), (G, listOf gv.toArray gn)]) → TabOk ps → codeAmong kpos ps.toList = none →
    m (Str.ofString "form") = some (.int form t1) →
    o1.data = Data.cell (some (.ref B)) → o2.data = Data.cell (some (.int (n : Int) t2)) → o3.data = Data.cell none → o4.data = Data.cell none →
    Box w L B A G bo av sc → gv.length ≤ 2 → (0 ≤ form ∧ form < 4) → (n = 3 ∨ n = 4) → T1 w h0 L s1 { heap := h, gens := s1.gens, drawn := s1.drawn, toks := tk, os := s1.os }
theorem many_at {x : Int} (h0 : 0 ≤ x) (h1 : x < 5) : ∃ n : Nat, 3 + x.fdiv 4 = (n : Int) ∧ (n = 3 ∨ n = 4) := by
  rw [Int.fdiv_eq_ediv_of_nonneg _ (by omega)]
  exact ⟨(3 + x / 4).toNat, by omega, by omega⟩
/-- the row is drawn -/
inductive T2 (w : World) (h0 : Heap) (L : Nat) (s1 : Shared) : Shared → Prop
  | mk {h : Heap} {tk : Nat} {m : Str → Option Value} {B A G rl : Addr} {bo : Obj} {av gv rv : List Value} {an gn rn : Nat} {sc ks : List Int} {o1 o2 o3 o4 : Obj} {ps : Array Value} {form : Int} {n : Nat} {t1 t2 : Tok} :
    Fr h0 L h m → News h0 L h (cells4 L o1 o2 o3 o4 ps ++ [(B, bo), (A, listOf av.toArray an), (G, listOf gv.toArray gn), (rl, listOf rv.toArray rn)]) → TabOk ps → codeAmong kpos ps.toList = none →
    m (Str.ofString "form") = some (.int form t1) → m (Str.ofString "row") = some (.ref rl) →
    o1.data = Data.cell (some (.ref B)) → o2.data = Data.cell (some (.int (n : Int) t2)) → o3.data = Data.cell none → o4.data = Data.cell none →
    Box w L B A G bo av sc → gv.length ≤ 6 → (0 ≤ form ∧ form < 4) → (n = 3 ∨ n = 4) → IntsAre rv ks → ks.length = n → (∀ k ∈ ks, 0 ≤ k ∧ k < 9) → F4 L rl → (rl ≠ B ∧ rl ≠ A ∧ rl ≠ G) → T2 w h0 L s1 { heap := h, gens := s1.gens, drawn := s1.drawn, toks := tk, os := s1.os }
inductive JR2 (L : Nat) (o1 o2 o3 o4 : Obj) (ps : Array Value) (B A G : Addr) (bo : Obj) (av : List Value) (an : Nat) (i : Nat) (ys : List Value) : Led → Prop
  | mk {gv : List Value} {gn : Nat} {ks : List Int} : IntsAre ys ks → ks.length = i → (∀ k ∈ ks, 0 ≤ k ∧ k < 9) → gv.length ≤ 2 + i → JR2 L o1 o2 o3 o4 ps B A G bo av an i ys (cells4 L o1 o2 o3 o4 ps ++ [(B, bo), (A, listOf av.toArray an), (G, listOf (List.toArray gv) gn)])
theorem ks_snoc {ks : List Int} {x : Int} (h : ∀ k ∈ ks, 0 ≤ k ∧ k < 9) (h0 : 0 ≤ x) (h1 : x < 9) : ∀ k ∈ ks ++ [x], 0 ≤ k ∧ k < 9 := by
  intro k hk
  rcases List.mem_append.mp hk with hk | hk
  · exact h k hk
  · rw [List.mem_singleton.mp hk]; exact ⟨h0, h1⟩
/-- the pairs stand; P tells what is known of the form and their number -/
inductive T3 (P : Int → Nat → Prop) (z : Nat) (w : World) (h0 : Heap) (L : Nat) (s1 : Shared) : Shared → Prop
  | mk {h : Heap} {tk : Nat} {m : Str → Option Value} {B A G rl pl : Addr} {bo : Obj} {av gv rv pv : List Value} {an gn rn pn : Nat} {sc ks : List Int} {prs : List (Nat × Nat)} {tl : Led} {o1 o2 o3 o4 : Obj} {ps : Array Value} {form : Int} {n : Nat} {t1 t2 : Tok} :
    Fr h0 L h m → News h0 L h (cells4 L o1 o2 o3 o4 ps ++ ([(B, bo), (A, listOf av.toArray an), (G, listOf gv.toArray gn), (rl, listOf rv.toArray rn), (pl, listOf pv.toArray pn)] ++ tl)) → TabOk ps → codeAmong kpos ps.toList = none →
    m (Str.ofString "form") = some (.int form t1) → m (Str.ofString "row") = some (.ref rl) →
    o1.data = Data.cell (some (.ref B)) → o2.data = Data.cell (some (.int (n : Int) t2)) → o3.data = Data.cell (some (.ref pl)) → o4.data = Data.cell none →
    Box w L B A G bo av sc → gv.length ≤ z → (0 ≤ form ∧ form < 4) → (n = 3 ∨ n = 4) → IntsAre rv ks → ks.length = n → (∀ k ∈ ks, 0 ≤ k ∧ k < 9) → F4 L rl → (rl ≠ B ∧ rl ≠ A ∧ rl ≠ G) →
    PairsAre tl pv prs → (∀ p ∈ prs, p.1 < n ∧ p.2 < n ∧ p.1 ≠ p.2) → P form prs.length → F4 L pl → (pl ≠ B ∧ pl ≠ A ∧ pl ≠ G ∧ pl ≠ rl) → OffT (B :: A :: G :: rl :: pl :: fix4 L) tl →
    T3 P z w h0 L s1 { heap := h, gens := s1.gens, drawn := s1.drawn, toks := tk, os := s1.os }
abbrev tup (x : Int) (t : Tok) (y : Int) (u : Tok) : Obj := { cls := Value.type "tuple", data := Data.seq #[Value.int x t, Value.int y u] }
theorem pairs3 {D1 D2 D3 : Addr} {a b c d e f : Tok} : PairsAre [(D1, tup 0 a 1 b), (D2, tup 1 c 2 d), (D3, tup 0 e 1 f)] [.ref D1, .ref D2, .ref D3] [(0, 1), (1, 2), (0, 1)] :=
  .cons (.head _) (.cons (.tail _ (.head _)) (.cons (.tail _ (.tail _ (.head _))) .nil))
theorem pairs5 {D1 D2 D3 D4 D5 : Addr} {a b c d e f g h i j : Tok} : PairsAre [(D1, tup 0 a 1 b), (D2, tup 2 c 3 d), (D3, tup 0 e 2 f), (D4, tup 1 g 3 h), (D5, tup 1 i 2 j)] [.ref D1, .ref D2, .ref D3, .ref D4, .ref D5] [(0, 1), (2, 3), (0, 2), (1, 3), (1, 2)] :=
  .cons (.head _) (.cons (.tail _ (.head _)) (.cons (.tail _ (.tail _ (.head _))) (.cons (.tail _ (.tail _ (.tail _ (.head _)))) (.cons (.tail _ (.tail _ (.tail _ (.tail _ (.head _))))) .nil))))
theorem PairsAre.snoc {led : Led} {vs : List Value} {ps : List (Nat × Nat)} (h : PairsAre led vs ps) {d : Addr} {a b : Nat} {t u : Tok} (hm : (d, tup (a : Int) t (b : Int) u) ∈ led) : PairsAre led (vs ++ [.ref d]) (ps ++ [(a, b)]) := by
  induction h with
  | nil => exact .cons hm .nil
  | cons x _ ih => exact .cons x ih
inductive JP4 (L : Nat) (o1 o2 o3 o4 : Obj) (ps : Array Value) (B A G rl : Addr) (bo : Obj) (av rv : List Value) (an rn : Nat) (n : Nat) (i : Nat) (ys : List Value) : Led → Prop
  | mk {gv : List Value} {gn : Nat} {prs : List (Nat × Nat)} {tl : Led} : PairsAre tl ys prs → prs.length = i → (∀ p ∈ prs, p.1 < n ∧ p.2 < n ∧ p.1 ≠ p.2) → gv.length ≤ 7 + 2 * i → OffT (B :: A :: G :: rl :: fix4 L) tl →
    JP4 L o1 o2 o3 o4 ps B A G rl bo av rv an rn n i ys (cells4 L o1 o2 o3 o4 ps ++ ([(B, bo), (A, listOf av.toArray an), (G, listOf (List.toArray gv) gn), (rl, listOf rv.toArray rn)] ++ tl))
theorem prs_snoc {n a b : Nat} {prs : List (Nat × Nat)} (h : ∀ p ∈ prs, p.1 < n ∧ p.2 < n ∧ p.1 ≠ p.2) (ha : a < n) (hb : b < n) (hab : a ≠ b) : ∀ p ∈ prs ++ [(a, b)], p.1 < n ∧ p.2 < n ∧ p.1 ≠ p.2 := by
  intro p hp
  rcases List.mem_append.mp hp with hp | hp
  · exact h p hp
  · rw [List.mem_singleton.mp hp]; exact ⟨ha, hb, hab⟩
theorem offT_cons {as : List Nat} {d : Addr} {o : Obj} {l : Led} (h : OffT as l) (k : ∀ a ∈ as, d ≠ a) : OffT as ((d, o) :: l) := fun a ha => .cons (k a ha) (h a ha)
theorem offT_nil {as : List Nat} : OffT as [] := fun _ _ => .nil
theorem PairsAre.erase {led : Led} {vs : List Value} {ps : List (Nat × Nat)} (h : PairsAre led vs ps) : ∀ i, PairsAre led (vs.eraseIdx i) (ps.eraseIdx i) := by
  induction h with
  | nil => intro i; exact .nil
  | cons a r ih =>
    intro i
    cases i with
    | zero => exact r
    | succ i => exact .cons a (ih i)
theorem PairsAre.ins {led : Led} {vs : List Value} {ps : List (Nat × Nat)} (h : PairsAre led vs ps) {d : Addr} {a b : Nat} {t u : Tok} (hm : (d, tup (a : Int) t (b : Int) u) ∈ led) : ∀ i, PairsAre led (vs.take i ++ .ref d :: vs.drop i) (ps.take i ++ (a, b) :: ps.drop i) := by
  induction h with
  | nil => intro i; rw [List.take_nil, List.drop_nil, List.take_nil, List.drop_nil]; exact .cons hm .nil
  | cons x r ih =>
    intro i
    cases i with
    | zero => exact .cons hm (.cons x r)
    | succ i => exact .cons x (ih i)
section
variable {prog : Program} {w : World} {A : Around} {E : Value → Shared → Prop} {s : Shared} {h₀ : Heap} {L D : Addr} {m : Str → Option Value} {news news' : Led} {vs : List Value} {n : Nat}
theorem ins_any {k : Int} {u : Tok} {y : Value} {Q : Value → Shared → Prop} (F : Fr h₀ L s.heap m) (N : News h₀ L s.heap news) (U : Upd D (listOf vs.toArray n) (listOf (vs.take k.toNat ++ y :: vs.drop k.toNat).toArray (n + 1)) news news') (h0 : 0 ≤ k) (h1 : k ≤ vs.length) (hz : vs.length ≤ 1000000)
    (h : ∀ h', Fr h₀ L h' m → News h₀ L h' news' → Q .none { s with heap := h' }) : wpAny (model prog w) A (call (.builtin "list.insert") [.ref D, .int k u, y]) Q E s := by
  refine kl_insert F N ?_ ?_ U (by show vs.length ≤ _; rw [sizeLine_eq]; omega) h
  · unfold Builtin.List.listFitsIndex
    simp only [Bool.and_eq_true, decide_eq_true_eq]
    omega
  · show kl_ins vs k y = _
    unfold kl_ins
    rw [if_neg (by omega), Nat.min_eq_left (by omega)]
end
/-- the states of all registers stand -/
inductive T7 (w : World) (h0 : Heap) (L : Nat) (s1 : Shared) : Shared → Prop
  | mk {h : Heap} {tk : Nat} {m : Str → Option Value} {rl pl c S : Addr} {co : Obj} {rv pv sv : List Value} {rn pn sn : Nat} {ks : List Int} {prs : List (Nat × Nat)} {tl led : Led} {o1 o2 o3 o4 : Obj} {ps : Array Value} {n : Nat} {t2 : Tok} :
    Fr h0 L h m → News h0 L h (cells4 L o1 o2 o3 o4 ps ++ ([(rl, listOf rv.toArray rn), (pl, listOf pv.toArray pn), (c, co), (S, listOf sv.toArray sn)] ++ (led ++ tl))) → TabHit kpos ps c → CRec co →
    m (Str.ofString "row") = some (.ref rl) → m (Str.ofString "states") = some (.ref S) →
    o2.data = Data.cell (some (.int (n : Int) t2)) → o3.data = Data.cell (some (.ref pl)) → o4.data = Data.cell none →
    (n = 3 ∨ n = 4) → IntsAre rv ks → ks.length = n → (∀ k ∈ ks, 0 ≤ k ∧ k < 9) →
    PairsAre tl pv prs → (∀ p ∈ prs, p.1 < n ∧ p.2 < n ∧ p.1 ≠ p.2) → (1 ≤ prs.length ∧ prs.length ≤ 6) → ZAre led sv (rsts prs ks) → F4 L rl → F4 L pl → F4 L c → F4 L S → pl ≠ rl → (c ≠ rl ∧ c ≠ pl) → (S ≠ rl ∧ S ≠ pl) →
    OffT (rl :: pl :: c :: S :: fix4 L) tl → OffT (rl :: pl :: fix4 L) led → (∀ p ∈ led, Off p.1 tl) →
    T7 w h0 L s1 { heap := h, gens := s1.gens, drawn := s1.drawn, toks := tk, os := s1.os }
theorem offT_of {as : List Nat} {l : Led} (h : ∀ p ∈ l, ∀ a ∈ as, p.1 ≠ a) : OffT as l := fun a ha p hp => h p hp a ha
/-- the bounds are done with -/
inductive T8 (w : World) (h0 : Heap) (L : Nat) (s1 : Shared) : Shared → Prop
  | mk {h : Heap} {tk : Nat} {m : Str → Option Value} {pl c : Addr} {co : Obj} {pv : List Value} {pn : Nat} {prs : List (Nat × Nat)} {tl : Led} {o1 o2 o3 o4 : Obj} {ps : Array Value} {n : Nat} {t2 : Tok} :
    Fr h0 L h m → News h0 L h (cells4 L o1 o2 o3 o4 ps ++ ([(pl, listOf pv.toArray pn), (c, co)] ++ tl)) → TabHit kpos ps c → CRec co →
    o2.data = Data.cell (some (.int (n : Int) t2)) → o3.data = Data.cell (some (.ref pl)) →
    (n = 3 ∨ n = 4) → PairsAre tl pv prs → (∀ p ∈ prs, p.1 < n ∧ p.2 < n ∧ p.1 ≠ p.2) → (1 ≤ prs.length ∧ prs.length ≤ 6) → F4 L pl → F4 L c → c ≠ pl →
    OffT (pl :: c :: fix4 L) tl → T8 w h0 L s1 { heap := h, gens := s1.gens, drawn := s1.drawn, toks := tk, os := s1.os }
inductive J8 (L : Nat) (o1 o2 o3 : Obj) (ps : Array Value) (X : Led) (rl S : Addr) (i : Nat) (m : Str → Option Value) : Led → Prop
  | mk {o4 : Obj} {v0 : Option Value} : o4.data = Data.cell v0 → m (Str.ofString "row") = some (.ref rl) → m (Str.ofString "states") = some (.ref S) → J8 L o1 o2 o3 ps X rl S i m (cells4 L o1 o2 o3 o4 ps ++ X)
theorem r9_mem {k : Int} (h : 0 ≤ k ∧ k < 9) : k ∈ r9 := by
  have : k = 0 ∨ k = 1 ∨ k = 2 ∨ k = 3 ∨ k = 4 ∨ k = 5 ∨ k = 6 ∨ k = 7 ∨ k = 8 := by omega
  unfold r9
  simp only [List.mem_cons, List.not_mem_nil, or_false]
  exact this
theorem ints_r9 {rv : List Value} {ks : List Int} (h : IntsAre rv ks) (k : ∀ x ∈ ks, 0 ≤ x ∧ x < 9) : ∀ v ∈ rv, ∃ x t, v = Value.int x t ∧ x ∈ r9 := by
  induction h with
  | nil => exact fun _ h => nomatch h
  | cons n t _ ih =>
    intro v hv
    rcases List.mem_cons.mp hv with rfl | hv
    · exact ⟨n, t, rfl, r9_mem (k n (.head _))⟩
    · exact ih (fun x hx => k x (.tail _ hx)) v hv
inductive JB8 (Y : Led) (bd : Int) (ks : List Int) (i : Nat) (ys : List Value) : Led → Prop
  | mk : IntsAre ys (nz (thr bd (ks.take i))) → JB8 Y bd ks i ys Y
theorem news_as {h₀ h : Heap} {L : Addr} {X Y : Led} (e : Y = X) (N : News h₀ L h X) : News h₀ L h Y := e ▸ N
theorem thr_take {bd : Int} {ks : List Int} {ys : List Value} {i : Nat} {t : Tok} (h : IntsAre ys (nz (thr bd (ks.take i)))) (hi : i < ks.length) : IntsAre (ys ++ [.int (if decide (bd ≤ ks.getD i 0) = true then 1 else 0) t]) (nz (thr bd (ks.take (i + 1)))) := by
  have e : nz (thr bd (ks.take (i + 1))) = nz (thr bd (ks.take i)) ++ [if decide (bd ≤ ks.getD i 0) = true then (1 : Int) else 0] := by
    unfold thr
    rw [List.take_add_one, List.getElem?_eq_getElem hi, List.map_append, nz_append, List.getD_eq_getElem?_getD, List.getElem?_eq_getElem hi]
    show _ ++ [(((if bd ≤ ks[i] then 1 else 0 : Nat)) : Int)] = _ ++ [if decide (bd ≤ ks[i]) = true then (1 : Int) else 0]
    by_cases hc : bd ≤ ks[i]
    · rw [if_pos hc, decide_eq_true hc]; rfl
    · rw [if_neg hc, decide_eq_false hc]; rfl
  rw [e]
  exact ints_snoc h
theorem rsts_row : ∀ {ps : List (Nat × Nat)} {r x : List Int}, x ∈ rsts ps r → x.length = r.length
  | [], _, _, h => nomatch h
  | p :: ps, r, x, h => by
    rcases List.mem_cons.mp h with rfl | h
    · exact cx_length
    · rw [rsts_row h, cx_length]
theorem thr_length {b : Int} {r : List Int} : (thr b r).length = r.length := List.length_map ..
/-- the rows of a bound, so far -/
inductive JS8 (Y : Led) (bd : Int) (rs : List (List Int)) (i : Nat) (ys : List Value) : Led → Prop
  | mk {ld : Led} : ListsAre ld ys ((rs.take i).map (thr bd)) → (∀ p ∈ ld, Off p.1 Y) → JS8 Y bd rs i ys (ld ++ Y)
theorem apart_symm {A B : Led} (h : ∀ q ∈ B, Off q.1 A) : ∀ p ∈ A, Off p.1 B := fun p hp q hq => Ne.symm (h q hq p hp)
def sortsB (n : Nat) (prs : List (Nat × Nat)) (l : List (List Nat)) : Bool := l.all fun a => decide (ran prs (nz a) = nz (List.range n))
theorem sortsB_next {n i : Nat} {prs : List (Nat × Nat)} {r : List Nat} (h : (arr n)[i]? = some r) : sortsB n prs ((arr n).take (i + 1)) = (sortsB n prs ((arr n).take i) && decide (ran prs (nz r) = nz (List.range n))) := by
  unfold sortsB
  rw [List.take_add_one, h, List.all_append]
  simp
/-- all arrangements are run -/
inductive T9 (w : World) (h0 : Heap) (L : Nat) (s1 : Shared) : Shared → Prop
  | mk {h : Heap} {tk : Nat} {m : Str → Option Value} {pl : Addr} {pv : List Value} {pn : Nat} {prs : List (Nat × Nat)} {tl : Led} {o1 o2 o3 o4 : Obj} {ps : Array Value} {n : Nat} {t2 : Tok} :
    Fr h0 L h m → News h0 L h (cells4 L o1 o2 o3 o4 ps ++ ([(pl, listOf pv.toArray pn)] ++ tl)) → TabOk ps →
    m (Str.ofString "sorts") = some (.bool (sortsB n prs (arr n))) →
    o2.data = Data.cell (some (.int (n : Int) t2)) → o3.data = Data.cell (some (.ref pl)) →
    (n = 3 ∨ n = 4) → PairsAre tl pv prs → (∀ p ∈ prs, p.1 < n ∧ p.2 < n ∧ p.1 ≠ p.2) → (1 ≤ prs.length ∧ prs.length ≤ 6) → F4 L pl →
    OffT (pl :: fix4 L) tl → T9 w h0 L s1 { heap := h, gens := s1.gens, drawn := s1.drawn, toks := tk, os := s1.os }
inductive J9 (L : Nat) (o1 o2 o3 o4 : Obj) (X : Led) (c : Addr) (n : Nat) (prs : List (Nat × Nat)) (i : Nat) (m : Str → Option Value) : Led → Prop
  | mk {ps : Array Value} : TabHit kpos ps c → m (Str.ofString "sorts") = some (.bool (sortsB n prs ((arr n).take i))) → J9 L o1 o2 o3 o4 X c n prs i m (cells4 L o1 o2 o3 o4 ps ++ X)
/-- a ledger less one address -/
abbrev lessA (d : Addr) (l : Led) : Led := l.filter fun p => decide (p.1 ≠ d)
theorem lessA_off {d : Addr} {l : Led} : Off d (lessA d l) := fun q hq => by simpa using (List.mem_filter.mp hq).2
theorem lessA_sub {d : Addr} {l : Led} : ∀ p ∈ lessA d l, p ∈ l := fun p hp => (List.mem_filter.mp hp).1
theorem lessA_back {h₀ h : Heap} {L d : Addr} {o : Obj} {l X : Led} (N : News h₀ L h X) (hl : ∀ p ∈ l, p ∈ X) (hd : (d, o) ∈ X) : ∀ p ∈ l, p ∈ (d, o) :: lessA d l := fun p hp => by
  by_cases e : p.1 = d
  · have z1 := (N p (hl p hp)).1
    have z2 := (N _ hd).1
    rw [e] at z1
    have z3 : p.2 = o := Option.some.inj (z1.symm.trans z2)
    have : p = (d, o) := Prod.ext e z3
    rw [this]; exact .head _
  · exact .tail _ (List.mem_filter.mpr ⟨hp, by simpa using e⟩)
theorem lists_apart {h₀ h : Heap} {L a b : Addr} {X : Led} {us vs : List Value} {k j : Nat} (N : News h₀ L h X) (ha : (a, listOf us.toArray k) ∈ X) (hb : (b, listOf vs.toArray j) ∈ X) (hn : us.length ≠ vs.length) : a ≠ b := fun e => by
  have z1 := (N _ ha).1
  have z2 := (N _ hb).1
  dsimp only at z1 z2
  rw [e] at z1
  have z3 := Option.some.inj (z1.symm.trans z2)
  injection z3 with _ _ z4 _
  injection z4 with z5 _
  exact hn (by have := congrArg Array.size z5; simpa using this)
theorem news_more {h₀ h : Heap} {L : Addr} {l X : Led} (N : News h₀ L h X) (k : ∀ p ∈ l, p ∈ X) : News h₀ L h (l ++ X) := fun p hp => (List.mem_append.mp hp).elim (fun h => N p (k p h)) (N p)
section
variable {prog : Program} {w : World} {A : Around} {E : Value → Shared → Prop} {s : Shared} {h₀ : Heap} {L a b : Addr} {news : Led} {vs us : List Value} {n1 n2 : Nat} {xs ys : List Int} {Q : Value → Shared → Prop}
theorem dat_okI {xs : List Int} : ∀ d ∈ xs.map Dat.int, kqdOk 8 d = true := by
  intro d hd
  refine byc ?_; intro hGG
  obtain ⟨i, _, rfl⟩ := List.mem_map.mp hd
  refine hGG ?_; clear hGG
  rfl
open Classical in
theorem dat_inj {xs ys : List Int} : decide (xs.map Dat.int = ys.map Dat.int) = decide (xs = ys) := by
  refine decide_eq_decide.mpr ⟨fun h => ?_, fun h => by rw [h]⟩
  induction xs generalizing ys with
  | nil => cases ys with
    | nil => rfl
    | cons y ys => cases h
  | cons x xs ih => cases ys with
    | nil => cases h
    | cons y ys =>
      rw [List.map_cons, List.map_cons] at h
      injection h with h1 h2
      injection h1 with h3
      rw [h3, ih h2]
theorem eq_ints (N : News h₀ L s.heap news) (ma : (a, listOf vs.toArray n1) ∈ news) (mb : (b, listOf us.toArray n2) ∈ news) (ha : IntsAre vs xs) (hb : IntsAre us ys) (hu : A.units + 64 < cLine) (h : Q (.bool (decide (xs = ys))) s) :
    wpAny (model prog w) A (compareOp .Eq (.ref a) (.ref b)) Q E s :=
  kqd_eq N ma rfl rfl (dat_ints (led := []) ha) (fun _ h => nomatch h) mb rfl rfl (dat_ints (led := []) hb) (fun _ h => nomatch h) dat_okI dat_okI hu (by rw [dat_inj]; exact h)
theorem ne_ints (N : News h₀ L s.heap news) (ma : (a, listOf vs.toArray n1) ∈ news) (mb : (b, listOf us.toArray n2) ∈ news) (ha : IntsAre vs xs) (hb : IntsAre us ys) (hu : A.units + 64 < cLine) (h : Q (.bool (!decide (xs = ys))) s) :
    wpAny (model prog w) A (compareOp .NotEq (.ref a) (.ref b)) Q E s :=
  kqd_ne N ma rfl rfl (dat_ints (led := []) ha) (fun _ h => nomatch h) mb rfl rfl (dat_ints (led := []) hb) (fun _ h => nomatch h) dat_okI dat_okI hu (by rw [dat_inj]; exact h)
end
theorem osts_last : ∀ {ps : List (Nat × Nat)} {bits : List Nat}, 0 < ps.length → (osts ps bits)[ps.length - 1]? = some (orun ps bits)
  | [], _, h => absurd h (Nat.lt_irrefl 0)
  | [p], bits, _ => rfl
  | p :: q :: ps, bits, _ => by
    show (ost bits p :: osts (q :: ps) (ost bits p))[(q :: ps).length]? = some (orun (q :: ps) (ost bits p))
    rw [show (q :: ps).length = (q :: ps).length - 1 + 1 from rfl, List.getElem?_cons_succ]
    exact osts_last (Nat.succ_pos _)
/-- the ends stand -/
inductive T10 (w : World) (h0 : Heap) (L : Nat) (s1 : Shared) : Shared → Prop
  | mk {h : Heap} {tk : Nat} {m : Str → Option Value} {Ea : Addr} {ev : List Value} {en : Nat} {prs : List (Nat × Nat)} {ld : Led} {ps : Array Value} {n : Nat} :
    Fr h0 L h m → News h0 L h ((521, tabObj ps) :: (Ea, listOf ev.toArray en) :: ld) → TabOk ps →
    m (Str.ofString "sorts") = some (.bool (sortsB n prs (arr n))) → m (Str.ofString "ends") = some (.ref Ea) →
    (n = 3 ∨ n = 4) → (∀ p ∈ prs, p.1 < n ∧ p.2 < n ∧ p.1 ≠ p.2) → ListsAre ld ev ((List.range (2 ^ n)).map fun k => orun prs (bitsOf n k)) →
    T10 w h0 L s1 { heap := h, gens := s1.gens, drawn := s1.drawn, toks := tk, os := s1.os }
inductive JE (Y : Led) (n : Nat) (prs : List (Nat × Nat)) (i : Nat) (ys : List Value) : Led → Prop
  | mk {ld : Led} : ListsAre ld ys ((List.range i).map fun k => orun prs (bitsOf n k)) → (∀ p ∈ ld, Off p.1 Y) → JE Y n prs i ys (ld ++ Y)
inductive JB10 (V : Led) (k j : Nat) (ys : List Value) : Led → Prop
  | mk : IntsAre ys (nz (bitsOf j k)) → JB10 V k j ys V
theorem bit_at {k j : Nat} : Builtin.bitAnd ((k : Int).fdiv (2 ^ (0 + (j : Int)).toNat)) 1 = (((k >>> j) &&& 1 : Nat) : Int) := by
  have e : (0 + (j : Int)).toNat = j := by omega
  have e2 : (2 : Int) ^ j = ((2 ^ j : Nat) : Int) := by rw [Int.natCast_pow]; rfl
  rw [e, e2, Int.fdiv_eq_ediv_of_nonneg _ (Int.natCast_nonneg (2 ^ j)), ← Int.natCast_ediv, Nat.shiftRight_eq_div_pow]
  exact band_nat (k / 2 ^ j) 1
theorem bits_next {k j : Nat} {ys : List Value} {t : Tok} (h : IntsAre ys (nz (bitsOf j k))) : IntsAre (ys ++ [.int (Builtin.bitAnd ((k : Int).fdiv (2 ^ (0 + (j : Int)).toNat)) 1) t]) (nz (bitsOf (j + 1) k)) := by
  rw [bit_at]
  have e : nz (bitsOf (j + 1) k) = nz (bitsOf j k) ++ [(((k >>> j) &&& 1 : Nat) : Int)] := by
    unfold bitsOf
    rw [List.range_succ, List.map_append, nz_append]; rfl
  rw [e]
  exact ints_snoc h
theorem bits_length {n k : Nat} : (bitsOf n k).length = n := by unfold bitsOf; rw [List.length_map, List.length_range]
inductive JT11 (Y : Led) (n : Nat) (prs : List (Nat × Nat)) (i : Nat) (ys : List Value) : Led → Prop
  | mk : (ys = [] ↔ ∀ k < i, up (orun prs (bitsOf n k)) = true) → JT11 Y n prs i ys Y
theorem up_sorted {row : List Nat} {ns : List Int} (hp : ns.Perm (nz row)) (hs : ns.Pairwise (· ≤ ·)) : nz row = ns ↔ up row = true := by
  have key : (nz row).Pairwise (· ≤ ·) ↔ up row = true := by
    rw [List.pairwise_iff_getElem]
    unfold up
    simp only [List.all_eq_true, List.mem_range, Bool.or_eq_true, Bool.not_eq_true', decide_eq_true_eq, decide_eq_false_iff_not]
    constructor
    · intro h i hi j hj
      by_cases hij : i < j
      · right
        have := h i j (by rw [nz_length]; exact hi) (by rw [nz_length]; exact hj) hij
        rw [List.getElem_map, List.getElem_map] at this
        rw [List.getD_eq_getElem?_getD, List.getD_eq_getElem?_getD, List.getElem?_eq_getElem hi, List.getElem?_eq_getElem hj]
        exact Int.ofNat_le.mp this
      · exact Or.inl hij
    · intro h i j hi hj hij
      rw [nz_length] at hi hj
      have := (h i hi j hj).resolve_left (fun k => k hij)
      rw [List.getD_eq_getElem?_getD, List.getD_eq_getElem?_getD, List.getElem?_eq_getElem hi, List.getElem?_eq_getElem hj] at this
      rw [List.getElem_map, List.getElem_map]
      exact Int.ofNat_le.mpr this
  rw [← key]
  constructor
  · intro h; rw [h]; exact hs
  · intro h
    exact (List.Perm.eq_of_pairwise (fun a b _ _ h1 h2 => Int.le_antisymm h1 h2) hs h hp).symm
theorem jt_skip {n i : Nat} {prs : List (Nat × Nat)} {ys : List Value} (h : ys = [] ↔ ∀ k < i, up (orun prs (bitsOf n k)) = true) (hu : up (orun prs (bitsOf n i)) = true) : ys = [] ↔ ∀ k < i + 1, up (orun prs (bitsOf n k)) = true := by
  rw [h]
  constructor
  · intro g k hk
    rcases Nat.lt_succ_iff_lt_or_eq.mp hk with hk | rfl
    · exact g k hk
    · exact hu
  · exact fun g k hk => g k (Nat.lt_succ_of_lt hk)
theorem jt_take {n i : Nat} {prs : List (Nat × Nat)} {ys : List Value} {v : Value} (hu : ¬ up (orun prs (bitsOf n i)) = true) : ys ++ [v] = [] ↔ ∀ k < i + 1, up (orun prs (bitsOf n k)) = true :=
  ⟨fun h => by simp at h, fun h => absurd (h i (Nat.lt_succ_self i)) hu⟩
theorem law_end {n : Nat} {prs : List (Nat × Nat)} {ys : List Value} (hn : n = 3 ∨ n = 4) (p2 : ∀ p ∈ prs, p.1 < n ∧ p.2 < n ∧ p.1 ≠ p.2) (h : ys = [] ↔ ∀ k < 2 ^ n, up (orun prs (bitsOf n k)) = true) : (sortsB n prs (arr n) == decide (ys = [])) = true := by
  have K : Fin34 n := by
    rcases hn with rfl | rfl
    · exact fin3
    · exact fin4
  have e : sortsB n prs (arr n) = decide (ys = []) := by
    rw [Bool.eq_iff_iff, decide_eq_true_iff, h, ← sorts_iff K p2]
    unfold sortsB
    rw [List.all_eq_true]
    simp only [decide_eq_true_eq]
  rw [e, beq_self_eq_true]
theorem Box.offs {w : World} {L : Nat} {B A G : Addr} {bo : Obj} {av : List Value} {sc : List Int} (h : Box w L B A G bo av sc) :
    (B ≠ L + 1 ∧ B ≠ L + 1 + 1 ∧ B ≠ L + 1 + 1 + 1 ∧ B ≠ L + 1 + 1 + 1 + 1 ∧ B ≠ 521) ∧ (A ≠ L + 1 ∧ A ≠ L + 1 + 1 ∧ A ≠ L + 1 + 1 + 1 ∧ A ≠ L + 1 + 1 + 1 + 1 ∧ A ≠ 521) ∧ (G ≠ L + 1 ∧ G ≠ L + 1 + 1 ∧ G ≠ L + 1 + 1 + 1 ∧ G ≠ L + 1 + 1 + 1 + 1 ∧ G ≠ 521) ∧ A ≠ B ∧ G ≠ B ∧ G ≠ A := by
  refine byc ?_; intro hGG
  obtain ⟨b1, b2, b3, b4, b5, b6, b7⟩ := h
  refine hGG ?_; clear hGG
  exact ⟨b4.all, b5.all, b6.all, b7⟩

theorem q1 { x c : Prop} (h : x ∧ c) : x := h.1
theorem q2 {a1 x c : Prop} (h : a1 ∧ x ∧ c) : x := h.2.1
theorem q3 {a1 a2 x c : Prop} (h : a1 ∧ a2 ∧ x ∧ c) : x := h.2.2.1
theorem q4 {a1 a2 a3 x c : Prop} (h : a1 ∧ a2 ∧ a3 ∧ x ∧ c) : x := h.2.2.2.1
theorem e2 {a1 x : Prop} (h : a1 ∧ x) : x := h.2
theorem e3 {a1 a2 x : Prop} (h : a1 ∧ a2 ∧ x) : x := h.2.2
theorem e4 {a1 a2 a3 x : Prop} (h : a1 ∧ a2 ∧ a3 ∧ x) : x := h.2.2.2
theorem e5 {a1 a2 a3 a4 x : Prop} (h : a1 ∧ a2 ∧ a3 ∧ a4 ∧ x) : x := h.2.2.2.2
theorem offT_at {as : List Nat} {l : Led} {a : Nat} (h : OffT as l) (k : a ∈ as) : Off a l := h a k
theorem mg_c {α : Type} {a : α} {l : List α} : a ∈ a :: l := .head _
theorem mg_s {α : Type} {p a : α} {l : List α} (h : p ∈ l) : p ∈ a :: l := .tail _ h
theorem lt_at {d a : Nat} {o : Obj} {l : Led} (h : AllLt d l) (k : (a, o) ∈ l) : a ≠ d := Nat.ne_of_lt (ktn_ltOf h _ k)
theorem off_at {d a : Nat} {o : Obj} {l : Led} (h : Off d l) (k : (a, o) ∈ l) : a ≠ d := h _ k
theorem lt_off {d : Nat} {l r : Led} (h : AllLt d l) (k : ∀ p ∈ r, p ∈ l) : Off d r := fun q hq => Nat.ne_of_lt (ktn_ltOf h q (k q hq))
theorem offT_c {a : Nat} {as : List Nat} {l : Led} (h : Off a l) (k : OffT as l) : OffT (a :: as) l := fun x hx => (List.mem_cons.mp hx).elim (fun e => e ▸ h) (k x)
theorem offT_n {l : Led} : OffT [] l := fun _ h => nomatch h
theorem subN_c {P : Nat → Prop} {a : Nat} {as : List Nat} (h : P a) (k : ∀ x ∈ as, P x) : ∀ x ∈ a :: as, P x := fun x hx => (List.mem_cons.mp hx).elim (fun e => e ▸ h) (k x)
theorem subN_n {P : Nat → Prop} : ∀ x ∈ ([] : List Nat), P x := fun _ h => nomatch h

section
variable {w : World} {p : Program} {loose : List Str} {mean : ExcName → Option Value} {mg mb : Str → Option Value} {dp un : Nat} {gd : Option (List Code)} {cn : Str} {cs : Scope} {a : Addr} {ccd : Value} {cl : List (Str × Addr)} {outer : List Env} {A₀ : Around} {base h₀ : Heap} {L : Addr} {m : Str → Option Value} {s : Shared} {Q E : Value → Shared → Prop} {rest news : Led}
theorem drawn_use {Bx Ax G : Addr} {bo : Obj} {av gv : List Value} {an gn : Nat} {sc : List Int} {many : Int} {t : Tok} (B : Below A₀ base outer h₀) (F : Fr h₀ L s.heap m) (X : (hd02.heap_1 w.params).In h₀) (N : News h₀ L s.heap news) (T : Top p loose mean mg mb h₀)
    (P : Picks [(Bx, bo), (Ax, listOf av.toArray an), (G, listOf gv.toArray gn)] news rest) (hb : Box w L Bx Ax G bo av sc) (hz2 : gv.length ≤ 1000) (hm : 1 ≤ many) (hm2 : many ≤ 100) (hk : cs.kind = .function) (ho : Off Bx rest ∧ Off Ax rest ∧ Off G rest) (hd : dp + 1 < recursionLimit) (hu : un + 8 * 1 < cLine)
    (ret : ∀ x u gv' gn' h' tk', 0 ≤ x → x < many → List.length gv' = gv.length + 1 → Fr h₀ L h' m → News h₀ L h' ((Bx, bo) :: (Ax, listOf av.toArray an) :: (G, listOf (List.toArray gv') gn') :: rest) → Q (.int x u) { s with heap := h', toks := tk' }) :
    wpAny (model PySem.Challenge.rw_xm0628_02.prog w) (ktrTop dp un gd cn cs L a ccd cl outer) (call (.ref 519) [.ref Bx, .int many t]) Q E s := by
  refine byc ?_; intro hGG
  obtain ⟨b1, b2, b3, b4, b5, b6, b7, b8, b9⟩ := hb
  refine hGG ?_; clear hGG
  refine CSpec.use B F X N T P (Mine.drawn b1 b2 (by omega) hz2 hm hm2 b7 b8 b9) hk (offs_cons ho.1 (offs_cons ho.2.1 (offs_cons ho.2.2 offs_nil))) hd hu fun r chg new h' tk' F N _ hp => ?_
  refine byc ?_; intro hGG
  obtain ⟨x, u, gv', gn', rfl, h0, h1, hl, rfl, rfl⟩ := hp
  refine hGG ?_; clear hGG
  exact ret x u gv' gn' h' tk' h0 h1 hl F N
theorem pair_use {Bx Ax G : Addr} {bo : Obj} {av gv : List Value} {an gn : Nat} {sc : List Int} {many : Int} {t : Tok} (B : Below A₀ base outer h₀) (F : Fr h₀ L s.heap m) (X : (hd02.heap_1 w.params).In h₀) (N : News h₀ L s.heap news) (T : Top p loose mean mg mb h₀)
    (P : Picks [(Bx, bo), (Ax, listOf av.toArray an), (G, listOf gv.toArray gn)] news rest) (hb : Box w L Bx Ax G bo av sc) (hz2 : gv.length ≤ 900) (hm : 2 ≤ many) (hm2 : many ≤ 100) (hk : cs.kind = .function) (ho : Off Bx rest ∧ Off Ax rest ∧ Off G rest) (hd : dp + 2 < recursionLimit) (hu : un + 8 * 2 < cLine)
    (ret : ∀ D a b u1 u2 gv' gn' h' tk', ((a : Nat) : Int) < many → ((b : Nat) : Int) < many → a ≠ b → List.length gv' = gv.length + 2 → Off D ((Bx, bo) :: (Ax, listOf av.toArray an) :: (G, listOf gv.toArray gn) :: rest) → Fr h₀ L h' m → News h₀ L h' ((Bx, bo) :: (Ax, listOf av.toArray an) :: (G, listOf (List.toArray gv') gn') :: (D, tup a u1 b u2) :: rest) → Q (.ref D) { s with heap := h', toks := tk' }) :
    wpAny (model PySem.Challenge.rw_xm0628_02.prog w) (ktrTop dp un gd cn cs L a ccd cl outer) (call (.ref 552) [.ref Bx, .int many t]) Q E s := by
  refine byc ?_; intro hGG
  obtain ⟨b1, b2, b3, b4, b5, b6, b7, b8, b9⟩ := hb
  refine hGG ?_; clear hGG
  refine CSpec.use B F X N T P (pair_walk b1 b2 (by omega) hz2 hm hm2 b7 b8 b9) hk (offs_cons ho.1 (offs_cons ho.2.1 (offs_cons ho.2.2 offs_nil))) hd hu fun r chg new h' tk' F N o hp => ?_
  refine byc ?_; intro hGG
  obtain ⟨D, a, b, u1, u2, gv', gn', rfl, HH9⟩ := hp
  obtain ⟨h1, h2, h3, hl, rfl, rfl⟩ := HH9
  refine hGG ?_; clear hGG
  exact ret D a b u1 u2 gv' gn' h' tk' h1 h2 h3 hl (o _ (.head _)) F N
theorem in_step_use {pl rl : Addr} {pv rv : List Value} {pn rn : Nat} {ps : List (Nat × Nat)} {ks : List Int} {tl : Led} {tps : Array Value} (B : Below A₀ base outer h₀) (F : Fr h₀ L s.heap m) (X : (hd02.heap_1 w.params).In h₀) (N : News h₀ L s.heap (((pl, listOf pv.toArray pn) :: (rl, listOf rv.toArray rn) :: (521, tabObj tps) :: tl) ++ rest)) (T : Top p loose mean mg mb h₀)
    (hp : PairsAre tl pv ps) (hr : IntsAre rv ks) (hk2 : ks.length ≤ 10) (hb : ∀ p ∈ ps, p.1 < ks.length ∧ p.2 < ks.length ∧ p.1 ≠ p.2) (hl : ps.length ≤ 10) (ht : TabOk tps) (hn : codeAmong kpos tps.toList = none) (q1 : pl ≠ 521) (q2 : rl ≠ 521) (q3 : Off 521 tl)
    (hk : cs.kind = .function) (ho : Off pl rest ∧ Off rl rest ∧ Off 521 rest ∧ ∀ q ∈ rest, Off q.1 tl) (hd : dp + 8 < recursionLimit) (hu : un + 8 * 8 < cLine)
    (ret : ∀ R sv sn led c co tps' h' tk', ZAre led sv (rsts ps ks) → CRec co → TabHit kpos tps' c → Off c ((pl, listOf pv.toArray pn) :: (rl, listOf rv.toArray rn) :: (521, tabObj tps) :: (tl ++ rest)) → Off R ((pl, listOf pv.toArray pn) :: (rl, listOf rv.toArray rn) :: (521, tabObj tps) :: (tl ++ rest)) → (∀ q ∈ led, Off q.1 ((pl, listOf pv.toArray pn) :: (rl, listOf rv.toArray rn) :: (521, tabObj tps) :: (tl ++ rest))) →
      Fr h₀ L h' m → News h₀ L h' ((pl, listOf pv.toArray pn) :: (rl, listOf rv.toArray rn) :: (521, tabObj tps') :: (tl ++ ((c, co) :: (R, listOf (List.toArray sv) sn) :: (led ++ rest)))) → Q (.ref R) { s with heap := h', toks := tk' }) :
    wpAny (model PySem.Challenge.rw_xm0628_02.prog w) (ktrTop dp un gd cn cs L a ccd cl outer) (call (.ref 533) [.ref pl, .ref rl]) Q E s := by
  refine CSpec.use B F X N T picks_app (in_step hp hr hk2 hb hl ht hn q1 q2 q3) hk (offs_cons ho.1 (offs_cons ho.2.1 (offs_cons ho.2.2.1 (apart_symm ho.2.2.2)))) hd hu fun r chg new h' tk' F N o hp => ?_
  refine byc ?_; intro hGG
  obtain ⟨R, sv, sn, led, c, co, tps', rfl, hZ, hcr, hth, rfl, rfl⟩ := hp
  refine hGG ?_; clear hGG
  exact ret R sv sn led c co tps' h' tk' hZ hcr hth (o _ (.head _)) (o _ (.tail _ (.head _))) (fun q hq => o q (.tail _ (.tail _ hq))) F N
theorem ones_use {pl bl : Addr} {pv bv : List Value} {pn bn : Nat} {ps : List (Nat × Nat)} {bits : List Nat} {tl : Led} (B : Below A₀ base outer h₀) (F : Fr h₀ L s.heap m) (X : (hd02.heap_1 w.params).In h₀) (N : News h₀ L s.heap (((pl, listOf pv.toArray pn) :: (bl, listOf bv.toArray bn) :: tl) ++ rest)) (T : Top p loose mean mg mb h₀)
    (hp : PairsAre tl pv ps) (hr : IntsAre bv (nz bits)) (hk2 : bits.length ≤ 10) (hb : ∀ p ∈ ps, p.1 < bits.length ∧ p.2 < bits.length) (hl : ps.length ≤ 10)
    (hk : cs.kind = .function) (ho : Off pl rest ∧ Off bl rest ∧ ∀ q ∈ rest, Off q.1 tl) (hd : dp + 2 < recursionLimit) (hu : un + 8 * 2 < cLine)
    (ret : ∀ R rv rn led h' tk', ListsAre led rv (osts ps bits) → (∀ q ∈ led, Off q.1 ((pl, listOf pv.toArray pn) :: (bl, listOf bv.toArray bn) :: (tl ++ rest))) →
      Fr h₀ L h' m → News h₀ L h' ((pl, listOf pv.toArray pn) :: (bl, listOf bv.toArray bn) :: (tl ++ ((R, listOf (List.toArray rv) rn) :: (led ++ rest)))) → Q (.ref R) { s with heap := h', toks := tk' }) :
    wpAny (model PySem.Challenge.rw_xm0628_02.prog w) (ktrTop dp un gd cn cs L a ccd cl outer) (call (.ref 540) [.ref pl, .ref bl]) Q E s := by
  refine CSpec.use B F X N T picks_app (ones_walk hp hr hk2 hb hl) hk (offs_cons ho.1 (offs_cons ho.2.1 (apart_symm ho.2.2))) hd hu fun r chg new h' tk' F N o hp => ?_
  refine byc ?_; intro hGG
  obtain ⟨R, rv, rn, led, rfl, hL, rfl, rfl⟩ := hp
  refine hGG ?_; clear hGG
  exact ret R rv rn led h' tk' hL (fun q hq => o q (.tail _ hq)) F N
theorem all_use {n : Nat} {t : Tok} (B : Below A₀ base outer h₀) (F : Fr h₀ L s.heap m) (X : (hd02.heap_1 w.params).In h₀) (N : News h₀ L s.heap rest) (T : Top p loose mean mg mb h₀) (hn : n ≤ 4) (hk : cs.kind = .function) (hd : dp + 1 < recursionLimit) (hu : un + 8 * 1 < cLine)
    (ret : ∀ R rv rn led h' tk', ListsAre led rv (arr n) → Off R rest → (∀ q ∈ led, Off q.1 rest) → Fr h₀ L h' m → News h₀ L h' ((R, listOf (List.toArray rv) rn) :: (led ++ rest)) → Q (.ref R) { s with heap := h', toks := tk' }) :
    wpAny (model PySem.Challenge.rw_xm0628_02.prog w) (ktrTop dp un gd cn cs L a ccd cl outer) (call (.ref 545) [.int (n : Int) t]) Q E s := by
  refine CSpec.use B F X N T Picks.nil (all_walk hn) hk (fun _ h => nomatch h) hd hu fun r chg new h' tk' F N o hp => ?_
  refine byc ?_; intro hGG
  obtain ⟨R, rv, rn, led, rfl, hL, rfl, rfl⟩ := hp
  refine hGG ?_; clear hGG
  exact ret R rv rn led h' tk' hL (o _ (.head _)) (fun q hq => o q (.tail _ hq)) F N
theorem begun_use {pl rl al c9 : Addr} {pv rv : List Value} {pn rn : Nat} {ps : List (Nat × Nat)} {ks : List Int} {tl : Led} {tps : Array Value} {oc9 : Obj}
    (B : Below A₀ base outer h₀) (F : Fr h₀ L s.heap m) (X : (hd02.heap_1 w.params).In h₀) (N : News h₀ L s.heap (((pl, listOf pv.toArray pn) :: (rl, listOf rv.toArray rn) :: (al, listOf (List.toArray []) 0) :: (521, tabObj tps) :: (c9, oc9) :: tl) ++ rest)) (T : Top p loose mean mg mb h₀)
    (hp : PairsAre tl pv ps) (hr : IntsAre rv ks) (hk2 : ks.length ≤ 10) (hb : ∀ p ∈ ps, p.1 < 10 ∧ p.2 < 10) (hl : ps.length ≤ 10) (ht : TabHit kpos tps c9) (hcr : CRec oc9) (q5 : c9 ≠ 521) (q6 : c9 ≠ al) (q1 : pl ≠ 521) (q2 : rl ≠ 521) (q3 : Off 521 tl) (q4 : al ≠ 521)
    (hk : cs.kind = .function) (ho : Off pl rest ∧ Off rl rest ∧ Off al rest ∧ Off 521 rest ∧ Off c9 rest ∧ ∀ q ∈ rest, Off q.1 tl) (hd : dp + 3 < recursionLimit) (hu : un + 8 * 3 < cLine)
    (ret : ∀ x ml tps' h' tk', Mach w p loose mean mg mb (wrdsOf ks.length ps ++ [30 + 8388608 * ((ks.length : Int) + 1)]) (rv ++ [Value.none] ++ List.replicate 12 Value.none) 0 x c9 al oc9 ml → TabHit kpos tps' c9 →
      (∀ q ∈ ml, Off q.1 ((pl, listOf pv.toArray pn) :: (rl, listOf rv.toArray rn) :: (al, listOf (List.toArray []) 0) :: (521, tabObj tps) :: (c9, oc9) :: (tl ++ rest))) → Fr h₀ L h' m →
      News h₀ L h' ((pl, listOf pv.toArray pn) :: (rl, listOf rv.toArray rn) :: (al, listOf (List.toArray []) 0) :: (521, tabObj tps') :: (c9, oc9) :: (tl ++ (ml ++ rest))) → Q (.ref x) { s with heap := h', toks := tk' }) :
    wpAny (model PySem.Challenge.rw_xm0628_02.prog w) (ktrTop dp un gd cn cs L a ccd cl outer) (call (.ref 526) [.ref pl, .ref rl, .ref al]) Q E s := by
  refine CSpec.use B F X N T picks_app (begun_hit hp hr hk2 hb hl ht hcr q5 q6 q1 q2 q3 q4) hk (offs_cons ho.1 (offs_cons ho.2.1 (offs_cons ho.2.2.1 (offs_cons ho.2.2.2.1 (offs_cons ho.2.2.2.2.1 (apart_symm ho.2.2.2.2.2)))))) hd hu fun r chg new h' tk' F N o hp => ?_
  refine byc ?_; intro hGG
  obtain ⟨x, ml, tps', rfl, hM, hth, rfl, rfl⟩ := hp
  refine hGG ?_; clear hGG
  exact ret x _ tps' h' tk' hM hth o F N
theorem run_use {n : Nat} {N' : Int} {ps : List (Nat × Nat)} {row : List Int} {al c o : Addr} {co : Obj} {ml : Led} {st : List Value} {t : Tok}
    (B : Below A₀ base outer h₀) (F : Fr h₀ L s.heap m) (X : (hd02.heap_1 w.params).In h₀) (N : News h₀ L s.heap ((ml ++ [(al, listOf (List.toArray []) 0), (c, co)]) ++ rest)) (T : Top p loose mean mg mb h₀)
    (hn : row.length = n) (hn2 : n ≤ 10) (hl : ps.length ≤ 10) (hb : ∀ p ∈ ps, p.1 < n ∧ p.2 < n ∧ p.1 ≠ p.2) (hN : N' = ((5 * ps.length + 1 : Nat) : Int)) (hM : Mach w p loose mean mg mb (wrdsOf n ps ++ [30 + 8388608 * ((n : Int) + 1)]) st 0 o c al co ml) (hP : Ph n ps row 0 st ([] : List Value).length)
    (hk : cs.kind = .function) (ho : (∀ q ∈ ml, Off q.1 rest) ∧ Off al rest ∧ Off c rest) (hd : dp + 6 < recursionLimit) (hu : un + 8 * 6 < cLine)
    (ret : ∀ Tt ml' av' an' Rf rvf rnf to h' tk', IntsAre rvf (ran ps row) → List.length av' = ps.length → Fr h₀ L h' m →
      News h₀ L h' (ml' ++ ((al, listOf (List.toArray av') an') :: (c, co) :: (Tt, { cls := Value.type "tuple", data := Data.seq #[Value.str (Str.ofString "back") to, Value.ref Rf] }) :: (Rf, listOf (List.toArray rvf) rnf) :: rest)) → Q (.ref Tt) { s with heap := h', toks := tk' }) :
    wpAny (model PySem.Challenge.rw_xm0628_02.prog w) (ktrTop dp un gd cn cs L a ccd cl outer) (call (.ref 442) [.ref o, .int N' t]) Q E s := by
  refine CSpec.use B F X N T picks_app (run_walk (k := 5 * ps.length + 1) hn hn2 hl hb hN (by omega) hM hP) hk (offs_append ho.1 (offs_cons ho.2.1 (offs_cons ho.2.2 offs_nil))) hd hu fun r chg new h' tk' F N _ hp => ?_
  refine byc ?_; intro hGG
  obtain ⟨Tt, ml', av', an', rfl, -, rfl, hor⟩ := hp
  refine hGG ?_; clear hGG
  rcases hor with ⟨pc3, st3, to, -, hP3, hpc4, -, v, rfl⟩ | ⟨Rf, rvf, rnf, to, rfl, hI3, hl3, -⟩
  · exact absurd hP3.asks_le.2 (by omega)
  · rw [List.append_assoc] at N
    exact ret Tt ml' av' an' Rf rvf rnf to h' tk' hI3 hl3 F N
theorem name_led {G : Prop} (X : Led) (k : ∀ Y, Y = X → G) : G := k X rfl
end

theorem ints_item {us : List Value} {ns : List Int} {i : Nat} {v : Value} {G : Value → Prop} (hI : IntsAre us ns) (hv : us[i]? = some v) (k : ∀ t, G (.int (ns.getD i 0) t)) : G v := by
  refine byc ?_; intro hGG
  obtain ⟨t, e⟩ := ints_get hI i (List.getElem?_eq_some_iff.mp hv).1
  refine hGG ?_; clear hGG
  rw [List.getD_eq_getElem?_getD, hv] at e
  have e' : v = .int (ns.getD i 0) t := e
  rw [e']; exact k t
theorem ints_some {us : List Value} {ns : List Int} {i : Nat} {v : Value} {G : Value → Prop} (hI : IntsAre us ns) (hv : us[i]? = some v) (k : ∀ x t, G (.int x t)) : G v := ints_item hI hv fun t => k _ t
theorem ZAre.item {led : Led} {vs : List Value} {rs : List (List Int)} {i : Nat} {v : Value} {G : Value → Prop} (h : ZAre led vs rs) (hv : vs[i]? = some v) (k : ∀ d ivs c r, rs[i]? = some r → (d, listOf (List.toArray ivs) c) ∈ led → IntsAre ivs r → G (.ref d)) : G v := by
  refine byc ?_; intro hGG
  obtain ⟨d, ivs, c, r, h1, rfl, h2, h3⟩ := h.get hv
  refine hGG ?_; clear hGG
  exact k d ivs c r h1 h2 h3
theorem ListsAre.item {led : Led} {vs : List Value} {rs : List (List Nat)} {i : Nat} {v : Value} {G : Value → Prop} (h : ListsAre led vs rs) (hv : vs[i]? = some v) (k : ∀ d ivs c r, rs[i]? = some r → (d, listOf (List.toArray ivs) c) ∈ led → IntsAre ivs (nz r) → G (.ref d)) : G v := by
  refine byc ?_; intro hGG
  obtain ⟨d, ivs, c, r, h1, rfl, h2, h3⟩ := h.get hv
  refine hGG ?_; clear hGG
  exact k d ivs c r h1 h2 h3
theorem JB8.elim {Y nx : Led} {bd : Int} {ks : List Int} {i : Nat} {ys : List Value} {G : Led → Prop} (h : JB8 Y bd ks i ys nx) (k : IntsAre ys (nz (thr bd (ks.take i))) → G Y) : G nx := by
  cases h with | mk a => exact k a
theorem JS8.elim {Y nx : Led} {bd : Int} {rs : List (List Int)} {i : Nat} {ys : List Value} {G : Led → Prop} (h : JS8 Y bd rs i ys nx) (k : ∀ ld, ListsAre ld ys ((rs.take i).map (thr bd)) → (∀ p ∈ ld, Off p.1 Y) → G (ld ++ Y)) : G nx := by
  cases h with | mk a b => exact k _ a b
theorem J8.elim {L : Nat} {o1 o2 o3 : Obj} {ps : Array Value} {X nx : Led} {rl S : Addr} {i : Nat} {m : Str → Option Value} {G : Led → Prop} (h : J8 L o1 o2 o3 ps X rl S i m nx) (k : ∀ o4 v0, o4.data = Data.cell v0 → m (Str.ofString "row") = some (.ref rl) → m (Str.ofString "states") = some (.ref S) → G (cells4 L o1 o2 o3 o4 ps ++ X)) : G nx := by
  cases h with | mk a b c => exact k _ _ a b c
theorem own_offs {own nx : Led} {l : Led} (h : OwnOff own (nx.map (·.1))) (k : ∀ p ∈ l, p ∈ nx) : ∀ q ∈ own, Off q.1 l := fun q hq p hp => Ne.symm (h q hq p.1 (List.mem_map.mpr ⟨p, k p hp, rfl⟩))
theorem subset_of {X Y : Led} (e : Y = X) : ∀ p ∈ X, p ∈ Y := fun p hp => e ▸ hp
theorem J9.elim {L : Nat} {o1 o2 o3 o4 : Obj} {X nx : Led} {c : Addr} {n : Nat} {prs : List (Nat × Nat)} {i : Nat} {m : Str → Option Value} {G : Led → Prop} (h : J9 L o1 o2 o3 o4 X c n prs i m nx) (k : ∀ ps, TabHit kpos ps c → m (Str.ofString "sorts") = some (.bool (sortsB n prs ((arr n).take i))) → G (cells4 L o1 o2 o3 o4 ps ++ X)) : G nx := by
  cases h with | mk a b => exact k _ a b
theorem Mach.twoK {w p loose mean mg mb} {code : List Int} {st : List Value} {pc : Nat} {x c al : Addr} {co : Obj} {ml : Led} {G : Prop} (M : Mach w p loose mean mg mb code st pc x c al co ml)
    (k : ∀ d t0 t1 t2 t3 t4 t5 t6 t7 t8 v0 v1 v2 v3 v4 v5 v6 v7 v8, (x, instObj 508 d) ∈ ml → (d, dictOf (sEnts w t0 t1 t2 t3 t4 t5 t6 t7 t8 v0 v1 v2 v3 v4 v5 v6 v7 v8) 9) ∈ ml → G) : G := by
  cases M with
  | mk a b c => exact k _ _ _ _ _ _ _ _ _ _ _ _ _ _ _ _ _ _ _ (.head _) (.tail _ (.head _))

section
variable {prog : Program} {w : World} {A : Around} {h₀ : Heap} {L : Addr} {m : Str → Option Value} {env : Env} {ct elt : Expr} {x : Str} {scope : Scope} {cl : List (Str × Addr)} {s : Shared} {S : Led → Prop} {P : Nat → Value → Prop} {Fin : List Value → Led → Prop} {n : Nat} {news : Led}
theorem compT_ind (Inv : Nat → List Value → Led → Prop) (hi : Inv 0 [] news)
    (turn : ∀ i ys news v I oI C oC D m₂ h tk (E' : Value → Shared → Prop), i < n → Inv i ys news → P i v → LCg.NsObj oC m₂ → m₂ x = some v → Fr h₀ L h m → News h₀ L h ((I, oI) :: (C, oC) :: (D, LCg.lst ys) :: news) → LCg.Off3 I C D news → ((@Ne Nat I C) ∧ (@Ne Nat I D) ∧ (@Ne Nat C D)) →
      wpAny (model prog w) A (isTrue ct (compEnvC scope cl C env) (eval ct (compEnvC scope cl C env))) (fun ok s' => if ok = true then
        wpAny (model prog w) A (eval elt (compEnvC scope cl C env)) (LCg.CompEnd h₀ L m { s with heap := h, toks := tk } I oI C oC D (LCg.lst ys) S (fun y news' => Inv (i + 1) (ys ++ [y]) news')) E' s'
        else LCg.CompEnd h₀ L m { s with heap := h, toks := tk } I oI C oC D (LCg.lst ys) S (fun _ news' => Inv (i + 1) ys news') Value.none s') E' { s with heap := h, toks := tk })
    (fin : ∀ ys news, Inv n ys news → Fin ys news) : LCt.CompRestT prog w A h₀ L m env ct elt x scope cl s S P Fin n 0 [] news := by
  have key : ∀ (j i : Nat) (ys : List Value) (news : Led), i + j = n → Inv i ys news → LCt.CompRestT prog w A h₀ L m env ct elt x scope cl s S P Fin j i ys news := by
    intro j
    induction j with
    | zero =>
      intro i ys news e h
      refine byc ?_; intro hGG
      obtain rfl : i = n := e
      refine hGG ?_; clear hGG
      exact LCt.CompRestT.zero (fin _ _ h)
    | succ j ih =>
      intro i ys news e h
      refine LCt.CompRestT.succ ?_
      intro v I oI C oC D m₂ h' tk E' a1 a2 a3 a4 a5 a6 a7
      refine wpAny_mono (turn i ys news v I oI C oC D m₂ h' tk E' (by omega) h a1 a2 a3 a4 a5 a6 a7) ?_ fun _ _ q => q
      intro ok s' q
      cases ok with
      | true =>
        simp only [if_true] at q ⊢
        refine wpAny_mono q ?_ fun _ _ q => q
        rintro y s' ⟨h2, tk2, news2, e2, F2, N2, o2, hS, r⟩
        exact ⟨h2, tk2, news2, e2, F2, N2, o2, hS, ih (i + 1) _ _ (by omega) r⟩
      | false =>
        simp only [Bool.false_eq_true, if_false] at q ⊢
        refine byc ?_; intro hGG
        obtain ⟨h2, tk2, news2, e2, F2, N2, o2, hS, r⟩ := q
        refine hGG ?_; clear hGG
        exact ⟨h2, tk2, news2, e2, F2, N2, o2, hS, ih (i + 1) _ _ (by omega) r⟩
  exact key n 0 [] news (Nat.zero_add _) hi
end
section
variable {prog : Program} {w : World} {A : Around} {E : Value → Shared → Prop} {s : Shared}
theorem eq_nilK {a b : Addr} {vs : List Value} {us : Array Value} {Q : Value → Shared → Prop} (hl : s.heap.IsList a vs.toArray) (hl' : s.heap.IsList b us) (e : us = #[]) (hu : A.units < cLine)
    (h : Q (.bool (decide (vs = []))) s) : wpAny (model prog w) A (compareOp .Eq (.ref a) (.ref b)) Q E s := by
  refine byc ?_; intro hGG
  subst e
  refine hGG ?_; clear hGG
  cases vs with
  | nil =>
    refine SeqAt.eq_listAt (e := fun _ => true) hl hl' rfl hu (fun j h1 _ => absurd h1 (Nat.not_lt_zero _)) ?_
    exact h
  | cons v r =>
    refine SeqAt.eq_list_lengthsAt hl hl' (by simp) hu ?_
    exact h
end

theorem cut_stmt {M : Model} {A : Around} {t : Sem Flow} {Q : Flow → Shared → Prop} {E : Value → Shared → Prop} {s : Shared} (R : Shared → Prop) (h : wpAny M A t (fun fl s' => fl = .next ∧ R s') E s) (k : ∀ s', R s' → Q .next s') : wpAny M A t Q E s :=
  wpAny_mono h (fun fl s' q => by obtain ⟨rfl, q⟩ := q; exact k s' q) fun _ _ h => h
theorem fr_as {h₀ h : Heap} {L : Addr} {m m' : Str → Option Value} (F : Fr h₀ L h m) (e : m = m') : Fr h₀ L h m' := e ▸ F
theorem cell_as {o : Obj} {a b : Option Value} (h : o.data = Data.cell a) (e : a = b) : o.data = Data.cell b := e ▸ h
def LawEnd (h0 : Heap) (L : Nat) (s1 : Shared) (f : Flow) (s' : Shared) : Prop :=
  f = Flow.ret (.bool true) ∧ ∃ m h' tk' ps rest, s' = { heap := h', gens := s1.gens, drawn := s1.drawn, toks := tk', os := s1.os } ∧ Fr h0 L h' m ∧ News h0 L h' ((521, tabObj ps) :: rest) ∧ TabOk ps

theorem lines_law : True := by
  k_with_none
  k_with "my own omega" => (first | omega (splitDisjunctions := false) | ((repeat (rename _ ∧ _ => hC_q489; cases hC_q489)); (repeat (rename _ ≠ _ => hX_q489; clear hX_q489)); omega (splitDisjunctions := true)))
  k_with "my mem" => (first | with_reducible exact mem_c | with_reducible exact mem_2 | with_reducible exact mem_3 | with_reducible exact mem_4 | (with_reducible refine skip_4 ?_; k_extra "my mem") | (with_reducible refine skip_1 ?_; k_extra "my mem") | with_reducible assumption | (with_reducible refine List.mem_append_left _ ?_; k_extra "my mem") | (with_reducible refine List.mem_append_right _ ?_; k_extra "my mem"))
  k_with "my mem2" => (first | exact List.mem_cons_self | assumption | (refine List.mem_cons_of_mem _ ?_; k_extra "my mem2") | (refine List.mem_append_left _ ?_; k_extra "my mem2") | (refine List.mem_append_right _ ?_; k_extra "my mem2"))
  k_with "my own k_mem" => (first | k_extra "my mem" | k_extra "my mem2")
  k_with "my ne" => (first | with_reducible assumption | with_reducible exact Ne.symm (by with_reducible assumption) | with_reducible exact Nat.ne_of_lt (by with_reducible assumption) | with_reducible exact Nat.ne_of_gt (by with_reducible assumption))
  k_with "my own k_ne" => ((refine neN ?_; first | k_extra "my ne" | ((try dsimp only); k_extra "my ne") | (k_extra "my split"; (try dsimp only); first | k_extra "my ne" | omega (splitDisjunctions := false))))
  k_with "my upd" => (first | (refine' Upd.head ?a_q495; (case a_q495 => k_all)) | (refine' Upd.tail ?a_q495 ?b_q495; (case a_q495 => k_ne); (case b_q495 => k_extra "my upd")))
  k_with "my own k_upd" => (k_extra "my upd")
  k_with "my updF" => (first | (refine' UpdF.head ?a_q497; (case a_q497 => k_all)) | (refine' UpdF.tail ?a_q497 ?b_q497; (case a_q497 => k_ne); (case b_q497 => k_extra "my updF")))
  k_with "my own k_updF" => (k_extra "my updF")
  k_with "my split" => (repeat (first | (rename _ ∧ _ ∧ _ ∧ _ ∧ _ ∧ _ ∧ _ ∧ _ => hC_q499; refine elim_8 hC_q499 ?_; clear hC_q499; intro _ _ _ _ _ _ _ _) | (rename _ ∧ _ ∧ _ ∧ _ => hC_q499; refine elim_4 hC_q499 ?_; clear hC_q499; intro _ _ _ _) | (rename _ ∧ _ => hC_q499; cases hC_q499)))
  k_with "my offleaf" => (first | assumption | exact Off.nil | exact Off.of1 (by assumption) | exact Off.ofLt (by assumption) | exact Off.ofLt (allLt_left (by assumption)) | exact Off.ofLt (allLt_right (by assumption)) | exact Off.ofLt (allLt_left (allLt_right (by assumption))) | exact Off.ofLt (allLt_right (allLt_right (by assumption))))
  k_with "my enter" => (k_dflt (first | (refine' code_def ?k1_q501 ?k2_q501 ?k3_q501 ?k4_q501 ?k5_q501 ?kA_q501 ?kF_q501 ?kK_q501 ?k6_q501 ?k7_q501 ?k8_q501 ?k9_q501 ?kB_q501 ?_ ?c2_q501 ?c3_q501 ?c4_q501 ?c5_q501; (case kA_q501 => exact rfl); (case kF_q501 => exact rfl); (case kK_q501 => first | exact rfl | assumption); (case k1_q501 => k_asm); (case k2_q501 => k_asm); (case k3_q501 => k_asm); (case k4_q501 => k_asm); (case k5_q501 => k_asm); (case k6_q501 => k_is); (case k7_q501 => k_is); (case k8_q501 => ktr_room); (case k9_q501 => first | exact BindsTo.of_eq rfl | exact binds_K (by k_in) rfl (by k_is) rfl rfl rfl); (case c5_q501 => decide); (case kB_q501 => exact locs rfl); (case c2_q501 => exact rfl); (case c3_q501 => exact rfl); (case c4_q501 => exact rfl); k_whole; intro g'_q501 L'_q501 h'_q501 FG'_q501 F'_q501 N'_q501 B'_q501 X'_q501 T'_q501; (try dsimp only); (try k_fold)) | (refine' code_defC ?k1_q501 ?k2_q501 ?k3_q501 ?k4_q501 ?k5_q501 ?kA_q501 ?kF_q501 ?kK_q501 ?k6_q501 ?k7_q501 ?k8_q501 ?k9_q501 ?kB_q501 ?kD_q501 ?_ ?c2_q501 ?c3_q501 ?c4_q501; (case kA_q501 => exact rfl); (case kF_q501 => exact rfl); (case kK_q501 => first | exact rfl | assumption); (case k1_q501 => k_asm); (case k2_q501 => k_asm); (case k3_q501 => k_asm); (case k4_q501 => k_asm); (case k5_q501 => k_asm); (case k6_q501 => k_is); (case k7_q501 => k_is); (case k8_q501 => ktr_room); (case k9_q501 => first | exact BindsTo.of_eq rfl | exact binds_K (by k_in) rfl (by k_is) rfl rfl rfl); (case kB_q501 => exact rfl); (case kD_q501 => decide +kernel); (case c2_q501 => exact rfl); (case c3_q501 => exact rfl); (case c4_q501 => exact rfl); k_whole; intro g'_q501 L'_q501 h'_q501 tk'_q501 cells'_q501 FG'_q501 F'_q501 N'_q501 Y'_q501 B'_q501 X'_q501 T'_q501 l1_q501; (try k_lt l1_q501); (k_cells Y'_q501); (try simp only [List.cons_append, List.nil_append] at N'_q501); (try dsimp only); (try k_fold))))
  k_with "my in" => (first | assumption | (refine List.Mem.tail _ ?_; k_extra "my in") | (refine List.mem_append.mpr (Or.inl ?_); k_extra "my in") | (refine List.mem_append.mpr (Or.inr ?_); k_extra "my in"))
  k_with "my sub" => (((try simp only [List.nil_append, List.cons_append, List.append_assoc]); repeat' (first | with_reducible exact sub_nil | with_reducible refine sub_cons ?_ ?_ | with_reducible refine sub_append ?_ ?_ | (intro p_q503 hp_q503; k_extra "my in") | k_mem)))
  k_with "my off" => (((try simp only [List.nil_append, List.cons_append]); repeat' (first | with_reducible exact offs_nil | with_reducible refine offs_cons ?_ ?_ | k_all)))
  k_with "my pick" => ((repeat' (first | exact Picks.nil | refine' Picks.cons ?_ ?_ | exact Pick.head | refine' Pick.tail ?_)))
  k_with "pyIter ref" => ((k_here; (with_reducible show wpAny _ _ (pyIter (Value.ref _)) (fun it_q506 s₂_q506 => LoopAtV _ _ _ _ _ _ _ _ _ it_q506 s₂_q506) _ _); refine of_stop ?_))
  k_with "exec While" => ((k_here; refine of_stop ?_))
  k_with "call builtin:list.index" => ((k_here; (with_reducible show wpAny _ _ (call (Value.builtin _) [Value.ref _, Value.int _ _]) _ _ _); k_dflt (refine' idx_nat ?N_q508 ?m_q508 ?i_q508 ?k_q508 ?z_q508 ?_; (case N_q508 => k_asm); (case m_q508 => k_mem); (case i_q508 => assumption); (case k_q508 => assumption); (case z_q508 => (first | assumption | omega)); k_whole); intro u'_q508))
  k_with "call builtin:list.extend" => ((k_here; (with_reducible show wpAny _ _ (call (Value.builtin _) [Value.ref _, Value.ref _]) _ _ _); k_extra "my split"; (try (rename List.length _ = List.length (List.map _ _) => hL9_q509; simp only [List.length_map, rangeKs_length] at hL9_q509)); k_dflt (refine' ext_any ?F_q509 ?N_q509 ?b_q509 ?U_q509 ?z_q509 ?_; (case F_q509 => k_asm); (case N_q509 => k_asm); (case b_q509 => k_mem); (case U_q509 => k_upd); (case z_q509 => k_extra "my len"); k_whole); intro h'_q509 F'_q509 N'_q509; (try k_sweep)))
  k_with "my ints" => (first | assumption | exact IntsAre.nil | exact IntsAre.cons _ _ IntsAre.nil)
  k_with "my len" => (first | omega | (simp only [List.length_append, List.length_map, List.length_replicate, Int.reduceToNat, List.length_cons, List.length_nil, List.length_range, rangeKs_length]; omega))
  k_with "binaryOp Add ref ref" => ((k_here; (with_reducible show wpAny _ _ (binaryOp _ (Value.ref _) (Value.ref _)) _ _ _); k_extra "my split"; k_dflt (refine' add_any ?F_q512 ?N_q512 ?a_q512 ?b_q512 ?z_q512 ?_; (case F_q512 => k_asm); (case N_q512 => k_asm); (case a_q512 => k_mem); (case b_q512 => k_mem); (case z_q512 => k_extra "my len"); k_whole); intro D'_q512 us'_q512 h'_q512 F'_q512 N'_q512 l1_q512 he'_q512 hl'_q512; (try k_lt l1_q512); (try simp only [List.length_cons, List.length_nil, List.length_map] at hl'_q512); (try k_sweep)))
  k_with "binaryOp Add ref ref" => ((k_here; (with_reducible show wpAny _ _ (binaryOp _ (Value.ref _) (Value.ref _)) _ _ _); k_extra "my split"; k_dflt (refine' add_ints ?F_q513 ?N_q513 ?a_q513 ?b_q513 ?i_q513 ?j_q513 ?z_q513 ?_; (case F_q513 => k_asm); (case N_q513 => k_asm); (case a_q513 => k_mem); (case b_q513 => k_mem); (case i_q513 => k_extra "my ints"); (case j_q513 => k_extra "my ints"); (case z_q513 => k_extra "my len"); k_whole); intro D'_q513 us'_q513 ns'_q513 h'_q513 F'_q513 N'_q513 l1_q513 hI'_q513 he'_q513 hl'_q513 hv'_q513; (try k_lt l1_q513); (try simp only [List.length_cons, List.length_nil, List.length_map] at hl'_q513); (try k_sweep)))
  k_with "subscriptTail Name Name ref int" => ((k_here; (with_reducible show wpAny _ _ (subscriptTail _ _ (Value.ref _) (Value.int _ _)) _ _ _); k_dflt (refine' ksa_sub ?k1_q514 ?k2_q514 ?k3_q514 ?k4_q514 ?k5_q514 ?k6_q514 ?_ ?k7_q514; (case k1_q514 => k_asm); (case k2_q514 => k_mem); (case k3_q514 => assumption); (case k4_q514 => omega); (case k5_q514 => k_extra "my len"); (case k6_q514 => omega); (case k7_q514 => with_unfolding_all rfl); k_whole); intro _))
  k_with "subscriptTail Name BinOp ref int" => ((k_here; (with_reducible show wpAny _ _ (subscriptTail _ _ (Value.ref _) (Value.int _ _)) _ _ _); k_dflt (refine' ksa_sub ?k1_q515 ?k2_q515 ?k3_q515 ?k4_q515 ?k5_q515 ?k6_q515 ?_ ?k7_q515; (case k1_q515 => k_asm); (case k2_q515 => k_mem); (case k3_q515 => assumption); (case k4_q515 => omega); (case k5_q515 => k_extra "my len"); (case k6_q515 => omega); (case k7_q515 => with_unfolding_all rfl); k_whole); intro _))
  k_with "call builtin:len" => ((k_here; (with_reducible show wpAny _ _ (call (Value.builtin _) [Value.ref _]) _ _ _); k_dflt (refine' len_any ?N_q516 ?m_q516 ?e_q516 ?z_q516 ?_; (case N_q516 => k_asm); (case m_q516 => k_mem); (case e_q516 => assumption); (case z_q516 => k_extra "my len"); k_whole); intro _ _))
  k_with "eval Lambda" => ((k_here; k_dflt (refine' lam_hit (P := 521) (c := 525) ?F_q517 ?N_q517 ?T_q517 ?C_q517 ?cd_q517 ?U_q517 ?t_q517 ?cl_q517 ?d_q517 ?_; (case F_q517 => k_asm); (case N_q517 => k_asm); (case T_q517 => k_asm); (case cd_q517 => exact rfl); (case U_q517 => k_updF); (case C_q517 => exact codeHd_of_K (by assumption) (by kernel_rfl)); (case t_q517 => assumption); (case cl_q517 => exact rfl); (case d_q517 => exact rfl); k_whole); intro f'_q517 ps'_q517 h'_q517 tk'_q517 F'_q517 N'_q517 ht'_q517; (try dsimp only at N'_q517); (try k_sweep)))
  k_with "my own k_room" => (ktr_room)
  k_with "binaryOp Mult ref int" => ((k_here; (with_reducible show wpAny _ _ (binaryOp Operator.Mult (Value.ref _) (Value.int _ _)) _ _ _); k_dflt (refine' mul_one' ?F_q519 ?N_q519 ?l_q519 ?lo_q519 ?hi_q519 ?z_q519 ?_; (case F_q519 => k_asm); (case N_q519 => k_asm); (case l_q519 => k_mem); (case lo_q519 => omega); (case hi_q519 => omega); (case z_q519 => decide); k_whole); intro D'_q519 h'_q519 F'_q519 N'_q519 l1_q519; (try k_lt l1_q519); (try k_sweep)))
  k_with "setItem ref int" => ((k_here; (with_reducible show wpAny _ _ (setItem (Value.ref _) (Value.int _ _) _) _ _ _); k_dflt (refine' set_any ?F_q520 ?N_q520 ?U_q520 ?z0_q520 ?z1_q520 ?z2_q520 ?_; (case F_q520 => k_asm); (case N_q520 => k_asm); (case U_q520 => k_upd); (case z0_q520 => omega); (case z1_q520 => k_extra "my len"); (case z2_q520 => k_extra "my len"); k_whole); intro h'_q520 F'_q520 N'_q520; (try k_sweep)))
  k_with "my item" => ((k_here; (with_reducible show wpAny _ _ (subscriptTail _ _ (Value.ref _) (Value.int _ _)) _ _ _); k_dflt (refine' item_any ?N_q521 ?m_q521 ?z0_q521 ?z1_q521 ?z2_q521 ?_ ?hs_q521 ?hg_q521; (case N_q521 => k_asm); (case m_q521 => k_mem); (case z0_q521 => omega); (case z1_q521 => k_extra "my len"); (case z2_q521 => k_extra "my len"); (case hs_q521 => with_unfolding_all rfl); (case hg_q521 => intro _; with_unfolding_all rfl); k_whole)))
  k_with "subscriptTail Name Slice ref ref" => ((k_here; (with_reducible show wpAny _ _ (subscriptTail _ (PySem.Expr.Slice _ _ none _) (Value.ref _) (Value.ref _)) _ _ _); k_dflt (refine' slice_head ?F_q522 ?N_q522 ?m_q522 ?x_q522 ?y_q522 ?z_q522 ?_ ?s_q522 ?t_q522; (case F_q522 => k_asm); (case N_q522 => k_asm); (case m_q522 => k_mem); (case x_q522 => first | exact rfl | omega); (case y_q522 => omega); (case z_q522 => k_extra "my len"); (case s_q522 => with_unfolding_all rfl); (case t_q522 => kmk_pure)); intro D'_q522 h'_q522 F'_q522 N'_q522 l1_q522; (try k_lt l1_q522); (try k_sweep)))
  k_with "exec Assign" => ((rename MyMarkA => hm_q523; clear hm_q523; refine of_stop ?_))
  k_with "exec If" => ((rename MyMarkIf => hm_q524; clear hm_q524; refine of_stop ?_))
  k_with "CompSrc" => ((rename MyMarkC => hm_q525; clear hm_q525; refine of_stop ?_))
  k_with "CompSrcT" => ((rename MyMarkC => hm_q526; clear hm_q526; refine of_stop ?_))
  k_with "exec Assign cons ListComp" => ((rename MyMarkA => hm_q527; clear hm_q527; refine of_stop ?_))
  k_with "exec Assign cons ListComp" => ((rename MyMarkC => hm_q528; k_here; k_dflt (refine LCg.Assign_ListComp_U (F₀ := by k_asm) (by rfl) (by with_unfolding_all rfl) (by with_unfolding_all rfl) (by decide) (by rfl) (by decide) (by rfl) (by rfl) (by rfl) ?_)))
  k_with "eval ListComp" => ((rename MyMarkC => hm_q529; k_here; k_dflt (refine LCg.ListComp_U (F₀ := by k_asm) (by with_unfolding_all rfl) (by decide) (by rfl) (by decide) (by rfl) ?_)))
  k_with "exec Assign cons Dict" => ((rename MyMarkA => hm_q530; clear hm_q530; refine of_stop ?_))
  k_with "CompEnd" => (refine of_stop ?_)
  k_with "call builtin:list.pop" => ((k_here; refine of_stop ?_))
  k_with "call builtin:list.insert" => ((k_here; refine of_stop ?_))
  k_with "call ref" => ((k_here; (with_reducible show wpAny _ _ (call (Value.ref 533) _) _ _ _); refine of_stop ?_))
  k_with "call ref" => ((k_here; (with_reducible show wpAny _ _ (call (Value.ref 540) _) _ _ _); refine of_stop ?_))
  k_with "call ref" => ((k_here; (with_reducible show wpAny _ _ (call (Value.ref 545) _) _ _ _); refine of_stop ?_))
  k_with "call ref" => ((k_here; (with_reducible show wpAny _ _ (call (Value.ref 526) _) _ _ _); refine of_stop ?_))
  k_with "call ref" => ((k_here; (with_reducible show wpAny _ _ (call (Value.ref 442) _) _ _ _); refine of_stop ?_))
  k_with "exec For Name Call cons nil" => ((k_here; refine of_stop ?_))
  k_with "call type:set" => ((k_here; refine of_stop ?_))
  k_with "call builtin:sorted" => ((k_here; refine of_stop ?_))
  k_with "pyIter ref" => ((k_here; refine of_stop ?_))
  k_with "compareOp NotEq ref ref" => ((k_here; refine of_stop ?_))
  k_with "newList" => ((rename MyMarkN => hm_q544; clear hm_q544; k_here; k_dflt (refine' newList_K ?F_q544 ?N_q544 ?_ ?z_q544; (case F_q544 => k_asm); (case N_q544 => k_asm); (case z_q544 => size_fits); k_whole; refine of_stop ?_)))
  k_with "call type:list" => ((k_here; (with_reducible show wpAny _ _ (call (Value.type "list") [Value.ref _]) _ _ _); k_dflt (refine' list_nat ?k0_q545 ?k1_q545 ?k2_q545 ?k3_q545 ?kb_q545 ?kz_q545 ?_; (case k0_q545 => rfl); (case k1_q545 => k_asm); (case k2_q545 => k_asm); (case k3_q545 => assumption); (case kb_q545 => rfl); (case kz_q545 => omega); k_whole); intro D'_q545 vs'_q545 c'_q545 h'_q545 tk'_q545 F'_q545 N'_q545 l1_q545 hI'_q545; (try k_lt l1_q545); (try k_sweep)))
  k_with "compareOp Eq ref ref" => ((k_here; refine of_stop ?_))
  k_with "subscriptTail Call UnaryOp ref int" => ((k_here; refine of_stop ?_))
  k_with "call ref" => ((k_here; (with_reducible show wpAny _ _ (call (Value.ref 519) _) _ _ _); k_dflt (refine' drawn_use ?B_q548 ?F_q548 ?X_q548 ?N_q548 ?T_q548 ?P_q548 ?b_q548 ?z2_q548 ?m1_q548 ?m2_q548 ?hk_q548 ?ho_q548 ?hd_q548 ?hu_q548 ?_; (case B_q548 => k_asm); (case F_q548 => k_asm); (case X_q548 => k_asm); (case N_q548 => k_asm); (case T_q548 => k_asm); (case b_q548 => assumption); (case P_q548 => k_extra "my pick"); (case z2_q548 => omega); (case m1_q548 => omega); (case m2_q548 => omega); (case hk_q548 => first | exact rfl | assumption); (case ho_q548 => refine ⟨?_, ?_, ?_⟩ <;> k_all); (case hd_q548 => ktr_room); (case hu_q548 => ktr_units); k_whole); intro x'_q548 u'_q548 gv'_q548 gn'_q548 h'_q548 tk'_q548 x0'_q548 x1'_q548 hl'_q548 F'_q548 N'_q548; (try k_sweep)))
  k_with "call ref" => ((k_here; (with_reducible show wpAny _ _ (call (Value.ref 552) _) _ _ _); k_dflt (refine' pair_use ?B_q549 ?F_q549 ?X_q549 ?N_q549 ?T_q549 ?P_q549 ?b_q549 ?z2_q549 ?m1_q549 ?m2_q549 ?hk_q549 ?ho_q549 ?hd_q549 ?hu_q549 ?_; (case B_q549 => k_asm); (case F_q549 => k_asm); (case X_q549 => k_asm); (case N_q549 => k_asm); (case T_q549 => k_asm); (case b_q549 => assumption); (case P_q549 => k_extra "my pick"); (case z2_q549 => omega); (case m1_q549 => omega); (case m2_q549 => omega); (case hk_q549 => first | exact rfl | assumption); (case ho_q549 => refine ⟨?_, ?_, ?_⟩ <;> k_all); (case hd_q549 => ktr_room); (case hu_q549 => ktr_units); k_whole); refine of_stop ?_))
  k_with "my wipe" => (((repeat (rename Fr _ _ _ _ => hX_q550; clear hX_q550)); (repeat (rename News _ _ _ _ => hX_q550; clear hX_q550)); (repeat (rename (_ < _) ∧ _ => hX_q550; clear hX_q550)); (repeat (rename AllLt _ _ => hX_q550; clear hX_q550)); (repeat (rename Obj.IsDictOf _ _ _ => hX_q550; clear hX_q550)); (repeat (rename IntsAre _ _ => hX_q550; clear hX_q550)); (repeat (rename _ = Data.cell _ => hX_q550; clear hX_q550)); (repeat (rename _ = false => hX_q550; clear hX_q550))))
  k_with "my offs" => ((rename Mine.Off _ _ => hO_q551; first | with_reducible exact off_at hO_q551 (by k_extra "my mem") | (clear hO_q551; k_extra "my offs")))
  k_with "my offsub" => ((rename Mine.Off _ _ => hO_q552; first | (refine Off.sub hO_q552 ?_; k_extra "my sub"; done) | (clear hO_q552; k_extra "my offsub")))
  k_with "my pj" => (first | exact q1 (by with_reducible assumption) | exact q2 (by with_reducible assumption) | exact q3 (by with_reducible assumption) | exact q4 (by with_reducible assumption) | exact q5 (by with_reducible assumption) | exact q6 (by with_reducible assumption) | exact e2 (by with_reducible assumption) | exact e3 (by with_reducible assumption) | exact e4 (by with_reducible assumption) | exact e5 (by with_reducible assumption) | exact e6 (by with_reducible assumption))
  k_with "my nd" => (first | with_reducible assumption | exact lt_at (by with_reducible assumption) (by k_extra "my mem") | k_extra "my offs" | k_extra "my pj" | with_reducible exact Nat.ne_of_lt (by with_reducible assumption))
  k_with "my own k_ne" => ((refine neN ?_; (try dsimp only); first | k_extra "my nd" | (refine Ne.symm ?_; k_extra "my nd") | omega (splitDisjunctions := false)))
  k_with "my memG" => (first | with_reducible exact mg_c | (with_reducible refine mg_s ?_; k_extra "my memG"))
  k_with "my own k_all" => ((show Off _ _; repeat' (first | with_reducible exact Off.nil | with_reducible assumption | with_reducible refine off_c ?_ ?_ | with_reducible refine Off.append ?_ ?_ | k_ne | exact offT_at (by with_reducible assumption) (by k_extra "my memG") | (refine lt_off (by with_reducible assumption) ?_; k_extra "my sub"; done) | k_extra "my offsub" | k_extra "my pj")))
  k_with "my own omega" => (first | omega (splitDisjunctions := false) | ((repeat (rename AllLt _ _ => hX_q558; clear hX_q558)); (repeat (rename _ ≠ _ ∧ _ => hX_q558; clear hX_q558)); (repeat (rename Mine.Off _ _ ∧ _ => hX_q558; clear hX_q558)); (repeat (rename _ ≠ _ => hX_q558; clear hX_q558)); omega (splitDisjunctions := true)))
  k_with "callWith ref" => ((k_here; k_dflt (refine' callWith_K ?k1_q559 ?k2_q559 ?_; (case k1_q559 => k_asm); (case k2_q559 => k_is); k_whole)))
  trivial
theorem foo : PySem.Challenge.rw_xm0628_02.Holds := hd02 (fun said => by
  refine holds_open (q := Mine.hd02.view_1) (loose := lo) (Xt := xt9) (XP := XL Mine.hd02.view_1 []) (Yf := Hook.obs (kmHook Mine.hd02.heap_1 as9 ek9 [521])) (Ya := Hook.val (kmHook Mine.hd02.heap_1 as9 ek9 [521])) (YP := Hook.says (kmHook Mine.hd02.heap_1 as9 ek9 [521])) (N := 7200) left9 (Hook.of (kmHook Mine.hd02.heap_1 as9 ek9 [521])) (Hook.keeps (kmHook Mine.hd02.heap_1 as9 ek9 [521])) (fun s e => xl_of s (Bool.and_eq_true_iff.mp e).1) XL.keeps (by rfl) (by rfl) (by rfl) (fun s e => recFacts_of (Bool.and_eq_true_iff.mp e).2) (by rfl) said (by decide +kernel) ⟨rfl, rfl, rfl, rfl, rfl, by decide +kernel⟩ ?hw9 ?hc9
  case hw9 => w_witness2
  clear said
  k_go0
  all_goals try k_fold
  rename Fr _ _ _ _ => F1
  rename IntsAre _ _ => hscr
  rename Heap.IsList _ _ _ => lifted
  rename Shared => s1
  rename List Int => scr
  rename News _ _ _ _ => N1
  have F2 := fr_as (m' := fun y => if y = Str.ofString "script" then some (.ref _) else none) F1 (by funext y; rfl)
  rename (_ : Obj).data = Data.cell (bindC _ _ _ (Str.ofString "box_of")) => d1
  rename (_ : Obj).data = Data.cell (bindC _ _ _ (Str.ofString "many")) => d2
  rename (_ : Obj).data = Data.cell (bindC _ _ _ (Str.ofString "pairs")) => d3
  rename (_ : Obj).data = Data.cell (bindC _ _ _ (Str.ofString "bound")) => d4
  replace d1 := cell_as (b := none) d1 (by kernel_rfl)
  replace d2 := cell_as (b := none) d2 (by kernel_rfl)
  replace d3 := cell_as (b := none) d3 (by kernel_rfl)
  replace d4 := cell_as (b := none) d4 (by kernel_rfl)
  dsimp only
  refine wpAny_mono (Q := LawEnd (ghostOf s1.heap [(525, 521)]) s1.heap.objs.size s1) (E := fun _ _ => False) ?main ?fin (fun _ _ h => h.elim)
  case fin =>
    rintro f s' ⟨rfl, m, h', tk', ps, rest, rfl, F, N, ht⟩
    clear F1 F2 N1
    k_steps
  clear F1
  try (rename Ground _ _ _ _ _ _ _ _ _ => q1; clear q1)
  try (rename Hook.says _ _ _ => q1; clear q1)
  try (rename CellsAre _ _ _ => q1; clear q1)
  try (rename Dflts _ _ _ _ _ _ => q1; clear q1)
  try (rename Top hd02.view_1 _ _ _ _ _ => q1; clear q1)
  try (rename Tables _ _ _ _ => q1; clear q1)
  try (rename TopE _ _ _ _ => q1; clear q1)
  try (rename TopW _ _ _ => q1; clear q1)
  try (rename Flt.MathXP _ _ _ => q1; clear q1)
  try (rename LooseAre _ _ _ => q1; clear q1)
  try (rename ReadsAll _ _ _ _ => q1; clear q1)
  try (rename Well _ _ _ _ => q1; clear q1)
  try (rename Reads _ _ _ _ => q1; clear q1)
  try (rename ReadsAllW _ _ _ _ _ _ => q1; clear q1)
  try (rename TabsAt _ _ => q1; clear q1)
  try (rename Shape.has _ _ = _ => q1; clear q1)
  try (rename PyData.layable0 _ = _ => q1; clear q1)
  try (rename Heap.CodeRec _ _ _ => q1; clear q1)
  try (rename Heap.get? _ _ = some _ => q1; clear q1)
  clear hT8
  generalize ghostOf s1.heap [(525, 521)] = h0 at *
  generalize s1.heap.objs.size = L at *

  have hl521 : 521 < L := ‹521 < L ∧ True›.1
  rename World => ww
  have ma : MyMarkA := ⟨trivial⟩
  k_steps
  refine ⟨?_⟩
  refine cut_stmt (T0 ww h0 L s1) ?t0 ?_
  case t0 =>
    k_steps
    all_goals (try exact trivial)
    rename Obj.IsDictOf _ _ (strPairs _) => hd9
    rename Fr _ _ _ _ => kF
    rename News _ _ _ _ => kN
    rename IntsAre _ (List.take 24 scr) => hI9
    have hcut : (List.take 24 scr).length ≤ 24 := by rw [List.length_take]; omega
    refine' T0.mk (ps := #[]) (gv := []) kF (kst_newsOf kN ?sub) tabOk_nil ?cn (by assumption) d2 d3 d4 (.mk hd9 hI9 hcut ?f1 ?f2 ?f3 ⟨?n1, ?n2, ?n3⟩) (Nat.le_refl _)
    case sub => k_extra "my sub"
    case cn => rfl
    (case f1 => refine ⟨?_, ?_, ?_, ?_, ?_⟩ <;> k_ne)
    (case f2 => refine ⟨?_, ?_, ?_, ?_, ?_⟩ <;> k_ne)
    (case f3 => refine ⟨?_, ?_, ?_, ?_, ?_⟩ <;> k_ne)
    (case n1 => k_ne)
    (case n2 => k_ne)
    (case n3 => k_ne)
  try clear F2
  try clear N1
  try clear lifted
  try clear hscr
  clear d1 d2 d3 d4
  k_extra "my wipe"
  intro s hT0
  (try dsimp only)
  have ma : MyMarkA := ⟨trivial⟩
  k_steps
  refine ⟨?_⟩

  refine cut_stmt (T1 ww h0 L s1) ?t1 ?_
  case t1 =>
    refine byc ?_; intro hGG
    cases hT0 with
    | @mk h tk m B A G bo av gv an gn sc o1 o2 o3 o4 ps F1 N1 hT hC c1 c2 c3 c4 hbox hg =>
    have hbox' := hbox
    obtain ⟨b4, b5, b6, b7⟩ := hbox.offs
    refine hGG ?_; clear hGG
    dsimp only [List.cons_append, List.nil_append] at N1
    k_steps
    all_goals (try exact trivial)
    rename Fr _ _ _ _ => kF
    rename News _ _ _ _ => kN
    rename (_ : Obj).data = Data.cell (some (Value.int _ _)) => kd
    refine byc ?_; intro hGG
    obtain ⟨n, hn, hn2⟩ := many_at (by assumption) (by assumption)
    refine hGG ?_; clear hGG
    rw [hn] at kd
    refine' T1.mk kF (kst_newsOf kN ?sub) hT hC rfl c1 kd c3 c4 hbox' ?hg ⟨by assumption, by assumption⟩ hn2
    case sub => k_extra "my sub"
    case hg => omega
  clear hT0
  intro s hT1
  (try dsimp only)

  have ma : MyMarkA := ⟨trivial⟩
  k_steps
  refine ⟨?_⟩
  refine cut_stmt (T2 ww h0 L s1) ?t2 ?_
  case t2 =>
    refine byc ?_; intro hGG
    cases hT1 with
    | @mk h tk m B A G bo av gv an gn sc o1 o2 o3 o4 ps form n t1 t2 F1 N1 hT hC m1 c1 c2 c3 c4 hbox hg hf hn =>
    have hbox' := hbox
    obtain ⟨b4, b5, b6, b7⟩ := hbox.offs
    refine hGG ?_; clear hGG
    have F2 := fr_known F1 m1
    clear F1
    dsimp only [List.cons_append, List.nil_append] at N1
    have mc : MyMarkC := ⟨trivial⟩
    k_steps
    refine ⟨?_⟩
    rename News _ _ _ _ => kN
    rename Fr _ _ _ _ => kF
    have kN2 := kst_newsOf (l' := cells4 L o1 o2 o3 o4 ps ++ [(B, bo), (A, listOf av.toArray an), (G, listOf gv.toArray gn)]) kN (by k_extra "my sub")
    refine LCg.CompSrc.range (n := n) rfl kF kN2 (by assumption) (small0 (by omega)) size0 (by rw [sizeLine_eq]; omega) ?_
    intro g
    clear kN kN2 kF
    (try clear N1); (try clear F2)
    refine comp_ind (JR2 L o1 o2 o3 o4 ps B A G bo av an) (.mk .nil rfl (fun _ h => nomatch h) hg) ?turn ?fin
    case turn =>
      intro i ys nx v I oI C oC D m₂ h9 tk9 E' hlt hJ hP hNs hx F5 N5 off ne
      refine byc ?_; intro hGG
      obtain ⟨j1, j2, j3, j4⟩ := hJ
      refine hGG ?_; clear hGG
      rename List Value => gv
      refine byc ?_; intro hGG
      obtain ⟨t9, rfl⟩ := hP
      refine hGG ?_; clear hGG
      have u1 := off3_I off
      have u2 := off3_C off
      have u3 := off3_D off
      dsimp only [List.cons_append, List.nil_append] at u1 u2 u3 N5
      clear off
      refine byc ?_; intro hGG
      obtain ⟨e1, e2, e3⟩ := ne
      refine hGG ?_; clear hGG
      dsimp only
      k_steps
      refine ⟨?_⟩
      rename News _ _ _ _ => kN
      rename Fr _ _ _ _ => kF
      refine' LCg.CompEnd.intro kF kN (cells4 L o1 o2 o3 o4 ps ++ [(B, bo), (A, listOf av.toArray an), (G, listOf (List.toArray _) _)]) ?sub ?off trivial (.mk (ints_snoc j1) ?len (ks_snoc j3 (by assumption) (by assumption)) ?gl)
      case sub => k_extra "my sub"
      case off => refine off3_of ?_ ?_ ?_ <;> k_all
      case len => rw [List.length_append, j2]; rfl
      case gl => omega
    case fin =>
      intro ys nx hJ
      refine byc ?_; intro hGG
      obtain ⟨j1, j2, j3, j4⟩ := hJ
      refine hGG ?_; clear hGG
      k_steps
      rename News _ _ _ _ => kN
      rename Fr _ _ _ _ => kF
      rename LCg.Off1 _ _ => ko
      replace ko := Off.of1 ko
      dsimp only [List.cons_append, List.nil_append] at ko
      refine' T2.mk (rv := ys) (rn := ys.length) kF (kst_newsOf kN ?sub) hT hC rfl rfl c1 c2 c3 c4 hbox' ?hg hf hn j1 j2 j3 ?f1 ?f2
      case sub => k_extra "my sub"
      case hg => omega
      case f1 => refine ⟨?_, ?_, ?_, ?_, ?_⟩ <;> k_ne
      case f2 => refine ⟨?_, ?_, ?_⟩ <;> k_ne
  clear hT1
  intro s hT2
  (try dsimp only)

  have ma : MyMarkA := ⟨trivial⟩
  k_steps
  refine ⟨?_⟩
  refine cut_stmt (T3 (fun f k => k = 3 ∨ k = 5) 6 ww h0 L s1) ?t3 ?_
  case t3 =>
    refine byc ?_; intro hGG
    cases hT2 with
    | @mk h tk m B A G rl bo av gv rv an gn rn sc ks o1 o2 o3 o4 ps form n t1 t2 F1 N1 hT hC m1 m2 c1 c2 c3 c4 hbox hg hf hn i1 i2 i3 f1 f2 =>
    have hbox' := hbox
    obtain ⟨b4, b5, b6, b7⟩ := hbox.offs
    refine hGG ?_; clear hGG
    have f1' := f1
    replace f1 := f1.all
    have F2 := ((FrK.ini F1).k m1).k m2 |>.fr
    clear F1
    dsimp only [List.cons_append, List.nil_append] at N1
    k_steps
    all_goals (try exact trivial)
    all_goals
      rename News _ _ _ _ => kN
      rename Fr _ _ _ _ => kF
      rename (_ : Obj).data = Data.cell (some (Value.ref _)) => kd
    · refine' T3.mk (rv := rv) (gv := gv) (tl := [(_, _), (_, _), (_, _)]) kF (kst_newsOf kN ?sub) hT hC rfl rfl c1 c2 kd c4 hbox' hg hf hn i1 i2 i3 f1' f2 pairs3 ?pl (Or.inl rfl) ?f3 ?f4 ?oT
      case sub => k_extra "my sub"
      case pl =>
        refine byc ?_; intro hGG
        obtain rfl : n = 3 := by omega
        refine hGG ?_; clear hGG
        decide
      case f3 => refine ⟨?_, ?_, ?_, ?_, ?_⟩ <;> k_ne
      case f4 => refine ⟨?_, ?_, ?_, ?_⟩ <;> k_ne
      case oT =>
        refine offT_c ?_ (offT_c ?_ (offT_c ?_ (offT_c ?_ (offT_c ?_ (offT_c ?_ (offT_c ?_ (offT_c ?_ (offT_c ?_ (offT_c ?_ offT_n))))))))) <;> k_all
    · refine' T3.mk (rv := rv) (gv := gv) (tl := [(_, _), (_, _), (_, _), (_, _), (_, _)]) kF (kst_newsOf kN ?sub) hT hC rfl rfl c1 c2 kd c4 hbox' hg hf hn i1 i2 i3 f1' f2 pairs5 ?pl (Or.inr rfl) ?f3 ?f4 ?oT
      case sub => k_extra "my sub"
      case pl =>
        refine byc ?_; intro hGG
        obtain rfl : n = 4 := by omega
        refine hGG ?_; clear hGG
        decide
      case f3 => refine ⟨?_, ?_, ?_, ?_, ?_⟩ <;> k_ne
      case f4 => refine ⟨?_, ?_, ?_, ?_⟩ <;> k_ne
      case oT =>
        refine offT_c ?_ (offT_c ?_ (offT_c ?_ (offT_c ?_ (offT_c ?_ (offT_c ?_ (offT_c ?_ (offT_c ?_ (offT_c ?_ (offT_c ?_ offT_n))))))))) <;> k_all
  clear hT2
  intro s hT3
  (try dsimp only)

  have mi : MyMarkIf := ⟨trivial⟩
  k_steps
  refine ⟨?_⟩
  refine cut_stmt (T3 (fun f k => (f ≠ 0 → k = 3 ∨ k = 5) ∧ 1 ≤ k ∧ k ≤ 6) 30 ww h0 L s1) ?t4 ?_
  case t4 =>
    refine byc ?_; intro hGG
    cases hT3 with
    | @mk h tk m B A G rl pl bo av gv rv pv an gn rn pn sc ks prs tl o1 o2 o3 o4 ps form n t1 t2 F1 N1 hT hC m1 m2 c1 c2 c3 c4 hbox hg hf hn i1 i2 i3 f1 f2 p1 p2 p3 f3 f4 oT =>
    have hbox' := hbox
    obtain ⟨b4, b5, b6, b7⟩ := hbox.offs
    refine hGG ?_; clear hGG
    have f1' := f1
    have f3' := f3
    replace f1 := f1.all; replace f3 := f3.all
    have F2 := ((FrK.ini F1).k m1).k m2 |>.fr
    clear F1
    dsimp only [List.cons_append, List.nil_append] at N1
    have mc : MyMarkC := ⟨trivial⟩
    k_steps
    · refine ⟨?_⟩
      rename News _ _ _ _ => kN
      rename Fr _ _ _ _ => kF
      rename IsRange _ _ _ _ _ _ _ _ => hr
      rename _ = gv.length + 1 => hl9
      rename List Value => gv1
      rename Int => x9
      rename x9 < _ => hx9
      refine byc ?_; intro hGG
      obtain ⟨k, rfl⟩ : ∃ k : Nat, x9 = (k : Int) := ⟨x9.toNat, by omega⟩
      refine hGG ?_; clear hGG
      rw [show (1 : Int) + (k : Int) = ((1 + k : Nat) : Int) by omega] at hr
      have kN2 := kst_newsOf (l' := cells4 L o1 o2 o3 o4 ps ++ ([(B, bo), (A, listOf av.toArray an), (G, listOf gv1.toArray _), (rl, listOf rv.toArray rn)] ++ [])) kN (by k_extra "my sub")
      refine LCg.CompSrc.range (n := 1 + k) rfl kF kN2 hr (small0 (by omega)) size0 (by rw [sizeLine_eq]; omega) ?_
      intro g
      clear kN kN2 kF hr
      (try clear N1); (try clear F2)
      refine comp_ind (JP4 L o1 o2 o3 o4 ps B A G rl bo av rv an rn n) (.mk .nil rfl (fun _ h => nomatch h) ?g0 offT_nil) ?turn ?fin
      case g0 => omega
      case turn =>
        intro i ys nx v I oI C oC D m₂ h9 tk9 E' hlt hJ hP hNs hx F5 N5 off ne
        refine byc ?_; intro hGG
        obtain ⟨j1, j2, j3, j4, j5⟩ := hJ
        refine hGG ?_; clear hGG
        rename List Value => gv2
        rename Led => tl2
        have zp := j1.length
        refine byc ?_; intro hGG
        obtain ⟨t9, rfl⟩ := hP
        refine hGG ?_; clear hGG
        have u1 := off3_I off
        have u2 := off3_C off
        have u3 := off3_D off
        clear off
        dsimp only [List.cons_append, List.nil_append] at N5
        refine byc ?_; intro hGG
        obtain ⟨e1, e2, e3⟩ := ne
        refine hGG ?_; clear hGG
        dsimp only
        k_steps
        refine ⟨?_⟩
        intro Dp a b w1 w2 gv3 gn3 h' tk' ha hb hab hl o' F' N'
        (try dsimp only [List.cons_append, List.nil_append] at o')
        k_steps
        refine ⟨?_⟩
        rename News _ _ _ _ => kN
        rename Fr _ _ _ _ => kF
        refine' LCg.CompEnd.intro kF kN (cells4 L o1 o2 o3 o4 ps ++ ([(B, bo), (A, listOf av.toArray an), (G, listOf (List.toArray gv3) _), (rl, listOf rv.toArray rn)] ++ ((Dp, tup (a : Int) w1 (b : Int) w2) :: tl2))) ?sub ?off trivial (.mk ((j1.mono fun p hp => .tail _ hp).snoc (.head _)) ?len (prs_snoc j3 ?q1 ?q2 hab) ?gl (offT_cons j5 ?oT))
        case sub => k_extra "my sub"
        case off =>
          refine off3_of ?_ ?_ ?_ <;> k_all
        case len => rw [List.length_append, j2]; rfl
        (case q1 => omega); (case q2 => omega); (case gl => omega)
        case oT =>
          simp only [List.forall_mem_cons]
          refine ⟨?_, ?_, ?_, ?_, ?_, ?_, ?_, ?_, ?_, fun _ h => nomatch h⟩ <;> k_ne
      case fin =>
        intro ys nx hJ
        refine byc ?_; intro hGG
        obtain ⟨j1, j2, j3, j4, j5⟩ := hJ
        refine hGG ?_; clear hGG
        rename List Value => gv2
        rename Led => tl2
        k_steps
        all_goals (try exact trivial)
        rename News _ _ _ _ => kN
        rename Fr _ _ _ _ => kF
        rename LCg.Off1 _ _ => ko
        rename (_ : Obj).data = Data.cell (some (Value.ref _)) => kd
        replace ko := Off.of1 ko
        (try dsimp only [List.cons_append, List.nil_append] at ko)
        refine' T3.mk (rv := rv) (gv := gv2) (pv := ys) (pn := ys.length) (tl := tl2) kF (kst_newsOf kN ?sub) hT hC rfl rfl c1 c2 kd c4 hbox' ?hg hf hn i1 i2 i3 f1' ⟨?n1, ?n2, ?n3⟩ j1 j3 ⟨fun h => absurd (by assumption) h, ?l1, ?l2⟩ ?f3 ⟨?n4, ?n5, ?n6, ?n7⟩ ?oT
        case sub => k_extra "my sub"
        (case hg => omega); (case l1 => omega); (case l2 => omega)
        (case n1 => k_ne); (case n2 => k_ne); (case n3 => k_ne); (case n4 => k_ne); (case n5 => k_ne); (case n6 => k_ne); (case n7 => k_ne)
        case f3 => refine ⟨?_, ?_, ?_, ?_, ?_⟩ <;> k_ne
        case oT =>
          unfold OffT
          simp only [List.forall_mem_cons]
          refine ⟨?_, ?_, ?_, ?_, ?_, ?_, ?_, ?_, ?_, ?_, fun _ h => nomatch h⟩ <;> k_all
    · rename News _ _ _ _ => kN
      rename Fr _ _ _ _ => kF
      refine' T3.mk (rv := rv) (gv := gv) (tl := tl) kF (kst_newsOf kN ?sub) hT hC rfl rfl c1 c2 c3 c4 hbox' ?hg hf hn i1 i2 i3 f1' f2 p1 p2 ⟨fun _ => p3, ?l1, ?l2⟩ f3' f4 oT
      case sub => k_extra "my sub"
      (case hg => omega); (case l1 => omega); (case l2 => omega)
  clear hT3
  intro s hT4
  (try dsimp only)

  have mi : MyMarkIf := ⟨trivial⟩
  k_steps
  refine ⟨?_⟩
  refine cut_stmt (T3 (fun f k => (f = 3 → k = 3 ∨ k = 5) ∧ 1 ≤ k ∧ k ≤ 6) 31 ww h0 L s1) ?t5 ?_
  case t5 =>
    refine byc ?_; intro hGG
    cases hT4 with
    | @mk h tk m B A G rl pl bo av gv rv pv an gn rn pn sc ks prs tl o1 o2 o3 o4 ps form n t1 t2 F1 N1 hT hC m1 m2 c1 c2 c3 c4 hbox hg hf hn i1 i2 i3 f1 f2 p1 p2 p3 f3 f4 oT =>
    have hbox' := hbox
    obtain ⟨b4, b5, b6, b7⟩ := hbox.offs
    refine hGG ?_; clear hGG
    have f1' := f1
    have f3' := f3
    replace f1 := f1.all; replace f3 := f3.all
    have F2 := ((FrK.ini F1).k m1).k m2 |>.fr
    clear F1
    dsimp only [List.cons_append, List.nil_append] at N1
    have zp := p1.length
    refine byc ?_; intro hGG
    obtain ⟨p3, p4, p5⟩ := p3
    refine hGG ?_; clear hGG
    k_steps
    · refine ⟨?_⟩
      rename _ = gv.length + 1 => hl9
      rename List Value => gv1
      rename Int => x9
      rename x9 < _ => hx9
      rename 0 ≤ x9 => hx0
      k_dflt (refine' pop_any (vs := pv) ?F ?N ?U ?h0 ?h1 ?hz ?_)
      (case F => k_asm); (case N => k_asm); (case U => k_upd); (case h0 => omega); (case h1 => omega); (case hz => omega)
      intro h' F' N'
      k_steps
      all_goals (try exact trivial)
      rename News _ _ _ _ => kN
      rename Fr _ _ _ _ => kF
      have hlt : x9.toNat < prs.length := by omega
      have hle : (prs.eraseIdx x9.toNat).length = prs.length - 1 := by rw [List.length_eraseIdx, if_pos hlt]
      refine' T3.mk (rv := rv) (gv := gv1) (pv := pv.eraseIdx x9.toNat) (pn := pn + 1) (tl := tl) kF (kst_newsOf kN ?sub) hT hC rfl rfl c1 c2 c3 c4 hbox' ?hg hf hn i1 i2 i3 f1' f2 (p1.erase _) (fun p hp => p2 p (List.mem_of_mem_eraseIdx hp)) ⟨fun h => absurd h ?ne, ?l1, ?l2⟩ f3' f4 oT
      case sub => k_extra "my sub"
      (case hg => omega); (case l1 => omega); (case l2 => omega); (case ne => omega)
    · rename News _ _ _ _ => kN
      rename Fr _ _ _ _ => kF
      refine' T3.mk (rv := rv) (gv := gv) (tl := tl) kF (kst_newsOf kN ?sub) hT hC rfl rfl c1 c2 c3 c4 hbox' ?hg hf hn i1 i2 i3 f1' f2 p1 p2 ⟨?l0, p4, p5⟩ f3' f4 oT
      case sub => k_extra "my sub"
      (case hg => omega); (case l0 => exact fun h => p3 (by omega))
  clear hT4
  intro s hT5
  (try dsimp only)

  have mi : MyMarkIf := ⟨trivial⟩
  k_steps
  refine ⟨?_⟩
  refine cut_stmt (T3 (fun f k => 1 ≤ k ∧ k ≤ 6) 34 ww h0 L s1) ?t6 ?_
  case t6 =>
    refine byc ?_; intro hGG
    cases hT5 with
    | @mk h tk m B A G rl pl bo av gv rv pv an gn rn pn sc ks prs tl o1 o2 o3 o4 ps form n t1 t2 F1 N1 hT hC m1 m2 c1 c2 c3 c4 hbox hg hf hn i1 i2 i3 f1 f2 p1 p2 p3 f3 f4 oT =>
    have hbox' := hbox
    obtain ⟨b4, b5, b6, b7⟩ := hbox.offs
    refine hGG ?_; clear hGG
    have f1' := f1
    have f3' := f3
    replace f1 := f1.all; replace f3 := f3.all
    have F2 := ((FrK.ini F1).k m1).k m2 |>.fr
    clear F1
    dsimp only [List.cons_append, List.nil_append] at N1
    have zp := p1.length
    refine byc ?_; intro hGG
    obtain ⟨p3, p4, p5⟩ := p3
    refine hGG ?_; clear hGG
    k_steps
    · refine ⟨?_⟩
      rename _ = gv.length + 1 => hl9
      rename List Value => gv1
      rename Int => x9
      rename x9 < _ => hx9
      rename 0 ≤ x9 => hx0
      intro Dp a b w1 w2 gv3 gn3 h' tk' ha hb hab hl o' F' N'
      (try dsimp only [List.cons_append, List.nil_append] at o')
      k_steps
      refine ⟨?_⟩
      k_dflt (refine' ins_any (vs := pv) ?F ?N ?U ?h0 ?h1 ?hz ?_)
      (case F => k_asm); (case N => k_asm); (case U => k_upd); (case h0 => omega); (case h1 => omega); (case hz => omega)
      intro h' F' N'
      k_steps
      all_goals (try exact trivial)
      rename News _ _ _ _ => kN
      rename Fr _ _ _ _ => kF
      have hp9 : ∀ p ∈ prs.take x9.toNat ++ (a, b) :: prs.drop x9.toNat, p.1 < n ∧ p.2 < n ∧ p.1 ≠ p.2 := by
        intro p hp
        rcases List.mem_append.mp hp with hp | hp
        · exact p2 p (List.mem_of_mem_take hp)
        · rcases List.mem_cons.mp hp with rfl | hp
          · exact ⟨by omega, by omega, hab⟩
          · exact p2 p (List.mem_of_mem_drop hp)
      have hle : (prs.take x9.toNat ++ (a, b) :: prs.drop x9.toNat).length = prs.length + 1 := by
        rw [List.length_append, List.length_cons, List.length_take, List.length_drop]; omega
      refine' T3.mk (rv := rv) (gv := gv3) (pv := pv.take x9.toNat ++ .ref Dp :: pv.drop x9.toNat) (pn := pn + 1) (tl := (Dp, tup (a : Int) w1 (b : Int) w2) :: tl) kF (kst_newsOf kN ?sub) hT hC rfl rfl c1 c2 c3 c4 hbox' ?hg hf hn i1 i2 i3 f1' f2 ((p1.mono fun p hp => .tail _ hp).ins (.head _) _) hp9 ⟨?l1, ?l2⟩ f3' f4 (offT_cons oT ?oT)
      case sub => k_extra "my sub"
      (case hg => omega); (case l1 => omega); (case l2 => omega)
      case oT =>
        simp only [List.forall_mem_cons]
        refine ⟨?_, ?_, ?_, ?_, ?_, ?_, ?_, ?_, ?_, ?_, fun _ h => nomatch h⟩ <;> k_ne
    · rename News _ _ _ _ => kN
      rename Fr _ _ _ _ => kF
      refine' T3.mk (rv := rv) (gv := gv) (tl := tl) kF (kst_newsOf kN ?sub) hT hC rfl rfl c1 c2 c3 c4 hbox' ?hg hf hn i1 i2 i3 f1' f2 p1 p2 ⟨p4, p5⟩ f3' f4 oT
      case sub => k_extra "my sub"
      (case hg => omega)
  clear hT5
  intro s hT6
  (try dsimp only)

  have ma : MyMarkA := ⟨trivial⟩
  k_steps
  refine ⟨?_⟩
  refine cut_stmt (T7 ww h0 L s1) ?t7 ?_
  case t7 =>
    refine byc ?_; intro hGG
    cases hT6 with
    | @mk h tk m B A G rl pl bo av gv rv pv an gn rn pn sc ks prs tl o1 o2 o3 o4 ps form n t1 t2 F1 N1 hT hC m1 m2 c1 c2 c3 c4 hbox hg hf hn i1 i2 i3 f1 f2 p1 p2 p3 f3 f4 oT =>
    refine hGG ?_; clear hGG
    have f1' := f1
    have f3' := f3
    replace f1 := f1.all; replace f3 := f3.all
    clear hbox hg hf c1
    have F2 := (FrK.ini F1).k m2 |>.fr
    clear F1
    have N2 := kst_newsOf (l' := ((pl, listOf pv.toArray pn) :: (rl, listOf rv.toArray rn) :: (521, tabObj ps) :: tl) ++ [(L + 1 + 1 + 1 + 1, o4), (L + 1 + 1 + 1, o3), (L + 1 + 1, o2), (L + 1, o1)]) N1 (by k_extra "my sub")
    clear N1
    dsimp only [List.cons_append, List.nil_append] at N2
    have zp := p1.length
    refine byc ?_; intro hGG
    obtain ⟨p4, p5⟩ := p3
    refine hGG ?_; clear hGG
    k_steps
    refine ⟨?_⟩
    k_dflt (refine' in_step_use ?zB ?zF ?zX ?zN ?zT p1 i1 ?zk2 ?zb ?zl hT hC ?zq1 ?zq2 ?zq3 ?zhk ?zho ?zhd ?zhu ?_)
    (case zB => k_asm); (case zF => k_asm); (case zX => k_asm); (case zN => exact N2); (case zT => k_asm)
    (case zk2 => omega); (case zb => rw [i2]; exact p2); (case zl => omega)
    (case zq1 => k_ne); (case zq2 => k_ne); (case zq3 => k_all)
    (case zhk => first | exact rfl | assumption)
    case zho => refine ⟨?_, ?_, ?_, offs_cons ?_ (offs_cons ?_ (offs_cons ?_ (offs_cons ?_ offs_nil)))⟩ <;> k_all
    (case zhd => ktr_room); (case zhu => ktr_units)
    k_whole
    intro S sv sn led c co ps' h' tk' hZ hcr hth oc oS ol F' N'
    (try dsimp only [List.cons_append, List.nil_append] at oc oS)
    k_steps
    all_goals (try exact trivial)
    rename News _ _ _ _ => kN
    rename Fr _ _ _ _ => kF
    refine' T7.mk (n := n) (rv := rv) (pv := pv) (sv := sv) (sn := sn) (tl := tl) (led := led) (c := c) (co := co) kF (kst_newsOf kN ?sub) hth hcr rfl rfl c2 c3 c4 hn i1 i2 i3 p1 p2 ⟨p4, p5⟩ hZ f1' f3' ?f5 ?f6 (by k_ne) ⟨?n1, ?n2⟩ ⟨?n3, ?n4⟩ ?oT ?oL fun p hp => Off.sub (ol p hp) ?oZ
    case sub => k_extra "my sub"
    case f5 => refine ⟨?_, ?_, ?_, ?_, ?_⟩ <;> k_ne
    case f6 => refine ⟨?_, ?_, ?_, ?_, ?_⟩ <;> k_ne
    (case n1 => k_ne); (case n2 => k_ne); (case n3 => k_ne); (case n4 => k_ne)
    case oZ => k_extra "my sub"
    case oT => refine offT_c ?_ (offT_c ?_ (offT_c ?_ (offT_c ?_ (offT_c ?_ (offT_c ?_ (offT_c ?_ (offT_c ?_ (offT_c ?_ offT_n)))))))) <;> k_all
    case oL =>
      refine offT_of fun p hp => ?_
      have z := ol p hp
      refine subN_c ?_ (subN_c ?_ (subN_c ?_ (subN_c ?_ (subN_c ?_ (subN_c ?_ (subN_c ?_ subN_n)))))) <;> k_ne
  clear hT6
  intro s hT7
  (try dsimp only)

  refine byc ?_; intro hGG
  cases hT7 with
  | @mk h tk m rl pl c S co rv pv sv rn pn sn ks prs tl led o1 o2 o3 o4 ps n t2 F1 N1 hT hcr m1 m2 c2 c3 c4 hn i1 i2 i3 p1 p2 p3 hZ f1 f2 f3 f4 n1 n2 n3 oT oL oLT =>
  refine hGG ?_; clear hGG
  have F2 := ((FrK.ini F1).k m1).k m2 |>.fr
  clear F1
  k_steps
  refine ⟨?_⟩
  refine cut_stmt (T8 ww h0 L s1) ?t8 ?_
  case t8 =>
    have zr := i1.length
    refine For_invTF F2 ?_ (by intro _; rfl)
    k_steps
    refine ⟨?_⟩
    refine set_K (l := rl) (vs := rv) (n := rn) (by k_asm) (by k_asm) ?hm rfl (ints_r9 i1 i3) (by omega) ?_
    case hm => simp only [List.cons_append, List.nil_append]; k_mem
    intro Sx hx tkx F3 N3 hLS
    (try clear F2); (try clear N1)
    k_steps
    refine ⟨?_⟩
    refine sorted_K F3 N3 rfl hLS ?_
    intro D us ns cu h5 tk5 F5 N5 lD hI hl4
    clear F3 N3 hLS
    k_steps
    refine ⟨?_⟩
    have kN := kst_newsOf (l' := cells4 L o1 o2 o3 o4 ps ++ ((D, listOf us.toArray cu) :: (rl, listOf rv.toArray rn) :: (pl, listOf pv.toArray pn) :: (c, co) :: (S, listOf sv.toArray sn) :: (led ++ tl))) N5 (by k_extra "my sub")
    dsimp only [List.cons_append, List.nil_append] at lD
    k_lt lD
    have f2' := f2; have f3' := f3
    replace f1 := f1.all; replace f2 := f2.all; replace f3 := f3.all; replace f4 := f4.all
    clear N5
    refine' iterT (l := D) (vs := us) (nn := cu) (J8 L o1 o2 o3 ps ((D, listOf us.toArray cu) :: (rl, listOf rv.toArray rn) :: (pl, listOf pv.toArray pn) :: (c, co) :: (S, listOf sv.toArray sn) :: (led ++ tl)) rl S) rfl ?hl F5 kN ?hj ?turn ?done
    case hl => k_mem
    case hj => exact .mk c4 rfl rfl
    case turn =>
      clear F5 kN
      intro i v m₁ nx s8 own hv hown hl1 hJ F1 N1
      revert F1 N1 hown hl1
      apply J8.elim hJ
      intro o4 v0 c4 m1 m2 hown hl1 F1 N1
      have F2 : Fr h0 L _ _ := ((FrK.ini F1).k m1).k m2 |>.fr
      clear F1
      replace N1 : News h0 L s8.heap ((L + 1 + 1 + 1 + 1, o4) :: (L + 1 + 1 + 1, o3) :: (L + 1 + 1, o2) :: (L + 1, o1) :: (521, tabObj ps) :: (D, listOf us.toArray cu) :: (rl, listOf rv.toArray rn) :: (pl, listOf pv.toArray pn) :: (c, co) :: (S, listOf sv.toArray sn) :: ((led ++ tl) ++ own)) := N1
      apply ints_some hI hv
      intro bd tb
      have oc4 := own_off hown (.head _)
      have mc : MyMarkC := ⟨trivial⟩
      k_steps
      refine ⟨?_⟩
      rename News _ _ _ _ => kN
      rename Fr _ _ _ _ => kF
      rename (_ : Obj).data = Data.cell (some (Value.int _ _)) => kd
      rename Obj => o5
      refine name_led ((L + 1 + 1 + 1 + 1, o5) :: (L + 1 + 1 + 1, o3) :: (L + 1 + 1, o2) :: (L + 1, o1) :: (521, tabObj ps) :: (D, listOf us.toArray cu) :: (rl, listOf rv.toArray rn) :: (pl, listOf pv.toArray pn) :: (c, co) :: (S, listOf sv.toArray sn) :: ((led ++ tl) ++ own)) ?_
      intro Y hY
      have hYs := subset_of hY
      have yB : (L + 1 + 1 + 1 + 1, o5) ∈ Y := hYs _ (.head _)
      have yR : (rl, listOf rv.toArray rn) ∈ Y := hYs _ (by k_mem)
      replace kN := news_as hY kN
      refine LCg.CompSrc.ledger (ax := rl) (its := rv.toArray) (k := rn) rfl kF kN yR (by rw [sizeLine_eq, List.size_toArray]; omega) ?_
      intro g
      clear kN kF
      (try clear N1); (try clear F2)
      refine comp_ind (JB8 Y bd ks) (.mk .nil) ?turn2 ?fin2
      case turn2 =>
        intro i ys nx v I oI C oC Da m₂ h9 tk9 E' hlt hJ hv hNs hx F5 N5 off ne
        rw [List.size_toArray] at hlt
        (try dsimp only at hv)
        rw [List.getElem?_toArray] at hv
        revert N5 off
        apply hJ.elim
        intro j1 N5 off
        revert hx
        apply ints_item i1 hv
        intro tv hx
        (try dsimp only)
        k_steps
        refine ⟨?_⟩
        exact LCg.CompEnd.intro F5 N5 Y (fun _ h => h) off (Or.inr ⟨_, yR, rfl, _, rfl⟩) (.mk (thr_take j1 (by omega)))
      case fin2 =>
        intro ys nx hJ
        apply hJ.elim
        intro j1
        rw [List.size_toArray, List.take_of_length_le (by omega)] at j1
        unfold LCg.FinA
        intro Db h7 tk7 F7 N7 o7
        clear yR
        refine name_led ((Db, LCg.lst ys) :: Y) ?_
        intro Z hZ9
        have hZs := subset_of hZ9
        have hYZ : ∀ p ∈ Y, p ∈ Z := fun p hp => hZs p (.tail _ hp)
        have zB := hYZ _ yB
        have zS : (S, listOf sv.toArray sn) ∈ Z := hYZ _ (hYs _ (by k_mem))
        have zL : ∀ p ∈ led, p ∈ Z := fun p hp => hYZ _ (hYs _ (skip_4 (skip_4 (skip_1 (skip_1 (List.mem_append_left _ (List.mem_append_left _ hp)))))))
        replace N7 := news_as hZ9 N7
        have mc : MyMarkC := ⟨trivial⟩
        have zsv := hZ.length
        rw [rsts_length] at zsv
        k_steps
        refine ⟨?_⟩
        rename News _ _ _ _ => kN
        rename Fr _ _ _ _ => kF
        refine LCg.CompSrc.ledger (ax := S) (its := sv.toArray) (k := sn) rfl kF kN zS (by rw [sizeLine_eq, List.size_toArray]; omega) ?_
        intro g2
        clear kN kF
        (try clear N7); (try clear F7)
        refine comp_ind (JS8 Z bd (rsts prs ks)) (.mk (ld := []) .nil (fun _ h => nomatch h)) ?turn3 ?fin3
        case turn3 =>
          intro i ys nx v I oI C oC Da m₂ h9 tk9 E' hlt hJ hv hNs hx F5 N5 off ne
          rw [List.size_toArray] at hlt
          (try dsimp only at hv)
          rw [List.getElem?_toArray] at hv
          revert N5 off
          apply hJ.elim
          intro ld j2 j3 N5 off
          revert hx
          apply hZ.item hv
          intro d ivs kd9 r hri hdm hiv hx
          have zr9 := rsts_row (List.mem_of_getElem? hri)
          have ziv := hiv.length
          (try dsimp only)
          have mc : MyMarkC := ⟨trivial⟩
          k_steps
          refine ⟨?_⟩
          refine name_led ((I, oI) :: (C, oC) :: (Da, LCg.lst ys) :: (ld ++ Z)) ?_
          intro V hV
          have hVs := subset_of hV
          have vB : (L + 1 + 1 + 1 + 1, o5) ∈ V := hVs _ (.tail _ (.tail _ (.tail _ (List.mem_append_right _ zB))))
          have vd : (d, listOf ivs.toArray kd9) ∈ V := hVs _ (.tail _ (.tail _ (.tail _ (List.mem_append_right _ (zL _ hdm)))))
          have N6 := news_as hV N5
          refine LCg.CompSrc.ledger (ax := d) (its := ivs.toArray) (k := kd9) rfl F5 N6 vd (by rw [sizeLine_eq, List.size_toArray]; omega) ?_
          intro g3
          clear N6 N5 F5
          refine comp_ind (JB8 V bd r) (.mk .nil) ?turn4 ?fin4
          case turn4 =>
            intro i4 ys4 nx v I4 oI4 C4 oC4 Da4 m4 h4 tk4 E4 hlt4 hJ hv hNs hx F5 N5 off4 ne4
            rw [List.size_toArray] at hlt4
            (try dsimp only at hv)
            rw [List.getElem?_toArray] at hv
            revert N5 off4
            apply hJ.elim
            intro j1 N5 off4
            revert hx
            apply ints_item hiv hv
            intro tv hx
            (try dsimp only)
            k_steps
            refine ⟨?_⟩
            exact LCg.CompEnd.intro F5 N5 V (fun _ h => h) off4 (Or.inr ⟨_, vd, rfl, _, rfl⟩) (.mk (thr_take j1 (by omega)))
          case fin4 =>
            intro ys4 nx hJ
            apply hJ.elim
            intro j1
            rw [List.size_toArray, List.take_of_length_le (by omega)] at j1
            unfold LCg.FinE
            intro Dx h4 tk4 F4 N4 o4
            replace o4 := Off.of1 o4
            have oV : Off Dx ((I, oI) :: (C, oC) :: (Da, LCg.lst ys) :: (ld ++ Z)) := Off.sub o4 hVs
            have N6 := news_more (l := (I, oI) :: (C, oC) :: (Da, LCg.lst ys) :: (ld ++ Z)) N4 (fun p hp => .tail _ (hVs p hp))
            refine LCg.CompEnd.intro F4 N6 (((Dx, LCg.lst ys4) :: ld) ++ Z) ?sub4 ?off4 (Or.inr ⟨_, List.mem_append_right _ zS, rfl, _, rfl⟩) (.mk ?l4 (offs_cons ?oz j3))
            case sub4 => dsimp only [List.cons_append]; k_extra "my sub"
            case oz => k_all
            case off4 => exact ⟨⟨by k_ne, by k_ne, by k_ne⟩, off⟩
            case l4 =>
              rw [List.take_add_one, hri, List.map_append]
              exact (j2.mono fun p hp => .tail _ hp).snoc (ivs := ys4) (.head _) j1
        case fin3 =>
          intro ys2 nx hJ
          apply hJ.elim
          intro ld j2 j3
          rw [List.size_toArray, List.take_of_length_le (by rw [rsts_length]; omega), states_thr (by rw [i2]; exact fun p hp => ⟨(p2 p hp).1, (p2 p hp).2.1⟩)] at j2
          unfold LCg.FinE
          intro Da h9 tk9 F9 N9 o9
          replace o9 := Off.of1 o9
          have hlit : ∀ p ∈ (Db, LCg.lst ys) :: (L + 1 + 1 + 1 + 1, o5) :: (L + 1 + 1 + 1, o3) :: (L + 1 + 1, o2) :: (L + 1, o1) :: (521, tabObj ps) :: (D, listOf us.toArray cu) :: (rl, listOf rv.toArray rn) :: (pl, listOf pv.toArray pn) :: (c, co) :: (S, listOf sv.toArray sn) :: ((led ++ tl) ++ own), p ∈ Z := sub_cons (hZs _ (.head _)) fun p hp => hYZ _ (hYs p hp)
          have N8 := news_more (l := (Db, LCg.lst ys) :: (L + 1 + 1 + 1 + 1, o5) :: (L + 1 + 1 + 1, o3) :: (L + 1 + 1, o2) :: (L + 1, o1) :: (521, tabObj ps) :: (D, listOf us.toArray cu) :: (rl, listOf rv.toArray rn) :: (pl, listOf pv.toArray pn) :: (c, co) :: (S, listOf sv.toArray sn) :: ((led ++ tl) ++ own)) N9 (fun p hp => .tail _ (List.mem_append_right _ (hlit p hp)))
          clear N9
          dsimp only [List.cons_append, List.nil_append] at N8
          have oDl : Off Da ld := Off.sub o9 fun p hp => List.mem_append_left _ hp
          have jlit : ∀ p ∈ ld, Off p.1 ((Db, LCg.lst ys) :: (L + 1 + 1 + 1 + 1, o5) :: (L + 1 + 1 + 1, o3) :: (L + 1 + 1, o2) :: (L + 1, o1) :: (521, tabObj ps) :: (D, listOf us.toArray cu) :: (rl, listOf rv.toArray rn) :: (pl, listOf pv.toArray pn) :: (c, co) :: (S, listOf sv.toArray sn) :: ((led ++ tl) ++ own)) := fun p hp => Off.sub (j3 p hp) hlit
          have jld := apart_symm jlit
          have qPl : Off pl ld := jld (pl, listOf pv.toArray pn) (by k_mem)
          have qDb : Off Db ld := jld (Db, _) (.head _)
          have qown : ∀ p ∈ own, Off p.1 tl := own_offs hown (by k_extra "my sub")
          have qld : ∀ p ∈ ld, Off p.1 tl := fun p hp => Off.sub (jlit p hp) (by k_extra "my sub")
          have qle := oLT
          have oplo := own_off (d := pl) (o := listOf pv.toArray pn) hown (by simp only [List.cons_append, List.nil_append]; k_mem)
          have oDa : Off Da ((Db, LCg.lst ys) :: (L + 1 + 1 + 1 + 1, o5) :: (L + 1 + 1 + 1, o3) :: (L + 1 + 1, o2) :: (L + 1, o1) :: (521, tabObj ps) :: (D, listOf us.toArray cu) :: (rl, listOf rv.toArray rn) :: (pl, listOf pv.toArray pn) :: (c, co) :: (S, listOf sv.toArray sn) :: ((led ++ tl) ++ own)) := Off.sub o9 fun p hp => List.mem_append_right _ (hlit p hp)
          have oDb : Off Db ((L + 1 + 1 + 1 + 1, o5) :: (L + 1 + 1 + 1, o3) :: (L + 1 + 1, o2) :: (L + 1, o1) :: (521, tabObj ps) :: (D, listOf us.toArray cu) :: (rl, listOf rv.toArray rn) :: (pl, listOf pv.toArray pn) :: (c, co) :: (S, listOf sv.toArray sn) :: ((led ++ tl) ++ own)) := Off.sub (Off.of1 o7) hYs
          have zpl := p1.length
          clear o7 o9 j3 jld
          k_steps
          refine ⟨?_⟩
          refine name_led ((Da, LCg.lst ys2) :: (ld ++ ((L + 1 + 1 + 1 + 1, o5) :: (L + 1 + 1 + 1, o3) :: (L + 1 + 1, o2) :: (L + 1, o1) :: (521, tabObj ps) :: (D, listOf us.toArray cu) :: (rl, listOf rv.toArray rn) :: (c, co) :: (S, listOf sv.toArray sn) :: (led ++ own)))) ?_
          intro R hR
          have hRs := subset_of hR
          have kN : News h0 L _ (((pl, listOf pv.toArray pn) :: (Db, LCg.lst ys) :: tl) ++ R) := kst_newsOf N8 (by rw [hR]; k_extra "my sub")
          have oTl : ∀ q ∈ R, Off q.1 tl := by
            rw [hR]
            exact offs_cons (by k_all) (offs_append qld (offs_cons (by k_all) (offs_cons (by k_all) (offs_cons (by k_all) (offs_cons (by k_all) (offs_cons (by k_all) (offs_cons (by k_all) (offs_cons (by k_all) (offs_cons (by k_all) (offs_cons (by k_all) (offs_append qle qown)))))))))))
          have oPR : Off pl R := by rw [hR]; k_all
          have oBR : Off Db R := by rw [hR]; k_all
          clear N8
          k_dflt (refine' ones_use (bn := ys.length) ?zB ?zF ?zX ?zN ?zT p1 j1 ?zk2 ?zb ?zl ?zhk ⟨oPR, oBR, oTl⟩ ?zhd ?zhu ?_)
          (case zB => k_asm); (case zF => k_asm); (case zX => k_asm); (case zN => exact kN); (case zT => k_asm)
          (case zk2 => rw [thr_length]; omega); (case zb => rw [thr_length, i2]; exact fun p hp => ⟨(p2 p hp).1, (p2 p hp).2.1⟩); (case zl => omega)
          (case zhk => first | exact rfl | assumption)
          (case zhd => ktr_room); (case zhu => ktr_units)
          k_whole
          intro R2 rv2 rn2 ld2 h4 tk4 hL2 _ F4 N4
          have N5 := news_more (l := (Da, LCg.lst ys2) :: (ld ++ ((L + 1 + 1 + 1 + 1, o5) :: (L + 1 + 1 + 1, o3) :: (L + 1 + 1, o2) :: (L + 1, o1) :: (521, tabObj ps) :: (D, listOf us.toArray cu) :: (rl, listOf rv.toArray rn) :: (c, co) :: (S, listOf sv.toArray sn) :: (led ++ own)))) N4 (fun p hp => .tail _ (.tail _ (List.mem_append_right _ (.tail _ (List.mem_append_right _ (hRs p hp))))))
          dsimp only [List.cons_append, List.nil_append] at N5
          clear kN oTl oPR oBR N4
          k_steps
          refine ⟨?_⟩
          refine ne_same N5 (vs := ys2) (n1 := ys2.length) (by k_mem) (us := rv2) (n2 := rn2) (by k_mem) (j2.mono ?s1) (hL2.mono ?s2) (by ktr_units) ?_
          case s1 => k_extra "my sub"
          case s2 => k_extra "my sub"
          k_steps
          refine' InvEndG.intro F4 N5 ⟨?e1, .mk kd rfl rfl⟩ hown ?e2 ?e3
          case e1 => dsimp only [List.cons_append, List.nil_append]; k_mem
          case e2 => dsimp only [List.cons_append, List.nil_append]; k_extra "my sub"
          case e3 => k_extra "my sub"
    case done =>
      intro m₁ nx h9 tk9 hJ F1 N1
      refine byc ?_; intro hGG
      cases hJ with
      | @mk o4 v0 c4 m1 m2 =>
      refine hGG ?_; clear hGG
      replace F1 : Fr h0 L _ _ := F1
      replace N1 : News h0 L _ _ := N1
      refine ⟨rfl, T8.mk (o1 := o1) (o4 := o4) (pn := pn) (n := n) (pv := pv) (tl := tl) F1 (kst_newsOf N1 ?sub) hT hcr c2 c3 hn p1 p2 p3 f2' f3' n2.2 ?oT⟩
      case sub => k_extra "my sub"
      case oT =>
        unfold OffT
        simp only [List.forall_mem_cons]
        refine ⟨?_, ?_, ?_, ?_, ?_, ?_, ?_, fun _ h => nomatch h⟩ <;> k_all
  clear F2 N1 hT hcr m1 m2 c2 c3 c4 hn i1 i2 i3 p1 p2 p3 hZ f1 f2 f3 f4 n1 n2 n3 oT oL oLT
  clear h tk m rl pl c S co rv pv sv rn pn sn ks prs tl led o1 o2 o3 o4 ps n t2
  intro s hT8
  (try dsimp only)

  refine byc ?_; intro hGG
  cases hT8 with
  | @mk h tk m pl c co pv pn prs tl o1 o2 o3 o4 ps n t2 F1 N1 hT hcr c2 c3 hn p1 p2 p3 f1 f2 n1 oT =>
  refine hGG ?_; clear hGG
  dsimp only [List.cons_append, List.nil_append] at N1
  k_steps
  refine ⟨?_⟩
  refine cut_stmt (T9 ww h0 L s1) ?t9 ?_
  case t9 =>
    have f1' := f1
    replace f1 := f1.all; replace f2 := f2.all
    rename News _ _ _ _ => kN
    rename Fr _ _ _ _ => kF
    refine For_invTF kF ?_ (by intro _; rfl)
    k_steps
    refine ⟨?_⟩
    k_dflt (refine' all_use ?zB ?zF ?zX ?zN ?zT ?zn ?zhk ?zhd ?zhu ?_)
    (case zB => k_asm); (case zF => k_asm); (case zX => k_asm); (case zN => exact kN); (case zT => k_asm)
    (case zn => omega)
    (case zhk => first | exact rfl | assumption)
    (case zhd => ktr_room); (case zhu => ktr_units)
    k_whole
    intro Ra ra rn led h5 tk5 hL oR ol F5 N5
    clear kN kF
    try clear F1
    try clear N1
    k_steps
    refine ⟨?_⟩
    have kN := kst_newsOf (l' := cells4 L o1 o2 o3 o4 ps ++ ((Ra, listOf ra.toArray rn) :: (pl, listOf pv.toArray pn) :: (c, co) :: (led ++ tl))) N5 (by k_extra "my sub")
    clear N5
    refine' iterT (l := Ra) (vs := ra) (nn := rn) (J9 L o1 o2 o3 o4 ((Ra, listOf ra.toArray rn) :: (pl, listOf pv.toArray pn) :: (c, co) :: (led ++ tl)) c n prs) rfl ?hl F5 kN ?hj ?turn ?done
    case hl => k_mem
    case hj => exact .mk hT rfl
    case turn =>
      clear F5 kN
      intro i v m₁ nx s9 own hv hown hl1 hJ F1 N1
      revert F1 N1 hown hl1
      apply hJ.elim
      intro ps hT m1 hown hl1 F1 N1
      have F2 : Fr h0 L _ _ := ((FrK.ini F1).k m1).fr
      clear F1
      replace N1 : News h0 L s9.heap ((L + 1 + 1 + 1 + 1, o4) :: (L + 1 + 1 + 1, o3) :: (L + 1 + 1, o2) :: (L + 1, o1) :: (521, tabObj ps) :: (Ra, listOf ra.toArray rn) :: (pl, listOf pv.toArray pn) :: (c, co) :: ((led ++ tl) ++ own)) := N1
      apply ListsAre.item hL hv
      intro d ivs kd r hri hdm hiv
      have hr9 := arr_row (List.mem_of_getElem? hri)
      have ziv := hiv.length
      rw [nz_length] at ziv
      have zl := hL.length
      have ha46 : (arr n).length = 6 ∨ (arr n).length = 24 := by
        rcases hn with rfl | rfl
        · exact Or.inl (by decide)
        · exact Or.inr (by decide)
      have md : (d, listOf ivs.toArray kd) ∈ (L + 1 + 1 + 1 + 1, o4) :: (L + 1 + 1 + 1, o3) :: (L + 1 + 1, o2) :: (L + 1, o1) :: (521, tabObj ps) :: (Ra, listOf ra.toArray rn) :: (pl, listOf pv.toArray pn) :: (c, co) :: ((led ++ tl) ++ own) := skip_4 (skip_4 (List.mem_append_left _ (List.mem_append_left _ hdm)))
      have hdR : d ≠ Ra := lists_apart (us := ivs) (vs := ra) N1 md (by k_mem) (by omega)
      have hback := lessA_back (d := d) (l := led) N1 (by k_extra "my sub") md
      have hdo := ol _ hdm
      have hsub : ∀ p ∈ lessA d led, p ∈ led := lessA_sub
      have hdl : Off d (lessA d led) := lessA_off
      generalize lessA d led = ld at *
      have hld : ∀ p ∈ ld, _ := fun p hp => ol p (hsub p hp)
      have N2 := news_more (l := (d, listOf ivs.toArray kd) :: ld) N1 (sub_cons md fun p hp => skip_4 (skip_4 (List.mem_append_left _ (List.mem_append_left _ (hsub p hp)))))
      clear N1
      have hdw := own_off (o := listOf ivs.toArray kd) hown (by simp only [List.cons_append, List.nil_append]; exact skip_4 (skip_4 (List.mem_append_left _ hdm)))
      have hdo2 := hdo
      have mn : MyMarkN := ⟨trivial⟩
      refine name_led ((L + 1 + 1 + 1 + 1, o4) :: (L + 1, o1) :: (Ra, listOf ra.toArray rn) :: (ld ++ own)) ?_
      intro R hR
      have hRs := subset_of hR
      have kN : News h0 L _ ((L + 1 + 1 + 1, o3) :: (L + 1 + 1, o2) :: (521, tabObj ps) :: (pl, listOf pv.toArray pn) :: (d, listOf ivs.toArray kd) :: (c, co) :: (tl ++ R)) := kst_newsOf N2 (by rw [hR]; k_extra "my sub")
      clear N2
      k_steps
      refine ⟨?_⟩
      intro al h6 F6 N6 hal
      have hal0 := hal
      k_lt hal
      k_steps
      refine ⟨?_⟩
      rename News _ _ _ _ => kN
      rename Fr _ _ _ _ => kF
      have oBR : ∀ q ∈ (521, tabObj ps) :: (pl, listOf pv.toArray pn) :: (c, co) :: tl, Off q.1 R := apart_symm (by
        rw [hR]
        refine offs_cons (by k_all) (offs_cons (by k_all) (offs_cons (by k_all) (offs_append (fun p hp => ?_) ?_)))
        · have z := hld p hp
          k_all
        · refine apart_symm (offs_cons (own_off (o := tabObj ps) hown ?_) (offs_cons (own_off (o := listOf pv.toArray pn) hown ?_) (offs_cons (own_off (o := co) hown ?_) fun q hq => own_off (o := q.2) hown ?_)))
          (dsimp only [List.cons_append, List.nil_append]; k_mem); (dsimp only [List.cons_append, List.nil_append]; k_mem); (dsimp only [List.cons_append, List.nil_append]; k_mem)
          revert hq; revert q; dsimp only [List.cons_append, List.nil_append]; k_extra "my sub")
      have oTR : ∀ q ∈ tl, Off q.1 R := fun q hq => oBR q (.tail _ (.tail _ (.tail _ hq)))
      have o521 : Off 521 R := oBR _ (.head _)
      have oplR : Off pl R := oBR _ (.tail _ (.head _))
      have ocR : Off c R := oBR _ (.tail _ (.tail _ (.head _)))
      have odR : Off d R := by rw [hR]; k_all
      have oaR : Off al R := by k_all
      have oaT : Off al tl := by k_all
      clear hal0
      have zpl := p1.length
      k_dflt (refine' begun_use (rest := (L + 1 + 1 + 1, o3) :: (L + 1 + 1, o2) :: R) ?zB ?zF ?zX ?zN ?zT p1 hiv ?zk2 ?zb ?zl hT hcr ?q5 ?q6 ?q1 ?q2 ?q3 ?q4 ?zhk ?zho ?zhd ?zhu ?_)
      (case zB => k_asm); (case zF => k_asm); (case zX => k_asm); (case zN => exact kst_newsOf kN (by dsimp only [List.cons_append]; k_extra "my sub")); (case zT => k_asm)
      (case zk2 => rw [nz_length]; omega); (case zb => exact fun p hp => ⟨by have := p2 p hp; omega, by have := p2 p hp; omega⟩); (case zl => omega)
      (case q5 => k_ne); (case q6 => k_ne); (case q1 => k_ne); (case q2 => k_ne); (case q3 => k_all); (case q4 => k_ne)
      (case zhk => first | exact rfl | assumption)
      case zho => refine ⟨?_, ?_, ?_, ?_, ?_, offs_cons ?_ (offs_cons ?_ (apart_symm oTR))⟩ <;> k_all
      (case zhd => ktr_room); (case zhu => ktr_units)
      k_whole
      intro x new ps2 h7 tk7 hM hth o7 F7 N7
      have o7' : ∀ p ∈ new, Off p.1 ((pl, listOf pv.toArray pn) :: (d, listOf ivs.toArray kd) :: (521, tabObj ps2) :: (tl ++ ((L + 1 + 1 + 1, o3) :: (L + 1 + 1, o2) :: R))) := fun p hp => by
        have z := o7 p hp
        k_all
      clear o7 kN kF
      apply hM.twoK
      intro dd e0 e1 e2 e3 e4 e5 e6 e7 e8 v0 v1 v2 v3 v4 v5 v6 v7 v8 x1 x2
      have N8 := news_more (l := (x, instObj 508 dd) :: (dd, dictOf (sEnts ww e0 e1 e2 e3 e4 e5 e6 e7 e8 v0 v1 v2 v3 v4 v5 v6 v7 v8) 9) :: []) N7 (by k_extra "my sub")
      clear N7
      dsimp only [List.cons_append, List.nil_append] at N8
      k_steps
      refine ⟨?_⟩
      refine name_led ((pl, listOf pv.toArray pn) :: (d, listOf ivs.toArray kd) :: (521, tabObj ps2) :: (tl ++ ((L + 1 + 1 + 1, o3) :: (L + 1 + 1, o2) :: R))) ?_
      intro R3 hR3
      have hR3s := subset_of hR3
      have N9 : News h0 L h7 ((new ++ [(al, listOf (List.toArray []) 0), (c, co)]) ++ R3) := kst_newsOf N8 (by rw [hR3]; k_extra "my sub")
      rw [← hR3] at o7'
      have oaR3 : Off al R3 := by rw [hR3]; k_all
      have ocR3 : Off c R3 := by rw [hR3]; k_all
      clear N8 x1 x2
      k_dflt (refine' run_use (n := n) (row := nz r) ?rB ?rF ?rX ?rN ?rT ?r0 ?ra ?rl p2 ?rN1 ?rM ?rP ?rhk ⟨o7', oaR3, ocR3⟩ ?rhd ?rhu ?_)
      (case rB => k_asm); (case rF => k_asm); (case rX => k_asm); (case rN => exact N9); (case rT => k_asm)
      (case r0 => rw [nz_length]; exact hr9); (case ra => omega); (case rl => omega); (case rN1 => omega)
      (case rM => rw [← hr9, ← nz_length (l := r)]; exact hM)
      case rP =>
        refine .cmp 0 rfl (Nat.zero_le _) rfl ?l1 ?l2
        case l1 => simp [ziv, hr9]
        case l2 =>
          have e : (ivs ++ [Value.none] ++ List.replicate 12 Value.none).take n = ivs := by rw [← hr9, ← ziv, List.append_assoc, List.take_left]
          rw [e]; exact hiv
      (case rhk => first | exact rfl | assumption)
      (case rhd => ktr_room); (case rhu => ktr_units)
      k_whole
      intro Tt ml2 av2 an2 Rf rvf rnf to h8 tk8 hI3 hl3 F8 N8
      have zf := hI3.length
      rw [ran_length, nz_length, hr9] at zf
      clear N9 oaR3 ocR3 o7'
      · have hR3b : ∀ p ∈ (pl, listOf pv.toArray pn) :: (d, listOf ivs.toArray kd) :: (521, tabObj ps2) :: (tl ++ ((L + 1 + 1 + 1, o3) :: (L + 1 + 1, o2) :: R)), p ∈ R3 := hR3s
        clear hR3s hR3
        have mi : MyMarkIf := ⟨trivial⟩
        k_steps
        refine ⟨?_⟩
        rename News _ _ _ _ => kN
        rename Fr _ _ _ _ => kF
        refine name_led (ml2 ++ ((al, listOf av2.toArray an2) :: (c, co) :: (Tt, { cls := Value.type "tuple", data := Data.seq #[Value.str (Str.ofString "back") to, Value.ref Rf] }) :: (Rf, listOf rvf.toArray rnf) :: R3)) ?_
        intro Y hY
        have hYs := subset_of hY
        have N9 := news_as hY kN
        have hY3 : ∀ p ∈ (pl, listOf pv.toArray pn) :: (d, listOf ivs.toArray kd) :: (521, tabObj ps2) :: (tl ++ ((L + 1 + 1 + 1, o3) :: (L + 1 + 1, o2) :: R)), p ∈ Y := fun p hp => hYs p (List.mem_append_right _ (skip_4 (hR3b p hp)))
        have y1 : (al, listOf av2.toArray an2) ∈ Y := hYs _ (List.mem_append_right _ (.head _))
        have y2 : (Rf, listOf rvf.toArray rnf) ∈ Y := hYs _ (List.mem_append_right _ mem_4)
        have y3 : (pl, listOf pv.toArray pn) ∈ Y := hY3 _ (.head _)
        have y4 : (L + 1 + 1 + 1, o3) ∈ Y := hY3 _ (by k_mem)
        have y5 : (L + 1 + 1, o2) ∈ Y := hY3 _ (by k_mem)
        have yR : ∀ p ∈ (L + 1 + 1 + 1 + 1, o4) :: (L + 1, o1) :: (Ra, listOf ra.toArray rn) :: (ld ++ own), p ∈ Y := fun p hp => hY3 p (.tail _ (.tail _ (.tail _ (List.mem_append_right _ (.tail _ (.tail _ (hRs p hp)))))))
        have yc : (c, co) ∈ Y := hYs _ (List.mem_append_right _ mem_2)
        have yd : (d, listOf ivs.toArray kd) ∈ Y := hY3 _ mem_2
        have yl : ∀ p ∈ led, p ∈ Y := fun p hp => (List.mem_cons.mp (hback p hp)).elim (fun e => e ▸ yd) fun h => yR p (.tail _ (.tail _ (.tail _ (List.mem_append_left _ h))))
        have yt : ∀ p ∈ tl, p ∈ Y := fun p hp => hY3 p (.tail _ (.tail _ (.tail _ (List.mem_append_left _ hp))))
        have hnx : ∀ p ∈ cells4 L o1 o2 o3 o4 ps2 ++ ((Ra, listOf ra.toArray rn) :: (pl, listOf pv.toArray pn) :: (c, co) :: (led ++ tl)), p ∈ Y :=
          sub_cons (yR _ (.head _)) (sub_cons y4 (sub_cons y5 (sub_cons (yR _ mem_2) (sub_cons (hY3 _ mem_3) (sub_cons (yR _ mem_3) (sub_cons y3 (sub_cons yc (sub_append yl yt))))))))
        have hno : ∀ p ∈ own, p ∈ Y := fun p hp => yR p (.tail _ (.tail _ (.tail _ (List.mem_append_right _ hp))))
        clear kN
        have ma : MyMarkA := ⟨trivial⟩
        k_steps
        all_goals (try (exfalso; omega))
        refine ⟨?_⟩
        have hnext := sortsB_next (prs := prs) hri
        generalize sortsB n prs (List.take i (arr n)) = sb at *
        cases sb
        · k_steps
          rename News _ _ _ _ => kN
          rename Fr _ _ _ _ => kF9
          refine' InvEndG.intro kF9 kN ⟨?e1, .mk hth ?e2⟩ hown hnx hno
          case e1 => simp only [List.cons_append, List.nil_append]; k_mem
          case e2 => rw [hnext]; rfl
        · k_steps
          refine ⟨?_⟩
          rename News _ _ _ _ => kN
          rename IntsAre _ (nz (List.range n)) => hI9
          refine eq_ints kN (a := Rf) (vs := rvf) (n1 := rnf) (.tail _ y2) (.head _) hI3 hI9 (by ktr_units) ?_
          k_steps
          rename News _ _ _ _ => kN
          rename Fr _ _ _ _ => kF9
          refine' InvEndG.intro kF9 kN ⟨?e1, .mk hth ?e2⟩ hown (fun p hp => .tail _ (hnx p hp)) (fun p hp => .tail _ (hno p hp))
          case e1 => simp only [List.cons_append, List.nil_append]; k_mem
          case e2 => rw [hnext]; rfl
    case done =>
      intro m₁ nx h9 tk9 hJ F1 N1
      refine byc ?_; intro hGG
      cases hJ with
      | @mk ps hT m1 =>
      refine hGG ?_; clear hGG
      replace F1 : Fr h0 L _ _ := F1
      replace N1 : News h0 L _ _ := N1
      rw [hL.length, List.take_length] at m1
      refine ⟨rfl, T9.mk (o1 := o1) (o4 := o4) (pn := pn) (n := n) (pv := pv) (tl := tl) F1 (kst_newsOf N1 ?sub) hT.ok m1 c2 c3 hn p1 p2 p3 f1' ?oT⟩
      case sub => k_extra "my sub"
      case oT =>
        unfold OffT
        simp only [List.forall_mem_cons]
        refine ⟨?_, ?_, ?_, ?_, ?_, ?_, fun _ h => nomatch h⟩ <;> k_all
  try clear F1
  try clear N1
  clear hT hcr c2 c3 hn p1 p2 p3 f1 f2 n1 oT
  repeat (rename Fr _ _ _ _ => hX; clear hX)
  repeat (rename News _ _ _ _ => hX; clear hX)
  clear h tk m pl c co pv pn prs tl o1 o2 o3 o4 ps n t2
  intro s hT9
  (try dsimp only)

  have ma : MyMarkA := ⟨trivial⟩
  k_steps
  refine ⟨?_⟩
  refine cut_stmt (T10 ww h0 L s1) ?t10 ?_
  case t10 =>
    refine byc ?_; intro hGG
    cases hT9 with
    | @mk h tk m pl pv pn prs tl o1 o2 o3 o4 ps n t2 F1 N1 hT m1 c2 c3 hn p1 p2 p3 f1 oT =>
    refine hGG ?_; clear hGG
    simp only [List.cons_append, List.nil_append] at N1
    have F2 := ((FrK.ini F1).k m1).fr
    clear F1
    refine byc ?_; intro hGG
    obtain ⟨Y, hY⟩ : ∃ Y : Led, Y = (L + 1 + 1 + 1 + 1, o4) :: (L + 1 + 1 + 1, o3) :: (L + 1 + 1, o2) :: (L + 1, o1) :: (521, tabObj ps) :: (pl, listOf pv.toArray pn) :: tl := ⟨_, rfl⟩
    refine hGG ?_; clear hGG
    have N2 := news_as hY N1
    clear N1
    refine' compC_A (n := 2 ^ n) (JE Y n prs) F2 N2 rfl ?sw ?hy ?hp rfl ?hc rfl ?hn ?cf ?pc ?hx ?src ?nz ?ini ?helt ?fin
    case hc => with_unfolding_all rfl
    case sw => with_unfolding_all rfl
    case hy => rfl
    case hp => rfl
    case hn => decide
    case cf => intro _; rfl
    case pc => intro _; rfl
    case hx => intro _ _; rfl
    case nz => rcases hn with rfl | rfl <;> decide
    case ini => exact .mk (ld := []) .nil (fun _ h => nomatch h)
    case src =>
      have y3 : (L + 1 + 1, o2) ∈ Y := by rw [hY]; k_mem
      refine wpAny_stop ?_
      k_steps
      refine ⟨?_⟩
      rename IsRange _ _ _ _ _ _ _ _ => hr
      rename News _ _ _ _ => kN
      rename Fr _ _ _ _ => kF
      rw [show (1 : Int) * 2 ^ ((n : Int)).toNat = ((2 ^ n : Nat) : Int) by rcases hn with rfl | rfl <;> decide] at hr
      exact ⟨_, _, _, _, _, _, rfl, rfl, kF, kN, hr⟩
    case helt =>
      intro i ys nx t I C c D oI oC oc h9 tk9 E' hi hJ hd F5 N5 ap a1 a2 a3 a4 a5 a6
      refine byc ?_; intro hGG
      cases hJ with
      | @mk ld j1 j2 =>
      refine hGG ?_; clear hGG
      have zys := j1.length
      rw [List.length_map, List.length_range] at zys
      have y3 : (L + 1 + 1, o2) ∈ Y := by rw [hY]; k_mem
      have y4 : (L + 1 + 1 + 1, o3) ∈ Y := by rw [hY]; k_mem
      refine byc ?_; intro hGG
      obtain ⟨V, hV, v3, v4, vc⟩ : ∃ V : Led, V = (I, oI) :: (C, oC) :: (c, oc) :: (D, LCg.lst ys) :: (ld ++ Y) ∧ (L + 1 + 1, o2) ∈ V ∧ (L + 1 + 1 + 1, o3) ∈ V ∧ (c, oc) ∈ V := ⟨_, rfl, skip_4 (List.mem_append_right _ y3), skip_4 (List.mem_append_right _ y4), mem_3⟩
      refine hGG ?_; clear hGG
      have N6 := news_as hV N5
      clear N5
      refine wpAny_stop ?_
      have mc : MyMarkC := ⟨trivial⟩
      k_steps
      refine ⟨?_⟩
      rename IsRange _ _ _ _ _ _ _ _ => hr
      rename News _ _ _ _ => kN
      rename Fr _ _ _ _ => kF
      refine LCg.CompSrc.range (n := n) rfl kF kN hr (small0 (by omega)) size0 (by rw [sizeLine_eq]; omega) ?_
      intro g
      clear kN kF hr
      (try clear N6); (try clear F5)
      refine comp_ind (JB10 V i) (.mk .nil) ?turn ?fin2
      case turn =>
        intro j ys4 nx v I4 oI4 C4 oC4 Da4 m4 h4 tk4 E4 hlt4 hJ hP hNs hx F7 N7 off4 ne4
        refine byc ?_; intro hGG
        obtain ⟨j3⟩ := hJ
        obtain ⟨t9, rfl⟩ := hP
        refine hGG ?_; clear hGG
        (try dsimp only)
        k_steps
        refine ⟨?_⟩
        exact LCg.CompEnd.intro F7 N7 V (fun _ h => h) off4 trivial (.mk (bits_next j3))
      case fin2 =>
        intro bys nx hJ
        refine byc ?_; intro hGG
        obtain ⟨j3⟩ := hJ
        refine hGG ?_; clear hGG
        unfold LCg.FinE
        intro Db h7 tk7 F7 N7 o7
        replace o7 := Off.of1 o7
        refine byc ?_; intro hGG
        subst hV
        obtain ⟨q1, q2, q3, q4⟩ := ap
        refine hGG ?_; clear hGG
        rw [Mine.off_append] at q1 q2 q3 q4
        obtain ⟨q1, r1⟩ := q1; obtain ⟨q2, r2⟩ := q2; obtain ⟨q3, r3⟩ := q3; obtain ⟨q4, r4⟩ := q4
        simp only [Mine.off_cons, Mine.off_append] at o7
        refine byc ?_; intro hGG
        obtain ⟨w1, w2, w3, w4, w5, w6⟩ := o7
        subst hY
        refine hGG ?_; clear hGG
        have jld := apart_symm j2
        have qPl : Off pl ld := jld (pl, listOf pv.toArray pn) (by k_mem)
        have qld : ∀ p ∈ ld, Off p.1 tl := fun p hp => by
          have z := j2 p hp
          simp only [Mine.off_cons] at z
          refine byc ?_; intro hGG
          k_extra "my split"
          refine hGG ?_; clear hGG
          assumption
        have zpl := p1.length
        replace f1 := f1.all
        unfold OffT at oT
        simp only [List.forall_mem_cons] at oT
        simp only [Mine.off_cons] at r1 r2 r3 r4 w6
        refine byc ?_; intro hGG
        k_extra "my split"
        refine hGG ?_; clear hGG
        k_steps
        refine ⟨?_⟩
        refine byc ?_; intro hGG
        obtain ⟨R, hR⟩ : ∃ R : Led, R = (I, oI) :: (C, oC) :: (c, oc) :: (D, LCg.lst ys) :: (ld ++ ((L + 1 + 1 + 1 + 1, o4) :: (L + 1 + 1 + 1, o3) :: (L + 1 + 1, o2) :: (L + 1, o1) :: (521, tabObj ps) :: [])) := ⟨_, rfl⟩
        refine hGG ?_; clear hGG
        have kN : News h0 L _ (((pl, listOf pv.toArray pn) :: (Db, LCg.lst bys) :: tl) ++ R) := kst_newsOf N7 (by rw [hR]; simp only [List.cons_append, List.nil_append]; k_extra "my sub")
        have oTl : ∀ p ∈ tl, Off p.1 R := apart_symm (by
          rw [hR]
          exact offs_cons (by k_all) (offs_cons (by k_all) (offs_cons (by k_all) (offs_cons (by k_all) (offs_append qld (offs_cons (by k_all) (offs_cons (by k_all) (offs_cons (by k_all) (offs_cons (by k_all) (offs_cons (by k_all) offs_nil))))))))))
        have oPR : Off pl R := by rw [hR]; k_all
        have oBR : Off Db R := by rw [hR]; k_all
        clear N7 N2
        k_dflt (refine' CSpec.use ?zB ?zF ?zX ?zN ?zT (picks_app (l := (pl, listOf pv.toArray pn) :: (Db, LCg.lst bys) :: tl)) (ones_walk (bn := bys.length) p1 j3 ?zk2 ?zb ?zl) ?zhk ?zho ?zhd ?zhu ?_)
        (case zB => k_asm); (case zF => k_asm); (case zX => k_asm); (case zN => exact kN); (case zT => k_asm)
        (case zk2 => rw [bits_length]; omega); (case zb => rw [bits_length]; exact fun p hp => ⟨(p2 p hp).1, (p2 p hp).2.1⟩); (case zl => omega)
        (case zhk => first | exact rfl | assumption)
        case zho => exact offs_cons oPR (offs_cons oBR oTl)
        (case zhd => ktr_room); (case zhu => ktr_units)
        k_whole
        intro r chg new h4 tk4 F4 N4 o4' hp
        refine byc ?_; intro hGG
        obtain ⟨R2, rv2, rn2, ld2, rfl, hL2, rfl, rfl⟩ := hp
        obtain ⟨-, o4'⟩ := List.forall_mem_cons.mp o4'
        refine hGG ?_; clear hGG
        have zl2 := hL2.length
        rw [osts_length] at zl2
        simp only [List.cons_append, List.nil_append] at N4
        refine byc ?_; intro hGG
        obtain ⟨vx, hvx⟩ : ∃ v, rv2[prs.length - 1]? = some v := ⟨_, List.getElem?_eq_getElem (by omega)⟩
        obtain ⟨dx, ivx, kx, rx, hrx, rfl, hmx, hix⟩ := hL2.get hvx
        refine hGG ?_; clear hGG
        rw [osts_last (by omega)] at hrx
        refine byc ?_; intro hGG
        obtain rfl := Option.some.inj hrx
        refine hGG ?_; clear hGG
        walk1
        walk1
        walk1
        refine kba_turn (value' := PySem.Expr.Name (PySem.Str.ofString "_") ⟨0, 0, 0, 0⟩) (fun _ => rfl) ?_
        refine kim_back (lo := listOf rv2.toArray rn2) (l := rv2) (n := rn2) (x := .ref dx) N4 ?mm rfl rfl (by decide) ?lo (by decide) ?hx ?_
        case mm => k_mem
        case lo => omega
        case hx => rw [show ((-1 : Int) + (rv2.length : Int)).toNat = prs.length - 1 by omega]; exact hvx
        k_unfold
        refine ⟨?_⟩
        have odx := o4' _ hmx
        refine byc ?_; intro hGG
        subst hR
        refine hGG ?_; clear hGG
        simp only [List.cons_append, List.nil_append, Mine.off_cons, Mine.off_append] at odx
        refine byc ?_; intro hGG
        k_extra "my split"
        refine hGG ?_; clear hGG
        refine ⟨h4, _, ((dx, listOf ivx.toArray kx) :: ld) ++ ((L + 1 + 1 + 1 + 1, o4) :: (L + 1 + 1 + 1, o3) :: (L + 1 + 1, o2) :: (L + 1, o1) :: (521, tabObj ps) :: (pl, listOf pv.toArray pn) :: tl), rfl, F4, kst_newsOf N4 (by simp only [List.cons_append]; k_extra "my sub"), ⟨?a1, ?a2, ?a3, ?a4⟩, ?z, .mk (ld := (dx, listOf ivx.toArray kx) :: ld) ?l (offs_cons ?o j2)⟩
        (case a1 => simp only [List.cons_append]; k_all); (case a2 => simp only [List.cons_append]; k_all); (case a3 => simp only [List.cons_append]; k_all); (case a4 => simp only [List.cons_append]; k_all)
        case z =>
          have z9 : 2 ^ n ≤ 16 := by rcases hn with rfl | rfl <;> decide
          omega
        case l =>
          rw [List.range_succ, List.map_append]
          exact (j1.mono fun p hp => .tail _ hp).snoc (.head _) hix
        case o => k_all
    case fin =>
      intro ys nx D h9 tk9 hJ F9 N9 oD
      refine byc ?_; intro hGG
      cases hJ with
      | @mk ld j1 j2 =>
      subst hY
      refine hGG ?_; clear hGG
      exact ⟨rfl, T10.mk (Ea := D) (ev := ys) (en := ys.length) (ld := ld) F9 (kst_newsOf N9 (by k_extra "my sub")) hT rfl rfl hn p2 j1⟩
  clear hT9
  intro s hT10
  (try dsimp only)

  refine byc ?_; intro hGG
  cases hT10 with
  | @mk h tk m Ea ev en prs ld ps n F1 N1 hT m1 m2 hn p2 hL =>
  refine hGG ?_; clear hGG
  have F2 := ((FrK.ini F1).k m1).k m2 |>.fr
  clear F1
  refine byc ?_; intro hGG
  obtain ⟨Y, hY, yE, yL⟩ : ∃ Y : Led, Y = (521, tabObj ps) :: (Ea, listOf ev.toArray en) :: ld ∧ (Ea, listOf ev.toArray en) ∈ Y ∧ (∀ p ∈ ld, p ∈ Y) := ⟨_, rfl, .tail _ (.head _), fun p hp => .tail _ (.tail _ hp)⟩
  refine hGG ?_; clear hGG
  have N2 := news_as hY N1
  clear N1
  have zev := hL.length
  rw [List.length_map, List.length_range] at zev
  have zn : 2 ^ n ≤ 16 := by rcases hn with rfl | rfl <;> decide
  walk1
  walk1
  walk1
  walk1
  walk1
  k_dflt (refine LCt.ListComp_T (F₀ := by k_asm) (by with_unfolding_all rfl) (by decide) (by rfl) (by decide) (by rfl) ?_)
  have mc : MyMarkC := ⟨trivial⟩
  k_steps
  refine ⟨?_⟩
  rename News _ _ _ _ => kN
  rename Fr _ _ _ _ => kF
  refine LCt.CompSrcT.ledger (ax := Ea) (its := ev.toArray) (k := en) rfl kF kN yE (by rw [sizeLine_eq, List.size_toArray]; omega) ?_
  intro g
  clear kN kF
  refine compT_ind (JT11 Y n prs) (.mk ⟨fun _ k hk => absurd hk (Nat.not_lt_zero _), fun _ => rfl⟩) ?turn ?fin
  case turn =>
    intro i ys nx v I oI C oC D m₂ h7 tk7 E' hlt hJ hv hNs hx F5 N5 off ne
    refine byc ?_; intro hGG
    obtain ⟨j1⟩ := hJ
    refine hGG ?_; clear hGG
    rw [List.size_toArray] at hlt
    (try dsimp only at hv)
    rw [List.getElem?_toArray] at hv
    refine byc ?_; intro hGG
    obtain ⟨d, ivs, c9, r, hri, rfl, hdm, hiv⟩ := hL.get hv
    refine hGG ?_; clear hGG
    have hr9 : r = orun prs (bitsOf n i) := by
      rw [List.getElem?_map, List.getElem?_range (by omega)] at hri
      exact (Option.some.inj hri).symm
    have zr : (nz r).length = n := by rw [hr9, nz_length, orun_length, bits_length]
    have zi := hiv.length
    have yd := yL _ hdm
    (try dsimp only)
    k_steps
    refine ⟨?_⟩
    refine kso_sorted F5 N5 (PySem.IsL.isList (n := c9) (N5 _ (.tail _ (.tail _ (.tail _ yd)))).1) hiv (by omega) ?_
    intro Ds vs' ns' cs h8 F8 N8 l8 hI8 hl8 hp8 hs8 _
    have hup := up_sorted hp8 hs8
    rw [hr9] at hup
    k_steps
    refine ⟨?_⟩
    refine ne_ints N8 (a := d) (vs := ivs) (n1 := c9) (.tail _ (.tail _ (.tail _ (.tail _ yd)))) (b := Ds) (us := vs') (n2 := cs) (.head _) hiv hI8 (by ktr_units) ?_
    rw [hr9]
    by_cases hc : nz (orun prs (bitsOf n i)) = ns'
    · rw [decide_eq_true hc]
      k_steps
      refine ⟨?_⟩
      rename News _ _ _ _ => kN
      rename Fr _ _ _ _ => kF
      exact LCg.CompEnd.intro kF kN Y (by k_extra "my sub") off (Or.inr ⟨_, yE, rfl, _, rfl⟩) (.mk (jt_skip j1 (hup.mp hc)))
    · rw [decide_eq_false hc]
      k_steps
      refine ⟨?_⟩
      rename News _ _ _ _ => kN
      rename Fr _ _ _ _ => kF
      exact LCg.CompEnd.intro kF kN Y (by k_extra "my sub") off (Or.inr ⟨_, yE, rfl, _, rfl⟩) (.mk (jt_take fun hu => hc (hup.mpr hu)))
  case fin =>
    intro ys nx hJ
    refine byc ?_; intro hGG
    obtain ⟨j1⟩ := hJ
    refine hGG ?_; clear hGG
    rw [List.size_toArray, zev] at j1
    have hlaw := law_end hn p2 j1
    unfold LCg.FinE
    intro D9 h9 tk9 F9 N9 o9
    refine byc ?_; intro hGG
    subst hY
    refine hGG ?_; clear hGG
    k_steps
    refine ⟨?_⟩
    rename News _ _ _ _ => kN
    rename Fr _ _ _ _ => kF
    refine eq_nilK (vs := ys) (us := #[]) (PySem.IsL.isList (n := ys.length) (kN _ (.tail _ (.head _))).1) (PySem.IsL.isList (n := 0) (kN _ (.head _)).1) rfl (by ktr_units) ?_
    k_steps
    exact ⟨by rw [hlaw], _, _, _, ps, [], rfl, kF, kst_newsOf kN (by k_extra "my sub"), hT⟩)

end Mine
theorem PySem.Challenge.cw_xm0628_02_holds : PySem.Challenge.rw_xm0628_02.Holds := by
  exact Mine.foo
