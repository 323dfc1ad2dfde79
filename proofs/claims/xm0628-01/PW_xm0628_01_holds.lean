import PyProof.Rows.All
import Wide.All
import OpenK.AllK
import Wide.FinOn
import Lean
import PySem.Challenge.RW_xm0628_01
open PySem PySem.W PyProof.Rows
set_option Elab.async false
set_option maxRecDepth 100000
set_option maxHeartbeats 0
set_option linter.all false
namespace Mine

def topRunT (tb : String → Option Builtin) (p : Program) (w : World) (n₀ : Nat) (ann : Option Value) : Nat → SharedT → Thread → Option SharedT
  | 0, _, _ => none
  | n + 1, s, t => match through t with
    | true => some s
    | false => match stepOk n₀ ann t with
      | false => none
      | true => match stepT (denote tb) p w s t with
        | some (s', t') => topRunT tb p w n₀ ann n s' t'
        | none => none
theorem topRun_of {tb : String → Option Builtin} {p : Program} {w : World} {n₀ : Nat} {ann : Option Value} : ∀ {n : Nat} {s s' : SharedT} {t : Thread}, topRunT tb p w n₀ ann n s t = some s' → topRun tb p w n₀ ann n s.abs t = some s'.abs
  | 0, _, _, _, h => by cases h
  | n + 1, s, s', t, h => by
    unfold topRunT at h
    unfold topRun
    cases he : through t with
    | true => rw [he] at h; cases h; rfl
    | false =>
      rw [he] at h
      cases hk : stepOk n₀ ann t with
      | false => rw [hk] at h; cases h
      | true =>
        rw [hk] at h
        cases hs : stepT (denote tb) p w s t with
        | none => rw [hs] at h; cases h
        | some r => obtain ⟨s₂, t₂⟩ := r; rw [hs] at h; rw [stepT_spec hs]; exact topRun_of h
noncomputable def bootT (P : Params) : BT := .node (boot_o_0 P) (.node (boot_o_1 P) (.node (boot_o_3 P) (.node (boot_o_7 P) .nil .nil) .nil) (.node (boot_o_5 P) (.node (boot_o_9 P) .nil .nil) .nil)) (.node (boot_o_2 P) (.node (boot_o_4 P) (.node (boot_o_8 P) .nil .nil) .nil) (.node (boot_o_6 P) (.node (boot_o_10 P) .nil .nil) .nil))
noncomputable abbrev bootS (w : World) (os : OsState) : SharedT := ⟨bootT w.params, 11, {}, Array.mk [], boot_drawn, boot_toks, os⟩
theorem boot_is (P : Params) : absHeap (bootT P) 11 {} = boot_heap P := by rfl
def getT (s : SharedT) (a : Addr) : Option Obj := match Nat.blt a s.n with
  | true => match s.tree.get a with
    | some o => alive o
    | none => alive default
  | false => none
theorem getT_eq {s : SharedT} {a : Addr} : s.abs.heap.get? a = getT s a := by
  obtain ⟨t, n, life, gens, drawn, toks, os⟩ := s
  show (absHeap t n life).get? a = _
  unfold getT
  dsimp only
  cases e : Nat.blt a n with
  | false =>
    have lt : ¬ a < n := fun q => by rw [show Nat.blt a n = true from Nat.ble_eq_true_of_le q] at e; cases e
    exact abs_get_none lt
  | true =>
    have lt : a < n := Nat.le_of_ble_eq_true e
    cases g : t.get a with
    | some o => exact abs_get lt g
    | none =>
      unfold Heap.get?
      rw [absHeap_at, if_pos lt, g]
      rfl
theorem left_tree {p q : Program} {loose : List Str} {Xt : Shared → Bool} {K : Params → Frag} {as : List Addr} {ek : ∀ P, as = (K P).map (·.1)} {ts : List Addr} {N : Nat}
    (e : opening p = plainProg p.main.scope.names) (hN : Nat.ble 600 N = true) (f : ∀ s, fenceModules? p s = some s)
    (size : ∀ w : World, ((boot_heap w.params).isNs mainGlobals, (boot_heap w.params).objs.size, (boot_heap w.params).nsMap mainGlobals "__annotations__") = (true, 11, some (Value.ref 6)))
    (run1 : ∀ (w : World) (os : OsState), (topRunT treeTable p w 11 (some (Value.ref 6)) N (bootS w os) (topStub p)).map (fun s => (staticsOk (importedModules p.main.body) (boot_heap w.params) s.abs.heap && namesBound p s.abs.heap && gensDone s.abs && laidKept (boot_heap w.params) s.abs.heap,
        seen ((recsOf q).map (·.name)) (ownsOf q) [] { s.abs with gens := #[] }, s.abs.heap.bltView, as.map (getT s), ts.map (getT s))) = some (true, expectedOf q, bltViewBooted, (K w.params).map (fun p => some p.2), ts.map fun _ => some (tabObj #[])))
    (run2 : ∀ (w : World) (os : OsState), (topRunT treeTable p w 11 (some (Value.ref 6)) N (bootS w os) (topStub p)).map (fun s => s.abs.heap.keysOk (looseW q loose) ((recsOf q).map (·.name)) ((litsOf q).map (·.1)) ((clssOf q (looseW q loose)).map (·.name))) = some true)
    (run3 : ∀ (w : World) (os : OsState), (topRunT treeTable p w 11 (some (Value.ref 6)) N (bootS w os) (topStub p)).map (fun s => (s.abs.heap.accountedOkI (importedModules p.main.body) && s.abs.heap.isNs mainGlobals && s.abs.heap.isNs builtinsNs && tablesOk q s.abs.heap && Xt s.abs && (s.abs.gens.size == 0), tabsOk q s.abs)) = some (true, true))
    (run4 : ∀ (w : World) (os : OsState), (topRunT treeTable p w 11 (some (Value.ref 6)) N (bootS w os) (topStub p)).map (fun s => (pinSeenD q (drecsOf q) s.abs, plainSeenE q (looseW q loose) s.abs)) = some (pinGoodD (drecsOf q), plainGoodE q (looseW q loose)))
    (run5 : ∀ (w : World) (os : OsState), (topRunT treeTable p w 11 (some (Value.ref 6)) N (bootS w os) (topStub p)).map (fun s => (plainSeenD q loose s.abs, wideSeen q s.abs, clsSeenW q loose s.abs)) = some (plainGoodD q loose, wideGood q, clsGoodW q loose)) :
    LeftO p q loose Xt (kmHook K as ek ts).obs (kmHook K as ek ts).val N true := fun w => by
  have open_ := boot_open (N := N) e hN f w
  obtain ⟨⟨h, gs, d, k, os⟩, e, e'⟩ := Option.map_eq_some_iff.mp open_
  obtain ⟨rfl, rfl, rfl, rfl⟩ : h = boot_heap w.params ∧ gs = Array.mk [] ∧ d = boot_drawn ∧ k = boot_toks := by simpa using e'
  obtain ⟨z1, z2, z3⟩ : _ ∧ _ ∧ _ := by simpa only [Prod.mk.injEq] using size w
  obtain ⟨s, hs, hl⟩ := Option.map_eq_some_iff.mp (run1 w os)
  obtain ⟨s2, hs2, k2⟩ := Option.map_eq_some_iff.mp (run2 w os)
  obtain rfl : s = s2 := Option.some.inj (hs.symm.trans hs2)
  obtain ⟨s3, hs3, k3⟩ := Option.map_eq_some_iff.mp (run3 w os)
  obtain rfl : s = s3 := Option.some.inj (hs.symm.trans hs3)
  obtain ⟨s4, hs4, k4⟩ := Option.map_eq_some_iff.mp (run4 w os)
  obtain rfl : s = s4 := Option.some.inj (hs.symm.trans hs4)
  obtain ⟨s5, hs5, k5⟩ := Option.map_eq_some_iff.mp (run5 w os)
  obtain rfl : s = s5 := Option.some.inj (hs.symm.trans hs5)
  have l1 := congrArg Prod.fst hl
  have q1 := congrArg (fun x => x.2.1) hl
  have q2 := congrArg (fun x => x.2.2.1) hl
  have l3 := congrArg (fun x => x.2.2.2) hl
  have q3 := congrArg Prod.fst k3
  have q4 := congrArg Prod.snd k3
  dsimp only at l1 q1 q2 l3 q3 q4 k2
  simp only [Bool.and_eq_true] at q3
  obtain ⟨⟨⟨⟨⟨g1, g2⟩, g3⟩, g4⟩, g5⟩, g6⟩ := q3
  have l2 : openSeen q loose (importedModules p.main.body) Xt true s.abs = openGood q loose := by
    have hb : (s.abs.heap.keysOk (looseW q loose) ((recsOf q).map (·.name)) ((litsOf q).map (·.1)) ((clssOf q (looseW q loose)).map (·.name)) && s.abs.heap.accountedOkI (importedModules p.main.body) && s.abs.heap.isNs mainGlobals && s.abs.heap.isNs builtinsNs && tablesOk q s.abs.heap && Xt s.abs && (s.abs.gens.size == 0)) = true := by
      simp only [Bool.and_eq_true]
      exact ⟨⟨⟨⟨⟨⟨k2, g1⟩, g2⟩, g3⟩, g4⟩, g5⟩, g6⟩
    have k41 : pinSeenD q (drecsOf q) s.abs = pinGoodD (drecsOf q) := congrArg Prod.fst k4
    have k42 : plainSeenE q (looseW q loose) s.abs = plainGoodE q (looseW q loose) := congrArg Prod.snd k4
    exact Prod.ext q1 (Prod.ext q2 (Prod.ext hb (Prod.ext q4 (Prod.ext k41 (Prod.ext k42 k5)))))
  have r := topRun_of hs
  rw [show (bootS w os).abs = ⟨boot_heap w.params, Array.mk [], boot_drawn, boot_toks, os⟩ from congrArg (fun h => (⟨h, Array.mk [], boot_drawn, boot_toks, os⟩ : Shared)) (boot_is w.params)] at r
  have t : topFrom treeTable p w N ⟨boot_heap w.params, Array.mk [], boot_drawn, boot_toks, os⟩ = some s.abs := by
    unfold topFrom
    dsimp only
    rw [z1, z2, z3]
    show (topRun _ _ _ _ _ _ _ _).bind _ = _
    rw [r]
    show (match staticsOk (importedModules p.main.body) (boot_heap w.params) s.abs.heap && namesBound p s.abs.heap && gensDone s.abs && laidKept (boot_heap w.params) s.abs.heap with | true => _ | false => _) = _
    rw [l1]
  unfold openEnds
  rw [e]
  show (topFrom treeTable p w N _).map _ = _
  rw [t]
  have k2 : (as.map s.abs.heap.get?, ts.map s.abs.heap.get?) = ((K w.params).map fun p => some p.2, ts.map fun _ => some (tabObj #[])) := by
    rw [← l3]
    exact Prod.ext (List.map_congr_left fun a _ => getT_eq) (List.map_congr_left fun a _ => getT_eq)
  exact congrArg some (Prod.ext l2 k2)

section
local macro_rules | `(tactic| refine $f:ident (q := $q) (loose := $l) (Xt := $xt) (XP := $xp) (Yf := $yf) (Ya := $ya) (YP := $yp) (N := $n) ?$h:ident $a1 $a2 $a3 $a4 $a5 $a6 $a7 $a8 $a9 $b1 $b2 $b3 ?$hw:ident ?$hc:ident) => `(tactic| exact $(Lean.mkIdent `h0) (by assumption))
theorem hd01 (h0 : PySem.Challenge.rw_xm0628_01.row.wellSaid = true → PySem.Challenge.rw_xm0628_01.row.Holds) : PySem.Challenge.rw_xm0628_01.Holds := by
  w_on
  refine holds_law (by decide +kernel) fun said => ?_
  k_head
end

abbrev pr : Program := PySem.Challenge.rw_xm0628_01.row.prog
noncomputable abbrev runS (w : World) (os : OsState) : Option SharedT := topRunT treeTable pr w 11 (some (Value.ref 6)) 7050 (bootS w os) (topStub pr)
abbrev lo : List Str := [Str.ofString "RECKONINGS"]
noncomputable abbrev xt9 : Shared → Bool := fun s => xlAt hd01.view_1 [] s && recOk (RowW.records PySem.Challenge.rw_xm0628_01.row.toRowW) s
def as9 : List Addr := [2, 3, 15, 17, 18, 20, 21, 22, 24, 25, 27, 28, 29, 31, 32, 34, 35, 36, 38, 39, 41, 42, 43, 45, 46, 48, 49, 50, 52, 53, 55, 56, 57, 59, 60, 62, 63, 71, 72, 74, 75, 77, 78, 79, 81, 82, 84, 85, 86, 88, 89, 91, 92, 93, 94, 95, 96, 97, 100, 107, 109, 110, 112, 113, 114, 115, 116, 117, 120, 127, 129, 130, 132, 133, 134, 135, 136, 137, 140, 142, 143, 145, 146, 147, 149, 150, 152, 153, 154, 156, 157, 159, 160, 161, 163, 164, 166, 167, 168, 170, 171, 173, 174, 175, 177, 178, 180, 181, 182, 184, 185, 187, 188, 189, 191, 192, 194, 195, 196, 198, 199, 201, 202, 203, 205, 206, 208, 209, 210, 212, 213, 215, 216, 217, 219, 220, 222, 223, 224, 226, 227, 229, 230, 231, 233, 234, 236, 237, 238, 240, 241, 243, 244, 245, 247, 248, 250, 251, 252, 254, 255, 257, 258, 259, 262, 263, 264, 267, 268, 269, 271, 272, 274, 275, 276, 278, 279, 281, 282, 283, 285, 286, 288, 289, 290, 292, 293, 295, 296, 297, 299, 300, 302, 303, 304, 306, 307, 309, 310, 311, 313, 314, 316, 317, 318, 320, 321, 323, 324, 325, 327, 328, 330, 331, 332, 334, 335, 337, 338, 339, 341, 342, 344, 345, 346, 348, 349, 351, 352, 353, 355, 356, 358, 359, 360, 363, 364, 365, 367, 368, 370, 371, 372, 374, 375, 377, 378, 379, 381, 382, 384, 385, 386, 387, 389, 390, 392, 393, 394, 396, 397, 399, 400, 408, 410, 411, 413, 414, 415, 416, 417, 418, 419, 429, 431, 432, 434, 435, 436, 438, 439, 441, 442, 443, 445, 446, 448, 449, 450, 452, 453, 455, 456, 457, 459, 460, 462, 463, 464, 466, 467, 469, 470, 471, 473, 474, 476, 477, 478, 480, 481, 483, 484, 485, 487, 488, 490, 491, 492, 494, 495, 497, 498, 499, 501, 502, 504, 505, 506, 507, 508, 509, 510, 513, 515, 516, 518, 519, 520, 523, 524, 525, 528, 529, 530, 532, 533, 535, 536, 537, 540, 541, 542, 544, 545, 547, 548, 549, 552, 553]
theorem ek9 : ∀ P, as9 = (hd01.heap_1 P).map (·.1) := fun _ => by kernel_rfl
theorem run91 (w : World) (os : OsState) : (runS w os).map (fun s => (staticsOk (importedModules pr.main.body) (boot_heap w.params) s.abs.heap && namesBound pr s.abs.heap && gensDone s.abs && laidKept (boot_heap w.params) s.abs.heap,
    seen ((recsOf hd01.view_1).map (·.name)) (ownsOf hd01.view_1) [] { s.abs with gens := #[] }, s.abs.heap.bltView, as9.map (getT s), [543].map (getT s))) = some (true, expectedOf hd01.view_1, bltViewBooted, (hd01.heap_1 w.params).map (fun p => some p.2), [543].map fun _ => some (tabObj #[])) := by kernel_rfl
theorem run92 (w : World) (os : OsState) : (runS w os).map (fun s => s.abs.heap.keysOk (looseW hd01.view_1 lo) ((recsOf hd01.view_1).map (·.name)) ((litsOf hd01.view_1).map (·.1)) ((clssOf hd01.view_1 (looseW hd01.view_1 lo)).map (·.name))) = some true := by kernel_rfl
theorem run93 (w : World) (os : OsState) : (runS w os).map (fun s => (s.abs.heap.accountedOkI (importedModules pr.main.body) && s.abs.heap.isNs mainGlobals && s.abs.heap.isNs builtinsNs && tablesOk hd01.view_1 s.abs.heap && xt9 s.abs && (s.abs.gens.size == 0), tabsOk hd01.view_1 s.abs)) = some (true, true) := by kernel_rfl
theorem run94 (w : World) (os : OsState) : (runS w os).map (fun s => (pinSeenD hd01.view_1 (drecsOf hd01.view_1) s.abs, plainSeenE hd01.view_1 (looseW hd01.view_1 lo) s.abs)) = some (pinGoodD (drecsOf hd01.view_1), plainGoodE hd01.view_1 (looseW hd01.view_1 lo)) := by kernel_rfl
theorem run95 (w : World) (os : OsState) : (runS w os).map (fun s => (plainSeenD hd01.view_1 lo s.abs, wideSeen hd01.view_1 s.abs, clsSeenW hd01.view_1 lo s.abs)) = some (plainGoodD hd01.view_1 lo, wideGood hd01.view_1, clsGoodW hd01.view_1 lo) := by kernel_rfl
theorem size9 (w : World) : ((boot_heap w.params).isNs mainGlobals, (boot_heap w.params).objs.size, (boot_heap w.params).nsMap mainGlobals "__annotations__") = (true, 11, some (Value.ref 6)) := by kernel_rfl
noncomputable abbrev hk9 : Hook := kmHook hd01.heap_1 as9 ek9 [543]
theorem left9 : LeftO pr hd01.view_1 lo xt9 hk9.obs hk9.val 7050 :=
  left_tree (by kernel_rfl) (by decide +kernel) (fun _ => by rfl) size9 run91 run92 run93 run94 run95

theorem offTop : True := by
  w_top off
  trivial
end Mine
open PySem.Spec PySem.Calls Mine
set_option maxHeartbeats 20000000
namespace Mine
/-! the plain law of 01: rings of a permutation, moves, what they bring about -/
def it (f : Nat → Nat) : Nat → Nat → Nat
  | 0, x => x
  | k + 1, x => f (it f k x)
theorem it_succ' {f : Nat → Nat} : ∀ {k x : Nat}, it f (k + 1) x = it f k (f x)
  | 0, _ => rfl
  | k + 1, x => by
    show f (it f (k + 1) x) = f (it f k (f x))
    rw [it_succ' (k := k)]
theorem it_add {f : Nat → Nat} : ∀ {a b x : Nat}, it f (a + b) x = it f a (it f b x)
  | 0, b, x => by rw [Nat.zero_add]; rfl
  | a + 1, b, x => by
    rw [show a + 1 + b = (a + b) + 1 by omega]
    show f (it f (a + b) x) = f (it f a (it f b x))
    rw [it_add]
abbrev hI (gl : List Nat) (x : Nat) : Nat := gl.idxOf x
abbrev gI (gl : List Nat) (x : Nat) : Nat := gl.getD x 0

structure IsPerm (gl : List Nat) : Prop where
  nd : gl.Nodup
  lt : ∀ x ∈ gl, x < gl.length
  mem : ∀ x, x < gl.length → x ∈ gl
theorem IsPerm.of_perm {gl : List Nat} {n : Nat} (h : gl.Perm (List.range n)) : IsPerm gl ∧ gl.length = n := by
  have hl : gl.length = n := by rw [h.length_eq, List.length_range]
  refine ⟨⟨h.nodup_iff.mpr List.nodup_range, fun x hx => ?_, fun x hx => ?_⟩, hl⟩
  · rw [hl]; exact List.mem_range.mp (h.mem_iff.mp hx)
  · rw [hl] at hx; exact h.mem_iff.mpr (List.mem_range.mpr hx)

section
variable {gl : List Nat} (P : IsPerm gl)
include P
theorem hI_lt {x : Nat} (hx : x < gl.length) : hI gl x < gl.length := List.idxOf_lt_length_iff.mpr (P.mem x hx)
theorem gI_lt {x : Nat} (hx : x < gl.length) : gI gl x < gl.length := by
  show gl.getD x 0 < gl.length
  rw [List.getD_eq_getElem?_getD, List.getElem?_eq_getElem hx]
  exact P.lt _ (List.getElem_mem hx)
theorem gI_hI {x : Nat} (hx : x < gl.length) : gI gl (hI gl x) = x := by
  have h := hI_lt P hx
  show gl.getD (hI gl x) 0 = x
  rw [List.getD_eq_getElem?_getD, List.getElem?_eq_getElem h]
  exact List.getElem_idxOf h
theorem hI_gI {x : Nat} (hx : x < gl.length) : hI gl (gI gl x) = x := by
  show gl.idxOf (gl.getD x 0) = x
  rw [List.getD_eq_getElem?_getD, List.getElem?_eq_getElem hx]
  exact P.nd.idxOf_getElem x hx
theorem hI_inj {x y : Nat} (hx : x < gl.length) (hy : y < gl.length) (h : hI gl x = hI gl y) : x = y := by
  rw [← gI_hI P hx, h, gI_hI P hy]
theorem it_hI_lt {x : Nat} (hx : x < gl.length) : ∀ k, it (hI gl) k x < gl.length
  | 0 => hx
  | k + 1 => hI_lt P (it_hI_lt hx k)
theorem it_gI_lt {x : Nat} (hx : x < gl.length) : ∀ k, it (gI gl) k x < gl.length
  | 0 => hx
  | k + 1 => gI_lt P (it_gI_lt hx k)
theorem it_hI_inj {x y : Nat} (hx : x < gl.length) (hy : y < gl.length) : ∀ k, it (hI gl) k x = it (hI gl) k y → x = y
  | 0, h => h
  | k + 1, h => it_hI_inj hx hy k (hI_inj P (it_hI_lt P hx k) (it_hI_lt P hy k) h)
theorem it_hg {x : Nat} (hx : x < gl.length) : ∀ k, it (hI gl) k (it (gI gl) k x) = x
  | 0 => rfl
  | k + 1 => by
    rw [it_succ']
    show it (hI gl) k (hI gl (gI gl (it (gI gl) k x))) = x
    rw [hI_gI P (it_gI_lt P hx k), it_hg hx k]
theorem exists_per {x : Nat} (hx : x < gl.length) : ∃ p, 0 < p ∧ p ≤ gl.length ∧ it (hI gl) p x = x := by
  false_or_by_contra
  rename_i hn
  have hno : ∀ p, 0 < p → p ≤ gl.length → it (hI gl) p x ≠ x := fun p h1 h2 h3 => hn ⟨p, h1, h2, h3⟩
  let l := (List.range (gl.length + 1)).map fun k => it (hI gl) k x
  have hnd : l.Nodup := by
    show List.Pairwise (· ≠ ·) ((List.range (gl.length + 1)).map fun k => it (hI gl) k x)
    rw [List.pairwise_map]
    refine List.Pairwise.imp_of_mem ?_ List.pairwise_lt_range
    intro a b ha hb hab e
    have hb' := List.mem_range.mp hb
    have e2 : b = a + (b - a) := by omega
    rw [e2, it_add] at e
    exact hno (b - a) (by omega) (by omega) (it_hI_inj P (it_hI_lt P hx _) hx a e.symm)
  have hsub : l ⊆ List.range gl.length := by
    intro y hy
    obtain ⟨k, _, rfl⟩ := List.mem_map.mp hy
    exact List.mem_range.mpr (it_hI_lt P hx k)
  have := hnd.length_le_of_subset hsub
  simp only [l, List.length_map, List.length_range] at this
  omega
end
def per (gl : List Nat) (x : Nat) : Nat := ((List.range gl.length).find? fun p => it (hI gl) (p + 1) x == x).getD 0 + 1
theorem per_spec {gl : List Nat} (P : IsPerm gl) {x : Nat} (hx : x < gl.length) : it (hI gl) (per gl x) x = x ∧ per gl x ≤ gl.length ∧ ∀ j, 0 < j → j < per gl x → it (hI gl) j x ≠ x := by
  obtain ⟨p, h1, h2, h3⟩ := exists_per P hx
  unfold per
  cases h : (List.range gl.length).find? fun p => it (hI gl) (p + 1) x == x with
  | none =>
    rw [List.find?_eq_none] at h
    have := h (p - 1) (List.mem_range.mpr (by omega))
    rw [show p - 1 + 1 = p by omega] at this
    simp [h3] at this
  | some q =>
    obtain ⟨a, b, c⟩ := List.find?_range_eq_some.mp h
    have hq := List.mem_range.mp b
    refine ⟨by simpa using a, by show q + 1 ≤ _; omega, fun j hj1 hj2 => ?_⟩
    have hj2' : j < q + 1 := hj2
    have := c (j - 1) (by omega)
    rw [show j - 1 + 1 = j by omega] at this
    simpa using this
theorem per_pos {gl : List Nat} {x : Nat} : 0 < per gl x := Nat.succ_pos _

def orb (gl : List Nat) (x k : Nat) : List Nat := (List.range k).map fun i => it (hI gl) i x
theorem orb_succ {gl : List Nat} {x k : Nat} : orb gl x (k + 1) = orb gl x k ++ [it (hI gl) k x] := by
  unfold orb; rw [List.range_succ, List.map_append]; rfl
theorem orb_length {gl : List Nat} {x k : Nat} : (orb gl x k).length = k := by simp [orb]
theorem mem_orb {gl : List Nat} {x k y : Nat} : y ∈ orb gl x k ↔ ∃ i, i < k ∧ it (hI gl) i x = y := by
  unfold orb; simp
abbrev ring (gl : List Nat) (x : Nat) : List Nat := orb gl x (per gl x)
def ringsUpto (gl : List Nat) : Nat → List (List Nat)
  | 0 => []
  | i + 1 => if gI gl i ≠ i ∧ i ∉ (ringsUpto gl i).flatten then ringsUpto gl i ++ [ring gl i] else ringsUpto gl i
abbrev rings (gl : List Nat) : List (List Nat) := ringsUpto gl gl.length

section
variable {gl : List Nat} (P : IsPerm gl)
include P
theorem it_mul {x : Nat} (hx : x < gl.length) : ∀ q, it (hI gl) (q * per gl x) x = x
  | 0 => by rw [Nat.zero_mul]; rfl
  | q + 1 => by rw [Nat.succ_mul, it_add, (per_spec P hx).1, it_mul hx q]
theorem it_per {x : Nat} (hx : x < gl.length) (t : Nat) : it (hI gl) t x = x ↔ t % per gl x = 0 := by
  have e : t = per gl x * (t / per gl x) + t % per gl x := (Nat.div_add_mod t _).symm
  constructor
  · intro h
    false_or_by_contra
    rename_i hn
    have hs : it (hI gl) (t % per gl x) x = x := by
      rw [e, Nat.add_comm, it_add, Nat.mul_comm, it_mul P hx] at h
      exact h
    exact (per_spec P hx).2.2 _ (by omega) (Nat.mod_lt _ per_pos) hs
  · intro h
    rw [e, h, Nat.add_zero, Nat.mul_comm, it_mul P hx]
theorem ring_mem_it {x y : Nat} (hx : x < gl.length) : ∀ k, y ∈ ring gl x → it (hI gl) k y ∈ ring gl x := by
  intro k hy
  obtain ⟨i, hi, rfl⟩ := mem_orb.mp hy
  rw [← it_add]
  refine mem_orb.mpr ⟨(k + i) % per gl x, Nat.mod_lt _ per_pos, ?_⟩
  have e : k + i = per gl x * ((k + i) / per gl x) + (k + i) % per gl x := (Nat.div_add_mod _ _).symm
  conv => rhs; rw [e, Nat.add_comm, it_add, Nat.mul_comm, it_mul P hx]
theorem ring_back {x y : Nat} (hx : x < gl.length) (hy : y ∈ ring gl x) : ∃ k, it (hI gl) k y = x := by
  obtain ⟨i, hi, rfl⟩ := mem_orb.mp hy
  exact ⟨per gl x - i, by rw [← it_add, show per gl x - i + i = per gl x by omega]; exact (per_spec P hx).1⟩
theorem ring_lt {x y : Nat} (hx : x < gl.length) (hy : y ∈ ring gl x) : y < gl.length := by
  obtain ⟨i, hi, rfl⟩ := mem_orb.mp hy
  exact it_hI_lt P hx i
theorem orb_nodup {x : Nat} (hx : x < gl.length) : ∀ k, k ≤ per gl x → (orb gl x k).Nodup := by
  intro k hk
  show List.Pairwise (· ≠ ·) ((List.range k).map fun i => it (hI gl) i x)
  rw [List.pairwise_map]
  refine List.Pairwise.imp_of_mem ?_ List.pairwise_lt_range
  intro a b ha hb hab e
  have hb' := List.mem_range.mp hb
  have e2 : b = a + (b - a) := by omega
  rw [e2, it_add] at e
  exact (per_spec P hx).2.2 (b - a) (by omega) (by omega) (it_hI_inj P (it_hI_lt P hx _) hx a e.symm)

omit P in
/-- what the rings upto i are -/
structure RingsAre (gl : List Nat) (i : Nat) (rs : List (List Nat)) : Prop where
  ring : ∀ r ∈ rs, ∃ x, x < gl.length ∧ r = Mine.ring gl x
  apart : rs.Pairwise fun r r' => ∀ y ∈ r, y ∉ r'
  all : ∀ y, y < i → gI gl y ≠ y → y ∈ rs.flatten
omit P in
theorem ringsUpto_sub {i : Nat} : ∀ y, y ∈ (ringsUpto gl i).flatten → y ∈ (ringsUpto gl (i + 1)).flatten := by
  intro y hy
  show y ∈ (if gI gl i ≠ i ∧ i ∉ (ringsUpto gl i).flatten then ringsUpto gl i ++ [Mine.ring gl i] else ringsUpto gl i).flatten
  split
  · rw [List.flatten_append]; exact List.mem_append_left _ hy
  · exact hy
theorem ringsUpto_are : ∀ i, i ≤ gl.length → RingsAre gl i (ringsUpto gl i)
  | 0, _ => ⟨fun _ h => (nomatch h), .nil, fun _ h => absurd h (Nat.not_lt_zero _)⟩
  | i + 1, hi => by
    have ih := ringsUpto_are i (by omega)
    have all : ∀ y, y < i + 1 → gI gl y ≠ y → y ∈ (ringsUpto gl (i + 1)).flatten := by
      intro y hy hg
      by_cases h : y < i
      · exact ringsUpto_sub y (ih.all y h hg)
      · have : y = i := by omega
        subst this
        by_cases hm : y ∈ (ringsUpto gl y).flatten
        · exact ringsUpto_sub y hm
        · show y ∈ (if gI gl y ≠ y ∧ y ∉ (ringsUpto gl y).flatten then ringsUpto gl y ++ [Mine.ring gl y] else ringsUpto gl y).flatten
          rw [if_pos ⟨hg, hm⟩, List.flatten_append]
          refine List.mem_append_right _ ?_
          rw [List.flatten_singleton]
          exact mem_orb.mpr ⟨0, per_pos, rfl⟩
    refine ⟨?_, ?_, all⟩
    · show ∀ r ∈ (if gI gl i ≠ i ∧ i ∉ (ringsUpto gl i).flatten then ringsUpto gl i ++ [Mine.ring gl i] else ringsUpto gl i), _
      split
      · intro r hr
        rcases List.mem_append.mp hr with hr | hr
        · exact ih.ring r hr
        · exact ⟨i, by omega, List.mem_singleton.mp hr⟩
      · exact ih.ring
    · show (if gI gl i ≠ i ∧ i ∉ (ringsUpto gl i).flatten then ringsUpto gl i ++ [Mine.ring gl i] else ringsUpto gl i).Pairwise _
      split
      · rename_i hc
        rw [List.pairwise_append]
        refine ⟨ih.apart, List.pairwise_singleton _ _, fun r hr r' hr' y hy hy' => hc.2 ?_⟩
        rw [List.mem_singleton.mp hr'] at hy'
        obtain ⟨x, hx, rfl⟩ := ih.ring r hr
        obtain ⟨k, hk⟩ := ring_back P (show i < gl.length by omega) hy'
        exact List.mem_flatten.mpr ⟨_, hr, hk ▸ ring_mem_it P hx k hy⟩
      · exact ih.apart
theorem rings_order (t : Nat) : (∀ y, y < gl.length → it (hI gl) t y = y) ↔ ∀ r ∈ rings gl, t % r.length = 0 := by
  have R := ringsUpto_are P gl.length (Nat.le_refl _)
  constructor
  · intro h r hr
    obtain ⟨x, hx, rfl⟩ := R.ring r hr
    rw [orb_length]
    exact (it_per P hx t).mp (h x hx)
  · intro h y hy
    by_cases hg : gI gl y = y
    · have hf : hI gl y = y := by rw [← hg, hI_gI P hy]; exact hg.symm
      have : ∀ k, it (hI gl) k y = y := by
        intro k
        induction k with
        | zero => rfl
        | succ k ih => show hI gl (it (hI gl) k y) = y; rw [ih, hf]
      exact this t
    · obtain ⟨r, hr, hyr⟩ := List.mem_flatten.mp (R.all y hy hg)
      obtain ⟨x, hx, rfl⟩ := R.ring r hr
      have ht := h _ hr
      rw [orb_length] at ht
      obtain ⟨i, _, rfl⟩ := mem_orb.mp hyr
      rw [← it_add, Nat.add_comm, it_add, (it_per P hx t).mpr ht]
end

theorem per_le {gl : List Nat} (P : IsPerm gl) {x : Nat} (hx : x < gl.length) : per gl x ≤ gl.length := (per_spec P hx).2.1
theorem ringsUpto_len {gl : List Nat} : ∀ i, (ringsUpto gl i).length ≤ i
  | 0 => Nat.le_refl _
  | i + 1 => by
    have := ringsUpto_len (gl := gl) i
    show (if gI gl i ≠ i ∧ i ∉ (ringsUpto gl i).flatten then ringsUpto gl i ++ [Mine.ring gl i] else ringsUpto gl i).length ≤ _
    split
    · rw [List.length_append, List.length_singleton]; omega
    · omega
theorem ringsUpto_flat {gl : List Nat} (P : IsPerm gl) : ∀ i, i ≤ gl.length → (ringsUpto gl i).flatten.length ≤ gl.length * i
  | 0, _ => Nat.le_refl _
  | i + 1, hi => by
    have ih := ringsUpto_flat P i (by omega)
    have hp := per_le P (show i < gl.length by omega)
    show (if gI gl i ≠ i ∧ i ∉ (ringsUpto gl i).flatten then ringsUpto gl i ++ [Mine.ring gl i] else ringsUpto gl i).flatten.length ≤ _
    rw [Nat.mul_succ]
    split
    · rw [List.flatten_append, List.length_append, List.flatten_singleton, orb_length]; omega
    · omega

theorem ringsUpto_in {gl : List Nat} {i : Nat} (h : i ∈ (ringsUpto gl i).flatten) : ringsUpto gl (i + 1) = ringsUpto gl i := if_neg fun q => q.2 h
theorem ringsUpto_fix {gl : List Nat} {i : Nat} (h : gI gl i = i) : ringsUpto gl (i + 1) = ringsUpto gl i := if_neg fun q => q.1 h
theorem ringsUpto_new {gl : List Nat} {i : Nat} (h : gI gl i ≠ i) (k : i ∉ (ringsUpto gl i).flatten) : ringsUpto gl (i + 1) = ringsUpto gl i ++ [ring gl i] := if_pos ⟨h, k⟩
/-- two that follow each other -/
def consec : List Nat → List (Nat × Nat)
  | a :: b :: r => (a, b) :: consec (b :: r)
  | _ => []
abbrev ringRow (n : Nat) (r : List Nat) : List Nat := n :: (r ++ [n])
abbrev ringMoves (n : Nat) (r : List Nat) : List (Nat × Nat) := consec (ringRow n r)
abbrev movesOf (n : Nat) (rs : List (List Nat)) : List (Nat × Nat) := rs.flatMap (ringMoves n)
theorem consec_length : ∀ {l : List Nat}, (consec l).length = l.length - 1
  | [] => rfl
  | [_] => rfl
  | a :: b :: r => by
    show (consec (b :: r)).length + 1 = _
    rw [consec_length]; simp
theorem ringMoves_length {n : Nat} {r : List Nat} : (ringMoves n r).length = r.length + 1 := by
  rw [consec_length]; simp
theorem movesOf_length {n : Nat} : ∀ {rs : List (List Nat)}, (movesOf n rs).length = (rs.map List.length).sum + rs.length
  | [] => rfl
  | r :: rs => by
    show ((ringMoves n r) ++ movesOf n rs).length = _
    rw [List.length_append, ringMoves_length, movesOf_length]
    simp; omega
theorem consec_range : ∀ {l : List Nat}, consec l = (List.range (l.length - 1)).map fun i => (l.getD i 0, l.getD (i + 1) 0)
  | [] => rfl
  | [_] => rfl
  | a :: b :: r => by
    show (a, b) :: consec (b :: r) = (List.range ((b :: r).length)).map _
    rw [consec_range]
    rw [show (b :: r).length = (b :: r).length - 1 + 1 from rfl, List.range_succ_eq_map, List.map_cons, List.map_map]
    rfl
def stepR {α : Type} (d : α) (vs : List α) (p : Nat × Nat) : List α := vs.set p.1 (vs.getD p.2 d)
def execR {α : Type} (d : α) (mv : List (Nat × Nat)) (vs : List α) : List α := mv.foldl (stepR d) vs
theorem stepR_length {α : Type} {d : α} {vs : List α} {p : Nat × Nat} : (stepR d vs p).length = vs.length := by simp [stepR]
theorem execR_length {α : Type} {d : α} : ∀ {mv : List (Nat × Nat)} {vs : List α}, (execR d mv vs).length = vs.length
  | [], _ => rfl
  | p :: mv, vs => by show (execR d mv (stepR d vs p)).length = _; rw [execR_length, stepR_length]
theorem execR_append {α : Type} {d : α} {a b : List (Nat × Nat)} {vs : List α} : execR d (a ++ b) vs = execR d b (execR d a vs) := List.foldl_append
theorem getD_set {α : Type} {d v : α} {vs : List α} {i j : Nat} (hi : i < vs.length) : (vs.set i v).getD j d = if j = i then v else vs.getD j d := by
  rw [List.getD_eq_getElem?_getD, List.getD_eq_getElem?_getD, List.getElem?_set]
  by_cases h : i = j
  · subst h; simp [hi]
  · rw [if_neg h, if_neg (Ne.symm h)]
/-- a chain a, h a, h h a .. of words, the last one fed from n -/
theorem exec_chain {α : Type} {d : α} (h : Nat → Nat) (n : Nat) : ∀ (r : List Nat) (a : Nat) (vs : List α), (∀ p ∈ consec (a :: r), p.2 = h p.1) → (a :: r).Nodup → n ∉ a :: r → (∀ y ∈ a :: r, y < vs.length) →
    ∀ y, (execR d (consec (a :: (r ++ [n]))) vs).getD y d = if y ∈ a :: r then (if y = (a :: r).getLast (List.cons_ne_nil _ _) then vs.getD n d else vs.getD (h y) d) else vs.getD y d
  | [], a, vs, _, _, _, hl, y => by
    show (stepR d vs (a, n)).getD y d = _
    unfold stepR
    rw [getD_set (hl a (.head _))]
    by_cases e : y = a
    · simp [e]
    · simp [e]
  | b :: r, a, vs, hc, hnd, hn, hl, y => by
    show (execR d (consec (b :: (r ++ [n]))) (stepR d vs (a, b))).getD y d = _
    have hnd' := List.nodup_cons.mp hnd
    have hn' : n ∉ b :: r := fun q => hn (.tail _ q)
    have hna : n ≠ a := fun q => hn (q ▸ .head _)
    have hb : b = h a := hc (a, b) (.head _)
    rw [exec_chain h n r b (stepR d vs (a, b)) (fun p hp => hc p (.tail _ hp)) hnd'.2 hn' (fun y hy => by rw [stepR_length]; exact hl y (.tail _ hy)) y]
    have look : ∀ z, z ≠ a → (stepR d vs (a, b)).getD z d = vs.getD z d := fun z hz => by
      unfold stepR; rw [getD_set (hl a (.head _)), if_neg hz]
    by_cases ea : y = a
    · subst ea
      rw [if_neg hnd'.1, if_pos (.head _), if_neg (fun q => hnd'.1 (by rw [q]; exact List.getLast_mem (l := b :: r) (List.cons_ne_nil _ _)))]
      unfold stepR
      rw [getD_set (hl y (.head _)), if_pos rfl, ← hb]
    · by_cases hy : y ∈ b :: r
      · rw [if_pos hy, if_pos (show y ∈ a :: b :: r from .tail _ hy)]
        rw [show (a :: b :: r).getLast (List.cons_ne_nil _ _) = (b :: r).getLast (List.cons_ne_nil _ _) from List.getLast_cons _]
        by_cases el : y = (b :: r).getLast (List.cons_ne_nil _ _)
        · rw [if_pos el, if_pos el, look n hna]
        · rw [if_neg el, if_neg el, look]
          intro q
          -- h y lies in r, a does not
          have : ∀ (l : List Nat) (c : Nat), (∀ p ∈ consec (c :: l), p.2 = h p.1) → ∀ z ∈ c :: l, z ≠ (c :: l).getLast (List.cons_ne_nil _ _) → h z ∈ l := by
            intro l
            induction l with
            | nil => intro c _ z hz hne; exact absurd (List.mem_singleton.mp hz) (by simpa using hne)
            | cons e l ih =>
              intro c hcc z hz hne
              rcases List.mem_cons.mp hz with rfl | hz
              · rw [← hcc (z, e) (.head _)]; exact .head _
              · exact .tail _ (ih e (fun p hp => hcc p (.tail _ hp)) z hz (by rw [List.getLast_cons (List.cons_ne_nil _ _)] at hne; exact hne))
          have hm := this r b (fun p hp => hc p (.tail _ hp)) y hy el
          rw [q] at hm
          exact hnd'.1 (.tail _ hm)
      · rw [if_neg hy, if_neg (fun q => (List.mem_cons.mp q).elim ea hy), look y ea]
section
variable {gl : List Nat} (P : IsPerm gl) {α : Type} {d : α}
include P
omit P in
theorem consec_orb {x : Nat} : ∀ k, ∀ p ∈ consec (orb gl x k), p.2 = hI gl p.1 := by
  intro k p hp
  rw [consec_range] at hp
  obtain ⟨i, hi, rfl⟩ := List.mem_map.mp hp
  rw [orb_length] at hi
  have hi' := List.mem_range.mp hi
  have e : ∀ j, j < k → (orb gl x k).getD j 0 = it (hI gl) j x := fun j hj => by
    unfold orb
    rw [List.getD_eq_getElem?_getD, List.getElem?_map, List.getElem?_range hj]; rfl
  rw [e i (by omega), e (i + 1) (by omega)]; rfl
theorem exec_ring {x : Nat} (hx : x < gl.length) {vs : List α} (hl : gl.length < vs.length) :
    ∀ y, y < gl.length → (execR d (ringMoves gl.length (ring gl x)) vs).getD y d = if y ∈ ring gl x then vs.getD (hI gl y) d else vs.getD y d := by
  intro y hy
  obtain ⟨k, hk⟩ : ∃ k, per gl x = k + 1 := ⟨per gl x - 1, by have := per_pos (gl := gl) (x := x); omega⟩
  have er : ring gl x = x :: (List.range k).map (fun i => it (hI gl) (i + 1) x) := by
    unfold ring orb
    rw [hk, List.range_succ_eq_map, List.map_cons, List.map_map]; rfl
  have hlast : ∀ (hne : ring gl x ≠ []), (ring gl x).getLast hne = it (hI gl) k x := by
    intro hne
    have : ring gl x = orb gl x k ++ [it (hI gl) k x] := by unfold ring; rw [hk]; exact orb_succ
    simp only [this]
    simp
  have hclose : hI gl (it (hI gl) k x) = x := by
    have := (per_spec P hx).1
    rw [hk] at this; exact this
  generalize hr : (List.range k).map (fun i => it (hI gl) (i + 1) x) = r at er
  have hlt : ∀ z ∈ x :: r, z < gl.length := fun z hz => ring_lt P hx (by rw [er]; exact hz)
  have hch : ∀ p ∈ consec (x :: r), p.2 = hI gl p.1 := by rw [← er]; exact consec_orb _
  have hnd : (x :: r).Nodup := by rw [← er]; exact orb_nodup P hx _ (Nat.le_refl _)
  have hln : (x :: r).getLast (List.cons_ne_nil _ _) = it (hI gl) k x := by
    have := hlast (by rw [er]; exact List.cons_ne_nil _ _)
    simp only [er] at this; exact this
  show (execR d (consec (gl.length :: (ring gl x ++ [gl.length]))) vs).getD y d = _
  rw [er]
  show (execR d (consec (x :: (r ++ [gl.length]))) (stepR d vs (gl.length, x))).getD y d = _
  rw [exec_chain (hI gl) gl.length r x _ hch hnd (fun q => Nat.lt_irrefl _ (hlt _ q)) (fun z hz => by rw [stepR_length]; exact Nat.lt_trans (hlt z hz) hl) y, hln]
  have look : ∀ z, z < gl.length → (stepR d vs (gl.length, x)).getD z d = vs.getD z d := fun z hz => by
    unfold stepR; rw [getD_set hl, if_neg (Nat.ne_of_lt hz)]
  by_cases hm : y ∈ x :: r
  · rw [if_pos hm, if_pos hm]
    by_cases e : y = it (hI gl) k x
    · rw [if_pos e, e, hclose]
      unfold stepR; rw [getD_set hl, if_pos rfl]
    · rw [if_neg e, look _ (hI_lt P hy)]
  · rw [if_neg hm, if_neg hm, look y hy]
theorem exec_rings : ∀ (rs : List (List Nat)), (∀ r ∈ rs, ∃ x, x < gl.length ∧ r = ring gl x) → (rs.Pairwise fun r r' => ∀ y ∈ r, y ∉ r') → ∀ (vs : List α), gl.length < vs.length →
    ∀ y, y < gl.length → (execR d (movesOf gl.length rs) vs).getD y d = if y ∈ rs.flatten then vs.getD (hI gl y) d else vs.getD y d
  | [], _, _, vs, _, y, _ => by show vs.getD y d = _; simp
  | r :: rs, hr, hp, vs, hl, y, hy => by
    show (execR d (ringMoves gl.length r ++ movesOf gl.length rs) vs).getD y d = _
    obtain ⟨x, hx, rfl⟩ := hr _ (.head _)
    rw [execR_append, exec_rings rs (fun r h => hr r (.tail _ h)) (List.pairwise_cons.mp hp).2 _ (by rw [execR_length]; exact hl) y hy, List.flatten_cons]
    have off : ∀ z, z ∈ rs.flatten → z ∉ ring gl x := fun z hz hzx => by
      obtain ⟨r', hr', hz'⟩ := List.mem_flatten.mp hz
      exact (List.pairwise_cons.mp hp).1 r' hr' z hzx hz'
    by_cases hm : y ∈ rs.flatten
    · rw [if_pos hm, if_pos (List.mem_append_right _ hm), exec_ring P hx hl _ (hI_lt P hy), if_neg]
      intro q
      obtain ⟨r', hr', hz'⟩ := List.mem_flatten.mp hm
      obtain ⟨x', hx', rfl⟩ := hr r' (.tail _ hr')
      exact off _ (List.mem_flatten.mpr ⟨_, hr', ring_mem_it P hx' 1 hz'⟩) q
    · rw [if_neg hm, exec_ring P hx hl _ hy]
      by_cases hx2 : y ∈ ring gl x
      · rw [if_pos hx2, if_pos (List.mem_append_left _ hx2)]
      · rw [if_neg hx2, if_neg (fun q => (List.mem_append.mp q).elim hx2 hm)]
theorem exec_perm {vs : List α} (hl : gl.length < vs.length) : ∀ y, y < gl.length → (execR d (movesOf gl.length (rings gl)) vs).getD y d = vs.getD (hI gl y) d := by
  intro y hy
  have R := ringsUpto_are P gl.length (Nat.le_refl _)
  rw [exec_rings P _ R.ring R.apart vs hl y hy]
  by_cases hm : y ∈ (ringsUpto gl gl.length).flatten
  · rw [if_pos hm]
  · rw [if_neg hm]
    have hg : gI gl y = y := by
      false_or_by_contra
      rename_i q
      exact hm (R.all y hy q)
    have : hI gl y = y := by
      have := hI_gI P hy
      rw [hg] at this; exact this
    rw [this]
end
abbrev enc (p : Nat × Nat) : Int := 64 * (p.1 : Int) + 8388608 * (p.2 : Int)
abbrev encs (l : List (Nat × Nat)) : List Int := l.map enc

abbrev Led := List (Addr × Obj)
/-- no entry of the ledger lies at d -/
def Off (d : Addr) (l : Led) : Prop := ∀ q ∈ l, q.1 ≠ d
theorem Off.nil {d : Addr} : Off d [] := fun _ h => nomatch h
theorem Off.cons {d : Addr} {p : Addr × Obj} {l : Led} (h : p.1 ≠ d) (k : Off d l) : Off d (p :: l) := fun q hq => by
  rcases List.mem_cons.mp hq with rfl | hq
  · exact h
  · exact k q hq
theorem Off.append {d : Addr} {l r : Led} (h : Off d l) (k : Off d r) : Off d (l ++ r) := fun q hq => (List.mem_append.mp hq).elim (h q) (k q)
theorem Off.sub {d : Addr} {l r : Led} (h : Off d l) (k : ∀ p ∈ r, p ∈ l) : Off d r := fun q hq => h q (k q hq)
theorem Off.of1 {d : Addr} : ∀ {l : Led}, LCg.Off1 d l → Off d l
  | [], _ => .nil
  | _ :: _, h => .cons h.1 (Off.of1 h.2)
theorem Off.ofLt {d : Addr} {l : Led} (h : AllLt d l) : Off d l := fun q hq => Nat.ne_of_lt (ktn_ltOf h q hq)
theorem off_cons {d : Addr} {p : Addr × Obj} {l : Led} : Off d (p :: l) ↔ p.1 ≠ d ∧ Off d l :=
  ⟨fun h => ⟨h p (.head _), fun q hq => h q (.tail _ hq)⟩, fun h => .cons h.1 h.2⟩
theorem off_append {d : Addr} {l r : Led} : Off d (l ++ r) ↔ Off d l ∧ Off d r :=
  ⟨fun h => ⟨fun q hq => h q (List.mem_append_left _ hq), fun q hq => h q (List.mem_append_right _ hq)⟩, fun h => .append h.1 h.2⟩
theorem off_nil {d : Addr} : Off d [] ↔ True := ⟨fun _ => trivial, fun _ => .nil⟩

theorem elim_4 {a b c d C : Prop} (h : a ∧ b ∧ c ∧ d) (k : a → b → c → d → C) : C := k h.1 h.2.1 h.2.2.1 h.2.2.2
theorem elim_8 {a b c d e f g r C : Prop} (h : a ∧ b ∧ c ∧ d ∧ e ∧ f ∧ g ∧ r) (k : a → b → c → d → e → f → g → r → C) : C := k h.1 h.2.1 h.2.2.1 h.2.2.2.1 h.2.2.2.2.1 h.2.2.2.2.2.1 h.2.2.2.2.2.2.1 h.2.2.2.2.2.2.2
theorem sub_nil {L : Led} : ∀ p ∈ ([] : Led), p ∈ L := fun _ h => nomatch h
theorem sub_cons {a : Addr × Obj} {l L : Led} (h : a ∈ L) (k : ∀ p ∈ l, p ∈ L) : ∀ p ∈ a :: l, p ∈ L := fun p hp => (List.mem_cons.mp hp).elim (fun e => e ▸ h) (k p)
theorem sub_append {l r L : Led} (h : ∀ p ∈ l, p ∈ L) (k : ∀ p ∈ r, p ∈ L) : ∀ p ∈ l ++ r, p ∈ L := fun p hp => (List.mem_append.mp hp).elim (h p) (k p)
theorem mem_c {a : Addr × Obj} {l : Led} : a ∈ a :: l := .head _
theorem mem_2 {a b : Addr × Obj} {l : Led} : a ∈ b :: a :: l := .tail _ (.head _)
theorem mem_3 {a b c : Addr × Obj} {l : Led} : a ∈ b :: c :: a :: l := .tail _ (.tail _ (.head _))
theorem mem_4 {a b c d : Addr × Obj} {l : Led} : a ∈ b :: c :: d :: a :: l := .tail _ (.tail _ (.tail _ (.head _)))
theorem skip_4 {p a b c d : Addr × Obj} {l : Led} (h : p ∈ l) : p ∈ a :: b :: c :: d :: l := .tail _ (.tail _ (.tail _ (.tail _ h)))
theorem skip_1 {p a : Addr × Obj} {l : Led} (h : p ∈ l) : p ∈ a :: l := .tail _ h
theorem offs_nil {R : Led} : ∀ p ∈ ([] : Led), Off p.1 R := fun _ h => nomatch h
theorem offs_cons {a : Addr} {o : Obj} {l R : Led} (h : Off a R) (k : ∀ p ∈ l, Off p.1 R) : ∀ p ∈ (a, o) :: l, Off p.1 R := fun p hp => (List.mem_cons.mp hp).elim (fun e => e ▸ h) (k p)
theorem off_c {a b : Addr} {o : Obj} {l : Led} (h : b ≠ a) (k : Off a l) : Off a ((b, o) :: l) := .cons h k

/-- `news` is `pre` and `rest`, in any order -/
inductive Pick (e : Addr × Obj) : Led → Led → Prop
  | head {r : Led} : Pick e (e :: r) r
  | tail {x : Addr × Obj} {r r' : Led} : Pick e r r' → Pick e (x :: r) (x :: r')
inductive Picks : Led → Led → Led → Prop
  | nil {r : Led} : Picks [] r r
  | cons {e : Addr × Obj} {pre news r rest : Led} : Pick e news r → Picks pre r rest → Picks (e :: pre) news rest
theorem Pick.sub {e : Addr × Obj} {l r : Led} (h : Pick e l r) : ∀ p ∈ e :: r, p ∈ l := by
  induction h with
  | head => exact fun _ h => h
  | tail _ ih =>
    intro p hp
    rcases List.mem_cons.mp hp with rfl | hp
    · exact .tail _ (ih _ (.head _))
    · rcases List.mem_cons.mp hp with rfl | hp
      · exact .head _
      · exact .tail _ (ih _ (.tail _ hp))
theorem Picks.sub {pre news rest : Led} (h : Picks pre news rest) : ∀ p ∈ pre ++ rest, p ∈ news := by
  induction h with
  | nil => exact fun _ h => h
  | cons h _ ih =>
    intro p hp
    rcases List.mem_cons.mp hp with rfl | hp
    · exact h.sub _ (.head _)
    · exact h.sub _ (.tail _ (ih p hp))

/-- a contract: `pre` is what the call needs of the ledger (it may change it to chg), `new` what it makes, `rest` stays -/
def CSpec (prog : Program) (w : World) (K : Frag) (p : Program) (loose : List Str) (mean : ExcName → Option Value) (mg mb : Str → Option Value) (f : Addr) (nd : Nat)
    (vs : List Value) (pre : Led) (post : Value → Led → Led → Prop) : Prop :=
  ∀ (dp un : Nat) (gd : Option (List Code)) (cn : Str) (cs : Scope) (a : Addr) (ccd : Value) (cl : List (Str × Addr)) (outer : List Env) (A₀ : Around) (base h₀ : Heap) (L : Addr) (m : Str → Option Value) (rest : Led) (s : Shared)
    (Q E : Value → Shared → Prop),
    Below A₀ base outer h₀ → Fr h₀ L s.heap m → K.In h₀ → News h₀ L s.heap (pre ++ rest) → (∀ p ∈ pre, Off p.1 rest) → Top p loose mean mg mb h₀ → cs.kind = .function → dp + nd < recursionLimit → un + 8 * nd < cLine →
    (∀ r chg new h' tk', Fr h₀ L h' m → News h₀ L h' (chg ++ (new ++ rest)) → (∀ p ∈ new, Off p.1 (pre ++ rest)) → post r chg new → Q r { s with heap := h', toks := tk' }) →
    wpAny (model prog w) (ktrTop dp un gd cn cs L a ccd cl outer) (call (.ref f) vs) Q E s

section
variable {prog : Program} {w : World} {K : Frag} {p : Program} {loose : List Str} {mean : ExcName → Option Value} {mg mb : Str → Option Value} {f : Addr} {nd : Nat} {vs : List Value} {pre rest news : Led} {post : Value → Led → Led → Prop}
theorem CSpec.use {dp un : Nat} {gd : Option (List Code)} {cn : Str} {cs : Scope} {a : Addr} {ccd : Value} {cl : List (Str × Addr)} {outer : List Env} {A₀ : Around} {base h₀ : Heap} {L : Addr} {m : Str → Option Value} {s : Shared}
    {Q E : Value → Shared → Prop} (B : Below A₀ base outer h₀) (F : Fr h₀ L s.heap m) (X : K.In h₀) (N : News h₀ L s.heap news) (T : Top p loose mean mg mb h₀) (P : Picks pre news rest) (C : CSpec prog w K p loose mean mg mb f nd vs pre post) (hk : cs.kind = .function)
    (ho : ∀ p ∈ pre, Off p.1 rest) (hd : dp + nd < recursionLimit) (hu : un + 8 * nd < cLine)
    (ret : ∀ r chg new h' tk', Fr h₀ L h' m → News h₀ L h' (chg ++ (new ++ rest)) → (∀ p ∈ new, Off p.1 (pre ++ rest)) → post r chg new → Q r { s with heap := h', toks := tk' }) :
    wpAny (model prog w) (ktrTop dp un gd cn cs L a ccd cl outer) (call (.ref f) vs) Q E s :=
  C _ _ _ _ _ _ _ _ _ _ _ _ _ _ _ _ _ _ B F X (fun p hp => N p (P.sub p hp)) ho T hk hd hu ret
end

theorem ints_snoc {vs : List Value} {ns : List Int} (h : IntsAre vs ns) {x : Int} {u : Tok} : IntsAre (vs ++ [.int x u]) (ns ++ [x]) := by
  induction h with
  | nil => exact .cons x u .nil
  | cons n t _ ih => exact .cons n t ih
/-- a name that the frame is known to hold -/
theorem fr_known {h₀ h : Heap} {L : Addr} {m : Str → Option Value} {x : Str} {v : Value} (F : Fr h₀ L h m) (e : m x = some v) : Fr h₀ L h (fun y => if y = x then some v else m y) := by
  have : (fun y => if y = x then some v else m y) = m := by
    funext y
    by_cases h : y = x
    · subst h; rw [if_pos rfl, e]
    · rw [if_neg h]
  rw [this]; exact F

section
variable {prog : Program} {w : World} {A : Around} {E : Value → Shared → Prop} {s : Shared} {h₀ : Heap} {L D : Addr} {m : Str → Option Value} {news news' : Led} {vs : List Value} {ms : List Int} {n : Nat} {k x y : Int} {t u : Tok}
theorem set_last {Q : Unit → Shared → Prop} (F : Fr h₀ L s.heap m) (N : News h₀ L s.heap news) (U : Upd D (listOf vs.toArray n) (listOf (vs.set ms.length (.int x u)).toArray n) news news') (hi : IntsAre vs (ms ++ [y])) (hk : k = -1) (hfit : ms.length ≤ 1000000)
    (h : ∀ h', Fr h₀ L h' m → News h₀ L h' news' → IntsAre (vs.set ms.length (.int x u)) (ms ++ [x]) → Q () { s with heap := h' }) :
    wpAny (model prog w) A (setItem (.ref D) (.int k t) (.int x u)) Q E s := by
  subst hk
  obtain ⟨pre, post, rfl, rfl, a, b⟩ := U.split
  have z := N (D, listOf vs.toArray n) (List.mem_append.mpr (.inr (.head _)))
  have hl : vs.length = ms.length + 1 := by rw [hi.length, List.length_append]; rfl
  have e : ((-1 : Int) + (vs.toArray.size : Int)).toNat = ms.length := by rw [List.size_toArray]; omega
  have hi' := ints_set (x := x) (u := u) hi ms.length
  rw [show (ms ++ [y]).set ms.length x = ms ++ [x] by simp] at hi'
  refine ki_setBack z.1 (by omega) (by rw [List.size_toArray]; omega) (by omega) (h _ (F.change (Heap.SameBut.update ..) z.2.1 z.2.2) (ki_turn _ N a b ?_ ?_) hi')
  · rw [e]
    apply Array.toList_inj.mp
    simp
  · simp
end

section
variable {prog : Program} {w : World} {A : Around} {E : Value → Shared → Prop} {s : Shared} {env : Env} {h₀ : Heap} {x : Str} {body : List Stmt} {Q : Flow → Shared → Prop}
/-- a loop over a range by ones, by an invariant -/
theorem loop_range {r : Addr} {a₀ b₀ : Int} {t₀ u₀ v₀ : Tok} {n : Nat} {m₀ : Str → Option Value} {news nx₀ : Led} (J : Nat → (Str → Option Value) → Led → Prop)
    (hh : A.handled = none) (hr : IsRange s.heap r a₀ b₀ 1 t₀ u₀ v₀) (hsmall : Builtin.Range.small a₀ b₀ 1 = true) (hsz : Builtin.Range.rangeSize a₀ b₀ 1 = (n : Int)) (F : Fr h₀ env.locals s.heap m₀) (N : News h₀ env.locals s.heap news)
    (hn : ∀ p ∈ nx₀, p ∈ news) (hj : J 0 m₀ nx₀)
    (turn : ∀ i m₁ nx h tk own t, i < n → OwnOff own (nx.map (·.1)) → J i m₁ nx → Fr h₀ env.locals h (fun y => if y = x then some (.int (a₀ + (i : Int)) t) else m₁ y) → News h₀ env.locals h (nx ++ own) →
      wpAny (model prog w) A (execs body env) (InvPostG h₀ env.locals (J (i + 1)) own { s with heap := h, toks := tk } Q) E { s with heap := h, toks := tk })
    (done : ∀ m₁ nx h tk, J n m₁ nx → Fr h₀ env.locals h m₁ → News h₀ env.locals h nx → Q .next { s with heap := h, toks := tk }) :
    wpAny (model prog w) A (pyIter (.ref r)) (fun it s₂ => LoopAtV prog w A h₀ env x body Q E it s₂) E s := by
  refine wpAny_pyIter_range hr hsmall ?_
  have W : Walks prog w A s.heap.objs.size [s.heap.objs.size] [s.heap.objs.size] n (fun i v => i < n ∧ ∃ t, v = .int (a₀ + i * 1) t)
      (fun i h => IsRangeIter h s.heap.objs.size (a₀ + (i : Nat) * 1) ((n : Int) - (i : Nat)) 1) := (Walks.range hh _ a₀ 1 n).bound
  refine kdr_loop (news := nx₀) J W (fun _ h => h) (fun _ h => h) ?_ ?_ ?_ ?_ (by show IsRangeIter _ _ _ _ _; rw [hsz]; simpa using Heap.get?_push_size _ rfl) (F.push _) (fun p hp => ⟨Heap.get?_push_of_some _ (N p (hn p hp)).1, (N p (hn p hp)).2⟩) hj ?_ done
  · intro i h hi b hb
    rw [List.mem_singleton.mp hb]
    exact ⟨_, hi⟩
  · intro hm
    exact absurd F.ns.lt ((List.mem_singleton.mp hm) ▸ Nat.lt_irrefl _)
  · intro b hb
    rw [List.mem_singleton.mp hb]
    exact next_is_new F
  · intro p hp hI
    exact absurd (Heap.lt_size (N p (hn p hp)).1) ((List.mem_singleton.mp hI) ▸ Nat.lt_irrefl _)
  · rintro i v m₁ nx h tk own hi ⟨_, t, rfl⟩ hoff hJ F₁ N₁
    have e1 : a₀ + (i : Int) * 1 = a₀ + (i : Int) := by omega
    rw [e1] at F₁
    exact turn i m₁ nx h tk own t hi hoff hJ F₁ N₁
end

/-- the walk stops here -/
structure Stop (P : Prop) : Prop where
  go : P
theorem of_stop {P : Prop} (h : Stop P) : P := h.go

section
variable {prog : Program} {w : World} {A : Around} {E : Value → Shared → Prop} {s : Shared} {h₀ : Heap} {L D : Addr} {m : Str → Option Value} {news news' : Led} {vs : List Value} {ns : List Int} {n : Nat} {k : Int} {t : Tok}
theorem idx_ints {Q : Value → Shared → Prop} (N : News h₀ L s.heap news) (hm : (D, listOf vs.toArray n) ∈ news) (hi : IntsAre vs ns) (hk : k ∈ ns) (hz : ns.length ≤ 1000000)
    (h : ∀ u, Q (.int (ns.idxOf k : Nat) u) { s with toks := s.toks + 1 }) : wpAny (model prog w) A (call (.builtin "list.index") [.ref D, .int k t]) Q E s := by
  have hlen := hi.length
  have hj : ns.idxOf k < ns.length := List.idxOf_lt_length_iff.mpr hk
  refine call_meets PySem.F.slot_list_index ⟨_, (N _ hm).1, rfl⟩ PySem.F.entry_list_index (PySem.F.args_list_index_2 _ _)
    (MeetsSeq.list_index D vs.toArray n (.int k t) (isInt k) (fun y hy => eq_isInt k t hi y (by simpa using hy)) (ns.idxOf k) (by simpa [hlen] using hj) (by omega) ?_ ?_) ⟨(N _ hm).1, h _⟩
  · show isInt k vs[ns.idxOf k] = true
    rw [isInt_at k hi _ (by omega) hj]
    simpa using List.getElem_idxOf hj
  · intro j hjs hlt
    show isInt k vs[j] = false
    rw [isInt_at k hi j (by simpa using hjs) (by omega)]
    exact ne_of_lt_idxOf hlt _
end

abbrev nz (l : List Nat) : List Int := l.map fun x : Nat => (x : Int)
inductive ListsAre (led : Led) : List Value → List (List Nat) → Prop
  | nil : ListsAre led [] []
  | cons {d : Addr} {ivs : List Value} {k : Nat} {r : List Nat} {vs : List Value} {rs : List (List Nat)} : (d, listOf ivs.toArray k) ∈ led → IntsAre ivs (nz r) → ListsAre led vs rs → ListsAre led (.ref d :: vs) (r :: rs)
theorem ListsAre.mono {led led' : Led} {vs : List Value} {rs : List (List Nat)} (h : ListsAre led vs rs) (hs : ∀ p ∈ led, p ∈ led') : ListsAre led' vs rs := by
  induction h with
  | nil => exact .nil
  | cons a b _ ih => exact .cons (hs _ a) b ih
theorem ListsAre.snoc {led : Led} {vs : List Value} {rs : List (List Nat)} (h : ListsAre led vs rs) {d : Addr} {ivs : List Value} {k : Nat} {r : List Nat} (a : (d, listOf ivs.toArray k) ∈ led) (b : IntsAre ivs (nz r)) : ListsAre led (vs ++ [.ref d]) (rs ++ [r]) := by
  induction h with
  | nil => exact .cons a b .nil
  | cons x y _ ih => exact .cons x y ih
theorem ListsAre.length {led : Led} {vs : List Value} {rs : List (List Nat)} (h : ListsAre led vs rs) : vs.length = rs.length := by
  induction h with
  | nil => rfl
  | cons _ _ _ ih => rw [List.length_cons, List.length_cons, ih]
theorem ListsAre.get {led : Led} {vs : List Value} {rs : List (List Nat)} (h : ListsAre led vs rs) {i : Nat} {v : Value} (e : vs[i]? = some v) : ∃ d ivs k r, rs[i]? = some r ∧ v = .ref d ∧ (d, listOf (List.toArray ivs) k) ∈ led ∧ IntsAre ivs (nz r) := by
  induction h generalizing i with
  | nil => cases e
  | cons a b _ ih =>
    cases i with
    | zero => cases e; exact ⟨_, _, _, _, rfl, rfl, a, b⟩
    | succ i => exact ih e
theorem nz_length {l : List Nat} : (nz l).length = l.length := List.length_map _
theorem nz_idx {l : List Nat} {x : Nat} : (nz l).idxOf (x : Int) = l.idxOf x := by
  induction l with
  | nil => rfl
  | cons y r ih =>
    show ((y : Int) :: nz r).idxOf (x : Int) = (y :: r).idxOf x
    rw [List.idxOf_cons, List.idxOf_cons, ih]
    have e : ((y : Int) == (x : Int)) = (y == x) := by
      rw [Bool.eq_iff_iff, beq_iff_eq, beq_iff_eq]; omega
    rw [e]
theorem nz_mem {l : List Nat} {x : Nat} : (x : Int) ∈ nz l ↔ x ∈ l := by
  constructor
  · intro h
    obtain ⟨y, hy, e⟩ := List.mem_map.mp h
    rw [show x = y by omega]; exact hy
  · exact fun h => List.mem_map.mpr ⟨x, h, rfl⟩
theorem nz_getD {l : List Nat} {i : Nat} : (nz l).getD i 0 = ((l.getD i 0 : Nat) : Int) := by
  rw [List.getD_eq_getElem?_getD, List.getD_eq_getElem?_getD, List.getElem?_map]
  cases l[i]? <;> rfl
theorem nz_append {a b : List Nat} : nz (a ++ b) = nz a ++ nz b := List.map_append
section
variable {prog : Program} {w : World} {A : Around} {E : Value → Shared → Prop} {s : Shared} {h₀ : Heap} {L D : Addr} {news : Led} {vs : List Value} {gl : List Nat} {n x : Nat} {t : Tok}
theorem idx_nat {Q : Value → Shared → Prop} (N : News h₀ L s.heap news) (hm : (D, listOf vs.toArray n) ∈ news) (hi : IntsAre vs (nz gl)) (hk : x ∈ gl) (hz : gl.length ≤ 1000000)
    (h : ∀ u, Q (.int ((gl.idxOf x : Nat) : Int) u) { s with toks := s.toks + 1 }) : wpAny (model prog w) A (call (.builtin "list.index") [.ref D, .int (x : Int) t]) Q E s :=
  idx_ints N hm hi (nz_mem.mpr hk) (by rw [nz_length]; exact hz) (fun u => by rw [nz_idx]; exact h u)
end
section
variable {prog : Program} {w : World} {A : Around} {E : Value → Shared → Prop} {s : Shared} {env : Env} {h₀ : Heap} {x : Str} {body : List Stmt} {Q : Flow → Shared → Prop}
/-- from nought on -/
theorem loop_range0 {r : Addr} {b₀ : Int} {t₀ u₀ v₀ : Tok} {n : Nat} {m₀ : Str → Option Value} {news nx₀ : Led} (J : Nat → (Str → Option Value) → Led → Prop)
    (hh : A.handled = none) (hr : IsRange s.heap r 0 b₀ 1 t₀ u₀ v₀) (hb : b₀ = (n : Int)) (hz : n ≤ 1000000) (F : Fr h₀ env.locals s.heap m₀) (N : News h₀ env.locals s.heap news)
    (hn : ∀ p ∈ nx₀, p ∈ news) (hj : J 0 m₀ nx₀)
    (turn : ∀ i m₁ nx h tk own t, i < n → OwnOff own (nx.map (·.1)) → J i m₁ nx → Fr h₀ env.locals h (fun y => if y = x then some (.int (i : Int) t) else m₁ y) → News h₀ env.locals h (nx ++ own) →
      wpAny (model prog w) A (execs body env) (InvPostG h₀ env.locals (J (i + 1)) own { s with heap := h, toks := tk } Q) E { s with heap := h, toks := tk })
    (done : ∀ m₁ nx h tk, J n m₁ nx → Fr h₀ env.locals h m₁ → News h₀ env.locals h nx → Q .next { s with heap := h, toks := tk }) :
    wpAny (model prog w) A (pyIter (.ref r)) (fun it s₂ => LoopAtV prog w A h₀ env x body Q E it s₂) E s := by
  subst hb
  refine loop_range (n := n) J hh hr ?_ ?_ F N hn hj (fun i m₁ nx h tk own t hi ho hJ F₁ N₁ => turn i m₁ nx h tk own t hi ho hJ (by rw [Int.zero_add] at F₁; exact F₁) N₁) done
  · have e : Builtin.Range.rangeSize 0 (n : Int) 1 = (n : Int) := by
      unfold Builtin.Range.rangeSize
      by_cases h : n = 0
      · subst h; rfl
      · rw [if_pos (by decide), if_pos (by omega)]; omega
    have f : Builtin.Range.rangeFitsLong (n : Int) = true := by
      unfold Builtin.Range.rangeFitsLong
      simp only [Bool.and_eq_true, decide_eq_true_eq]; omega
    have f1 : Builtin.Range.rangeFitsLong 1 = true := by decide
    have f0 : Builtin.Range.rangeFitsLong 0 = true := by decide
    have g : (n : Int) + (1 - 1) = n := by omega
    unfold Builtin.Range.small
    rw [e, f, f1, f0, g, f]
    simp
  · unfold Builtin.Range.rangeSize
    by_cases h : n = 0
    · subst h; rfl
    · rw [if_pos (by decide), if_pos (by omega)]; omega
end

theorem own_off {own nx : Led} {d : Addr} {o : Obj} (h : OwnOff own (nx.map (·.1))) (hm : (d, o) ∈ nx) : Off d own := fun q hq => h q hq d (List.mem_map.mpr ⟨_, hm, rfl⟩)
theorem own_of {own nx : Led} (h : ∀ p ∈ nx, Off p.1 own) : OwnOff own (nx.map (·.1)) := fun q hq b hb => by
  obtain ⟨p, hp, rfl⟩ := List.mem_map.mp hb
  exact h p hp q hq

theorem allLt_left {d : Addr} : ∀ {l r : Led}, AllLt d (l ++ r) → AllLt d l
  | [], _, _ => trivial
  | _ :: _, _, h => ⟨h.1, allLt_left h.2⟩
theorem allLt_right {d : Addr} : ∀ {l r : Led}, AllLt d (l ++ r) → AllLt d r
  | [], _, h => h
  | _ :: l, _, h => allLt_right (l := l) h.2

def cnt (a b n : Nat) : Nat := if b == a then n else n + 1
section
variable {prog : Program} {w : World} {A : Around} {E : Value → Shared → Prop} {s : Shared} {h₀ : Heap} {L D b : Addr} {m : Str → Option Value} {news news' : Led} {vs ws : List Value} {n n2 : Nat}
theorem ext_any {Q : Value → Shared → Prop} (F : Fr h₀ L s.heap m) (N : News h₀ L s.heap news) (hb : (b, listOf ws.toArray n2) ∈ news) (U : Upd D (listOf vs.toArray n) (listOf (vs ++ ws).toArray (cnt vs.length (vs ++ ws).length n)) news news') (hz : vs.length + ws.length ≤ 1000000)
    (h : ∀ h', Fr h₀ L h' m → News h₀ L h' news' → Q .none { s with heap := h' }) : wpAny (model prog w) A (call (.builtin "list.extend") [.ref D, .ref b]) Q E s := by
  obtain ⟨pre, post, rfl, rfl, a, c⟩ := U.split
  have z := N (D, listOf vs.toArray n) (List.mem_append.mpr (.inr (.head _)))
  have hz' : vs.toArray.size + ws.toArray.size ≤ sizeLine := by rw [List.size_toArray, List.size_toArray, sizeLine_eq]; omega
  refine call_meets PySem.F.slot_list_extend ⟨_, z.1, rfl⟩ PySem.F.entry_list_extend (PySem.F.args_list_extend_2 _ _)
    (AutoSeq1.list_extend_list_list_0 D vs.toArray n b ws.toArray n2 (extend_door hz') (Nat.le_trans (Nat.le_add_right _ _) hz')) ⟨z.1, (N _ hb).1, h _ (F.change (Heap.SameBut.update ..) z.2.1 z.2.2) (ki_turn (fun x => x ++ ws.toArray) N a c ?_ ?_)⟩
  · simp
  · unfold cnt; simp
end

theorem nz_any {l : List Nat} {i : Nat} : (nz l).any (fun x => x == (i : Int)) = decide (i ∈ l) := by
  rw [Bool.eq_iff_iff, List.any_eq_true, decide_eq_true_iff]
  constructor
  · rintro ⟨x, hx, e⟩
    rw [beq_iff_eq.mp e] at hx
    exact nz_mem.mp hx
  · exact fun h => ⟨_, nz_mem.mpr h, beq_iff_eq.mpr rfl⟩
theorem nz_at {l : List Nat} {i : Nat} : (nz l).getD (i : Int).toNat 0 = ((l.getD i 0 : Nat) : Int) := by rw [Int.toNat_natCast, nz_getD]

section
variable {prog : Program} {w : World} {A : Around} {E : Value → Shared → Prop} {s : Shared} {h₀ : Heap} {L a b : Addr} {m : Str → Option Value} {news : Led} {vs ws : List Value} {ns ms : List Int} {n1 n2 : Nat}
theorem add_ints {Q : Value → Shared → Prop} (F : Fr h₀ L s.heap m) (N : News h₀ L s.heap news) (ha : (a, listOf vs.toArray n1) ∈ news) (hb : (b, listOf ws.toArray n2) ∈ news) (hi : IntsAre vs ns) (hj : IntsAre ws ms) (hz : ns.length + ms.length ≤ 1000000)
    (h : ∀ D us ns' h', Fr h₀ L h' m → News h₀ L h' ((D, listOf (List.toArray us) 0) :: news) → (∀ p ∈ news, p.1 < D) → IntsAre us ns' → ns' = ns ++ ms → ns'.length = ns.length + ms.length → us.length = ns'.length → Q (.ref D) { s with heap := h' }) :
    wpAny (model prog w) A (binaryOp .Add (.ref a) (.ref b)) Q E s :=
  add_lists_ints (hsz := by rw [sizeLine_eq]; omega) F N (PySem.IsL.isList (n := n1) (N _ ha).1) (PySem.IsL.isList (n := n2) (N _ hb).1) hi hj fun h' F' N' hI => h _ _ _ h' F' N' (fun p hp => Heap.lt_size (N p hp).1) hI rfl List.length_append hI.length
end

section
variable {prog : Program} {w : World} {A : Around} {E : Value → Shared → Prop} {s : Shared} {h₀ : Heap} {L a : Addr} {news : Led} {vs : List Value} {n k : Nat}
theorem len_any {Q : Value → Shared → Prop} (N : News h₀ L s.heap news) (hm : (a, listOf vs.toArray n) ∈ news) (e : vs.length = k) (hz : k ≤ 1000000) (h : ∀ t tk, Q (.int (k : Int) t) { s with toks := tk }) :
    wpAny (model prog w) A (call (.builtin "len") [.ref a]) Q E s := kst_len N hm e (by omega) (h _ _)
end

theorem enc_row (row : List Nat) : (rangeKs 0 (((nz row).length : Int) - 1 - 0).toNat).map (fun k => 64 * (nz row).getD k.toNat 0 + 8388608 * (nz row).getD (k + 1).toNat 0) = encs (consec row) := by
  rw [consec_range, nz_length]
  unfold rangeKs
  rw [List.map_map, encs, List.map_map, show ((row.length : Int) - 1 - 0).toNat = row.length - 1 by omega]
  refine List.map_congr_left fun i _ => ?_
  show 64 * (nz row).getD (0 + (i : Int)).toNat 0 + 8388608 * (nz row).getD (0 + (i : Int) + 1).toNat 0 = 64 * ((row.getD i 0 : Nat) : Int) + 8388608 * ((row.getD (i + 1) 0 : Nat) : Int)
  rw [show (0 + (i : Int)).toNat = i by omega, show (0 + (i : Int) + 1).toNat = i + 1 by omega, nz_getD, nz_getD]
theorem moves_take {n i : Nat} {rs : List (List Nat)} {r : List Nat} (h : rs[i]? = some r) : movesOf n (rs.take (i + 1)) = movesOf n (rs.take i) ++ ringMoves n r := by
  unfold movesOf
  rw [List.take_add_one, h, List.flatMap_append]
  simp

theorem nz_row {n : Nat} {r : List Nat} : [(n : Int)] ++ nz r ++ [(n : Int)] = nz (ringRow n r) := by
  show (n : Int) :: (nz r ++ [(n : Int)]) = (n : Int) :: nz (r ++ [n])
  rw [nz_append]; rfl

section
variable {prog : Program} {w : World} {A : Around} {E : Value → Shared → Prop} {s : Shared} {h₀ : Heap} {L a b : Addr} {m : Str → Option Value} {news : Led} {vs ws : List Value} {n1 n2 : Nat}
theorem add_any {Q : Value → Shared → Prop} (F : Fr h₀ L s.heap m) (N : News h₀ L s.heap news) (ha : (a, listOf vs.toArray n1) ∈ news) (hb : (b, listOf ws.toArray n2) ∈ news) (hz : vs.length + ws.length ≤ 1000000)
    (h : ∀ D us h', Fr h₀ L h' m → News h₀ L h' ((D, listOf (List.toArray us) 0) :: news) → (∀ p ∈ news, p.1 < D) → us = vs ++ ws → us.length = vs.length + ws.length → Q (.ref D) { s with heap := h' }) :
    wpAny (model prog w) A (binaryOp .Add (.ref a) (.ref b)) Q E s :=
  add_lists (hsz := by rw [sizeLine_eq]; omega) F N (PySem.IsL.isList (n := n1) (N _ ha).1) (PySem.IsL.isList (n := n2) (N _ hb).1) fun h' F' N' => h _ _ h' F' N' (fun p hp => Heap.lt_size (N p hp).1) rfl List.length_append
theorem item_any {value slice : PySem.Expr} {k : Int} {u : Tok} {Q : Value → Shared → Prop} (N : News h₀ L s.heap news) (hm : (a, listOf vs.toArray n1) ∈ news) (h0 : 0 ≤ k) (h1 : k < vs.length) (hz : vs.length ≤ 1000000) (h : Q (vs.getD k.toNat .none) s)
    (hs : subscripted slice false (.ref a) (.int k u) = operate [.ref a, .int k u] (getItem (.ref a) (.int k u)) := by with_unfolding_all rfl) (hg : ∀ r, letTemporaryGo value (.ref a) r = pure () := by intro _; with_unfolding_all rfl) :
    wpAny (model prog w) A (subscriptTail value slice (.ref a) (.int k u)) Q E s :=
  kim_list N hm rfl rfl h0 (by omega) (by rw [List.getD_eq_getElem?_getD, List.getElem?_eq_getElem (by omega)]; rfl) h hs hg
theorem slice_head {value slice : PySem.Expr} {x y : Int} {t1 t2 : Tok} {Q : Value → Shared → Prop} (F : Fr h₀ L s.heap m) (N : News h₀ L s.heap news) (hm : (a, listOf vs.toArray n1) ∈ news) (hx : x = 0) (h0 : 0 ≤ y) (hz : vs.length ≤ 1000000)
    (h : ∀ D h', Fr h₀ L h' m → News h₀ L h' ((D, listOf (vs.take y.toNat).toArray 0) :: news) → (∀ p ∈ news, p.1 < D) → Q (.ref D) { s with heap := h' })
    (hs : subscripted slice false (.ref a) (.ref s.heap.objs.size) = operate [.ref s.heap.objs.size, .ref a] (getItem (.ref a) (.ref s.heap.objs.size))) (ht : ∀ r, letTemporaryGo value (.ref a) r = pure ()) :
    wpAny (model prog w) A (subscriptTail value slice (.ref a) (.ref s.heap.objs.size)) Q E { s with heap := s.heap.push { cls := .type "slice", data := .fields #[.int x t1, .int y t2, .none] } } := by
  subst hx
  refine kms_slice_lit F N (PySem.IsL.isList (n := n1) (N _ hm).1) (IsPart.int _ _) (IsPart.int _ _) ?_ h hs ht (by rw [sizeLine_eq, List.size_toArray]; omega)
  show (vs.drop (kms_lo (some 0) vs.length)).take (kms_hi (some y) vs.length - kms_lo (some 0) vs.length) = vs.take y.toNat
  have e1 : kms_lo (some 0) vs.length = 0 := by simp [kms_lo]
  have e2 : kms_hi (some y) vs.length = min y.toNat vs.length := by
    show (if y < 0 then vs.length - (-y).toNat else min y.toNat vs.length) = _
    exact if_neg (by omega)
  rw [e1, e2, List.drop_zero, Nat.sub_zero, ← List.take_eq_take_min]
theorem set_any {D : Addr} {n : Nat} {news' : Led} {k : Int} {t : Tok} {v : Value} {Q : Unit → Shared → Prop} (F : Fr h₀ L s.heap m) (N : News h₀ L s.heap news) (U : Upd D (listOf vs.toArray n) (listOf (vs.set k.toNat v).toArray n) news news') (h0 : 0 ≤ k) (h1 : k < vs.length) (hz : vs.length ≤ 1000000)
    (h : ∀ h', Fr h₀ L h' m → News h₀ L h' news' → Q () { s with heap := h' }) :
    wpAny (model prog w) A (setItem (.ref D) (.int k t) v) Q E s := by
  obtain ⟨pre, post, rfl, rfl, a, b⟩ := U.split
  have z := N (D, listOf vs.toArray n) (List.mem_append.mpr (.inr (.head _)))
  refine ki_setAt z.1 h0 (by omega) (by rw [List.size_toArray]; omega) (h _ (F.change (Heap.SameBut.update ..) z.2.1 z.2.2) (ki_turn _ N a b ?_ ?_))
  · show vs.toArray.setIfInBounds k.toNat v = (vs.set k.toNat v).toArray
    apply Array.toList_inj.mp
    simp
  · simp
theorem mul_one' {v : Value} {x : Int} {u : Tok} {Q : Value → Shared → Prop} (F : Fr h₀ L s.heap m) (N : News h₀ L s.heap news) (ha : (a, listOf #[v] n1) ∈ news) (hlo : -(2 ^ 63 : Int) ≤ x) (hhi : x < 2 ^ 63) (hsz : x.toNat ≤ 256)
    (h : ∀ D h', Fr h₀ L h' m → News h₀ L h' ((D, listOf (List.replicate x.toNat v).toArray 0) :: news) → (∀ p ∈ news, p.1 < D) → Q (.ref D) { s with heap := h' }) :
    wpAny (model prog w) A (binaryOp .Mult (.ref a) (.int x u)) Q E s :=
  KMa.mul (vs := [v]) F N (PySem.IsL.isList (n := n1) (N _ ha).1) hlo hhi (by rw [List.length_singleton, Nat.one_mul]; exact hsz) (by induction x.toNat with | zero => rfl | succ k ih => rw [List.replicate_succ, List.flatten_cons, ih, List.replicate_succ]; rfl) h
theorem mul_any {x : Int} {u : Tok} {ws' : List Value} {Q : Value → Shared → Prop} (F : Fr h₀ L s.heap m) (N : News h₀ L s.heap news) (ha : (a, listOf vs.toArray n1) ∈ news) (hlo : -(2 ^ 63 : Int) ≤ x) (hhi : x < 2 ^ 63) (hsz : vs.length * x.toNat ≤ 256) (e : (List.replicate x.toNat vs).flatten = ws')
    (h : ∀ D h', Fr h₀ L h' m → News h₀ L h' ((D, listOf ws'.toArray 0) :: news) → (∀ p ∈ news, p.1 < D) → Q (.ref D) { s with heap := h' }) :
    wpAny (model prog w) A (binaryOp .Mult (.ref a) (.int x u)) Q E s :=
  KMa.mul F N (PySem.IsL.isList (n := n1) (N _ ha).1) hlo hhi hsz e h
end

theorem CSpec.use0 {prog : Program} {w : World} {K : Frag} {p : Program} {loose : List Str} {mean : ExcName → Option Value} {mg mb : Str → Option Value} {f : Addr} {nd : Nat} {vs : List Value} {news : Led} {dp un : Nat} {gd : Option (List Code)} {cn : Str} {cs : Scope} {a : Addr} {ccd : Value} {cl : List (Str × Addr)} {outer : List Env} {A₀ : Around} {base h₀ : Heap} {L : Addr} {m : Str → Option Value} {s : Shared}
    {Q E : Value → Shared → Prop} {v : Int} (B : Below A₀ base outer h₀) (F : Fr h₀ L s.heap m) (X : K.In h₀) (N : News h₀ L s.heap news) (T : Top p loose mean mg mb h₀)
    (C : CSpec prog w K p loose mean mg mb f nd vs [] (fun r chg new => ∃ u, r = .int v u ∧ chg = [] ∧ new = [])) (hk : cs.kind = .function) (hd : dp + nd < recursionLimit) (hu : un + 8 * nd < cLine)
    (ret : ∀ u h' tk', Fr h₀ L h' m → News h₀ L h' news → Q (.int v u) { s with heap := h', toks := tk' }) :
    wpAny (model prog w) (ktrTop dp un gd cn cs L a ccd cl outer) (call (.ref f) vs) Q E s :=
  CSpec.use (rest := news) B F X N T .nil C hk (fun _ h => nomatch h) hd hu fun r chg new h' tk' F N _ hp => by
    obtain ⟨u, rfl, rfl, rfl⟩ := hp
    exact ret u h' tk' F N

theorem CSpec.use0R {prog : Program} {w : World} {K : Frag} {p : Program} {loose : List Str} {mean : ExcName → Option Value} {mg mb : Str → Option Value} {f : Addr} {nd : Nat} {vs : List Value} {news : Led} {dp un : Nat} {gd : Option (List Code)} {cn : Str} {cs : Scope} {a : Addr} {ccd : Value} {cl : List (Str × Addr)} {outer : List Env} {A₀ : Around} {base h₀ : Heap} {L : Addr} {m : Str → Option Value} {s : Shared}
    {Q E : Value → Shared → Prop} (B : Below A₀ base outer h₀) (F : Fr h₀ L s.heap m) (X : K.In h₀) (N : News h₀ L s.heap news) (T : Top p loose mean mg mb h₀)
    (C : CSpec prog w K p loose mean mg mb f nd vs [] (fun r chg new => ∃ x, r = .ref x ∧ chg = [] ∧ new = [])) (hk : cs.kind = .function) (hd : dp + nd < recursionLimit) (hu : un + 8 * nd < cLine)
    (ret : ∀ x h' tk', Fr h₀ L h' m → News h₀ L h' news → Q (.ref x) { s with heap := h', toks := tk' }) :
    wpAny (model prog w) (ktrTop dp un gd cn cs L a ccd cl outer) (call (.ref f) vs) Q E s :=
  CSpec.use (rest := news) B F X N T .nil C hk (fun _ h => nomatch h) hd hu fun r chg new h' tk' F N _ hp => by
    obtain ⟨u, rfl, rfl, rfl⟩ := hp
    exact ret u h' tk' F N

/-- a table of made codes, whatever stands in it -/
structure TabOk (ps : Array Value) : Prop where
  tr : TriplesOk ps.toList
  co : ∀ pos v, codeAmong pos ps.toList = some v → ∃ c', v = .ref c'
theorem tabOk_nil : TabOk #[] := ⟨trivial, fun _ _ h => nomatch h⟩
theorem codeAmong_put {q : Pos} {l c : Int} {v : Value} : ∀ {ps : List Value}, TriplesOk ps → codeAmong q (ps ++ [rawInt l, rawInt c, v]) = (match codeAmong q ps with | some x => some x | none => if l == q.line && c == q.col then some v else none)
  | [], _ => by simp [codeAmong, rawInt]
  | .int a t :: .int b u :: x :: rest, h => by
    have ih := codeAmong_put (q := q) (l := l) (c := c) (v := v) (ps := rest) h
    show (if a == q.line && b == q.col then some x else codeAmong q (rest ++ [rawInt l, rawInt c, v])) = (match (if a == q.line && b == q.col then some x else codeAmong q rest) with | some x => some x | none => _)
    split
    · rfl
    · exact ih
theorem triples_put {l c : Int} {v : Value} : ∀ {ps : List Value}, TriplesOk ps → TriplesOk (ps ++ [rawInt l, rawInt c, v])
  | [], _ => trivial
  | .int a t :: .int b u :: x :: rest, h => triples_put (ps := rest) h
theorem tabOk_put {ps : Array Value} {l c : Int} {c' : Addr} (h : TabOk ps) : TabOk (ps ++ #[rawInt l, rawInt c, .ref c']) := by
  refine ⟨?_, fun pos v e => ?_⟩
  · rw [Array.toList_append]; exact triples_put h.1
  · rw [Array.toList_append, codeAmong_put h.1] at e
    cases e2 : codeAmong pos ps.toList with
    | some x => rw [e2] at e; cases e; exact h.2 pos _ e2
    | none =>
      rw [e2] at e
      dsimp only at e
      split at e
      · cases e; exact ⟨_, rfl⟩
      · cases e
section
variable {M : Model} {A : Around} {E : Value → Shared → Prop} {s : Shared} {h₀ : Heap} {L a c P : Addr} {m mg mb : Str → Option Value} {cn : Str} {cs : Scope} {ccd : Value} {cl : List (Str × Addr)} {news : Led} {g : Obj → Led}
  {p : Program} {loose : List Str} {mean : ExcName → Option Value} {params : Arguments} {body : Expr} {scope : Scope} {ps : Array Value} {pos : Pos} {clos : List (Str × Addr)}
theorem lam_any {Q : Value → Shared → Prop} (F : Fr h₀ L s.heap m) (N : News h₀ L s.heap news) (T : Top p loose mean mg mb h₀) (C : CodeHd h₀ c P) (hcd : ccd = .ref c) (U : UpdF P (tabObj ps) news g) (ht : TabOk ps)
    (hcl : closureFor scope (envX cn cs L a ccd cl) = pure clos) (hdef : defaultsOf params (envX cn cs L a ccd cl) = ([], []))
    (h : ∀ f ps' h' tk, Fr h₀ L h' m → News h₀ L h' (g (tabObj ps')) → TabOk ps' → Q (.ref f) { s with heap := h', toks := tk }) :
    wpAny M A (eval (.Lambda params body scope pos) (envX cn cs L a ccd cl)) Q E s := by
  refine kla_eval hdef ?_
  cases e : codeAmong pos ps.toList with
  | none =>
    exact kla_nest F N T C hcd U ht.1 e hcl fun f c' oc vs t ctv h' tk F' N' _ _ _ _ => h f _ h' tk F' (kst_newsOf N' fun p hp => .tail _ (.tail _ hp)) (tabOk_put ht)
  | some v =>
    obtain ⟨c', rfl⟩ := ht.2 pos v e
    obtain ⟨pre, post, rfl, hg, _, _⟩ := U.split
    exact kla_hit F N T C hcd (List.mem_append_right _ (.head _)) ht.1 e hcl fun f ctv h' tk F' N' _ => h f ps h' tk F' (by rw [hg]; exact kst_newsOf N' fun p hp => .tail _ hp) ht
end
/-- the attributes of a Stepper -/
abbrev sEnts (w : World) (t0 t1 t2 t3 t4 t5 t6 t7 t8 : Tok) (v0 v1 v2 v3 v4 v5 v6 v7 v8 : Value) : List DictEntry :=
  [{ hash := PyData.keyHash w.params (Str.ofString "code"), key := Value.str (Str.ofString "code") t0, val := v0 },
   { hash := PyData.keyHash w.params (Str.ofString "constants"), key := Value.str (Str.ofString "constants") t1, val := v1 },
   { hash := PyData.keyHash w.params (Str.ofString "stack"), key := Value.str (Str.ofString "stack") t2, val := v2 },
   { hash := PyData.keyHash w.params (Str.ofString "room"), key := Value.str (Str.ofString "room") t3, val := v3 },
   { hash := PyData.keyHash w.params (Str.ofString "limits"), key := Value.str (Str.ofString "limits") t4, val := v4 },
   { hash := PyData.keyHash w.params (Str.ofString "works"), key := Value.str (Str.ofString "works") t5, val := v5 },
   { hash := PyData.keyHash w.params (Str.ofString "pc"), key := Value.str (Str.ofString "pc") t6, val := v6 },
   { hash := PyData.keyHash w.params (Str.ofString "top"), key := Value.str (Str.ofString "top") t7, val := v7 },
   { hash := PyData.keyHash w.params (Str.ofString "result"), key := Value.str (Str.ofString "result") t8, val := v8 }]

section
variable {prog : Program} {w : World} {A : Around} {E : Value → Shared → Prop} {s : Shared} {h₀ : Heap} {L D : Addr} {m : Str → Option Value} {news news' : Led} {vs : List Value} {n : Nat}
theorem pop_any {k : Int} {u : Tok} {Q : Value → Shared → Prop} (F : Fr h₀ L s.heap m) (N : News h₀ L s.heap news) (U : Upd D (listOf vs.toArray n) (listOf (vs.eraseIdx k.toNat).toArray (n + 1)) news news') (h0 : 0 ≤ k) (h1 : k < vs.length) (hz : vs.length ≤ 1000000)
    (h : ∀ h', Fr h₀ L h' m → News h₀ L h' news' → Q (vs.getD k.toNat .none) { s with heap := h' }) : wpAny (model prog w) A (call (.builtin "list.pop") [.ref D, .int k u]) Q E s := by
  obtain ⟨pre, post, rfl, rfl, a, b⟩ := U.split
  have z := N (D, listOf vs.toArray n) (List.mem_append.mpr (.inr (.head _)))
  have hk : k.toNat < vs.length := by omega
  have hf : Builtin.List.listFitsIndex k = true := by
    unfold Builtin.List.listFitsIndex
    simp only [Bool.and_eq_true, decide_eq_true_eq]
    omega
  have hs : seqIndex? k vs.toArray.size = some k.toNat := by
    unfold seqIndex?
    simp
    omega
  have hy : vs.toArray[k.toNat]? = some (vs.getD k.toNat .none) := by
    rw [List.getElem?_toArray, List.getD_eq_getElem?_getD, List.getElem?_eq_getElem hk]; rfl
  refine call_meets PySem.F.slot_list_pop ⟨_, z.1, rfl⟩ PySem.F.entry_list_pop (PySem.F.args_list_pop_2 _ _) (PySem.MeetsSeq.list_pop_at D _ n k u _ _ hf hs hy (by rw [sizeLine_eq, List.size_toArray]; omega)) ⟨z.1, h _ (F.change (Heap.SameBut.update ..) z.2.1 z.2.2) (kl_turn _ N a b ?_ ?_)⟩
  · show vs.toArray.eraseIdxIfInBounds k.toNat = _
    unfold Array.eraseIdxIfInBounds
    rw [dif_pos (by rw [List.size_toArray]; exact hk)]
    apply Array.toList_inj.mp
    rw [Array.toList_eraseIdx]
  · rw [List.size_toArray, List.size_toArray, List.length_eraseIdx, if_pos hk]
    omega
theorem ints_erase {vs : List Value} {ns : List Int} (h : IntsAre vs ns) : ∀ i, IntsAre (vs.eraseIdx i) (ns.eraseIdx i) := by
  induction h with
  | nil => intro i; exact .nil
  | cons n t r ih =>
    intro i
    cases i with
    | zero => exact r
    | succ i => exact .cons n t (ih i)
theorem nz_erase {l : List Nat} : ∀ {i : Nat}, (nz l).eraseIdx i = nz (l.eraseIdx i) := by
  induction l with
  | nil => intro i; rfl
  | cons a r ih =>
    intro i
    cases i with
    | zero => rfl
    | succ i => exact congrArg (List.cons (a : Int)) ih
theorem pop_nat {k : Int} {u : Tok} {ls : List Nat} {Q : Value → Shared → Prop} (F : Fr h₀ L s.heap m) (N : News h₀ L s.heap news) (U : Upd D (listOf vs.toArray n) (listOf (vs.eraseIdx k.toNat).toArray (n + 1)) news news') (hi : IntsAre vs (nz ls)) (h0 : 0 ≤ k) (h1 : k < vs.length) (hz : vs.length ≤ 1000000)
    (h : ∀ h' t, Fr h₀ L h' m → News h₀ L h' news' → IntsAre (vs.eraseIdx k.toNat) (nz (ls.eraseIdx k.toNat)) → Q (.int ((ls.getD k.toNat 0 : Nat) : Int) t) { s with heap := h' }) : wpAny (model prog w) A (call (.builtin "list.pop") [.ref D, .int k u]) Q E s := by
  have hl := hi.length
  rw [nz_length] at hl
  have hv : ∃ t, vs.getD k.toNat .none = .int ((ls.getD k.toNat 0 : Nat) : Int) t := by
    have key : ∀ {us : List Value} {xs : List Int}, IntsAre us xs → ∀ j, j < us.length → ∃ t, us.getD j .none = .int (xs.getD j 0) t := by
      intro us xs hi
      induction hi with
      | nil => intro j hj; exact absurd hj (Nat.not_lt_zero _)
      | cons n t r ih =>
        intro j hj
        cases j with
        | zero => exact ⟨t, rfl⟩
        | succ j => exact ih j (Nat.lt_of_succ_lt_succ hj)
    obtain ⟨t, e⟩ := key hi k.toNat (by omega)
    rw [nz_getD] at e
    exact ⟨t, e⟩
  obtain ⟨t, e⟩ := hv
  refine pop_any F N U h0 h1 hz fun h' F' N' => ?_
  rw [e]
  refine h h' t F' N' ?_
  rw [← nz_erase]
  exact ints_erase hi _
end
section
variable {prog : Program} {w : World} {A : Around} {h₀ : Heap} {L : Addr} {m : Str → Option Value} {env : Env} {elt : Expr} {x : Str} {scope : Scope} {cl : List (Str × Addr)} {s : Shared} {S : Led → Prop} {P : Nat → Value → Prop} {Fin : List Value → Led → Prop} {n : Nat} {news : Led}
theorem comp_ind (Inv : Nat → List Value → Led → Prop) (hi : Inv 0 [] news)
    (turn : ∀ i ys news v I oI C oC D m₂ h tk (E' : Value → Shared → Prop), i < n → Inv i ys news → P i v → LCg.NsObj oC m₂ → m₂ x = some v → Fr h₀ L h m → News h₀ L h ((I, oI) :: (C, oC) :: (D, LCg.lst ys) :: news) → LCg.Off3 I C D news → ((@Ne Nat I C) ∧ (@Ne Nat I D) ∧ (@Ne Nat C D)) →
      wpAny (model prog w) A (eval elt (compEnvC scope cl C env)) (LCg.CompEnd h₀ L m { s with heap := h, toks := tk } I oI C oC D (LCg.lst ys) S (fun y news' => Inv (i + 1) (ys ++ [y]) news')) E' { s with heap := h, toks := tk })
    (fin : ∀ ys news, Inv n ys news → Fin ys news) : LCg.CompRest prog w A h₀ L m env elt x scope cl s S P Fin n 0 [] news := by
  have key : ∀ (j i : Nat) (ys : List Value) (news : Led), i + j = n → Inv i ys news → LCg.CompRest prog w A h₀ L m env elt x scope cl s S P Fin j i ys news := by
    intro j
    induction j with
    | zero =>
      intro i ys news e h
      obtain rfl : i = n := e
      exact LCg.CompRest.zero (fin _ _ h)
    | succ j ih =>
      intro i ys news e h
      refine LCg.CompRest.succ ?_
      intro v I oI C oC D m₂ h' tk E' a1 a2 a3 a4 a5 a6 a7
      refine wpAny_mono (turn i ys news v I oI C oC D m₂ h' tk E' (by omega) h a1 a2 a3 a4 a5 a6 a7) ?_ fun _ _ q => q
      rintro y s' ⟨h2, tk2, news2, e2, F2, N2, o2, hS, r⟩
      exact ⟨h2, tk2, news2, e2, F2, N2, o2, hS, ih (i + 1) _ _ (by omega) r⟩
  exact key n 0 [] news (Nat.zero_add _) hi
end
theorem off3_of {I C D : Addr} {l : Led} (a : Off I l) (b : Off C l) (c : Off D l) : LCg.Off3 I C D l := LCg.Off3.of fun p hp => ⟨a p hp, b p hp, c p hp⟩
theorem off3_I {I C D : Addr} {l : Led} (h : LCg.Off3 I C D l) : Off I l := fun p hp => (h.mem p hp).1
theorem off3_C {I C D : Addr} {l : Led} (h : LCg.Off3 I C D l) : Off C l := fun p hp => (h.mem p hp).2.1
theorem off3_D {I C D : Addr} {l : Led} (h : LCg.Off3 I C D l) : Off D l := fun p hp => (h.mem p hp).2.2
theorem size0 {n : Nat} : Builtin.Range.rangeSize 0 (n : Int) 1 = (n : Int) := by
  unfold Builtin.Range.rangeSize
  by_cases h : n = 0
  · subst h; rfl
  · rw [if_pos (by decide), if_pos (by omega)]; omega
theorem small0 {n : Nat} (hz : n ≤ 1000000) : Builtin.Range.small 0 (n : Int) 1 = true := by
  have e : Builtin.Range.rangeSize 0 (n : Int) 1 = (n : Int) := size0
  have f : Builtin.Range.rangeFitsLong (n : Int) = true := by
    unfold Builtin.Range.rangeFitsLong
    simp only [Bool.and_eq_true, decide_eq_true_eq]; omega
  have f1 : Builtin.Range.rangeFitsLong 1 = true := by decide
  have f0 : Builtin.Range.rangeFitsLong 0 = true := by decide
  have g : (n : Int) + (1 - 1) = n := by omega
  unfold Builtin.Range.small
  rw [e, f, f1, f0, g, f]
  simp
theorem erase_perm : ∀ (l : List Nat) (i : Nat) (h : i < l.length), (l[i] :: l.eraseIdx i).Perm l
  | [], _, h => absurd h (Nat.not_lt_zero _)
  | a :: l, 0, _ => List.Perm.refl _
  | a :: l, i + 1, h => by
    show (l[i]'(Nat.lt_of_succ_lt_succ h) :: a :: l.eraseIdx i).Perm (a :: l)
    exact (List.Perm.swap _ _ _).trans ((erase_perm l i (Nat.lt_of_succ_lt_succ h)).cons a)
section
variable {prog : Program} {w : World} {A : Around} {E : Value → Shared → Prop} {s : Shared} {h₀ : Heap} {L r : Addr} {m : Str → Option Value} {news : Led} {b : Int} {t₀ u₀ v₀ : Tok} {n : Nat} {Q : Value → Shared → Prop}
theorem list_nat (hh : A.handled = none) (F : Fr h₀ L s.heap m) (N : News h₀ L s.heap news) (hr : IsRange s.heap r 0 b 1 t₀ u₀ v₀) (hb : b = (n : Int)) (hz : n ≤ 1000000)
    (h : ∀ D us c h' tk, Fr h₀ L h' m → News h₀ L h' ((D, listOf (List.toArray us) c) :: news) → (∀ p ∈ news, p.1 < D) → IntsAre us (nz (List.range n)) → Q (.ref D) { s with heap := h', toks := tk }) :
    wpAny (model prog w) A (call (.type "list") [.ref r]) Q E s := by
  subst hb
  refine kll_range hh F N hr (small0 hz) size0 (by omega) fun D us c h' tk F' N' l hI => h D us c h' tk F' N' l ?_
  have e : rangeKs 0 n = nz (List.range n) := by
    unfold rangeKs
    exact List.map_congr_left fun i _ => Int.zero_add _
  rw [← e]; exact hI
end
theorem ints_get {us : List Value} {xs : List Int} (hi : IntsAre us xs) : ∀ j, j < us.length → ∃ t, us.getD j .none = .int (xs.getD j 0) t := by
  induction hi with
  | nil => intro j hj; exact absurd hj (Nat.not_lt_zero _)
  | cons n t r ih =>
    intro j hj
    cases j with
    | zero => exact ⟨t, rfl⟩
    | succ j => exact ih j (Nat.lt_of_succ_lt_succ hj)
theorem ints_of_get : ∀ {us : List Value} {xs : List Int}, us.length = xs.length → (∀ j, j < us.length → ∃ t, us.getD j .none = .int (xs.getD j 0) t) → IntsAre us xs
  | [], [], _, _ => .nil
  | [], _ :: _, h, _ => by cases h
  | _ :: _, [], h, _ => by cases h
  | u :: us, x :: xs, h, k => by
    obtain ⟨t, e⟩ := k 0 (Nat.succ_pos _)
    have e' : u = .int x t := e
    subst e'
    exact .cons x t (ints_of_get (Nat.succ.inj h) fun j hj => k (j + 1) (Nat.succ_lt_succ hj))
theorem getD_take {α : Type} {d : α} {l : List α} {n j : Nat} (h : j < n) : (l.take n).getD j d = l.getD j d := by
  rw [List.getD_eq_getElem?_getD, List.getD_eq_getElem?_getD, List.getElem?_take_of_lt h]
theorem getD_left {α : Type} {d : α} {l r : List α} {j : Nat} (h : j < l.length) : (l ++ r).getD j d = l.getD j d := by
  rw [List.getD_eq_getElem?_getD, List.getD_eq_getElem?_getD, List.getElem?_append_left h]
theorem getD_mapR {f : Nat → Int} {n j : Nat} (h : j < n) : ((List.range n).map f).getD j 0 = f j := by
  rw [List.getD_eq_getElem?_getD, List.getElem?_map, List.getElem?_range h]; rfl
abbrev bank (nv : List Value) : List Value := nv ++ [Value.none] ++ List.replicate 12 Value.none
/-- what a run of the moves of a permutation brings about -/
theorem run_perm {gl : List Nat} (P : IsPerm gl) {nv : List Value} {f : Nat → Int} (h : IntsAre nv ((List.range gl.length).map f)) :
    IntsAre ((execR Value.none (movesOf gl.length (rings gl)) (bank nv)).take ((List.range gl.length).map f).length) ((List.range gl.length).map fun y => f (hI gl y)) := by
  have hl := h.length
  rw [List.length_map, List.length_range] at hl
  have hb : (bank nv).length = gl.length + 13 := by unfold bank; rw [List.length_append, List.length_append, hl]; rfl
  have hx : (execR Value.none (movesOf gl.length (rings gl)) (bank nv)).length = gl.length + 13 := by rw [execR_length, hb]
  rw [List.length_map, List.length_range]
  have ht : ((execR Value.none (movesOf gl.length (rings gl)) (bank nv)).take gl.length).length = gl.length := by rw [List.length_take, hx]; omega
  refine ints_of_get (by rw [ht, List.length_map, List.length_range]) fun j hj => ?_
  rw [ht] at hj
  have hh := hI_lt P hj
  rw [getD_take hj, exec_perm P (by omega) j hj, getD_mapR hj]
  unfold bank
  rw [List.append_assoc, getD_left (by omega)]
  have := ints_get h (hI gl j) (by omega)
  rw [getD_mapR hh] at this
  exact this
theorem now_step {gl : List Nat} (P : IsPerm gl) {nv : List Value} {first gap : Int} {t : Nat} (h : IntsAre nv ((List.range gl.length).map fun y => first + gap * ((it (hI gl) t y : Nat) : Int))) :
    IntsAre ((execR Value.none (movesOf gl.length (rings gl)) (bank nv)).take ((List.range gl.length).map fun y => first + gap * ((it (hI gl) t y : Nat) : Int)).length) ((List.range gl.length).map fun y => first + gap * ((it (hI gl) (t + 1) y : Nat) : Int)) := by
  have := run_perm P (f := fun y => first + gap * ((it (hI gl) t y : Nat) : Int)) h
  have e : ((List.range gl.length).map fun y => first + gap * ((it (hI gl) t (hI gl y) : Nat) : Int)) = (List.range gl.length).map fun y => first + gap * ((it (hI gl) (t + 1) y : Nat) : Int) := by
    refine List.map_congr_left fun y _ => ?_
    rw [it_succ' (k := t)]
  rw [← e]
  exact this
theorem consec_mem : ∀ {l : List Nat} {p : Nat × Nat}, p ∈ consec l → p.1 ∈ l ∧ p.2 ∈ l
  | [], _, h => nomatch h
  | [_], _, h => nomatch h
  | a :: b :: r, p, h => by
    rcases List.mem_cons.mp h with rfl | h
    · exact ⟨.head _, .tail _ (.head _)⟩
    · have := consec_mem (l := b :: r) h
      exact ⟨.tail _ this.1, .tail _ this.2⟩
theorem moves_le {gl : List Nat} (P : IsPerm gl) : ∀ p ∈ movesOf gl.length (rings gl), p.1 ≤ gl.length ∧ p.2 ≤ gl.length := by
  intro p hp
  obtain ⟨r, hr, hp⟩ := List.mem_flatMap.mp hp
  obtain ⟨x, hx, rfl⟩ := (ringsUpto_are P gl.length (Nat.le_refl _)).ring r hr
  have key : ∀ y ∈ ringRow gl.length (ring gl x), y ≤ gl.length := by
    intro y hy
    rcases List.mem_cons.mp hy with rfl | hy
    · exact Nat.le_refl _
    · rcases List.mem_append.mp hy with hy | hy
      · exact Nat.le_of_lt (ring_lt P hx hy)
      · rw [List.mem_singleton.mp hy]; exact Nat.le_refl _
  have := consec_mem hp
  exact ⟨key _ this.1, key _ this.2⟩
theorem moves_few {gl : List Nat} (P : IsPerm gl) (h : gl.length ≤ 10) : (movesOf gl.length (rings gl)).length ≤ 110 := by
  rw [movesOf_length, ← List.length_flatten]
  have z1 : (rings gl).length ≤ _ := ringsUpto_len (gl := gl) gl.length
  have z2 : (rings gl).flatten.length ≤ _ := ringsUpto_flat P gl.length (Nat.le_refl _)
  have z3 : gl.length * gl.length ≤ 10 * 10 := Nat.mul_le_mul h h
  omega
theorem pv_kind_pow : builtinKind "pow" = none := by decide +kernel
theorem pv_plain_pow : plainId "pow" = true := by decide +kernel
theorem pv_entry_pow : entryFor table "pow" = some Builtin.«pow» := entryFor_of_fast (by kernel_rfl)
theorem pv_args_pow (a b c : Value) : argsOk "pow" ⟨[a, b, c], []⟩ := by unfold argsOk; kernel_rfl
theorem args_int_pow3 (a b c : Value) : argsOk "int.__pow__" ⟨[a, b, c], []⟩ := by unfold argsOk; kernel_rfl
section
variable {prog : Program} {w : World} {A : Around} {E : Value → Shared → Prop} {s : Shared} {a n m : Int} {t u v : Tok}
theorem gives_pow3 (a n m : Int) (t u v : Tok) (hn : 0 ≤ n) (hm : 1 < m) : Gives (Builtin.«int.__pow__» ⟨[.int a t, .int n u, .int m v], []⟩) (.int ((Builtin.powMod (a % m).toNat n.natAbs m.natAbs : Nat) : Int)) :=
  .of_wp fun M A E s Q h => by
    have e1 : (m == 0) = false := by rw [beq_eq_false_iff_ne]; omega
    have e2 : (m.natAbs == 1) = false := by rw [beq_eq_false_iff_ne]; omega
    have e3 : (m.natAbs : Int) = m := by omega
    show wpAny _ _ (if (m == 0) = true then _ else _) _ _ s
    rw [if_neg (by rw [e1]; exact Bool.false_ne_true)]
    show wpAny _ _ (if (m.natAbs == 1) = true then _ else _) _ _ s
    rw [if_neg (by rw [e2]; exact Bool.false_ne_true)]
    dsimp only
    rw [if_neg (by omega), e3]
    have e4 : (decide (m < 0) && ((Builtin.powMod (a % m).toNat n.natAbs m.natAbs : Nat) : Int) != 0) = false := by rw [decide_eq_false (by omega)]; rfl
    rw [e4, if_neg Bool.false_ne_true]
    exact wpAny_ret_mkInt h
theorem call_pow {Q : Value → Shared → Prop} (hn : 0 ≤ n) (hm : 1 < m) (h : ∀ k tk, Q (.int ((Builtin.powMod (a % m).toNat n.natAbs m.natAbs : Nat) : Int) k) { s with toks := tk }) :
    wpAny (model prog w) A (call (.builtin "pow") [.int a t, .int n u, .int m v]) Q E s := by
  refine call_function_entry pv_kind_pow pv_plain_pow pv_entry_pow (pv_args_pow _ _ _) ?_
  unfold Builtin.«pow»
  have hb : Builtin.Builtins.bindParams "pow" ["base", "exp", "mod"] 2 ⟨[Value.int a t, Value.int n u, Value.int m v], []⟩ = pure [some (Value.int a t), some (Value.int n u), some (Value.int m v)] := by rfl
  rw [hb]
  refine wpAny_bind (wpAny_pure ?_)
  dsimp only [Option.getD]
  refine wpAny_bind (wpAny_rule ?_)
  obtain ⟨hp, g, d, tk, os⟩ := s
  have hT : (⟨hp, g, d, tk, os⟩ : Shared).TypeIs (.int a t) "int" := rfl
  have f3 : typeLookup (.type "int") (Str.ofString "__pow__") = pure (some (.builtin "int.__pow__")) := slot_int_pow.lookup
  have f4 := slot_int_pow.bind (.int a t)
  refine wpAny_bind (wpAny_typeOf hT ?_)
  dsimp only
  refine wpAny_bind ?_
  rw [f3]
  refine wpAny_pure ?_
  dsimp only
  refine wpAny_bind (wpAny_callSpecial?_slot (name := Str.ofString "__pow__") hT slot_int_pow (call_gives slot_int_pow hT entry_int_pow (args_int_pow3 _ _ _) (gives_pow3 a n m t u v hn hm) ?_))
  dsimp only [Made.post]
  first | exact wpAny_pure ⟨_, rfl, h _ _⟩ | exact wpAny_pure (h _ _) | exact wpAny_bind (wpAny_pure (wpAny_pure ⟨_, rfl, h _ _⟩))
end
abbrev cardL (first gap : Int) (n : Nat) : List Int := (List.range n).map fun i : Nat => first + gap * (i : Int)
abbrev cells7 (L : Nat) (o1 o2 o3 o4 o5 o6 o7 : Obj) : Led := [(L + 1 + 1 + 1 + 1 + 1 + 1 + 1, o7), (L + 1 + 1 + 1 + 1 + 1 + 1, o6), (L + 1 + 1 + 1 + 1 + 1, o5), (L + 1 + 1 + 1 + 1, o4), (L + 1 + 1 + 1, o3), (L + 1 + 1, o2), (L + 1, o1)]
abbrev led0 (L : Nat) (o1 o2 o3 o4 o5 o6 o7 : Obj) (ps : Array Value) : Led := [(L + 1 + 1 + 1 + 1 + 1 + 1 + 1, o7), (L + 1 + 1 + 1 + 1 + 1 + 1, o6), (L + 1 + 1 + 1 + 1 + 1, o5), (L + 1 + 1 + 1 + 1, o4), (L + 1 + 1 + 1, o3), (L + 1 + 1, o2), (L + 1, o1), (543, tabObj ps)]
/-- an address off the cells -/
def Free (L a : Nat) : Prop := a ≠ L + 1 ∧ a ≠ L + 1 + 1 ∧ a ≠ L + 1 + 1 + 1 ∧ a ≠ L + 1 + 1 + 1 + 1 ∧ a ≠ L + 1 + 1 + 1 + 1 + 1 ∧ a ≠ L + 1 + 1 + 1 + 1 + 1 + 1 ∧ a ≠ L + 1 + 1 + 1 + 1 + 1 + 1 + 1 ∧ a ≠ 543
def sAt (s1 : Shared) (h : Heap) (tk : Nat) : Shared := { heap := h, gens := s1.gens, drawn := s1.drawn, toks := tk, os := s1.os }
inductive R0 (h0 : Heap) (L : Nat) (s1 s : Shared)  : Prop
  | mk (h : Heap) (tk : Nat) (m : Str → Option Value) (pa ca la : Addr) (pv cv lv : List Value) (pn cn ln : Nat) (ms : List Int) (k form first gap goal : Int) (n : Nat) (t1 t2 t3 t4 t5 : Tok) (o1 o2 o3 o4 o5 o6 o7 : Obj) (ps : Array Value) (p0 : s = { heap := h, gens := s1.gens, drawn := s1.drawn, toks := tk, os := s1.os }) (p1 : Fr h0 L h m) (p2 : News h0 L h (led0 L o1 o2 o3 o4 o5 o6 o7 ps ++ [(pa, listOf pv.toArray pn), (ca, listOf cv.toArray cn), (la, listOf lv.toArray ln)])) (p3 : TabOk ps) (p4 : m (Str.ofString "form") = some (.int form t1)) (p5 : m (Str.ofString "many") = some (.int (n : Int) t2)) (p6 : m (Str.ofString "goal") = some (.int goal t3)) (p7 : m (Str.ofString "cards") = some (.ref ca)) (p8 : o1.data = Data.cell (some (.ref pa))) (p9 : o2.data = Data.cell (some (.int first t4))) (p10 : o3.data = Data.cell (some (.int gap t5))) (p11 : o4.data = Data.cell (some (.ref la))) (p12 : o5.data = Data.cell none) (p13 : o6.data = Data.cell none) (p14 : o7.data = Data.cell none) (p15 : (0 ≤ form ∧ form < 3)) (p16 : (n = 4 ∨ n = 6 ∨ n = 8 ∨ n = 10)) (p17 : (0 ≤ goal ∧ goal < n)) (p18 : (-50 ≤ first ∧ first < 50)) (p19 : (1 ≤ gap ∧ gap ≤ 9)) (p20 : IntsAre pv (ms ++ [k])) (p21 : (0 ≤ k ∧ k ≤ 5)) (p22 : ms.length ≤ 15) (p23 : IntsAre cv (cardL first gap n)) (p24 : IntsAre lv (nz (List.range n))) (p25 : la ≠ ca) (p26 : la ≠ pa) (p27 : ca ≠ pa) (p28 : Free L la) (p29 : Free L ca) (p30 : Free L pa) : R0 h0 L s1 s

theorem rk_nat {k : Int} {f : Int → Int} : (rangeKs 0 (k - 0).toNat).map f = (List.range k.toNat).map fun i : Nat => f (i : Int) := by
  unfold rangeKs
  rw [List.map_map, Int.sub_zero]
  refine List.map_congr_left fun i _ => ?_
  show f (0 + (i : Int)) = f (i : Int)
  rw [Int.zero_add]
theorem rk_nz {k : Int} : rangeKs 0 (k - 0).toNat = nz (List.range k.toNat) := by
  have := rk_nat (k := k) (f := id)
  rwa [List.map_id] at this
theorem many_is (x : Int) (h : 0 ≤ x) (k : x < 4) : ∃ n : Nat, (n : Int) = 4 + 2 * x ∧ (n = 4 ∨ n = 6 ∨ n = 8 ∨ n = 10) := ⟨(4 + 2 * x).toNat, by omega, by omega⟩

abbrev outerL (n : Nat) : List Nat := (List.range (n - 1)).map (fun i => 2 * i % (n - 1)) ++ [n - 1]
abbrev innerL (n : Nat) : List Nat := (List.range n).map fun i => (2 * i + 1) % (n + 1)
inductive R5 (h0 : Heap) (L : Nat) (s1 s : Shared)  : Prop
  | mk (h : Heap) (tk : Nat) (m : Str → Option Value) (ga ca la : Addr) (gv cv lv : List Value) (gn cn ln : Nat) (gl : List Nat) (form first gap goal : Int) (n : Nat) (t1 t2 t3 t4 t5 : Tok) (o1 o2 o3 o4 o5 o6 o7 : Obj) (ps : Array Value) (p0 : s = { heap := h, gens := s1.gens, drawn := s1.drawn, toks := tk, os := s1.os }) (p1 : Fr h0 L h m) (p2 : News h0 L h (led0 L o1 o2 o3 o4 o5 o6 o7 ps ++ [(ga, listOf gv.toArray gn), (ca, listOf cv.toArray cn), (la, listOf lv.toArray ln)])) (p3 : TabOk ps) (p4 : m (Str.ofString "form") = some (.int form t1)) (p5 : m (Str.ofString "many") = some (.int (n : Int) t2)) (p6 : m (Str.ofString "goal") = some (.int goal t3)) (p7 : m (Str.ofString "cards") = some (.ref ca)) (p8 : o2.data = Data.cell (some (.int first t4))) (p9 : o3.data = Data.cell (some (.int gap t5))) (p10 : o4.data = Data.cell (some (.ref la))) (p11 : o5.data = Data.cell (some (.ref ga))) (p12 : o6.data = Data.cell none) (p13 : o7.data = Data.cell none) (p14 : (0 ≤ form ∧ form < 3)) (p15 : (n = 4 ∨ n = 6 ∨ n = 8 ∨ n = 10)) (p16 : (0 ≤ goal ∧ goal < n)) (p17 : (-50 ≤ first ∧ first < 50)) (p18 : (1 ≤ gap ∧ gap ≤ 9)) (p19 : IsPerm gl) (p20 : gl.length = n) (p21 : IntsAre gv (nz gl)) (p22 : IntsAre cv (cardL first gap n)) (p23 : (form ≠ 0 → IntsAre lv (nz (List.range n)))) (p24 : (form = 1 → gl = outerL n)) (p25 : (form = 2 → gl = innerL n)) (p26 : la ≠ ca) (p27 : la ≠ ga) (p28 : ca ≠ ga) (p29 : Free L la) (p30 : Free L ca) (p31 : Free L ga) : R5 h0 L s1 s
theorem outer_eq {n : Nat} (h : n = 4 ∨ n = 6 ∨ n = 8 ∨ n = 10) : (rangeKs 0 ((n : Int) - 1).toNat).map (fun k => (2 * k).fmod ((n : Int) - 1)) ++ [(n : Int) - 1] = nz (outerL n) := by
  rcases h with rfl | rfl | rfl | rfl <;> decide
theorem inner_eq {n : Nat} (h : n = 4 ∨ n = 6 ∨ n = 8 ∨ n = 10) : (rangeKs 0 (n : Int).toNat).map (fun k => (2 * k + 1).fmod ((n : Int) + 1)) = nz (innerL n) := by
  rcases h with rfl | rfl | rfl | rfl <;> decide
theorem outer_perm {n : Nat} (h : n = 4 ∨ n = 6 ∨ n = 8 ∨ n = 10) : IsPerm (outerL n) ∧ (outerL n).length = n := by
  rcases h with rfl | rfl | rfl | rfl <;> exact IsPerm.of_perm (by decide)
theorem inner_perm {n : Nat} (h : n = 4 ∨ n = 6 ∨ n = 8 ∨ n = 10) : IsPerm (innerL n) ∧ (innerL n).length = n := by
  rcases h with rfl | rfl | rfl | rfl <;> exact IsPerm.of_perm (by decide)
def OffT (tl : Led) (as : List Nat) : Prop := ∀ a ∈ as, Off a tl
abbrev lenL (rs : List (List Nat)) : List Int := rs.map fun r => ((r.length : Nat) : Int)
inductive R7 (h0 : Heap) (L : Nat) (s1 s : Shared)  : Prop
  | mk (h : Heap) (tk : Nat) (m : Str → Option Value) (ga ca la rl wl : Addr) (gv cv lv rv wv : List Value) (gn cn ln rn wn : Nat) (tl : Led) (gl : List Nat) (form first gap goal : Int) (n : Nat) (t1 t2 t3 t4 t5 : Tok) (o1 o2 o3 o4 o5 o6 o7 : Obj) (ps : Array Value) (p0 : s = { heap := h, gens := s1.gens, drawn := s1.drawn, toks := tk, os := s1.os }) (p1 : Fr h0 L h m) (p2 : News h0 L h (led0 L o1 o2 o3 o4 o5 o6 o7 ps ++ ([(ga, listOf gv.toArray gn), (ca, listOf cv.toArray cn), (la, listOf lv.toArray ln), (rl, listOf rv.toArray rn), (wl, listOf wv.toArray wn)] ++ tl))) (p3 : TabOk ps) (p4 : m (Str.ofString "form") = some (.int form t1)) (p5 : m (Str.ofString "many") = some (.int (n : Int) t2)) (p6 : m (Str.ofString "goal") = some (.int goal t3)) (p7 : m (Str.ofString "cards") = some (.ref ca)) (p8 : m (Str.ofString "rings") = some (.ref rl)) (p9 : m (Str.ofString "words") = some (.ref wl)) (p10 : o2.data = Data.cell (some (.int first t4))) (p11 : o3.data = Data.cell (some (.int gap t5))) (p12 : o4.data = Data.cell (some (.ref la))) (p13 : o5.data = Data.cell (some (.ref ga))) (p14 : o6.data = Data.cell none) (p15 : o7.data = Data.cell none) (p16 : (0 ≤ form ∧ form < 3)) (p17 : (n = 4 ∨ n = 6 ∨ n = 8 ∨ n = 10)) (p18 : (0 ≤ goal ∧ goal < n)) (p19 : (-50 ≤ first ∧ first < 50)) (p20 : (1 ≤ gap ∧ gap ≤ 9)) (p21 : IsPerm gl) (p22 : gl.length = n) (p23 : IntsAre gv (nz gl)) (p24 : IntsAre cv (cardL first gap n)) (p25 : (form ≠ 0 → IntsAre lv (nz (List.range n)))) (p26 : (form = 1 → gl = outerL n)) (p27 : (form = 2 → gl = innerL n)) (p28 : ListsAre tl rv (rings gl)) (p29 : IntsAre wv (encs (movesOf gl.length (rings gl)))) (p30 : la ≠ ca) (p31 : la ≠ ga) (p32 : ca ≠ ga) (p33 : rl ≠ ga) (p34 : rl ≠ ca) (p35 : rl ≠ la) (p36 : (wl ≠ ga ∧ wl ≠ ca ∧ wl ≠ la ∧ wl ≠ rl)) (p37 : Free L la) (p38 : Free L ca) (p39 : Free L ga) (p40 : Free L rl) (p41 : Free L wl) (p42 : OffT tl [543, L + 1, L + 1 + 1, L + 1 + 1 + 1, L + 1 + 1 + 1 + 1, L + 1 + 1 + 1 + 1 + 1, L + 1 + 1 + 1 + 1 + 1 + 1, L + 1 + 1 + 1 + 1 + 1 + 1 + 1, ga, ca, la, rl, wl]) : R7 h0 L s1 s
theorem lenL_sum : ∀ {rs : List (List Nat)}, (lenL rs).sum = (((rs.map List.length).sum : Nat) : Int)
  | [] => rfl
  | r :: rs => by
    show ((r.length : Nat) : Int) + (lenL rs).sum = ((r.length + (rs.map List.length).sum : Nat) : Int)
    rw [lenL_sum]; omega
inductive R8 (h0 : Heap) (L : Nat) (s1 s : Shared)  : Prop
  | mk (h : Heap) (tk : Nat) (m : Str → Option Value) (ga ca pl rl wl : Addr) (gv cv pv rv wv : List Value) (gn cn pn rn wn : Nat) (tl : Led) (gl : List Nat) (form first gap goal : Int) (n : Nat) (t1 t2 t3 t4 t5 t6 : Tok) (o1 o2 o3 o4 o5 o6 o7 : Obj) (ps : Array Value) (p0 : s = { heap := h, gens := s1.gens, drawn := s1.drawn, toks := tk, os := s1.os }) (p1 : Fr h0 L h m) (p2 : News h0 L h (led0 L o1 o2 o3 o4 o5 o6 o7 ps ++ ([(ga, listOf gv.toArray gn), (ca, listOf cv.toArray cn), (pl, listOf pv.toArray pn), (rl, listOf rv.toArray rn), (wl, listOf wv.toArray wn)] ++ tl))) (p3 : TabOk ps) (p4 : m (Str.ofString "form") = some (.int form t1)) (p5 : m (Str.ofString "many") = some (.int (n : Int) t2)) (p6 : m (Str.ofString "goal") = some (.int goal t3)) (p7 : m (Str.ofString "cards") = some (.ref ca)) (p8 : m (Str.ofString "rings") = some (.ref rl)) (p9 : m (Str.ofString "words") = some (.ref wl)) (p10 : m (Str.ofString "places") = some (.ref pl)) (p11 : o2.data = Data.cell (some (.int first t4))) (p12 : o3.data = Data.cell (some (.int gap t5))) (p13 : o5.data = Data.cell (some (.ref ga))) (p14 : o6.data = Data.cell (some (.ref ca))) (p15 : o7.data = Data.cell (some (.int 0 t6))) (p16 : (0 ≤ form ∧ form < 3)) (p17 : (n = 4 ∨ n = 6 ∨ n = 8 ∨ n = 10)) (p18 : (0 ≤ goal ∧ goal < n)) (p19 : (-50 ≤ first ∧ first < 50)) (p20 : (1 ≤ gap ∧ gap ≤ 9)) (p21 : IsPerm gl) (p22 : gl.length = n) (p23 : IntsAre gv (nz gl)) (p24 : IntsAre cv (cardL first gap n)) (p25 : IntsAre pv (nz (List.range n))) (p26 : (form = 1 → gl = outerL n)) (p27 : (form = 2 → gl = innerL n)) (p28 : ListsAre tl rv (rings gl)) (p29 : IntsAre wv (encs (movesOf gl.length (rings gl)))) (p30 : pl ≠ ca) (p31 : pl ≠ ga) (p32 : ca ≠ ga) (p33 : rl ≠ ga) (p34 : rl ≠ ca) (p35 : rl ≠ pl) (p36 : (wl ≠ ga ∧ wl ≠ ca ∧ wl ≠ pl ∧ wl ≠ rl)) (p37 : Free L pl) (p38 : Free L ca) (p39 : Free L ga) (p40 : Free L rl) (p41 : Free L wl) (p42 : OffT tl [543, L + 1, L + 1 + 1, L + 1 + 1 + 1, L + 1 + 1 + 1 + 1, L + 1 + 1 + 1 + 1 + 1, L + 1 + 1 + 1 + 1 + 1 + 1, L + 1 + 1 + 1 + 1 + 1 + 1 + 1, ga, ca, pl, rl, wl]) : R8 h0 L s1 s
/-- places and now behind t turns -/
abbrev plL (gl : List Nat) (t : Nat) : List Nat := (List.range gl.length).map (it (gI gl) t)
abbrev nowL (first gap : Int) (gl : List Nat) (t : Nat) : List Int := (List.range gl.length).map fun y => first + gap * ((it (hI gl) t y : Nat) : Int)
theorem plL_zero {gl : List Nat} : plL gl 0 = List.range gl.length := by
  unfold plL
  show (List.range gl.length).map (fun x => x) = _
  exact List.map_id' _
theorem nowL_zero {first gap : Int} {gl : List Nat} : nowL first gap gl 0 = cardL first gap gl.length := rfl
abbrev ledW (L : Nat) (o5 o6 o7 : Obj) (ps : Array Value) : Led := [(L + 1 + 1 + 1 + 1 + 1 + 1 + 1, o7), (L + 1 + 1 + 1 + 1 + 1 + 1, o6), (L + 1 + 1 + 1 + 1 + 1, o5), (543, tabObj ps)]
def FreeW (L a : Nat) : Prop := a ≠ L + 1 + 1 + 1 + 1 + 1 ∧ a ≠ L + 1 + 1 + 1 + 1 + 1 + 1 ∧ a ≠ L + 1 + 1 + 1 + 1 + 1 + 1 + 1 ∧ a ≠ 543
/-- what holds between the turns of the law's while -/
structure LoopC where
  ga : Addr
  ca : Addr
  rl : Addr
  wl : Addr
  gv : List Value
  cv : List Value
  rv : List Value
  wv : List Value
  gn : Nat
  cn : Nat
  rn : Nat
  wn : Nat
  tl : Led
  o5 : Obj
  form : Int
  goal : Int
  n : Nat
abbrev keepL (ca rl : Addr) (cv rv : List Value) (cn rn : Nat) (tl : Led) : Led := (ca, listOf cv.toArray cn) :: (rl, listOf rv.toArray rn) :: tl
inductive CF (L : Nat) (c : LoopC) (gl : List Nat) (first gap : Int)  : Prop
  | mk  (p0 : (0 ≤ c.form ∧ c.form < 3)) (p1 : (c.n = 4 ∨ c.n = 6 ∨ c.n = 8 ∨ c.n = 10)) (p2 : (0 ≤ c.goal ∧ c.goal < c.n)) (p3 : (-50 ≤ first ∧ first < 50)) (p4 : (1 ≤ gap ∧ gap ≤ 9)) (p5 : IsPerm gl) (p6 : gl.length = c.n) (p7 : IntsAre c.gv (nz gl)) (p8 : IntsAre c.cv (cardL first gap c.n)) (p9 : (c.form = 1 → gl = outerL c.n)) (p10 : (c.form = 2 → gl = innerL c.n)) (p11 : ListsAre c.tl c.rv (rings gl)) (p12 : IntsAre c.wv (encs (movesOf gl.length (rings gl)))) (p13 : c.o5.data = Data.cell (some (.ref c.ga))) (p14 : c.wl ≠ c.ga) (p15 : FreeW L c.ga) (p16 : FreeW L c.wl) (p17 : FreeW L c.ca) (p18 : OffT (keepL c.ca c.rl c.cv c.rv c.cn c.rn c.tl) [543, L + 1 + 1 + 1 + 1 + 1, L + 1 + 1 + 1 + 1 + 1 + 1, L + 1 + 1 + 1 + 1 + 1 + 1 + 1, c.ga, c.wl]) : CF L c gl first gap
inductive JL (L : Nat) (c : LoopC) (gl : List Nat) (first gap : Int) (fresh : Bool) (t : Nat) (m : Str → Option Value) (nx : Led)  : Prop
  | mk (pl nl : Addr) (pv nv : List Value) (pn nn : Nat) (tx : Led) (o6 o7 : Obj) (ps : Array Value) (t1 t2 t3 t6 : Tok) (p0 : nx = ledW L c.o5 o6 o7 ps ++ ([(c.ga, listOf c.gv.toArray c.gn), (nl, listOf nv.toArray nn), (pl, listOf pv.toArray pn), (c.wl, listOf c.wv.toArray c.wn)] ++ tx)) (p1 : TabOk ps) (p2 : m (Str.ofString "form") = some (.int c.form t1)) (p3 : m (Str.ofString "many") = some (.int (c.n : Int) t2)) (p4 : m (Str.ofString "goal") = some (.int c.goal t3)) (p5 : m (Str.ofString "cards") = some (.ref c.ca)) (p6 : m (Str.ofString "rings") = some (.ref c.rl)) (p7 : m (Str.ofString "words") = some (.ref c.wl)) (p8 : m (Str.ofString "places") = some (.ref pl)) (p9 : o6.data = Data.cell (some (.ref nl))) (p10 : o7.data = Data.cell (some (.int (t : Int) t6))) (p11 : IntsAre pv (nz (plL gl t))) (p12 : IntsAre nv (nowL first gap gl t)) (p13 : (pl ≠ c.ga ∧ pl ≠ nl ∧ pl ≠ c.wl ∧ nl ≠ c.ga ∧ nl ≠ c.wl)) (p14 : FreeW L pl) (p15 : FreeW L nl) (p16 : OffT tx [543, L + 1 + 1 + 1 + 1 + 1, L + 1 + 1 + 1 + 1 + 1 + 1, L + 1 + 1 + 1 + 1 + 1 + 1 + 1, c.ga, c.wl, nl, pl]) (p17 : (∀ p ∈ keepL c.ca c.rl c.cv c.rv c.cn c.rn c.tl, p ∈ (nl, listOf nv.toArray nn) :: tx)) (p18 : (fresh = true → tx = keepL c.ca c.rl c.cv c.rv c.cn c.rn c.tl)) : JL L c gl first gap fresh t m nx
inductive RL (h0 : Heap) (L : Nat) (s1 : Shared) (c : LoopC) (gl : List Nat) (first gap : Int) (fresh : Bool) (t : Nat) (s : Shared)  : Prop
  | mk (h : Heap) (tk : Nat) (m : Str → Option Value) (nx : Led) (p0 : s = { heap := h, gens := s1.gens, drawn := s1.drawn, toks := tk, os := s1.os }) (p1 : Fr h0 L h m) (p2 : News h0 L h nx) (p3 : JL L c gl first gap fresh t m nx) : RL h0 L s1 c gl first gap fresh t s
def R8c (h0 : Heap) (L : Nat) (s1 s : Shared) : Prop := ∃ c gl first gap, CF L c gl first gap ∧ RL h0 L s1 c gl first gap false 0 s
theorem offT_of {l l' : Led} {as : List Nat} (h : OffT l as) (k : ∀ p ∈ l', p ∈ l) : OffT l' as := fun a ha => (h a ha).sub k
theorem R8.small {h0 : Heap} {L : Nat} {s1 s : Shared} (h : R8 h0 L s1 s) : R8c h0 L s1 s := by
  obtain ⟨h, tk, m, ga, ca, pl, rl, wl, gv, cv, pv, rv, wv, gn, cn, pn, rn, wn, tl, gl, form, first, gap, goal, n, t1, t2, t3, t4, t5, t6, o1, o2, o3, o4, o5, o6, o7, ps, rfl, F1, N1, hT, m1, m2, m3, m4, m5, m6, m7, c2, c3, c5, c6, c7, b1, b2, b3, b4, b5, hP, hgl, hg, hc, hpv, hl1, hl2, hr, hw, a1, a2, a3, a4, a5, a6, ⟨a7, a8, a9, a10⟩, f1, f2, f3, f4, f5, oT⟩ := h
  unfold Free at f1 f2 f3 f4 f5
  obtain ⟨-, -, -, -, f11, f12, f13, f14⟩ := f1
  obtain ⟨-, -, -, -, f21, f22, f23, f24⟩ := f2
  obtain ⟨-, -, -, -, f31, f32, f33, f34⟩ := f3
  obtain ⟨-, -, -, -, f41, f42, f43, f44⟩ := f4
  obtain ⟨-, -, -, -, f51, f52, f53, f54⟩ := f5
  unfold OffT at oT
  simp only [List.forall_mem_cons] at oT
  obtain ⟨oT0, oT1, oT2, oT3, oT4, oT5, oT6, oT7, oTga, oTca, oTpl, oTrl, oTwl, -⟩ := oT
  refine ⟨⟨ga, ca, rl, wl, gv, cv, rv, wv, gn, cn, rn, wn, tl, o5, form, goal, n⟩, gl, first, gap, ⟨b1, b2, b3, b4, b5, hP, hgl, hg, hc, hl1, hl2, hr, hw, c5, a7, ⟨f31, f32, f33, f34⟩, ⟨f51, f52, f53, f54⟩, ⟨f21, f22, f23, f24⟩, ?_⟩,
    h, tk, m, _, rfl, F1, kst_newsOf (l' := _) N1 ?_, pl, ca, pv, cv, pn, cn, (rl, listOf rv.toArray rn) :: tl, o6, o7, ps, t1, t2, t3, t6, rfl, hT, m1, m2, m3, m4, m5, m6, m7, c6, c7, ?_, ?_, ⟨a2, a1, Ne.symm a9, a3, Ne.symm a8⟩, ⟨f11, f12, f13, f14⟩, ⟨f21, f22, f23, f24⟩, ?_, fun _ h => h, fun h => nomatch h⟩
  · unfold OffT
    simp only [List.forall_mem_cons, List.not_mem_nil, false_implies, implies_true, and_true]
    exact ⟨.cons f24 (.cons f44 oT0), .cons f21 (.cons f41 oT5), .cons f22 (.cons f42 oT6), .cons f23 (.cons f43 oT7), .cons a3 (.cons a4 oTga), .cons (Ne.symm a8) (.cons (Ne.symm a10) oTwl)⟩
  · simp only [List.cons_append, List.nil_append, List.forall_mem_cons]
    refine ⟨?_, ?_, ?_, ?_, ?_, ?_, ?_, ?_, ?_, ?_⟩
    all_goals first
      | (simp only [List.mem_cons, true_or, or_true]; done)
      | (intro p hp; simp only [List.mem_cons]; (repeat (first | exact hp | (refine Or.inr ?_))))
  · rw [plL_zero, hgl]; exact hpv
  · rw [nowL_zero, hgl]; exact hc
  · unfold OffT
    simp only [List.forall_mem_cons, List.not_mem_nil, false_implies, implies_true, and_true]
    exact ⟨.cons f44 oT0, .cons f41 oT5, .cons f42 oT6, .cons f43 oT7, .cons a4 oTga, .cons (Ne.symm a10) oTwl, .cons a5 oTca, .cons a6 oTpl⟩
inductive R9 (h0 : Heap) (L : Nat) (s1 s : Shared)  : Prop
  | mk (h : Heap) (tk : Nat) (m : Str → Option Value) (ca : Addr) (cv : List Value) (cn : Nat) (first gap goal : Int) (n : Nat) (t2 t3 : Tok) (o6 : Obj) (ps : Array Value) (v6 : Option Value) (p0 : s = { heap := h, gens := s1.gens, drawn := s1.drawn, toks := tk, os := s1.os }) (p1 : Fr h0 L h m) (p2 : News h0 L h [(L + 1 + 1 + 1 + 1 + 1 + 1, o6), (543, tabObj ps), (ca, listOf cv.toArray cn)]) (p3 : TabOk ps) (p4 : m (Str.ofString "many") = some (.int (n : Int) t2)) (p5 : m (Str.ofString "goal") = some (.int goal t3)) (p6 : m (Str.ofString "cards") = some (.ref ca)) (p7 : o6.data = Data.cell v6) (p8 : (n = 4 ∨ n = 6 ∨ n = 8 ∨ n = 10)) (p9 : (0 ≤ goal ∧ goal < n)) (p10 : (1 ≤ gap ∧ gap ≤ 9)) (p11 : (-50 ≤ first ∧ first < 50)) (p12 : IntsAre cv (cardL first gap n)) (p13 : (ca ≠ L + 1 + 1 + 1 + 1 + 1 + 1 ∧ ca ≠ 543)) : R9 h0 L s1 s
theorem pl_at {gl : List Nat} {t i : Nat} (h : i < gl.length) : (plL gl t).getD i 0 = it (gI gl) t i := by
  unfold plL
  rw [List.getD_eq_getElem?_getD, List.getElem?_map, List.getElem?_range h]; rfl
theorem pl_next {gl : List Nat} {t i : Nat} (h : i < gl.length) : (plL gl (t + 1)).take (i + 1) = (plL gl (t + 1)).take i ++ [gI gl (it (gI gl) t i)] := by
  have e : (plL gl (t + 1))[i]? = some (gI gl (it (gI gl) t i)) := by
    unfold plL
    rw [List.getElem?_map, List.getElem?_range h]; rfl
  rw [List.take_add_one, e]; rfl
theorem now_at {gl : List Nat} {first gap : Int} {t i : Nat} (P : IsPerm gl) (h : i < gl.length) : (nowL first gap gl t).getD (it (gI gl) t i) 0 = first + gap * (i : Int) := by
  unfold nowL
  rw [getD_mapR (it_gI_lt P h t), it_hg P h]
theorem card_next {first gap : Int} {n i : Nat} (h : i < n) : (cardL first gap n).take (i + 1) = (cardL first gap n).take i ++ [first + gap * (i : Int)] := by
  have e : (cardL first gap n)[i]? = some (first + gap * (i : Int)) := by
    unfold cardL
    rw [List.getElem?_map, List.getElem?_range h]; rfl
  rw [List.take_add_one, e]; rfl
theorem map_range_eq {f g : Nat → Int} {n : Nat} : (List.range n).map f = (List.range n).map g ↔ ∀ y, y < n → f y = g y := by
  constructor
  · intro h y hy
    have e : ((List.range n).map f).getD y 0 = ((List.range n).map g).getD y 0 := by rw [h]
    rwa [getD_mapR hy, getD_mapR hy] at e
  · intro h
    exact List.map_congr_left fun y hy => h y (List.mem_range.mp hy)
theorem now_eq {gl : List Nat} {first gap : Int} {t : Nat} (P : IsPerm gl) (hg : 1 ≤ gap) : nowL first gap gl t = cardL first gap gl.length ↔ ∀ r ∈ rings gl, t % r.length = 0 := by
  rw [← rings_order P]
  refine map_range_eq.trans ?_
  constructor
  · intro h y hy
    have e := h y hy
    have e2 : gap * ((it (hI gl) t y : Nat) : Int) = gap * (y : Int) := by omega
    have e3 := Int.eq_of_mul_eq_mul_left (by omega) e2
    omega
  · intro h y hy
    rw [h y hy]
abbrev allDiv (rs : List (List Nat)) (t : Nat) : Bool := rs.all fun r => t % r.length == 0
theorem allDiv_iff {rs : List (List Nat)} {t : Nat} : allDiv rs t = true ↔ ∀ r ∈ rs, t % r.length = 0 := by
  unfold allDiv
  rw [List.all_eq_true]
  constructor
  · exact fun h r hr => beq_iff_eq.mp (h r hr)
  · exact fun h r hr => beq_iff_eq.mpr (h r hr)
theorem pow_outer {n t : Nat} (hn : n = 4 ∨ n = 6 ∨ n = 8 ∨ n = 10) (ht : t ≤ 40) : allDiv (rings (outerL n)) t = decide (((Builtin.powMod ((2 : Int) % ((n : Int) - 1)).toNat (t : Int).natAbs ((n : Int) - 1).natAbs : Nat) : Int) = 1) := by
  have ht' : t < 41 := by omega
  rcases hn with rfl | rfl | rfl | rfl <;> revert t <;> decide +kernel
theorem pow_inner {n t : Nat} (hn : n = 4 ∨ n = 6 ∨ n = 8 ∨ n = 10) (ht : t ≤ 40) : allDiv (rings (innerL n)) t = decide (((Builtin.powMod ((2 : Int) % ((n : Int) + 1)).toNat (t : Int).natAbs ((n : Int) + 1).natAbs : Nat) : Int) = 1) := by
  have ht' : t < 41 := by omega
  rcases hn with rfl | rfl | rfl | rfl <;> revert t <;> decide +kernel
inductive RLB (h0 : Heap) (L : Nat) (s1 : Shared) (c : LoopC) (gl : List Nat) (first gap : Int) (t : Nat) (byv : Int) (s : Shared)  : Prop
  | mk (h : Heap) (tk : Nat) (m : Str → Option Value) (nx : Led) (p0 : s = { heap := h, gens := s1.gens, drawn := s1.drawn, toks := tk, os := s1.os }) (p1 : Fr h0 L h m) (p2 : News h0 L h nx) (p3 : JL L c gl first gap true t m nx) (tb : _) (p4 : m (Str.ofString "by") = some (.int byv tb)) : RLB h0 L s1 c gl first gap t byv s
theorem now_div {gl : List Nat} {first gap : Int} {t n : Nat} (P : IsPerm gl) (hgl : gl.length = n) (hg : 1 ≤ gap) : decide (nowL first gap gl t = cardL first gap n) = allDiv (rings gl) t := by
  rw [Bool.eq_iff_iff, decide_eq_true_iff, allDiv_iff, ← hgl]
  exact now_eq P hg
theorem pow_law {gl : List Nat} {first gap form byv : Int} {t n : Nat} (P : IsPerm gl) (hgl : gl.length = n) (hg : 1 ≤ gap) (hn : n = 4 ∨ n = 6 ∨ n = 8 ∨ n = 10) (ht : t ≤ 40) (h1 : form = 1 → gl = outerL n) (h2 : form = 2 → gl = innerL n) (hf3 : form < 3)
    (hby : (if form = 1 then (n : Int) - 1 else (n : Int) + 1) = byv) (hf : 0 < form) :
    (decide (nowL first gap gl t = cardL first gap n) != (((Builtin.powMod ((2 : Int) % byv).toNat (t : Int).natAbs byv.natAbs : Nat) : Int) == 1)) = false := by
  rw [now_div P hgl hg]
  rcases (by omega : form = 1 ∨ form = 2) with h | h
  · rw [if_pos h] at hby
    rw [h1 h, pow_outer hn ht, hby]
    exact bne_self_eq_false _
  · rw [if_neg (by omega)] at hby
    rw [h2 h, pow_inner hn ht, hby]
    exact bne_self_eq_false _
section
variable {prog : Program} {w : World} {A : Around} {h₀ : Heap} {L : Addr} {m : Str → Option Value} {env : Env} {ct elt : Expr} {x : Str} {scope : Scope} {cl : List (Str × Addr)} {s : Shared} {S : Led → Prop} {P : Nat → Value → Prop} {Fin : List Value → Led → Prop} {n : Nat} {news : Led}
theorem compT_ind (Inv : Nat → List Value → Led → Prop) (hi : Inv 0 [] news)
    (turn : ∀ i ys news v I oI C oC D m₂ h tk (E' : Value → Shared → Prop), i < n → Inv i ys news → P i v → LCg.NsObj oC m₂ → m₂ x = some v → Fr h₀ L h m → News h₀ L h ((I, oI) :: (C, oC) :: (D, LCg.lst ys) :: news) → LCg.Off3 I C D news → ((@Ne Nat I C) ∧ (@Ne Nat I D) ∧ (@Ne Nat C D)) →
      wpAny (model prog w) A (isTrue ct (compEnvC scope cl C env) (eval ct (compEnvC scope cl C env))) (fun ok s' => if ok = true then
        wpAny (model prog w) A (eval elt (compEnvC scope cl C env)) (LCg.CompEnd h₀ L m { s with heap := h, toks := tk } I oI C oC D (LCg.lst ys) S (fun y news' => Inv (i + 1) (ys ++ [y]) news')) E' s'
        else LCg.CompEnd h₀ L m { s with heap := h, toks := tk } I oI C oC D (LCg.lst ys) S (fun _ news' => Inv (i + 1) ys news') Value.none s') E' { s with heap := h, toks := tk })
    (fin : ∀ ys news, Inv n ys news → Fin ys news) : LCt.CompRestT prog w A h₀ L m env ct elt x scope cl s S P Fin n 0 [] news := by
  have key : ∀ (j i : Nat) (ys : List Value) (news : Led), i + j = n → Inv i ys news → LCt.CompRestT prog w A h₀ L m env ct elt x scope cl s S P Fin j i ys news := by
    intro j
    induction j with
    | zero =>
      intro i ys news e h
      obtain rfl : i = n := e
      exact LCt.CompRestT.zero (fin _ _ h)
    | succ j ih =>
      intro i ys news e h
      refine LCt.CompRestT.succ ?_
      intro v I oI C oC D m₂ h' tk E' a1 a2 a3 a4 a5 a6 a7
      refine wpAny_mono (turn i ys news v I oI C oC D m₂ h' tk E' (by omega) h a1 a2 a3 a4 a5 a6 a7) ?_ fun _ _ q => q
      intro ok s' q
      cases ok with
      | true =>
        simp only [if_true] at q ⊢
        refine wpAny_mono q ?_ fun _ _ q => q
        rintro y s' ⟨h2, tk2, news2, e2, F2, N2, o2, hS, r⟩
        exact ⟨h2, tk2, news2, e2, F2, N2, o2, hS, ih (i + 1) _ _ (by omega) r⟩
      | false =>
        simp only [Bool.false_eq_true, if_false] at q ⊢
        obtain ⟨h2, tk2, news2, e2, F2, N2, o2, hS, r⟩ := q
        exact ⟨h2, tk2, news2, e2, F2, N2, o2, hS, ih (i + 1) _ _ (by omega) r⟩
  exact key n 0 [] news (Nat.zero_add _) hi
end
section
variable {prog : Program} {w : World} {A : Around} {E : Value → Shared → Prop} {s : Shared}
theorem eq_nilK {a b : Addr} {vs : List Value} {us : Array Value} {Q : Value → Shared → Prop} (hl : s.heap.IsList a vs.toArray) (hl' : s.heap.IsList b us) (e : us = #[]) (hu : A.units < cLine)
    (h : Q (.bool (decide (vs = []))) s) : wpAny (model prog w) A (compareOp .Eq (.ref a) (.ref b)) Q E s := by
  subst e
  cases vs with
  | nil =>
    refine SeqAt.eq_listAt (e := fun _ => true) hl hl' rfl hu (fun j h1 _ => absurd h1 (Nat.not_lt_zero _)) ?_
    exact h
  | cons v r =>
    refine SeqAt.eq_list_lengthsAt hl hl' (by simp) hu ?_
    exact h
end
theorem rings_pos {gl : List Nat} (P : IsPerm gl) {r : List Nat} (h : r ∈ rings gl) : 0 < r.length ∧ r.length ≤ gl.length := by
  obtain ⟨x, hx, rfl⟩ := (ringsUpto_are P gl.length (Nat.le_refl _)).ring r h
  rw [orb_length]
  exact ⟨per_pos, per_le P hx⟩
def DivAre (rs : List (List Nat)) (t : Nat) (ys : List Value) : Prop := ys = [] ↔ ∀ r ∈ rs, t % r.length = 0
theorem div_keep {rs : List (List Nat)} {r : List Nat} {t i : Nat} {ys : List Value} (h : DivAre (rs.take i) t ys) (e : rs[i]? = some r) (k : t % r.length = 0) : DivAre (rs.take (i + 1)) t ys := by
  unfold DivAre at h ⊢
  rw [h, List.take_add_one, e]
  constructor
  · intro q r' hr'
    rcases List.mem_append.mp hr' with hr' | hr'
    · exact q r' hr'
    · rw [List.mem_singleton.mp hr']; exact k
  · exact fun q r' hr' => q r' (List.mem_append_left _ hr')
theorem div_snoc {rs : List (List Nat)} {r : List Nat} {t i : Nat} {ys : List Value} {v : Value} (e : rs[i]? = some r) (k : t % r.length ≠ 0) : DivAre (rs.take (i + 1)) t (ys ++ [v]) := by
  unfold DivAre
  rw [List.take_add_one, e]
  constructor
  · intro q
    exact absurd q (by simp)
  · intro q
    exact absurd (q r (List.mem_append_right _ (List.Mem.head _))) k
theorem div_nil {t : Nat} : DivAre [] t [] := by
  unfold DivAre
  simp
theorem ring_law {gl : List Nat} {first gap : Int} {t n : Nat} {ys : List Value} (P : IsPerm gl) (hgl : gl.length = n) (hg : 1 ≤ gap) (h : DivAre (rings gl) t ys) : (decide (nowL first gap gl t = cardL first gap n) != decide (ys = [])) = false := by
  rw [now_div P hgl hg]
  have : allDiv (rings gl) t = decide (ys = []) := by
    rw [Bool.eq_iff_iff, allDiv_iff, decide_eq_true_iff]
    exact h.symm
  rw [this]
  exact bne_self_eq_false _
theorem fmod_div {t k : Nat} (hk : 0 < k) : (t : Int).fmod (k : Int) = ((t % k : Nat) : Int) := by
  rw [Int.fmod_eq_emod_of_nonneg _ (by omega)]; rfl
/-- the words bring what stands at σ y to y -/
structure Carry (n : Nat) (mv : List (Nat × Nat)) (σ : Nat → Nat) : Prop where
  lt : ∀ y, y < n → σ y < n
  inj : ∀ x y, x < n → y < n → σ x = σ y → x = y
  le : ∀ p ∈ mv, p.1 ≤ n ∧ p.2 ≤ n
  ex : ∀ (vs : List Value), n < vs.length → ∀ y, y < n → (execR Value.none mv vs).getD y Value.none = vs.getD (σ y) Value.none
theorem Carry.nil {n : Nat} : Carry n [] id := ⟨fun _ h => h, fun _ _ _ _ h => h, (fun _ h => nomatch h), fun _ _ _ _ => rfl⟩
theorem Carry.step {gl : List Nat} {mv : List (Nat × Nat)} {σ : Nat → Nat} {n : Nat} (C : Carry n mv σ) (P : IsPerm gl) (hgl : gl.length = n) : Carry n (movesOf gl.length (rings gl) ++ mv) (fun y => hI gl (σ y)) := by
  subst hgl
  refine ⟨fun y hy => hI_lt P (C.lt y hy), fun x y hx hy h => C.inj x y hx hy (hI_inj P (C.lt x hx) (C.lt y hy) h), fun p hp => ?_, fun vs hv y hy => ?_⟩
  · rcases List.mem_append.mp hp with hp | hp
    · exact moves_le P p hp
    · exact C.le p hp
  · rw [execR_append, C.ex _ (by rw [execR_length]; exact hv) y hy, exec_perm P hv _ (C.lt y hy)]
def bits (f : Nat) : Nat := if f = 0 then 0 else if f < 2 then 1 else if f < 4 then 2 else if f < 8 then 3 else 4
theorem bits_half : ∀ f, f < 10 → 0 < f → bits (f / 2) + 1 ≤ bits f := by decide
theorem bits_le : ∀ f, f < 10 → 110 * bits f ≤ 440 := by decide
theorem half_in {n : Nat} (hn : n = 4 ∨ n = 6 ∨ n = 8 ∨ n = 10) : ∀ f, f < n → 0 < f → f % 2 = 1 → hI (innerL n) f = f / 2 := by
  rcases hn with rfl | rfl | rfl | rfl <;> decide
theorem half_out {n : Nat} (hn : n = 4 ∨ n = 6 ∨ n = 8 ∨ n = 10) : ∀ f, f < n → 0 < f → f % 2 ≠ 1 → hI (outerL n) f = f / 2 := by
  rcases hn with rfl | rfl | rfl | rfl <;> decide
abbrev endL (first gap : Int) (n : Nat) (σ : Nat → Nat) : List Int := (List.range n).map fun y => first + gap * ((σ y : Nat) : Int)
theorem Carry.ints {n : Nat} {mv : List (Nat × Nat)} {σ : Nat → Nat} {first gap : Int} {cv : List Value} (C : Carry n mv σ) (h : IntsAre cv (cardL first gap n)) :
    IntsAre ((execR Value.none mv (bank cv)).take (cardL first gap n).length) (endL first gap n σ) := by
  have hl := h.length
  rw [List.length_map, List.length_range] at hl
  have hb : (bank cv).length = n + 13 := by unfold bank; rw [List.length_append, List.length_append, hl]; rfl
  have hx : (execR Value.none mv (bank cv)).length = n + 13 := by rw [execR_length, hb]
  rw [List.length_map, List.length_range]
  have ht : ((execR Value.none mv (bank cv)).take n).length = n := by rw [List.length_take, hx]; omega
  refine ints_of_get (by rw [ht, List.length_map, List.length_range]) fun j hj => ?_
  rw [ht] at hj
  have hs := C.lt j hj
  rw [getD_take hj, C.ex _ (by omega) j hj, getD_mapR hj]
  unfold bank
  rw [List.append_assoc, getD_left (by omega)]
  have := ints_get h (σ j) (by omega)
  rw [getD_mapR hs] at this
  exact this
theorem Carry.found {n g : Nat} {mv : List (Nat × Nat)} {σ : Nat → Nat} {first gap : Int} (C : Carry n mv σ) (hgap : 1 ≤ gap) (hg : g < n) (h0 : σ g = 0) :
    first ∈ endL first gap n σ ∧ (endL first gap n σ).idxOf first = g := by
  have hm : first ∈ endL first gap n σ := List.mem_map.mpr ⟨g, List.mem_range.mpr hg, by rw [h0]; omega⟩
  refine ⟨hm, ?_⟩
  have hj : (endL first gap n σ).idxOf first < (endL first gap n σ).length := List.idxOf_lt_length_iff.mpr hm
  have e := List.getElem_idxOf hj
  rw [List.length_map, List.length_range] at hj
  rw [List.getElem_map, List.getElem_range] at e
  have e2 : gap * ((σ ((endL first gap n σ).idxOf first) : Nat) : Int) = 0 := by omega
  have e3 : σ ((endL first gap n σ).idxOf first) = 0 := by
    rcases Int.mul_eq_zero.mp e2 with h | h <;> omega
  exact C.inj _ _ hj hg (by rw [e3, h0])
theorem card_zero {first gap : Int} {n : Nat} (h : 0 < n) : (cardL first gap n).getD (0 : Int).toNat 0 = first := by
  show (cardL first gap n).getD 0 0 = first
  rw [getD_mapR h]; show first + gap * 0 = first; rw [Int.mul_zero, Int.add_zero]
structure FC where
  ca : Addr
  cv : List Value
  cn : Nat
  first : Int
  gap : Int
  g : Nat
  n : Nat
inductive CFF (L : Nat) (c : FC)  : Prop
  | mk  (p0 : (c.n = 4 ∨ c.n = 6 ∨ c.n = 8 ∨ c.n = 10)) (p1 : c.g < c.n) (p2 : (1 ≤ c.gap ∧ c.gap ≤ 9)) (p3 : (-50 ≤ c.first ∧ c.first < 50)) (p4 : IntsAre c.cv (cardL c.first c.gap c.n)) (p5 : (c.ca ≠ L + 1 + 1 + 1 + 1 + 1 + 1 ∧ c.ca ≠ 543)) : CFF L c
inductive JF (L : Nat) (c : FC) (f : Nat) (m : Str → Option Value) (nx : Led)  : Prop
  | mk (wl : Addr) (wv : List Value) (wn : Nat) (mv : List (Nat × Nat)) (σ : Nat → Nat) (o6 : Obj) (ps : Array Value) (v6 : Option Value) (t2 t3 t4 : Tok) (p0 : nx = [(L + 1 + 1 + 1 + 1 + 1 + 1, o6), (543, tabObj ps), (c.ca, listOf c.cv.toArray c.cn), (wl, listOf wv.toArray wn)]) (p1 : TabOk ps) (p2 : m (Str.ofString "many") = some (.int (c.n : Int) t2)) (p3 : m (Str.ofString "goal") = some (.int (c.g : Int) t3)) (p4 : m (Str.ofString "cards") = some (.ref c.ca)) (p5 : m (Str.ofString "words") = some (.ref wl)) (p6 : m (Str.ofString "figures") = some (.int (f : Int) t4)) (p7 : o6.data = Data.cell v6) (p8 : IntsAre wv (encs mv)) (p9 : Carry c.n mv σ) (p10 : σ c.g = f) (p11 : mv.length + 110 * bits f ≤ 440) (p12 : f < c.n) (p13 : (wl ≠ L + 1 + 1 + 1 + 1 + 1 + 1 ∧ wl ≠ 543 ∧ wl ≠ c.ca)) : JF L c f m nx
inductive RF (h0 : Heap) (L : Nat) (s1 : Shared) (c : FC) (f : Nat) (s : Shared)  : Prop
  | mk (h : Heap) (tk : Nat) (m : Str → Option Value) (nx : Led) (p0 : s = { heap := h, gens := s1.gens, drawn := s1.drawn, toks := tk, os := s1.os }) (p1 : Fr h0 L h m) (p2 : News h0 L h nx) (p3 : JF L c f m nx) : RF h0 L s1 c f s
def RF0 (h0 : Heap) (L : Nat) (s1 s : Shared) : Prop := ∃ c, CFF L c ∧ RF h0 L s1 c c.g s
theorem fdiv2 {f : Nat} : (f : Int).fdiv 2 = ((f / 2 : Nat) : Int) := by
  rw [Int.fdiv_eq_ediv_of_nonneg _ (by decide)]; rfl
theorem fmod2 {f : Nat} : (f : Int).fmod 2 = ((f % 2 : Nat) : Int) := fmod_div (by decide)
theorem encs_len {l : List (Nat × Nat)} : (encs l).length = l.length := List.length_map ..
theorem encs_append {a b : List (Nat × Nat)} : encs a ++ encs b = encs (a ++ b) := List.map_append.symm
theorem Carry.next {gl : List Nat} {mv : List (Nat × Nat)} {σ : Nat → Nat} {n g f : Nat} (C : Carry n mv σ) (P : IsPerm gl) (hgl : gl.length = n) (hs : σ g = f) (hf : f < 10) (h0 : 0 < f) (hlen : mv.length + 110 * bits f ≤ 440) (hn : n ≤ 10) (hh : hI gl f = f / 2) :
    Carry n (movesOf gl.length (rings gl) ++ mv) (fun y => hI gl (σ y)) ∧ hI gl (σ g) = f / 2 ∧ (movesOf gl.length (rings gl) ++ mv).length + 110 * bits (f / 2) ≤ 440 := by
  refine ⟨C.step P hgl, by rw [hs, hh], ?_⟩
  have z := moves_few P (by omega)
  have zb := bits_half f hf h0
  rw [List.length_append]
  omega
/-- the law has told True -/
inductive LawEnd (h0 : Heap) (L : Nat) (s1 : Shared) (f : Flow) (s' : Shared)  : Prop
  | mk  (p0 : f = Flow.ret (.bool true)) (m : _) (h' : _) (tk' : _) (ps : _) (rest : _) (p1 : s' = { heap := h', gens := s1.gens, drawn := s1.drawn, toks := tk', os := s1.os }) (p2 : Fr h0 L h' m) (p3 : News h0 L h' ((543, tabObj ps) :: rest)) (p4 : TabOk ps) : LawEnd h0 L s1 f s'
section
local macro_rules | `(tactic| omega) => `(tactic| first | omega (splitDisjunctions := false) | ((repeat (rename _ ∧ _ => hC; cases hC)); (repeat (rename _ ≠ _ => hX; clear hX)); omega (splitDisjunctions := true)))
local macro_rules | `(tactic| walk_at "my mem") => `(tactic| first | with_reducible exact mem_c | with_reducible exact mem_2 | with_reducible exact mem_3 | with_reducible exact mem_4 | (with_reducible refine skip_4 ?_; walk_at "my mem") | (with_reducible refine skip_1 ?_; walk_at "my mem") | with_reducible assumption | (with_reducible refine List.mem_append_left _ ?_; walk_at "my mem") | (with_reducible refine List.mem_append_right _ ?_; walk_at "my mem"))
local macro_rules | `(tactic| walk_at "my mem2") => `(tactic| first | exact List.mem_cons_self | assumption | (refine List.mem_cons_of_mem _ ?_; walk_at "my mem2") | (refine List.mem_append_left _ ?_; walk_at "my mem2") | (refine List.mem_append_right _ ?_; walk_at "my mem2"))
local macro_rules | `(tactic| k_mem) => `(tactic| first | walk_at "my mem" | walk_at "my mem2")
local macro_rules | `(tactic| walk_at "my ne") => `(tactic| first | with_reducible assumption | with_reducible exact Ne.symm (by with_reducible assumption) | with_reducible exact Nat.ne_of_lt (by with_reducible assumption) | with_reducible exact Nat.ne_of_gt (by with_reducible assumption))
local macro_rules | `(tactic| k_ne) => `(tactic| (refine neN ?_; first | walk_at "my ne" | ((try dsimp only); walk_at "my ne") | (walk_at "my split"; (try dsimp only); first | walk_at "my ne" | omega (splitDisjunctions := false))))
local macro_rules | `(tactic| walk_at "my upd") => `(tactic| first | (refine' Upd.head ?a; (case a => k_all)) | (refine' Upd.tail ?a ?b; (case a => k_ne); (case b => walk_at "my upd")))
local macro_rules | `(tactic| k_upd) => `(tactic| walk_at "my upd")
local macro_rules | `(tactic| walk_at "my updF") => `(tactic| first | (refine' UpdF.head ?a; (case a => k_all)) | (refine' UpdF.tail ?a ?b; (case a => k_ne); (case b => walk_at "my updF")))
local macro_rules | `(tactic| k_updF) => `(tactic| walk_at "my updF")
local macro_rules | `(tactic| walk_at "my split") => `(tactic| repeat (first | (rename _ ∧ _ ∧ _ ∧ _ ∧ _ ∧ _ ∧ _ ∧ _ => hC; refine elim_8 hC ?_; clear hC; intro _ _ _ _ _ _ _ _) | (rename _ ∧ _ ∧ _ ∧ _ => hC; refine elim_4 hC ?_; clear hC; intro _ _ _ _) | (rename _ ∧ _ => hC; cases hC)))
local macro_rules | `(tactic| walk_at "my offleaf") => `(tactic| first
  | assumption
  | exact Off.nil
  | exact Off.of1 (by assumption)
  | exact Off.ofLt (by assumption)
  | exact Off.ofLt (allLt_left (by assumption))
  | exact Off.ofLt (allLt_right (by assumption))
  | exact Off.ofLt (allLt_left (allLt_right (by assumption)))
  | exact Off.ofLt (allLt_right (allLt_right (by assumption))))
local macro_rules | `(tactic| k_all) => `(tactic| (show Off _ _; first | assumption | (walk_at "my split"; repeat' (first | with_reducible exact Off.nil | with_reducible refine off_c ?_ ?_ | with_reducible refine Off.append ?_ ?_ | k_ne | walk_at "my offleaf"))))
local macro_rules | `(tactic| walk_at "my enter") => `(tactic| k_dflt (first
  | (refine' code_def ?k1 ?k2 ?k3 ?k4 ?k5 ?kA ?kF ?kK ?k6 ?k7 ?k8 ?k9 ?kB ?_ ?c2 ?c3 ?c4 ?c5; (case kA => exact rfl); (case kF => exact rfl); (case kK => first | exact rfl | assumption); (case k1 => k_asm); (case k2 => k_asm); (case k3 => k_asm); (case k4 => k_asm); (case k5 => k_asm); (case k6 => k_is); (case k7 => k_is); (case k8 => ktr_room); (case k9 => first | exact BindsTo.of_eq rfl | exact binds_K (by k_in) rfl (by k_is) rfl rfl rfl); (case c5 => decide); (case kB => exact locs rfl); (case c2 => exact rfl); (case c3 => exact rfl); (case c4 => exact rfl); k_whole; intro g' L' h' FG' F' N' B' X' T'; (try dsimp only); (try k_fold))
  | (refine' code_defC ?k1 ?k2 ?k3 ?k4 ?k5 ?kA ?kF ?kK ?k6 ?k7 ?k8 ?k9 ?kB ?kD ?_ ?c2 ?c3 ?c4; (case kA => exact rfl); (case kF => exact rfl); (case kK => first | exact rfl | assumption); (case k1 => k_asm); (case k2 => k_asm); (case k3 => k_asm); (case k4 => k_asm); (case k5 => k_asm); (case k6 => k_is); (case k7 => k_is); (case k8 => ktr_room); (case k9 => first | exact BindsTo.of_eq rfl | exact binds_K (by k_in) rfl (by k_is) rfl rfl rfl); (case kB => exact rfl); (case kD => decide +kernel); (case c2 => exact rfl); (case c3 => exact rfl); (case c4 => exact rfl); k_whole; intro g' L' h' tk' cells' FG' F' N' Y' B' X' T' l1; (try k_lt l1); (k_cells Y'); (try simp only [List.cons_append, List.nil_append] at N'); (try dsimp only); (try k_fold))))
local macro_rules | `(tactic| walk_at "my in") => `(tactic| first | assumption | (refine List.Mem.tail _ ?_; walk_at "my in") | (refine List.mem_append.mpr (Or.inl ?_); walk_at "my in") | (refine List.mem_append.mpr (Or.inr ?_); walk_at "my in"))
local macro_rules | `(tactic| walk_at "my sub") => `(tactic| ((try simp only [List.nil_append, List.cons_append, List.append_assoc]); repeat' (first | with_reducible exact sub_nil | with_reducible refine sub_cons ?_ ?_ | with_reducible refine sub_append ?_ ?_ | (intro p hp; walk_at "my in") | k_mem)))
local macro_rules | `(tactic| walk_at "my off") => `(tactic| ((try simp only [List.nil_append, List.cons_append]); repeat' (first | with_reducible exact offs_nil | with_reducible refine offs_cons ?_ ?_ | k_all)))
local macro_rules | `(tactic| walk_at "my pick") => `(tactic| (repeat' (first | exact Picks.nil | refine' Picks.cons ?_ ?_ | exact Pick.head | refine' Pick.tail ?_)))
local macro_rules | `(tactic| walk_at "pyIter ref") => `(tactic| (k_here; (with_reducible show wpAny _ _ (pyIter (Value.ref _)) (fun it s₂ => LoopAtV _ _ _ _ _ _ _ _ _ it s₂) _ _); refine of_stop ?_))
local macro_rules | `(tactic| walk_at "exec While") => `(tactic| (k_here; refine of_stop ?_))
local macro_rules | `(tactic| walk_at "call builtin:list.index") => `(tactic| (k_here; (with_reducible show wpAny _ _ (call (Value.builtin _) [Value.ref _, Value.int _ _]) _ _ _); k_dflt (refine' idx_nat ?N ?m ?i ?k ?z ?_; (case N => k_asm); (case m => k_mem); (case i => assumption); (case k => assumption); (case z => (first | assumption | omega)); k_whole); intro u'))
local macro_rules | `(tactic| walk_at "call builtin:list.extend") => `(tactic| (k_here; (with_reducible show wpAny _ _ (call (Value.builtin _) [Value.ref _, Value.ref _]) _ _ _); walk_at "my split"; (try (rename List.length _ = List.length (List.map _ _) => hL9; simp only [List.length_map, rangeKs_length] at hL9)); k_dflt (refine' ext_any ?F ?N ?b ?U ?z ?_; (case F => k_asm); (case N => k_asm); (case b => k_mem); (case U => k_upd); (case z => walk_at "my len"); k_whole); intro h' F' N'; (try k_sweep)))
local macro_rules | `(tactic| walk_at "my ints") => `(tactic| first | assumption | exact IntsAre.nil | exact IntsAre.cons _ _ IntsAre.nil)
local macro_rules | `(tactic| walk_at "my len") => `(tactic| first | omega | (simp only [List.length_append, List.length_map, List.length_replicate, Int.reduceToNat, List.length_cons, List.length_nil, List.length_range, rangeKs_length]; omega))
local macro_rules | `(tactic| walk_at "binaryOp Add ref ref") => `(tactic| (k_here; (with_reducible show wpAny _ _ (binaryOp _ (Value.ref _) (Value.ref _)) _ _ _); walk_at "my split"; k_dflt (refine' add_any ?F ?N ?a ?b ?z ?_; (case F => k_asm); (case N => k_asm); (case a => k_mem); (case b => k_mem); (case z => walk_at "my len"); k_whole); intro D' us' h' F' N' l1 he' hl'; (try k_lt l1); (try simp only [List.length_cons, List.length_nil, List.length_map] at hl'); (try k_sweep)))
local macro_rules | `(tactic| walk_at "binaryOp Add ref ref") => `(tactic| (k_here; (with_reducible show wpAny _ _ (binaryOp _ (Value.ref _) (Value.ref _)) _ _ _); walk_at "my split"; k_dflt (refine' add_ints ?F ?N ?a ?b ?i ?j ?z ?_; (case F => k_asm); (case N => k_asm); (case a => k_mem); (case b => k_mem); (case i => walk_at "my ints"); (case j => walk_at "my ints"); (case z => walk_at "my len"); k_whole); intro D' us' ns' h' F' N' l1 hI' he' hl' hv'; (try k_lt l1); (try simp only [List.length_cons, List.length_nil, List.length_map] at hl'); (try k_sweep)))
local macro_rules | `(tactic| walk_at "subscriptTail Name Name ref int") => `(tactic| (k_here; (with_reducible show wpAny _ _ (subscriptTail _ _ (Value.ref _) (Value.int _ _)) _ _ _); k_dflt (refine' ksa_sub ?k1 ?k2 ?k3 ?k4 ?k5 ?k6 ?_ ?k7; (case k1 => k_asm); (case k2 => k_mem); (case k3 => assumption); (case k4 => omega); (case k5 => walk_at "my len"); (case k6 => omega); (case k7 => with_unfolding_all rfl); k_whole); intro _))
local macro_rules | `(tactic| walk_at "subscriptTail Name BinOp ref int") => `(tactic| (k_here; (with_reducible show wpAny _ _ (subscriptTail _ _ (Value.ref _) (Value.int _ _)) _ _ _); k_dflt (refine' ksa_sub ?k1 ?k2 ?k3 ?k4 ?k5 ?k6 ?_ ?k7; (case k1 => k_asm); (case k2 => k_mem); (case k3 => assumption); (case k4 => omega); (case k5 => walk_at "my len"); (case k6 => omega); (case k7 => with_unfolding_all rfl); k_whole); intro _))
local macro_rules | `(tactic| walk_at "call builtin:len") => `(tactic| (k_here; (with_reducible show wpAny _ _ (call (Value.builtin _) [Value.ref _]) _ _ _); k_dflt (refine' len_any ?N ?m ?e ?z ?_; (case N => k_asm); (case m => k_mem); (case e => assumption); (case z => walk_at "my len"); k_whole); intro _ _))
local macro_rules | `(tactic| walk_at "eval Lambda") => `(tactic| (k_here; k_dflt (refine' lam_any (P := 543) (c := 547) ?F ?N ?T ?C ?cd ?U ?t ?cl ?d ?_; (case F => k_asm); (case N => k_asm); (case T => k_asm); (case cd => exact rfl); (case U => k_updF); (case C => exact codeHd_of_K (by assumption) (by kernel_rfl)); (case t => assumption); (case cl => exact rfl); (case d => exact rfl); k_whole); intro f' ps' h' tk' F' N' ht'; (try dsimp only at N'); (try k_sweep)))
local macro_rules | `(tactic| k_room) => `(tactic| ktr_room)
local macro_rules | `(tactic| walk_at "binaryOp Mult ref int") => `(tactic| (k_here; (with_reducible show wpAny _ _ (binaryOp Operator.Mult (Value.ref _) (Value.int _ _)) _ _ _); k_dflt (refine' mul_one' ?F ?N ?l ?lo ?hi ?z ?_; (case F => k_asm); (case N => k_asm); (case l => k_mem); (case lo => omega); (case hi => omega); (case z => decide); k_whole); intro D' h' F' N' l1; (try k_lt l1); (try k_sweep)))
local macro_rules | `(tactic| walk_at "setItem ref int") => `(tactic| (k_here; (with_reducible show wpAny _ _ (setItem (Value.ref _) (Value.int _ _) _) _ _ _); k_dflt (refine' set_any ?F ?N ?U ?z0 ?z1 ?z2 ?_; (case F => k_asm); (case N => k_asm); (case U => k_upd); (case z0 => omega); (case z1 => walk_at "my len"); (case z2 => walk_at "my len"); k_whole); intro h' F' N'; (try k_sweep)))
local macro_rules | `(tactic| walk_at "my item") => `(tactic| (k_here; (with_reducible show wpAny _ _ (subscriptTail _ _ (Value.ref _) (Value.int _ _)) _ _ _); k_dflt (refine' item_any ?N ?m ?z0 ?z1 ?z2 ?_ ?hs ?hg; (case N => k_asm); (case m => k_mem); (case z0 => omega); (case z1 => walk_at "my len"); (case z2 => walk_at "my len"); (case hs => with_unfolding_all rfl); (case hg => intro _; with_unfolding_all rfl); k_whole)))
local macro_rules | `(tactic| walk_at "subscriptTail Name Slice ref ref") => `(tactic| (k_here; (with_reducible show wpAny _ _ (subscriptTail _ (PySem.Expr.Slice _ _ none _) (Value.ref _) (Value.ref _)) _ _ _); k_dflt (refine' slice_head ?F ?N ?m ?x ?y ?z ?_ ?s ?t; (case F => k_asm); (case N => k_asm); (case m => k_mem); (case x => first | exact rfl | omega); (case y => omega); (case z => walk_at "my len"); (case s => with_unfolding_all rfl); (case t => kmk_pure)); intro D' h' F' N' l1; (try k_lt l1); (try k_sweep)))
local macro_rules | `(tactic| k_lt $h:ident) => `(tactic| (replace $h := allLt_of $h; (try dsimp only [AllLt] at $h:ident)))
section
local macro_rules | `(tactic| walk_at "setItem ref int") => `(tactic| (k_here; k_dflt (refine' set_last ?k1 ?k2 ?k3 ?k4 ?k5 ?k6 ?_; (case k1 => k_asm); (case k2 => k_asm); (case k3 => k_upd); (case k4 => assumption); (case k5 => rfl); (case k6 => omega); k_whole); intro h' F' N' hi'; (try k_sweep)))
theorem cut {w : World} {p loose mean mg mb} {a : Addr} {n : Nat} {vs : List Value} {ms : List Int} {k many : Int} {t : Tok} (hi : IntsAre vs (ms ++ [k])) (hk : 0 ≤ k) (hk2 : k ≤ 60) (hm : 1 ≤ many) (hm2 : many ≤ 1000) (hl : ms.length ≤ 16) :
    CSpec PySem.Challenge.rw_xm0628_01.prog w (hd01.heap_1 w.params) p loose mean mg mb 519 1 [.ref a, .int many t] [(a, listOf vs.toArray n)]
      (fun r chg new => ∃ x u vs' n', r = .int x u ∧ 0 ≤ x ∧ x < many ∧ IntsAre vs' (ms ++ [k+1]) ∧ chg = [(a, listOf vs'.toArray n')] ∧ new = []) := by
  unfold CSpec; k_fill
  intro dp un gd cn cs ad ccd cl outer A₀ base h₀ L m rest s Q E B F X N hoff T hk hd hu hret
  (try simp only [List.forall_mem_cons, List.not_mem_nil, false_implies, implies_true, and_true, List.nil_append, List.cons_append] at hoff N)
  (try simp only [List.forall_mem_cons, List.not_mem_nil, false_implies, implies_true, and_true, List.nil_append, List.cons_append] at hret)
  refine wpAny_call ?_; walk_at "my enter"
  k_steps
  · refine' hret _ [(_, listOf (List.toArray ?v) ?c)] [] _ _ ?f ?n ?o ⟨_, _, ?v, ?c, rfl, Int.fmod_nonneg_of_pos _ (by omega), Int.fmod_lt_of_pos _ (by omega), ?i, rfl, rfl⟩
    (case f => assumption); (case n => refine kst_newsOf (by assumption) ?_; walk_at "my sub"); (case o => walk_at "my off")
    all_goals assumption
  · refine' hret _ [(_, listOf (List.toArray ?v) ?c)] [] _ _ ?f ?n ?o ⟨_, _, ?v, ?c, rfl, Int.fmod_nonneg_of_pos _ (by omega), Int.fmod_lt_of_pos _ (by omega), ?i, rfl, rfl⟩
    (case f => assumption); (case n => refine kst_newsOf (by assumption) ?_; walk_at "my sub"); (case o => walk_at "my off")
    all_goals assumption

end
section
theorem outer {w : World} {p loose mean mg mb} {many : Int} {t : Tok} (hm : 4 ≤ many) (hm2 : many ≤ 10) :
    CSpec PySem.Challenge.rw_xm0628_01.prog w (hd01.heap_1 w.params) p loose mean mg mb 524 1 [.int many t] []
      (fun r chg new => ∃ l vs n, r = .ref l ∧ IntsAre vs ((rangeKs 0 (many - 1).toNat).map (fun k => (2 * k).fmod (many - 1)) ++ [many - 1]) ∧ chg = [] ∧ new = [(l, listOf (List.toArray vs) n)]) := by
  unfold CSpec; k_fill
  intro dp un gd cn cs ad ccd cl outer A₀ base h₀ L m rest s Q E B F X N hoff T hk hd hu hret
  (try simp only [List.forall_mem_cons, List.not_mem_nil, false_implies, implies_true, and_true, List.nil_append, List.cons_append] at hoff N)
  (try simp only [List.forall_mem_cons, List.not_mem_nil, false_implies, implies_true, and_true, List.nil_append, List.cons_append] at hret)
  refine wpAny_call ?_; walk_at "my enter"
  k_steps
  refine' hret _ [] [(_, listOf (List.toArray ?v) ?c)] _ _ ?f ?n ?o ⟨_, ?v, ?c, rfl, ?i, rfl, rfl⟩
  (case f => assumption); (case n => refine kst_newsOf (by assumption) ?_; walk_at "my sub"); (case o => walk_at "my off")
  rename IntsAre _ _ => hI
  rename _ = _ ++ [_] => he
  rw [he] at hI
  simpa only [Int.sub_zero] using hI
theorem inner {w : World} {p loose mean mg mb} {many : Int} {t : Tok} (hm : 4 ≤ many) (hm2 : many ≤ 10) :
    CSpec PySem.Challenge.rw_xm0628_01.prog w (hd01.heap_1 w.params) p loose mean mg mb 529 1 [.int many t] []
      (fun r chg new => ∃ l vs n, r = .ref l ∧ IntsAre vs ((rangeKs 0 many.toNat).map (fun k => (2 * k + 1).fmod (many + 1))) ∧ chg = [] ∧ new = [(l, listOf (List.toArray vs) n)]) := by
  unfold CSpec; k_fill
  intro dp un gd cn cs ad ccd cl outer A₀ base h₀ L m rest s Q E B F X N hoff T hk hd hu hret
  (try simp only [List.forall_mem_cons, List.not_mem_nil, false_implies, implies_true, and_true, List.nil_append, List.cons_append] at hoff N)
  (try simp only [List.forall_mem_cons, List.not_mem_nil, false_implies, implies_true, and_true, List.nil_append, List.cons_append] at hret)
  refine wpAny_call ?_; walk_at "my enter"
  k_steps
  refine' hret _ [] [(_, listOf (List.toArray ?v) ?c)] _ _ ?f ?n ?o ⟨_, ?v, ?c, rfl, ?i, rfl, rfl⟩
  (case f => assumption); (case n => refine kst_newsOf (by assumption) ?_; walk_at "my sub"); (case o => walk_at "my off")
  rename IntsAre _ _ => hI
  simpa only [Int.sub_zero] using hI

end
section
def JR (a : Addr) (vs : List Value) (n : Nat) (gl : List Nat) (rest : Led) (i : Nat) (m : Str → Option Value) (nx : Led) : Prop :=
  ∃ R S rv rn sv sn tl, nx = (R, listOf (List.toArray rv) rn) :: (S, listOf (List.toArray sv) sn) :: (a, listOf vs.toArray n) :: (tl ++ rest)
   ∧ m (Str.ofString "goes") = some (.ref a) ∧ m (Str.ofString "rings") = some (.ref R) ∧ m (Str.ofString "seen") = some (.ref S)
   ∧ ListsAre tl rv (ringsUpto gl i) ∧ IntsAre sv (nz (ringsUpto gl i).flatten)
   ∧ R ≠ S ∧ R ≠ a ∧ S ≠ a ∧ Off R tl ∧ Off R rest ∧ Off S tl ∧ Off S rest ∧ Off a tl ∧ (∀ p ∈ tl, p.1 ≠ a ∧ Off p.1 rest)
theorem rings_walk {w : World} {p loose mean mg mb} {a : Addr} {n : Nat} {vs : List Value} {gl : List Nat} (hi : IntsAre vs (nz gl)) (hP : IsPerm gl) (hm2 : gl.length ≤ 10) :
    CSpec PySem.Challenge.rw_xm0628_01.prog w (hd01.heap_1 w.params) p loose mean mg mb 536 1 [.ref a] [(a, listOf vs.toArray n)]
      (fun r chg new => ∃ l rv rn tl, r = .ref l ∧ ListsAre tl rv (rings gl) ∧ chg = [(a, listOf vs.toArray n)] ∧ new = (l, listOf (List.toArray rv) rn) :: tl ∧ Off l tl) := by
  have zv := hi.length
  rw [nz_length] at zv
  unfold CSpec; k_fill
  intro dp un gd cn cs ad ccd cl outer A₀ base h₀ L m rest s Q E B F X N hoff T hk hd hu hret
  (try simp only [List.forall_mem_cons, List.not_mem_nil, false_implies, implies_true, and_true, List.nil_append, List.cons_append] at hoff N)
  (try simp only [List.forall_mem_cons, List.not_mem_nil, false_implies, implies_true, and_true, List.nil_append, List.cons_append] at hret)
  refine wpAny_call ?_; walk_at "my enter"
  k_steps
  refine ⟨?_⟩
  refine' loop_range0 (n := gl.length) (JR a vs n gl rest) rfl (by assumption) (by simp) (by omega) (by assumption) (by assumption) ?hn ?hj ?turn ?done
  case hj =>
    refine ⟨_, _, _, 0, _, 0, [], rfl, rfl, rfl, rfl, .nil, .nil, ?_⟩
    refine ⟨?_, ?_, ?_, .nil, ?_, .nil, ?_, .nil, fun _ h => nomatch h⟩
    · k_ne
    · k_ne
    · k_ne
    · k_all
    · k_all
  case hn => walk_at "my sub"
  case turn =>
    intro i m₁ nx h tk own t hlt hown hJ F1 N1
    obtain ⟨R, S, rv, rn, sv, sn, tl, rfl, hg, hr, hs, hra, hsa, e1, e2, e3, o1, o1', o2, o2', o3, o4⟩ := hJ
    have F2 := fr_known (x := Str.ofString "goes") F1 ((if_neg (by decide)).trans hg)
    have F3 := fr_known (x := Str.ofString "rings") F2 ((if_neg (by decide)).trans ((if_neg (by decide)).trans hr))
    have F4 := fr_known (x := Str.ofString "seen") F3 ((if_neg (by decide)).trans ((if_neg (by decide)).trans ((if_neg (by decide)).trans hs)))
    clear F1 F2 F3
    have hl := nz_length (l := gl)
    have oR := own_off hown (.head _)
    have oS := own_off hown (.tail _ (.head _))
    have oA := own_off hown (.tail _ (.tail _ (.head _)))
    have oT : ∀ p ∈ tl ++ rest, Off p.1 own := fun p hp => own_off hown (.tail _ (.tail _ (.tail _ hp)))
    have z1 := hra.length
    have z2 := hsa.length
    rw [nz_length] at z2
    have z3 := ringsUpto_len (gl := gl) i
    have z4 := ringsUpto_flat hP i (by omega)
    have z5 := per_le hP hlt
    have z6 : gl.length * i ≤ 10 * 10 := Nat.mul_le_mul hm2 (by omega)
    simp only [List.cons_append, List.append_assoc] at N1
    k_steps
    · rename _ = true => q
      rw [nz_any, decide_eq_true_iff] at q
      refine InvEndG.intro (nx := (R, listOf (List.toArray rv) rn) :: (S, listOf (List.toArray sv) sn) :: (a, listOf vs.toArray n) :: (tl ++ rest)) F4 N1 ⟨R, S, rv, rn, sv, sn, tl, rfl, rfl, rfl, rfl, ?_, ?_, e1, e2, e3, o1, o1', o2, o2', o3, o4⟩ hown ?_ ?_
      · rw [ringsUpto_in q]; exact hra
      · rw [ringsUpto_in q]; exact hsa
      · walk_at "my sub"
      · walk_at "my sub"
    · refine ⟨?_⟩
      rename News _ _ _ _ => N2
      rename Fr _ _ _ _ => F5
      refine' While_inv2 (n₀ := per gl i) (fun q m nx => ∃ k d ivs c, k < per gl i ∧ q = per gl i - k ∧ nx = (d, listOf (List.toArray ivs) c) :: (R, listOf rv.toArray rn) :: (S, listOf sv.toArray sn) :: (a, listOf vs.toArray n) :: (tl ++ (rest ++ own))
        ∧ m (Str.ofString "ring") = some (.ref d) ∧ m (Str.ofString "goes") = some (.ref a) ∧ m (Str.ofString "rings") = some (.ref R) ∧ m (Str.ofString "seen") = some (.ref S) ∧ m (Str.ofString "first") = some (.int i t)
        ∧ IntsAre ivs (nz (orb gl i k) ++ [((it (hI gl) k i : Nat) : Int)]) ∧ Off d ((R, listOf rv.toArray rn) :: (S, listOf sv.toArray sn) :: (a, listOf vs.toArray n) :: (tl ++ (rest ++ own)))) F5 N2 ?hj2 ?turn2
      case hj2 =>
        refine ⟨0, _, _, 0, per_pos, rfl, rfl, rfl, rfl, rfl, rfl, rfl, ?_, ?_⟩
        · exact .cons _ _ .nil
        · k_all
      case turn2 =>
        intro q m₂ nx2 h2 tk2 F6 N6 hJ
        obtain ⟨k, d, ivs, c, hk, rfl, rfl, k1, k2, k3, k4, k5, hiv, od⟩ := hJ
        have F7 := fr_known F6 k5
        have F8 := fr_known (x := Str.ofString "seen") F7 ((if_neg (by decide)).trans k4)
        have F9 := fr_known (x := Str.ofString "rings") F8 ((if_neg (by decide)).trans ((if_neg (by decide)).trans k3))
        have F10 := fr_known (x := Str.ofString "goes") F9 ((if_neg (by decide)).trans ((if_neg (by decide)).trans ((if_neg (by decide)).trans k2)))
        have F11 := fr_known (x := Str.ofString "ring") F10 ((if_neg (by decide)).trans ((if_neg (by decide)).trans ((if_neg (by decide)).trans ((if_neg (by decide)).trans k1))))
        clear F6 F7 F8 F9 F10
        simp only [Mine.off_cons, Mine.off_append] at od
        obtain ⟨d1, d2, d3, d4, d5, d6⟩ := od
        have y1 := hiv.length
        rw [List.length_append, nz_length, orb_length, List.length_singleton] at y1
        have hmem : it (hI gl) k i ∈ gl := hP.mem _ (it_hI_lt hP hlt k)
        k_steps
        · rename News _ _ _ _ => N7
          rename Fr _ _ _ _ => F7
          refine ⟨_, _, _, _, per gl i - (k + 1), rfl, F7, N7, ?_, k + 1, d, _, _, ?_, rfl, rfl, rfl, rfl, rfl, rfl, rfl, ?_, ?_⟩
          · omega
          · have := (per_spec hP hlt).1
            false_or_by_contra
            rename_i q
            have e : per gl i = k + 1 := by omega
            rw [e] at this
            rename ((gl.idxOf _ : Nat) : Int) ≠ _ => hne
            exact hne (by rw [show gl.idxOf (it (hI gl) k i) = i from this])
          · rw [List.concat_eq_append, orb_succ, nz_append]
            exact ints_snoc hiv
          · k_all
        · rename News _ _ _ _ => N7
          rename Fr _ _ _ _ => F7
          simp only [List.push_toArray] at N7
          rename ((gl.idxOf _ : Nat) : Int) = _ => q
          have q' : it (hI gl) (k + 1) i = i := by show gl.idxOf (it (hI gl) k i) = i; omega
          have hk1 : k + 1 = per gl i := by
            false_or_by_contra
            exact (per_spec hP hlt).2.2 (k + 1) (by omega) (by omega) q'
          have hring : nz (orb gl i k) ++ [((it (hI gl) k i : Nat) : Int)] = nz (ring gl i) := by
            unfold ring
            rw [← hk1, orb_succ, nz_append]; rfl
          rw [hring] at hiv
          rename List.any _ _ = false => q2
          rw [nz_any, decide_eq_false_iff_not] at q2
          rename List.getD _ _ _ ≠ _ => q3
          rw [nz_at] at q3
          have hnew := ringsUpto_new (gl := gl) (i := i) (fun q => q3 (by rw [show gl.getD i 0 = i from q])) q2
          refine InvEndG.intro (nx := (R, listOf (rv ++ [Value.ref d]).toArray (rn + 1)) :: (S, listOf (sv ++ ivs).toArray (cnt sv.length (sv ++ ivs).length sn)) :: (a, listOf vs.toArray n) :: (((d, listOf ivs.toArray c) :: tl) ++ rest)) F7 N7 ⟨R, S, _, _, _, _, (d, listOf ivs.toArray c) :: tl, rfl, rfl, rfl, rfl, ?_, ?_, e1, e2, e3, ?_, o1', ?_, o2', ?_, ?_⟩ ?_ ?_ ?_
          · rw [hnew]
            exact (hra.mono fun p hp => .tail _ hp).snoc (.head _) hiv
          · rw [hnew, List.flatten_append, List.flatten_singleton, nz_append]
            exact hsa.append hiv
          · k_all
          · k_all
          · k_all
          · exact List.forall_mem_cons.mpr ⟨⟨Ne.symm d3, d5⟩, o4⟩
          · refine own_of ?_
            exact List.forall_mem_cons.mpr ⟨oR, List.forall_mem_cons.mpr ⟨oS, List.forall_mem_cons.mpr ⟨oA, List.forall_mem_cons.mpr ⟨d6, oT⟩⟩⟩⟩
          · walk_at "my sub"
          · walk_at "my sub"
    · rename List.getD _ _ _ = _ => q
      rw [nz_at] at q
      have q' : gI gl i = i := by show gl.getD i 0 = i; omega
      refine InvEndG.intro (nx := (R, listOf (List.toArray rv) rn) :: (S, listOf (List.toArray sv) sn) :: (a, listOf vs.toArray n) :: (tl ++ rest)) F4 N1 ⟨R, S, rv, rn, sv, sn, tl, rfl, rfl, rfl, rfl, ?_, ?_, e1, e2, e3, o1, o1', o2, o2', o3, o4⟩ hown ?_ ?_
      · rw [ringsUpto_fix q']; exact hra
      · rw [ringsUpto_fix q']; exact hsa
      · walk_at "my sub"
      · walk_at "my sub"
  case done =>
    intro m₁ nx h tk hJ F1 N1
    obtain ⟨R, S, rv, rn, sv, sn, tl, rfl, hg, hr, hs, hra, hsa, e1, e2, e3, o1, o1', o2, o2', o3, o4⟩ := hJ
    have F2 := fr_known F1 hg
    have F3 := fr_known (x := Str.ofString "rings") F2 ((if_neg (by decide)).trans hr)
    have F4 := fr_known (x := Str.ofString "seen") F3 ((if_neg (by decide)).trans ((if_neg (by decide)).trans hs))
    clear F1 F2 F3
    k_steps
    refine hret _ [_] ((R, listOf (List.toArray rv) rn) :: tl) _ _ (by assumption) (kst_newsOf (by assumption) ?_) ?_ ⟨R, rv, rn, tl, rfl, hra, rfl, rfl, o1⟩
    · walk_at "my sub"
    · exact List.forall_mem_cons.mpr ⟨.cons (Ne.symm e2) o1', fun p hp => .cons (Ne.symm (o4 p hp).1) (o4 p hp).2⟩

end
section
local macro_rules | `(tactic| walk_at "call ref") => `(tactic| (k_here; k_dflt (refine' CSpec.use ?B ?F ?X ?N ?T ?P (rings_walk ?hi ?hP ?hm) ?hk ?ho ?hd ?hu ?_; (case B => k_asm); (case F => k_asm); (case X => k_asm); (case N => k_asm); (case T => k_asm); (case P => walk_at "my pick"); (case hi => assumption); (case hP => assumption); (case hm => assumption); (case hk => first | exact rfl | assumption); (case ho => walk_at "my off"); (case hd => ktr_room); (case hu => ktr_units); k_whole; refine of_stop ?_)))
theorem moves_walk {w : World} {p loose mean mg mb} {a : Addr} {n : Nat} {vs : List Value} {gl : List Nat} (hi : IntsAre vs (nz gl)) (hP : IsPerm gl) (hm2 : gl.length ≤ 10) :
    CSpec PySem.Challenge.rw_xm0628_01.prog w (hd01.heap_1 w.params) p loose mean mg mb 541 2 [.ref a] [(a, listOf vs.toArray n)]
      (fun r chg new => ∃ l wv wn, r = .ref l ∧ IntsAre wv (encs (movesOf gl.length (rings gl))) ∧ chg = [(a, listOf vs.toArray n)] ∧ new = [(l, listOf (List.toArray wv) wn)]) := by
  have zv := hi.length
  rw [nz_length] at zv
  unfold CSpec; k_fill
  intro dp un gd cn cs ad ccd cl outer A₀ base h₀ L m rest s Q E B F X N hoff T hk hd hu hret
  (try simp only [List.forall_mem_cons, List.not_mem_nil, false_implies, implies_true, and_true, List.nil_append, List.cons_append] at hoff N)
  (try simp only [List.forall_mem_cons, List.not_mem_nil, false_implies, implies_true, and_true, List.nil_append, List.cons_append] at hret)
  refine wpAny_call ?_
  k_dflt (refine' code_defC ?k1 ?k2 ?k3 ?k4 ?k5 ?kA ?kF ?kK ?k6 ?k7 ?k8 ?k9 ?kB ?kD ?_ ?c2 ?c3 ?c4; (case kA => exact rfl); (case kF => exact rfl); (case kK => first | exact rfl | assumption); (case k1 => k_asm); (case k2 => k_asm); (case k3 => k_asm); (case k4 => k_asm); (case k5 => k_asm); (case k6 => k_is); (case k7 => k_is); (case k8 => ktr_room); (case k9 => first | exact BindsTo.of_eq rfl | exact binds_K (by k_in) rfl (by k_is) rfl rfl rfl); (case kB => exact rfl); (case kD => decide +kernel); (case c2 => exact rfl); (case c3 => exact rfl); (case c4 => exact rfl))
  intro g' L' h' tk' cells' FG' F' N' Y' B' X' T' l1
  (try k_lt l1); (k_cells Y'); (try simp only [List.cons_append, List.nil_append] at N'); (try dsimp only); (try k_fold)
  rename _ = Data.cell _ => dC
  rename Obj => oC
  k_steps
  rename_i W0 _ _ _ _ _
  refine ⟨?_⟩
  intro r chg new h1 tk1 F1 N1 o1 hp
  obtain ⟨l, rv, rn, tl, rfl, hra, rfl, rfl, ol⟩ := hp
  simp only [List.cons_append, List.nil_append] at N1
  simp only [List.forall_mem_cons, List.cons_append, List.nil_append, Mine.off_cons] at o1
  obtain ⟨⟨p1, p2, p3, p4⟩, o2⟩ := o1
  k_steps
  refine ⟨?_⟩
  have oC1 : Off (L' + 1) rest := fun q hq => by
    rename _ < L' ∧ AllLt L' rest => z
    have z' : q.1 < L' := ktn_ltOf z.2 q hq
    exact Nat.ne_of_lt (Nat.lt_succ_of_lt z')
  have hall : (movesOf gl.length (rings gl)).length ≤ 110 := by
    rw [movesOf_length, ← List.length_flatten]
    have z1 : (rings gl).length ≤ _ := ringsUpto_len (gl := gl) gl.length
    have z2 : (rings gl).flatten.length ≤ _ := ringsUpto_flat hP gl.length (Nat.le_refl _)
    have z3 : gl.length * gl.length ≤ 10 * 10 := Nat.mul_le_mul hm2 hm2
    omega
  refine' kdl_iter (l := l) (vs := rv) (nn := rn) (news := (W0, listOf (List.toArray []) 0) :: (L' + 1, oC) :: (a, listOf vs.toArray n) :: (l, listOf rv.toArray rn) :: (tl ++ rest)) (fun i m nx => ∃ W wv wn oc x, nx = (W, listOf (List.toArray wv) wn) :: (L' + 1, oc) :: (a, listOf vs.toArray n) :: (l, listOf rv.toArray rn) :: (tl ++ rest) ∧ oc.data = Data.cell x
    ∧ m (Str.ofString "goes") = some (.ref a) ∧ m (Str.ofString "words") = some (.ref W) ∧ IntsAre wv (encs (movesOf gl.length ((rings gl).take i))) ∧ W ≠ L' + 1 ∧ W ≠ a ∧ W ≠ l ∧ Off W tl ∧ Off W rest) rfl ?hl F1 ?hN ?hj ?turn ?done
  case hl => k_mem
  case hN => refine kst_newsOf N1 ?_; walk_at "my sub"
  case hj =>
    refine ⟨W0, [], _, _, _, rfl, dC, rfl, rfl, .nil, ?_, ?_, ?_, ?_, ?_⟩
    · k_ne
    · k_ne
    · k_ne
    · exact fun q hq => Ne.symm (o2 q hq).2.1
    · k_all
  case turn =>
    intro i v m₁ nx h tk own hv hown hmemb hJ F2 N2
    obtain ⟨W, wv, wn, oc, x, rfl, dc, g1, g2, hw, q1, q2, q3, q4, q5⟩ := hJ
    obtain ⟨d, ivs, c, r, hri, rfl, hdm, hiv⟩ := hra.get hv
    have F3 := fr_known (x := Str.ofString "goes") F2 ((if_neg (by decide)).trans g1)
    have F4 := fr_known (x := Str.ofString "words") F3 ((if_neg (by decide)).trans ((if_neg (by decide)).trans g2))
    clear F2 F3
    have oW := own_off hown (.head _)
    have oC' := own_off hown (.tail _ (.head _))
    have oA := own_off hown (.tail _ (.tail _ (.head _)))
    have oL := own_off hown (.tail _ (.tail _ (.tail _ (.head _))))
    have oT : ∀ p ∈ tl ++ rest, Off p.1 own := fun p hp => own_off hown (.tail _ (.tail _ (.tail _ (.tail _ hp))))
    simp only [List.cons_append, List.append_assoc] at N2
    have oC2 : Off (L' + 1) tl := fun q hq => Ne.symm (o2 q hq).2.2.1
    have hl := nz_length (l := gl)
    have z1 := hiv.length
    rw [nz_length] at z1
    have z2 := hw.length
    rw [List.length_map] at z2
    have z3 : r.length ≤ 10 := by
      obtain ⟨x, hx, e⟩ := (ringsUpto_are hP gl.length (Nat.le_refl _)).ring r (List.mem_of_getElem? hri)
      rw [e, orb_length]
      exact Nat.le_trans (per_le hP hx) hm2
    have z4 : (nz r).length = r.length := nz_length
    have z5 : (movesOf gl.length ((rings gl).take i)).length ≤ 110 := by
      refine Nat.le_trans ?_ hall
      conv => rhs; rw [← List.take_append_drop i (rings gl)]
      unfold movesOf
      rw [List.flatMap_append, List.length_append]; omega
    k_steps
    rename News _ _ _ _ => N7
    rename Fr _ _ _ _ => F7
    rename IntsAre _ (List.map _ (rangeKs _ _)) => hI
    rename _ = _ ++ [((gl.length : Nat) : Int)] => hb1
    rename _ = [((gl.length : Nat) : Int)] ++ nz r => hb2
    rename _ = Data.cell (some _) => dC2
    rw [hb2] at hb1
    rw [hb1.trans nz_row, enc_row] at hI
    refine' InvEndG.intro (nx := (W, listOf (List.toArray ?w1) ?w2) :: (L' + 1, ?oc) :: (a, listOf vs.toArray n) :: (l, listOf rv.toArray rn) :: (tl ++ rest)) F7 N7 ⟨?m, W, _, _, _, _, rfl, dC2, rfl, rfl, ?iI, q1, q2, q3, q4, q5⟩ ?ha ?hn ?ho
    case hn => walk_at "my sub"
    case m => k_mem
    case iI =>
      rw [moves_take hri]
      show IntsAre _ (List.map enc _)
      rw [List.map_append]
      exact hw.append hI
    case ho => walk_at "my sub"
    case ha =>
      refine own_of ?_
      exact List.forall_mem_cons.mpr ⟨oW, List.forall_mem_cons.mpr ⟨oC', List.forall_mem_cons.mpr ⟨oA, List.forall_mem_cons.mpr ⟨oL, oT⟩⟩⟩⟩
  case done =>
    intro m₁ nx h tk hJ F2 N2
    obtain ⟨W, wv, wn, oc, x, rfl, dc, g1, g2, hw, q1, q2, q3, q4, q5⟩ := hJ
    have F4 := fr_known F2 g2
    rw [hra.length, List.take_length] at hw
    k_steps
    refine hret _ [_] [(W, listOf (List.toArray wv) wn)] _ _ (by assumption) (kst_newsOf (by assumption) ?_) ?_ ⟨W, wv, wn, rfl, hw, rfl, rfl⟩
    · walk_at "my sub"
    · exact List.forall_mem_cons.mpr ⟨.cons (Ne.symm q2) q5, fun _ h => nomatch h⟩

end
section
theorem limits_new {w : World} {p loose mean mg mb} :
    CSpec PySem.Challenge.rw_xm0628_01.prog w (hd01.heap_1 w.params) p loose mean mg mb 95 2 [] []
      (fun r chg new => ∃ x, r = .ref x ∧ chg = [] ∧ new = []) := by
  unfold CSpec; k_fill
  intro dp un gd cn cs ad ccd cl outer A₀ base h₀ L m rest s Q E B F X N hoff T hk hd hu hret
  (try simp only [List.forall_mem_cons, List.not_mem_nil, false_implies, implies_true, and_true, List.nil_append, List.cons_append] at hoff N)
  (try simp only [List.forall_mem_cons, List.not_mem_nil, false_implies, implies_true, and_true, List.nil_append, List.cons_append] at hret)
  k_dflt (refine' call_cls ?k1 ?k2 ?k3 ?k4 ?k5 ?k6 ?_; (case k1 => k_asm); (case k2 => k_asm); (case k3 => k_asm); (case k4 => k_is); (case k5 => k_is); (case k6 => k_is))
  intro x' d' h' F' N' l1 l2
  have l3 := fun p hp => Nat.lt_trans (l1 p hp) l2
  (try k_lt l1); (try k_lt l3)
  clear F N
  k_dflt (refine' code_def (binds := [(Str.ofString "self", .ref x'), (Str.ofString "width", .int 64 268), (Str.ofString "registers", .int 250 269), (Str.ofString "upvalues", .int 60 270), (Str.ofString "local_names", .int 200 271), (Str.ofString "ccalls", .int 40 272), (Str.ofString "frames", .int 200 273), (Str.ofString "stack", .int 2000 274), (Str.ofString "flush", .int 50 275), (Str.ofString "steps", .int 1000000000 276), (Str.ofString "text", .int 1000000 277)]) ?k1 ?k2 ?k3 ?k4 ?k5 ?kA ?kF ?kK ?k6 ?k7 ?k8 ?k9 ?kB ?_ ?c2 ?c3 ?c4 ?c5; (case kA => exact rfl); (case kF => exact rfl); (case kK => first | exact rfl | assumption); (case k1 => k_asm); (case k2 => k_asm); (case k3 => k_asm); (case k4 => k_asm); (case k5 => k_asm); (case k6 => k_is); (case k7 => k_is); (case k8 => ktr_room); (case k9 => first | exact BindsTo.of_eq rfl | exact binds_K (by k_in) rfl (by k_is) rfl rfl rfl); (case c5 => decide); (case kB => exact locs rfl); (case c2 => exact rfl); (case c3 => exact rfl); (case c4 => exact rfl); k_whole; intro g' L' h' FG' F' N' B' X' T'; (try dsimp only); (try k_fold))
  k_steps
  refine hret _ [] [] _ _ (by assumption) (kst_newsOf (by assumption) ?_) ?_ ⟨_, rfl, rfl, rfl⟩
  · walk_at "my sub"
  · exact fun _ h => nomatch h
theorem works_new {w : World} {p loose mean mg mb} {f1 f2 f3 f4 f5 f6 : Addr} :
    CSpec PySem.Challenge.rw_xm0628_01.prog w (hd01.heap_1 w.params) p loose mean mg mb 417 2 [.ref f1, .ref f2, .ref f3, .ref f4, .ref f5, .ref f6] []
      (fun r chg new => ∃ x, r = .ref x ∧ chg = [] ∧ new = []) := by
  unfold CSpec; k_fill
  intro dp un gd cn cs ad ccd cl outer A₀ base h₀ L m rest s Q E B F X N hoff T hk hd hu hret
  (try simp only [List.forall_mem_cons, List.not_mem_nil, false_implies, implies_true, and_true, List.nil_append, List.cons_append] at hoff N)
  (try simp only [List.forall_mem_cons, List.not_mem_nil, false_implies, implies_true, and_true, List.nil_append, List.cons_append] at hret)
  k_dflt (refine' call_cls ?k1 ?k2 ?k3 ?k4 ?k5 ?k6 ?_; (case k1 => k_asm); (case k2 => k_asm); (case k3 => k_asm); (case k4 => k_is); (case k5 => k_is); (case k6 => k_is))
  intro x' d' h' F' N' l1 l2
  have l3 := fun p hp => Nat.lt_trans (l1 p hp) l2
  (try k_lt l1); (try k_lt l3)
  clear F N
  k_dflt (refine' code_def (binds := [(Str.ofString "self", .ref x'), (Str.ofString "new_table", .ref f1), (Str.ofString "index", .ref f2), (Str.ofString "put", .ref f3), (Str.ofString "length", .ref f4), (Str.ofString "compared", .ref f5), (Str.ofString "called", .ref f6)]) ?k1 ?k2 ?k3 ?k4 ?k5 ?kA ?kF ?kK ?k6 ?k7 ?k8 ?k9 ?kB ?_ ?c2 ?c3 ?c4 ?c5; (case kA => exact rfl); (case kF => exact rfl); (case kK => first | exact rfl | assumption); (case k1 => k_asm); (case k2 => k_asm); (case k3 => k_asm); (case k4 => k_asm); (case k5 => k_asm); (case k6 => k_is); (case k7 => k_is); (case k8 => ktr_room); (case k9 => first | exact BindsTo.of_eq rfl | exact binds_K (by k_in) rfl (by k_is) rfl rfl rfl); (case c5 => decide); (case kB => exact locs rfl); (case c2 => exact rfl); (case c3 => exact rfl); (case c4 => exact rfl); k_whole; intro g' L' h' FG' F' N' B' X' T'; (try dsimp only); (try k_fold))
  k_steps
  refine hret _ [] [] _ _ (by assumption) (kst_newsOf (by assumption) ?_) ?_ ⟨_, rfl, rfl, rfl⟩
  · walk_at "my sub"
  · exact fun _ h => nomatch h
theorem stepper_new {w : World} {p loose mean mg mb} {C K R Li W : Addr} {rv : List Value} {rn : Nat} (hz : rv.length ≤ 100) :
    CSpec PySem.Challenge.rw_xm0628_01.prog w (hd01.heap_1 w.params) p loose mean mg mb 508 2 [.ref C, .ref K, .ref R, .ref Li, .ref W] [(R, listOf rv.toArray rn)]
      (fun r chg new => ∃ x d S t0 t1 t2 t3 t4 t5 t6 t7 t8 u1 u2 u3, r = .ref x ∧ chg = [] ∧ new = [(x, instObj 508 d), (d, dictOf (sEnts w t0 t1 t2 t3 t4 t5 t6 t7 t8 (.ref C) (.ref K) (.ref S) (.int rv.length u1) (.ref Li) (.ref W) (.int 0 u2) (.int rv.length u3) .none) 9), (S, listOf (rv ++ List.replicate 12 Value.none).toArray 0)] ∧ x ≠ d ∧ S ≠ x ∧ S ≠ d) := by
  have zv : rv.length = rv.length := rfl
  unfold CSpec; k_fill
  intro dp un gd cn cs ad ccd cl outer A₀ base h₀ L m rest s Q E B F X N hoff T hk hd hu hret
  (try simp only [List.forall_mem_cons, List.not_mem_nil, false_implies, implies_true, and_true, List.nil_append, List.cons_append] at hoff N)
  (try simp only [List.forall_mem_cons, List.not_mem_nil, false_implies, implies_true, and_true, List.nil_append, List.cons_append] at hret)
  k_dflt (refine' call_cls ?k1 ?k2 ?k3 ?k4 ?k5 ?k6 ?_; (case k1 => k_asm); (case k2 => k_asm); (case k3 => k_asm); (case k4 => k_is); (case k5 => k_is); (case k6 => k_is))
  intro x' d' h' F' N' l1 l2
  have l3 := fun p hp => Nat.lt_trans (l1 p hp) l2
  (try k_lt l1); (try k_lt l3)
  clear F N
  k_dflt (refine' code_def (binds := [(Str.ofString "self", .ref x'), (Str.ofString "code", .ref C), (Str.ofString "constants", .ref K), (Str.ofString "registers", .ref R), (Str.ofString "limits", .ref Li), (Str.ofString "works", .ref W)]) ?k1 ?k2 ?k3 ?k4 ?k5 ?kA ?kF ?kK ?k6 ?k7 ?k8 ?k9 ?kB ?_ ?c2 ?c3 ?c4 ?c5; (case kA => exact rfl); (case kF => exact rfl); (case kK => first | exact rfl | assumption); (case k1 => k_asm); (case k2 => k_asm); (case k3 => k_asm); (case k4 => k_asm); (case k5 => k_asm); (case k6 => k_is); (case k7 => k_is); (case k8 => ktr_room); (case k9 => first | exact BindsTo.of_eq rfl | exact binds_K (by k_in) rfl (by k_is) rfl rfl rfl); (case c5 => decide); (case kB => exact locs rfl); (case c2 => exact rfl); (case c3 => exact rfl); (case c4 => exact rfl); k_whole; intro g' L' h' FG' F' N' B' X' T'; (try dsimp only); (try k_fold))
  k_steps
  rename _ = rv ++ _ => hus; subst hus
  walk_at "my split"
  refine' hret _ [] [(x', _), (d', _), (_, _)] _ _ ?f ?n ?o ⟨x', d', _, _, _, _, _, _, _, _, _, _, _, _, _, rfl, rfl, rfl, ?q1, ?q2, ?q3⟩
  (case f => assumption); (case n => refine kst_newsOf (by assumption) ?_; walk_at "my sub"); (case o => walk_at "my off")
  (case q1 => k_ne); (case q2 => k_ne); (case q3 => k_ne)
theorem op_of_walk {w : World} {p loose mean mg mb} {x v : Int} {t : Tok} (hv : x % 64 = v) :
    CSpec PySem.Challenge.rw_xm0628_01.prog w (hd01.heap_1 w.params) p loose mean mg mb 28 1 [.int x t] []
      (fun r chg new => ∃ u, r = .int v u ∧ chg = [] ∧ new = []) := by
  subst hv
  unfold CSpec; k_fill
  intro dp un gd cn cs ad ccd cl outer A₀ base h₀ L m rest s Q E B F X N hoff T hk hd hu hret
  (try simp only [List.forall_mem_cons, List.not_mem_nil, false_implies, implies_true, and_true, List.nil_append, List.cons_append] at hoff N)
  (try simp only [List.forall_mem_cons, List.not_mem_nil, false_implies, implies_true, and_true, List.nil_append, List.cons_append] at hret)
  refine wpAny_call ?_; walk_at "my enter"
  k_steps
  rw [PyProof.Rows.bitAnd_m6]
  refine' hret _ [] [] _ _ ?f ?n ?o ⟨_, rfl, rfl, rfl⟩
  (case f => assumption); (case n => refine kst_newsOf (by assumption) ?_; walk_at "my sub"); (case o => walk_at "my off")
theorem a_of_walk {w : World} {p loose mean mg mb} {x v : Int} {t : Tok} (hv : x / 64 % 256 = v) :
    CSpec PySem.Challenge.rw_xm0628_01.prog w (hd01.heap_1 w.params) p loose mean mg mb 35 1 [.int x t] []
      (fun r chg new => ∃ u, r = .int v u ∧ chg = [] ∧ new = []) := by
  subst hv
  unfold CSpec; k_fill
  intro dp un gd cn cs ad ccd cl outer A₀ base h₀ L m rest s Q E B F X N hoff T hk hd hu hret
  (try simp only [List.forall_mem_cons, List.not_mem_nil, false_implies, implies_true, and_true, List.nil_append, List.cons_append] at hoff N)
  (try simp only [List.forall_mem_cons, List.not_mem_nil, false_implies, implies_true, and_true, List.nil_append, List.cons_append] at hret)
  refine wpAny_call ?_; walk_at "my enter"
  k_steps
  rw [PyProof.Rows.bitAnd_m8, Int.fdiv_eq_ediv_of_nonneg _ (by decide), show ((2 : Int) ^ Int.toNat 6) = 64 by decide]
  refine' hret _ [] [] _ _ ?f ?n ?o ⟨_, rfl, rfl, rfl⟩
  (case f => assumption); (case n => refine kst_newsOf (by assumption) ?_; walk_at "my sub"); (case o => walk_at "my off")
theorem b_of_walk {w : World} {p loose mean mg mb} {x v : Int} {t : Tok} (hv : x / 8388608 = v) :
    CSpec PySem.Challenge.rw_xm0628_01.prog w (hd01.heap_1 w.params) p loose mean mg mb 42 1 [.int x t] []
      (fun r chg new => ∃ u, r = .int v u ∧ chg = [] ∧ new = []) := by
  subst hv
  unfold CSpec; k_fill
  intro dp un gd cn cs ad ccd cl outer A₀ base h₀ L m rest s Q E B F X N hoff T hk hd hu hret
  (try simp only [List.forall_mem_cons, List.not_mem_nil, false_implies, implies_true, and_true, List.nil_append, List.cons_append] at hoff N)
  (try simp only [List.forall_mem_cons, List.not_mem_nil, false_implies, implies_true, and_true, List.nil_append, List.cons_append] at hret)
  refine wpAny_call ?_; walk_at "my enter"
  k_steps
  rw [Int.fdiv_eq_ediv_of_nonneg _ (by decide), show ((2 : Int) ^ Int.toNat 23) = 8388608 by decide]
  refine' hret _ [] [] _ _ ?f ?n ?o ⟨_, rfl, rfl, rfl⟩
  (case f => assumption); (case n => refine kst_newsOf (by assumption) ?_; walk_at "my sub"); (case o => walk_at "my off")
local macro_rules | `(tactic| walk_at "call ref") => `(tactic| (k_here; (with_reducible show wpAny _ _ (call (Value.ref 28) [Value.int _ _]) _ _ _); k_dflt (refine' CSpec.use0 ?B ?F ?X ?N ?T (op_of_walk ?e) ?hk ?hd ?hu ?_; (case B => k_asm); (case F => k_asm); (case X => k_asm); (case N => k_asm); (case T => k_asm); (case e => first | assumption | exact rfl); (case hk => first | exact rfl | assumption); (case hd => ktr_room); (case hu => ktr_units); k_whole); intro u' h' tk' F' N'; (try k_sweep)))
local macro_rules | `(tactic| walk_at "call ref") => `(tactic| (k_here; (with_reducible show wpAny _ _ (call (Value.ref 35) [Value.int _ _]) _ _ _); k_dflt (refine' CSpec.use0 ?B ?F ?X ?N ?T (a_of_walk ?e) ?hk ?hd ?hu ?_; (case B => k_asm); (case F => k_asm); (case X => k_asm); (case N => k_asm); (case T => k_asm); (case e => first | assumption | exact rfl); (case hk => first | exact rfl | assumption); (case hd => ktr_room); (case hu => ktr_units); k_whole); intro u' h' tk' F' N'; (try k_sweep)))
local macro_rules | `(tactic| walk_at "call ref") => `(tactic| (k_here; (with_reducible show wpAny _ _ (call (Value.ref 42) [Value.int _ _]) _ _ _); k_dflt (refine' CSpec.use0 ?B ?F ?X ?N ?T (b_of_walk ?e) ?hk ?hd ?hu ?_; (case B => k_asm); (case F => k_asm); (case X => k_asm); (case N => k_asm); (case T => k_asm); (case e => first | assumption | exact rfl); (case hk => first | exact rfl | assumption); (case hd => ktr_room); (case hu => ktr_units); k_whole); intro u' h' tk' F' N'; (try k_sweep)))
local macro_rules | `(tactic| walk_at "subscriptTail Name BinOp ref int") => `(tactic| walk_at "my item")
theorem load_move {w : World} {p loose mean mg mb} {x : Int} {a b : Nat} {S C : Addr} {st : List Value} {n : Nat} {t t1 t2 : Tok} (ha : x / 64 % 256 = (a : Int)) (hb : x / 8388608 = (b : Int)) (ha2 : a < st.length) (hb2 : b < st.length) (hz : st.length ≤ 1000) :
    CSpec PySem.Challenge.rw_xm0628_01.prog w (hd01.heap_1 w.params) p loose mean mg mb 303 2 [.int 0 t, .int x t1, .ref S, .int 0 t2, .ref C] [(S, listOf st.toArray n)]
      (fun r chg new => ∃ u, r = .int 0 u ∧ chg = [(S, listOf (st.set a (st.getD b .none)).toArray n)] ∧ new = []) := by
  unfold CSpec; k_fill
  intro dp un gd cn cs ad ccd cl outer A₀ base h₀ L m rest s Q E B F X N hoff T hk hd hu hret
  (try simp only [List.forall_mem_cons, List.not_mem_nil, false_implies, implies_true, and_true, List.nil_append, List.cons_append] at hoff N)
  (try simp only [List.forall_mem_cons, List.not_mem_nil, false_implies, implies_true, and_true, List.nil_append, List.cons_append] at hret)
  refine wpAny_call ?_; walk_at "my enter"
  k_steps
  rename News h₀ _ _ _ => kN
  rw [show ((0 : Int) + (a : Int)).toNat = a by omega, show ((0 : Int) + (b : Int)).toNat = b by omega] at kN
  refine' hret _ [(S, _)] [] _ _ ?f ?n ?o ⟨_, rfl, rfl, rfl⟩
  (case f => assumption); (case n => refine kst_newsOf (by assumption) ?_; walk_at "my sub"); (case o => walk_at "my off")
local macro_rules | `(tactic| walk_at "call ref") => `(tactic| (k_here; (with_reducible show wpAny _ _ (call (Value.ref 303) _) _ _ _); k_dflt (refine' CSpec.use ?B ?F ?X ?N ?T ?P (load_move ?ea ?eb ?la ?lb ?lz) ?hk ?ho ?hd ?hu ?_; (case B => k_asm); (case F => k_asm); (case X => k_asm); (case N => k_asm); (case T => k_asm); (case P => walk_at "my pick"); (case ea => assumption); (case eb => assumption); (case la => assumption); (case lb => assumption); (case lz => assumption); (case hk => first | exact rfl | assumption); (case ho => walk_at "my off"); (case hd => ktr_room); (case hu => ktr_units); k_whole; refine of_stop ?_)))
theorem done_move {w : World} {p loose mean mg mb} {x : Int} {a b : Nat} {i : Int} {O D S Li Wk : Addr} {st : List Value} {n : Nat} {t t1 u2 t0' t1' t2' t3' t4' t5' t6' t7' t8' : Tok} {v3 v7 v8 : Value} (hx : x % 64 = 0) (ha : x / 64 % 256 = (a : Int)) (hb : x / 8388608 = (b : Int)) (ha2 : a < st.length) (hb2 : b < st.length) (hz : st.length ≤ 1000) {cd K : Addr} (q1 : S ≠ O) (q2 : S ≠ D) (q3 : O ≠ D) :
    CSpec PySem.Challenge.rw_xm0628_01.prog w (hd01.heap_1 w.params) p loose mean mg mb 449 3 [.ref O, .int 0 t, .int x t1]
      [(O, instObj 508 D), (D, dictOf (sEnts w t0' t1' t2' t3' t4' t5' t6' t7' t8' (.ref cd) (.ref K) (.ref S) v3 (.ref Li) (.ref Wk) (.int i u2) v7 v8) 9), (S, listOf st.toArray n)]
      (fun r chg new => ∃ t0'' t1'' t2'' t3'' t4'' t5'' t6'' t7'' t8'' u', r = .bool true ∧ chg = [(O, instObj 508 D), (D, dictOf (sEnts w t0'' t1'' t2'' t3'' t4'' t5'' t6'' t7'' t8'' (.ref cd) (.ref K) (.ref S) v3 (.ref Li) (.ref Wk) (.int i u') v7 v8) 9), (S, listOf (st.set a (st.getD b .none)).toArray n)] ∧ new = []) := by
  unfold CSpec; k_fill
  intro dp un gd cn cs ad ccd cl outer A₀ base h₀ L m rest s Q E B F X N hoff T hk hd hu hret
  (try simp only [List.forall_mem_cons, List.not_mem_nil, false_implies, implies_true, and_true, List.nil_append, List.cons_append] at hoff N)
  (try simp only [List.forall_mem_cons, List.not_mem_nil, false_implies, implies_true, and_true, List.nil_append, List.cons_append] at hret)
  refine wpAny_call ?_; walk_at "my enter"
  k_steps
  refine ⟨?_⟩
  intro r chg new h1 tk1 F1 N1 o1 hp
  obtain ⟨u, rfl, rfl, rfl⟩ := hp
  simp only [List.cons_append, List.nil_append] at N1
  k_steps
  rename News h₀ _ _ _ => kN
  rw [Int.add_zero] at kN
  refine' hret _ [(O, _), (D, _), (S, _)] [] _ _ ?f ?n ?o ⟨_, _, _, _, _, _, _, _, _, _, rfl, rfl, rfl⟩
  (case f => assumption); (case n => refine kst_newsOf (by assumption) ?_; walk_at "my sub"); (case o => walk_at "my off")
theorem done_back {w : World} {p loose mean mg mb} {x : Int} {k : Nat} {O D S Li Wk : Addr} {st : List Value} {n : Nat} {t t1 t0' t1' t2' t3' t4' t5' t6' t7' t8' : Tok} {v3 v6 v7 v8 : Value} (hx : x % 64 = 30) (ha : x / 64 % 256 = 0) (hb : x / 8388608 = (k : Int) + 1) (hm : k ≤ st.length) (hz : st.length ≤ 1000) {cd K : Addr} (q1 : S ≠ O) (q2 : S ≠ D) (q3 : O ≠ D) :
    CSpec PySem.Challenge.rw_xm0628_01.prog w (hd01.heap_1 w.params) p loose mean mg mb 449 3 [.ref O, .int 30 t, .int x t1]
      [(O, instObj 508 D), (D, dictOf (sEnts w t0' t1' t2' t3' t4' t5' t6' t7' t8' (.ref cd) (.ref K) (.ref S) v3 (.ref Li) (.ref Wk) v6 v7 v8) 9), (S, listOf st.toArray n)]
      (fun r chg new => ∃ t0'' t1'' t2'' t3'' t4'' t5'' t6'' t7'' t8'' R rn, r = .bool true ∧ chg = [(O, instObj 508 D), (D, dictOf (sEnts w t0'' t1'' t2'' t3'' t4'' t5'' t6'' t7'' t8'' (.ref cd) (.ref K) (.ref S) v3 (.ref Li) (.ref Wk) v6 v7 (.ref R)) 9), (S, listOf st.toArray n)] ∧ new = [(R, listOf (st.take k).toArray rn)]) := by
  unfold CSpec; k_fill
  intro dp un gd cn cs ad ccd cl outer A₀ base h₀ L m rest s Q E B F X N hoff T hk hd hu hret
  (try simp only [List.forall_mem_cons, List.not_mem_nil, false_implies, implies_true, and_true, List.nil_append, List.cons_append] at hoff N)
  (try simp only [List.forall_mem_cons, List.not_mem_nil, false_implies, implies_true, and_true, List.nil_append, List.cons_append] at hret)
  refine wpAny_call ?_; walk_at "my enter"
  k_steps
  any_goals (exfalso; omega)
  rename News h₀ _ _ _ => kN
  rw [show (((0 : Int) + ((k : Int) + 1 - 1)).toNat) = k by omega] at kN
  walk_at "my split"
  refine' hret _ [(O, _), (D, _), (S, _)] [(_, _)] _ _ ?f ?n ?o ⟨_, _, _, _, _, _, _, _, _, _, _, rfl, rfl, rfl⟩
  (case f => assumption); (case n => refine kst_newsOf (by assumption) ?_; walk_at "my sub"); (case o => walk_at "my off")
local macro_rules | `(tactic| walk_at "call ref") => `(tactic| (k_here; (with_reducible show wpAny _ _ (call (Value.ref 449) _) _ _ _); k_dflt (refine' CSpec.use ?B ?F ?X ?N ?T ?P (done_back ?ex ?ea ?eb ?lm ?lz ?q1 ?q2 ?q3) ?hk ?ho ?hd ?hu ?_; (case B => k_asm); (case F => k_asm); (case X => k_asm); (case N => k_asm); (case T => k_asm); (case P => walk_at "my pick"); (case ex => assumption); (case ea => assumption); (case eb => assumption); (case lm => assumption); (case lz => walk_at "my len"); (case q1 => k_ne); (case q2 => k_ne); (case q3 => k_ne); (case hk => first | exact rfl | assumption); (case ho => walk_at "my off"); (case hd => ktr_room); (case hu => ktr_units); k_whole; refine of_stop ?_)))
local macro_rules | `(tactic| walk_at "call ref") => `(tactic| (k_here; (with_reducible show wpAny _ _ (call (Value.ref 449) _) _ _ _); k_dflt (refine' CSpec.use ?B ?F ?X ?N ?T ?P (done_move ?ex ?ea ?eb ?la ?lb ?lz ?q1 ?q2 ?q3) ?hk ?ho ?hd ?hu ?_; (case B => k_asm); (case F => k_asm); (case X => k_asm); (case N => k_asm); (case T => k_asm); (case P => walk_at "my pick"); (case ex => assumption); (case ea => assumption); (case eb => assumption); (case la => assumption); (case lb => assumption); (case lz => walk_at "my len"); (case q1 => k_ne); (case q2 => k_ne); (case q3 => k_ne); (case hk => first | exact rfl | assumption); (case ho => walk_at "my off"); (case hd => ktr_room); (case hu => ktr_units); k_whole; refine of_stop ?_)))
local macro_rules | `(tactic| walk_at "subscriptTail Attribute Name ref int") => `(tactic| walk_at "my nums")
local macro_rules | `(tactic| walk_at "my nums") => `(tactic| (k_here; (with_reducible show wpAny _ _ (subscriptTail _ _ (Value.ref _) (Value.int _ _)) _ _ _); k_dflt (refine' ksa_sub ?k1 ?k2 ?k3 ?k4 ?k5 ?k6 ?_ ?k7; (case k1 => k_asm); (case k2 => k_mem); (case k3 => assumption); (case k4 => omega); (case k5 => walk_at "my len"); (case k6 => omega); (case k7 => with_unfolding_all rfl); k_whole); intro _))
theorem words_at {mv : List (Nat × Nat)} {e : Int} {i : Nat} (h : i < mv.length) : (encs mv ++ [e]).getD ((i : Int)).toNat 0 = enc mv[i] := by
  rw [Int.toNat_natCast, List.getD_eq_getElem?_getD, List.getElem?_append_left (by rw [List.length_map]; exact h), List.getElem?_map, List.getElem?_eq_getElem h]; rfl
theorem words_end {mv : List (Nat × Nat)} {e : Int} {i : Nat} (h : i = mv.length) : (encs mv ++ [e]).getD ((i : Int)).toNat 0 = e := by
  subst h
  rw [Int.toNat_natCast, List.getD_eq_getElem?_getD, List.getElem?_append_right (by rw [List.length_map]; exact Nat.le_refl _), List.length_map, Nat.sub_self]; rfl
def JS (w : World) (cd K S D O Li Wk : Addr) (st ws : List Value) (n wn : Nat) (v3 v7 : Value) (mv : List (Nat × Nat)) (rest : Led) (i : Nat) (m : Str → Option Value) (nx : Led) : Prop :=
  i ≤ mv.length ∧ m (Str.ofString "self") = some (.ref O) ∧ ∃ t0 t1 t2 t3 t4 t5 t6 t7 t8 u, nx = (O, instObj 508 D) :: (D, dictOf (sEnts w t0 t1 t2 t3 t4 t5 t6 t7 t8 (.ref cd) (.ref K) (.ref S) v3 (.ref Li) (.ref Wk) (.int (i : Int) u) v7 .none) 9) ::
    (S, listOf (execR Value.none (mv.take i) st).toArray n) :: (cd, listOf ws.toArray wn) :: rest
theorem steps_walk {w : World} {p loose mean mg mb} {mv : List (Nat × Nat)} {k n wn : Nat} {N0 : Int} {O D S cd K Li Wk : Addr} {st ws : List Value} {t u2 t0 t1 t2 t3 t4 t5 t6 t7 t8 : Tok} {v3 v7 : Value}
    (hw : IntsAre ws (encs mv ++ [30 + 8388608 * ((k : Int) + 1)])) (hkk : k ≤ st.length) (hz : st.length ≤ 200) (hmv : ∀ p ∈ mv, p.1 < st.length ∧ p.2 < st.length) (hN : N0 = (mv.length : Int) + 1) (hl : mv.length ≤ 1000)
    (q1 : S ≠ O) (q2 : S ≠ D) (q3 : O ≠ D) (q4 : cd ≠ O) (q5 : cd ≠ D) (q6 : cd ≠ S) :
    CSpec PySem.Challenge.rw_xm0628_01.prog w (hd01.heap_1 w.params) p loose mean mg mb 442 4 [.ref O, .int N0 t]
      [(O, instObj 508 D), (D, dictOf (sEnts w t0 t1 t2 t3 t4 t5 t6 t7 t8 (.ref cd) (.ref K) (.ref S) v3 (.ref Li) (.ref Wk) (.int 0 u2) v7 .none) 9), (S, listOf st.toArray n), (cd, listOf ws.toArray wn)]
      (fun r chg new => ∃ T R rn tok, r = .ref T ∧ chg = [(cd, listOf ws.toArray wn)] ∧ new = [(T, { cls := Value.type "tuple", data := Data.seq #[Value.str (Str.ofString "back") tok, Value.ref R] }), (R, listOf ((execR Value.none mv st).take k).toArray rn)]) := by
  have zw := hw.length
  have zm : (encs mv).length = mv.length := List.length_map ..
  rw [List.length_append, List.length_singleton, zm] at zw
  unfold CSpec; k_fill
  intro dp un gd cn cs ad ccd cl outer A₀ base h₀ L m rest s Q E B F X N hoff T hk hd hu hret
  (try simp only [List.forall_mem_cons, List.not_mem_nil, false_implies, implies_true, and_true, List.nil_append, List.cons_append] at hoff N)
  (try simp only [List.forall_mem_cons, List.not_mem_nil, false_implies, implies_true, and_true, List.nil_append, List.cons_append] at hret)
  refine wpAny_call ?_; walk_at "my enter"
  k_steps
  refine ⟨?_⟩
  refine' loop_range0 (n := mv.length + 1) (nx₀ := (O, instObj 508 D) :: (D, dictOf (sEnts w t0 t1 t2 t3 t4 t5 t6 t7 t8 (.ref cd) (.ref K) (.ref S) v3 (.ref Li) (.ref Wk) (.int 0 u2) v7 .none) 9) :: (S, listOf st.toArray n) :: (cd, listOf ws.toArray wn) :: rest) (JS w cd K S D O Li Wk st ws n wn v3 v7 mv rest) rfl (by assumption) (by omega) (by omega) (by assumption) (by assumption) ?hn ?hj ?turn ?done
  case hj =>
    exact ⟨Nat.zero_le _, rfl, t0, t1, t2, t3, t4, t5, t6, t7, t8, u2, rfl⟩
  case hn => walk_at "my sub"
  case turn =>
    intro i m₁ nx h tk own tt hlt hown hJ F1 N1
    obtain ⟨hle, hself, t0', t1', t2', t3', t4', t5', t6', t7', t8', u', rfl⟩ := hJ
    have F2 := fr_known (x := Str.ofString "self") F1 ((if_neg (by decide)).trans hself)
    clear F1
    have oO := own_off hown (.head _)
    have oD := own_off hown (.tail _ (.head _))
    have oS := own_off hown (.tail _ (.tail _ (.head _)))
    have oC := own_off hown (.tail _ (.tail _ (.tail _ (.head _))))
    simp only [List.cons_append, List.append_assoc] at N1
    have zx := execR_length (d := Value.none) (mv := mv.take i) (vs := st)
    rcases Nat.lt_or_ge i mv.length with hi | hi
    · have hm1 := (hmv _ (List.getElem_mem hi)).1
      have hm2 := (hmv _ (List.getElem_mem hi)).2
      have ex : (encs mv ++ [30 + 8388608 * ((k : Int) + 1)]).getD ((i : Int)).toNat 0 % 64 = 0 := by rw [words_at hi]; unfold enc; omega
      have ea : (encs mv ++ [30 + 8388608 * ((k : Int) + 1)]).getD ((i : Int)).toNat 0 / 64 % 256 = ((mv[i].1 : Nat) : Int) := by rw [words_at hi]; unfold enc; omega
      have eb : (encs mv ++ [30 + 8388608 * ((k : Int) + 1)]).getD ((i : Int)).toNat 0 / 8388608 = ((mv[i].2 : Nat) : Int) := by rw [words_at hi]; unfold enc; omega
      have la : mv[i].1 < (execR Value.none (mv.take i) st).length := by omega
      have lb : mv[i].2 < (execR Value.none (mv.take i) st).length := by omega
      k_steps
      refine ⟨?_⟩
      intro r chg new h1 tk1 F3 N3 o3 hp
      obtain ⟨t0'', t1'', t2'', t3'', t4'', t5'', t6'', t7'', t8'', u'', rfl, rfl, rfl⟩ := hp
      simp only [List.cons_append, List.nil_append] at N3
      k_steps
      rename News _ _ _ _ => N7
      rename Fr _ _ _ _ => F7
      rw [show ((i : Nat) : Int) + 1 = ((i + 1 : Nat) : Int) by omega, show (execR Value.none (mv.take i) st).set mv[i].1 ((execR Value.none (mv.take i) st).getD mv[i].2 Value.none) = execR Value.none (mv.take (i + 1)) st by rw [List.take_succ_eq_append_getElem hi, execR_append]; rfl] at N7
      refine' InvEndG.intro (nx := (O, instObj 508 D) :: (D, _) :: (S, _) :: (cd, _) :: rest) F7 N7 ⟨by omega, rfl, _, _, _, _, _, _, _, _, _, _, rfl⟩ hown ?hn ?ho
      case hn => walk_at "my sub"
      case ho => walk_at "my sub"
    · have hi2 : i = mv.length := by omega
      have ex : (encs mv ++ [30 + 8388608 * ((k : Int) + 1)]).getD ((i : Int)).toNat 0 % 64 = 30 := by rw [words_end hi2]; omega
      have ea : (encs mv ++ [30 + 8388608 * ((k : Int) + 1)]).getD ((i : Int)).toNat 0 / 64 % 256 = 0 := by rw [words_end hi2]; omega
      have eb : (encs mv ++ [30 + 8388608 * ((k : Int) + 1)]).getD ((i : Int)).toNat 0 / 8388608 = (k : Int) + 1 := by rw [words_end hi2]; omega
      have lm : k ≤ (execR Value.none (mv.take i) st).length := by omega
      k_steps
      refine ⟨?_⟩
      intro r chg new h1 tk1 F3 N3 o3 hp
      obtain ⟨t0'', t1'', t2'', t3'', t4'', t5'', t6'', t7'', HH9⟩ := hp
      obtain ⟨t8'', R, rn, rfl, rfl, rfl⟩ := HH9
      simp only [List.cons_append, List.nil_append] at N3
      k_steps
      rename News h₀ _ _ _ => kN
      rw [show mv.take i = mv from List.take_of_length_le hi] at kN
      walk_at "my split"
      simp only [List.forall_mem_cons, List.cons_append, List.nil_append, Mine.off_cons, Mine.off_append] at o3
      obtain ⟨⟨p1, p2, p3, p4, p5, p6⟩, _⟩ := o3
      refine' hret _ [(cd, _)] [(_, _), (R, _)] _ _ ?f ?n ?o ⟨_, _, _, _, rfl, rfl, rfl⟩
      (case f => assumption); (case n => refine kst_newsOf (by assumption) ?_; walk_at "my sub"); (case o => walk_at "my off")
  case done =>
    intro m₁ nx h tk hJ F1 N1
    exact absurd hJ.1 (by omega)

end
section
local macro_rules | `(tactic| walk_at "call ref") => `(tactic| (k_here; (with_reducible show wpAny _ _ (call (Value.ref 95) _) _ _ _); k_dflt (refine' CSpec.use0R ?B ?F ?X ?N ?T limits_new ?hk ?hd ?hu ?_; (case B => k_asm); (case F => k_asm); (case X => k_asm); (case N => k_asm); (case T => k_asm); (case hk => first | exact rfl | assumption); (case hd => ktr_room); (case hu => ktr_units); k_whole); intro x' h' tk' F' N'; (try k_sweep)))
local macro_rules | `(tactic| walk_at "call ref") => `(tactic| (k_here; (with_reducible show wpAny _ _ (call (Value.ref 417) _) _ _ _); k_dflt (refine' CSpec.use0R ?B ?F ?X ?N ?T works_new ?hk ?hd ?hu ?_; (case B => k_asm); (case F => k_asm); (case X => k_asm); (case N => k_asm); (case T => k_asm); (case hk => first | exact rfl | assumption); (case hd => ktr_room); (case hu => ktr_units); k_whole); intro x' h' tk' F' N'; (try k_sweep)))
local macro_rules | `(tactic| walk_at "call ref") => `(tactic| (k_here; (with_reducible show wpAny _ _ (call (Value.ref 508) _) _ _ _); k_dflt (refine' CSpec.use ?B ?F ?X ?N ?T ?P (stepper_new ?hz) ?hk ?ho ?hd ?hu ?_; (case B => k_asm); (case F => k_asm); (case X => k_asm); (case N => k_asm); (case T => k_asm); (case P => walk_at "my pick"); (case hz => walk_at "my len"); (case hk => first | exact rfl | assumption); (case ho => walk_at "my off"); (case hd => ktr_room); (case hu => ktr_units); k_whole; refine of_stop ?_)))
local macro_rules | `(tactic| walk_at "call ref") => `(tactic| (k_here; (with_reducible show wpAny _ _ (call (Value.ref 442) _) _ _ _); refine of_stop ?_))
theorem run_walk {w : World} {p loose mean mg mb} {a b : Addr} {ps : Array Value} {n k : Nat} {wv cv : List Value} {mv : List (Nat × Nat)} {cs0 : List Int} (hw : IntsAre wv (encs mv)) (hc : IntsAre cv cs0) (hm2 : cs0.length ≤ 10) (hm3 : mv.length ≤ 500) (hmv : ∀ p ∈ mv, p.1 ≤ cs0.length ∧ p.2 ≤ cs0.length) (hab : a ≠ b) (ha5 : a ≠ 543) (hb5 : b ≠ 543) (ht : TabOk ps) :
    CSpec PySem.Challenge.rw_xm0628_01.prog w (hd01.heap_1 w.params) p loose mean mg mb 548 6 [.ref a, .ref b] [(a, listOf wv.toArray n), (b, listOf cv.toArray k), (543, tabObj ps)]
      (fun r chg new => ∃ R rn ps', r = .ref R ∧ TabOk ps' ∧ chg = [(a, listOf wv.toArray n), (b, listOf cv.toArray k), (543, tabObj ps')] ∧ new = [(R, listOf ((execR Value.none mv (cv ++ [Value.none] ++ List.replicate 12 Value.none)).take cs0.length).toArray rn)]) := by
  have zv := hc.length
  unfold CSpec; k_fill
  intro dp un gd cn cs ad ccd cl outer A₀ base h₀ L m rest s Q E B F X N hoff T hk hd hu hret
  (try simp only [List.forall_mem_cons, List.not_mem_nil, false_implies, implies_true, and_true, List.nil_append, List.cons_append] at hoff N)
  (try simp only [List.forall_mem_cons, List.not_mem_nil, false_implies, implies_true, and_true, List.nil_append, List.cons_append] at hret)
  refine wpAny_call ?_; walk_at "my enter"
  k_steps
  refine ⟨?_⟩
  intro r chg new h1 tk1 F1 N1 o1 hp
  obtain ⟨O, D, S, t0, t1, t2, t3, t4, HH9⟩ := hp
  obtain ⟨t5, t6, t7, t8, u1, u2, u3, rfl, HH9⟩ := HH9
  obtain ⟨rfl, rfl, y1, y2, y3⟩ := HH9
  simp only [List.cons_append, List.nil_append] at N1
  rename TabOk _ => hT
  walk_at "my split"
  simp only [List.forall_mem_cons, List.cons_append, List.nil_append, Mine.off_cons, Mine.off_append] at o1
  k_steps
  refine ⟨?_⟩
  rename _ = encs mv ++ _ => hns
  rename IntsAre _ _ => hI
  rw [hns] at hI
  rename _ = cv ++ _ => hcv
  subst hcv
  walk_at "my split"
  k_dflt (refine' CSpec.use ?B ?F ?X ?N ?T ?P (steps_walk (mv := mv) (k := cs0.length) ?hw ?hkk ?hz ?hmv ?hN ?hl ?q1 ?q2 ?q3 ?q4 ?q5 ?q6) ?hk ?ho ?hd ?hu ?_)
  (case B => k_asm); (case F => k_asm); (case X => k_asm); (case N => k_asm); (case T => k_asm); (case P => walk_at "my pick")
  case hw => exact hI
  case hkk => walk_at "my len"
  case hz => walk_at "my len"
  case hmv =>
    intro p hp
    have z := hmv p hp
    constructor <;> walk_at "my len"
  case hN =>
    have z1 := hw.length
    have z2 : (encs mv).length = mv.length := List.length_map ..
    first | rfl | omega
  case hl => omega
  (case q1 => k_ne); (case q2 => k_ne); (case q3 => k_ne)
  (case q4 => k_ne); (case q5 => k_ne); (case q6 => k_ne)
  (case hk => first | exact rfl | assumption)
  (case ho => walk_at "my off"); (case hd => ktr_room); (case hu => ktr_units)
  k_whole
  intro r chg new h2 tk2 F2 N2 o2 hp
  obtain ⟨T, R, rn, tok, rfl, rfl, rfl⟩ := hp
  simp only [List.cons_append, List.nil_append] at N2
  k_steps
  rename News h₀ _ _ _ => kN
  walk_at "my split"
  simp only [List.forall_mem_cons, List.cons_append, List.nil_append, Mine.off_cons, Mine.off_append] at o2
  walk_at "my split"
  refine' hret _ [(a, _), (b, _), (543, tabObj _)] [(R, _)] _ _ ?f ?n ?o ⟨_, _, _, rfl, hT, rfl, rfl⟩
  (case f => assumption); (case n => refine kst_newsOf (by assumption) ?_; walk_at "my sub"); (case o => walk_at "my off")

end
section
structure MyMarkIf : Prop where
  it : True
local macro_rules | `(tactic| walk_at "exec If") => `(tactic| (rename MyMarkIf => hm; clear hm; refine of_stop ?_))
local macro_rules | `(tactic| walk_at "my packed") => `(tactic| try (rename _ = List.take _ _ ++ [0] => hP9; subst hP9))
local macro_rules | `(tactic| walk_at "my cut") => `(tactic| (walk_at "my packed"; k_dflt (refine' CSpec.use ?B ?F ?X ?N ?T ?P (cut ?hi ?z0 ?z1 ?z2 ?z3 ?z4) ?hk ?ho ?hd ?hu ?_; (case B => k_asm); (case F => k_asm); (case X => k_asm); (case N => k_asm); (case T => k_asm); (case P => walk_at "my pick"); (case hi => assumption); (case z0 => omega); (case z1 => omega); (case z2 => omega); (case z3 => omega); (case z4 => (first | omega | (simp only [List.length_take]; omega))); (case hk => first | exact rfl | assumption); (case ho => walk_at "my off"); (case hd => ktr_room); (case hu => ktr_units); k_whole); intro r' chg' new' h' tk' F' N' o' hp'; obtain ⟨x', u', vs', n', e', z0', z1', hI', e2', e3'⟩ := hp'; subst e'; subst e2'; subst e3'; (try simp only [List.cons_append, List.nil_append] at N'); clear o'; (try k_sweep)))
local macro_rules | `(tactic| walk_at "call ref") => `(tactic| (k_here; (with_reducible show wpAny _ _ (call (Value.ref 519) _) _ _ _); first | walk_at "my cut" | refine of_stop ?_))
local macro_rules | `(tactic| walk_at "callWith ref") => `(tactic| (k_here; k_dflt (refine' callWith_K ?k1 ?k2 ?_; (case k1 => k_asm); (case k2 => k_is); k_whole)))
local macro_rules | `(tactic| walk_at "call ref") => `(tactic| (k_here; (with_reducible show wpAny _ _ (call (Value.ref 524) _) _ _ _); k_dflt (refine' CSpec.use ?B ?F ?X ?N ?T Picks.nil (outer ?z0 ?z1) ?hk ?ho ?hd ?hu ?_; (case B => k_asm); (case F => k_asm); (case X => k_asm); (case N => k_asm); (case T => k_asm); (case z0 => omega); (case z1 => omega); (case hk => first | exact rfl | assumption); (case ho => exact fun _ h => nomatch h); (case hd => ktr_room); (case hu => ktr_units); k_whole); refine of_stop ?_))
local macro_rules | `(tactic| walk_at "call ref") => `(tactic| (k_here; (with_reducible show wpAny _ _ (call (Value.ref 529) _) _ _ _); k_dflt (refine' CSpec.use ?B ?F ?X ?N ?T Picks.nil (inner ?z0 ?z1) ?hk ?ho ?hd ?hu ?_; (case B => k_asm); (case F => k_asm); (case X => k_asm); (case N => k_asm); (case T => k_asm); (case z0 => omega); (case z1 => omega); (case hk => first | exact rfl | assumption); (case ho => exact fun _ h => nomatch h); (case hd => ktr_room); (case hu => ktr_units); k_whole); refine of_stop ?_))
structure MyMarkC : Prop where
  it : True
local macro_rules | `(tactic| walk_at "CompSrc") => `(tactic| (rename MyMarkC => hm; clear hm; refine of_stop ?_))
local macro_rules | `(tactic| walk_at "call ref") => `(tactic| (k_here; (with_reducible show wpAny _ _ (call (Value.ref 536) _) _ _ _); k_dflt (refine' CSpec.use ?B ?F ?X ?N ?T ?P (rings_walk ?hi ?hP ?hm) ?hk ?ho ?hd ?hu ?_; (case B => k_asm); (case F => k_asm); (case X => k_asm); (case N => k_asm); (case T => k_asm); (case P => walk_at "my pick"); (case hi => assumption); (case hP => assumption); (case hm => omega); (case hk => first | exact rfl | assumption); (case ho => walk_at "my off"); (case hd => ktr_room); (case hu => ktr_units); k_whole); refine of_stop ?_))
local macro_rules | `(tactic| walk_at "call ref") => `(tactic| (k_here; (with_reducible show wpAny _ _ (call (Value.ref 541) _) _ _ _); k_dflt (refine' CSpec.use ?B ?F ?X ?N ?T ?P (moves_walk ?hi ?hP ?hm) ?hk ?ho ?hd ?hu ?_; (case B => k_asm); (case F => k_asm); (case X => k_asm); (case N => k_asm); (case T => k_asm); (case P => walk_at "my pick"); (case hi => assumption); (case hP => assumption); (case hm => omega); (case hk => first | exact rfl | assumption); (case ho => walk_at "my off"); (case hd => ktr_room); (case hu => ktr_units); k_whole); refine of_stop ?_))
local macro_rules | `(tactic| walk_at "call type:list") => `(tactic| (k_here; (with_reducible show wpAny _ _ (call (Value.type "list") [Value.ref _]) _ _ _); k_dflt (refine' list_nat ?k0 ?k1 ?k2 ?k3 ?kb ?kz ?_; (case k0 => rfl); (case k1 => k_asm); (case k2 => k_asm); (case k3 => assumption); (case kb => rfl); (case kz => omega); k_whole); intro D' vs' c' h' tk' F' N' l1 hI'; (try k_lt l1); (try k_sweep)))
structure MyMarkA : Prop where
  it : True
local macro_rules | `(tactic| walk_at "exec Assign") => `(tactic| (rename MyMarkA => hm; clear hm; refine of_stop ?_))
local macro_rules | `(tactic| walk_at "call ref") => `(tactic| (k_here; (with_reducible show wpAny _ _ (call (Value.ref 548) _) _ _ _); refine of_stop ?_))
local macro_rules | `(tactic| walk_at "call builtin:pow") => `(tactic| (k_here; (with_reducible show wpAny _ _ (call (Value.builtin _) [Value.int _ _, Value.int _ _, Value.int _ _]) _ _ _); k_dflt (refine' call_pow ?hn ?hm ?_; (case hn => omega); (case hm => omega); k_whole); intro u' tk'))
local macro_rules | `(tactic| walk_at "CompSrcT") => `(tactic| (rename MyMarkC => hm; clear hm; refine of_stop ?_))
local macro_rules | `(tactic| walk_at "compareOp Eq ref ref") => `(tactic| (k_here; (with_reducible show wpAny _ _ (compareOp CmpOp.Eq (Value.ref _) (Value.ref _)) _ _ _); (with_unfolding_all refine' eq_nilK ?k1 ?k2 ?k3 ?k4 ?_; (case k1 => is_list); (case k2 => is_list); (case k3 => with_reducible rfl); (case k4 => units_room); k_whole)))
local macro_rules | `(tactic| walk_at "my wipe") => `(tactic| ((repeat (rename @Ne Nat _ _ => hX; clear hX)); (repeat (rename Mine.Off _ _ => hX; clear hX)); (repeat (rename IntsAre _ _ => hX; clear hX)); (repeat (rename _ = Data.cell _ => hX; clear hX)); (repeat (rename Fr _ _ _ _ => hX; clear hX)); (repeat (rename News _ _ _ _ => hX; clear hX)); (repeat (rename @Eq (Option Value) _ _ => hX; clear hX))))
local macro_rules | `(tactic| walk_at "my scrub") => `(tactic| ((repeat (rename @LT.lt Nat _ _ _ => hX; clear hX)); (repeat (rename @LE.le Nat _ _ _ => hX; clear hX)); (repeat (rename @LT.lt Int _ _ _ => hX; clear hX)); (repeat (rename @LE.le Int _ _ _ => hX; clear hX)); (repeat (rename @Eq Nat _ _ => hX; clear hX)); (repeat (rename @Eq Int _ _ => hX; clear hX)); (repeat (rename IsRange _ _ _ _ _ _ _ _ => hX; clear hX)); (repeat (rename (_ < _) ∧ (_ < _) ∧ (_ < _) ∧ _ => hX; clear hX)); (repeat (rename (_ ≠ _) ∧ (_ ≠ _) ∧ _ => hX; clear hX))))
theorem gen_state {P : Shared → Prop} {s : Shared} (R : Shared → Prop) (h : R s) (k : ∀ s', R s' → P s') : P s := k s h
theorem cut_stmt {M : Model} {A : Around} {t : Sem Flow} {Q : Flow → Shared → Prop} {E : Value → Shared → Prop} {s : Shared} (R : Shared → Prop) (h : wpAny M A t (fun fl s' => fl = .next ∧ R s') E s) (k : ∀ s', R s' → Q .next s') : wpAny M A t Q E s :=
  wpAny_mono h (fun fl s' q => by obtain ⟨rfl, q⟩ := q; exact k s' q) fun _ _ h => h
theorem fr_as {h₀ h : Heap} {L : Addr} {m m' : Str → Option Value} (F : Fr h₀ L h m) (e : m = m') : Fr h₀ L h m' := e ▸ F
theorem cell_as {o : Obj} {a b : Option Value} (h : o.data = Data.cell a) (e : a = b) : o.data = Data.cell b := e ▸ h
theorem foo : PySem.Challenge.rw_xm0628_01.Holds := hd01 (fun said => by
  refine holds_open (q := Mine.hd01.view_1) (loose := lo) (Xt := xt9) (XP := XL Mine.hd01.view_1 []) (Yf := Hook.obs (kmHook Mine.hd01.heap_1 as9 ek9 [543])) (Ya := Hook.val (kmHook Mine.hd01.heap_1 as9 ek9 [543])) (YP := Hook.says (kmHook Mine.hd01.heap_1 as9 ek9 [543])) (N := 7050) left9 (Hook.of (kmHook Mine.hd01.heap_1 as9 ek9 [543])) (Hook.keeps (kmHook Mine.hd01.heap_1 as9 ek9 [543])) (fun s e => xl_of s (Bool.and_eq_true_iff.mp e).1) XL.keeps (by rfl) (by rfl) (by rfl) (fun s e => recFacts_of (Bool.and_eq_true_iff.mp e).2) (by rfl) said (by decide +kernel) ⟨rfl, rfl, rfl, rfl, rfl, by decide +kernel⟩ ?hw ?hc
  case hw => w_witness2
  clear said
  k_go0
  all_goals try k_fold
  rename Fr _ _ _ _ => F1
  rename IntsAre _ _ => hscr
  rename Heap.IsList _ _ _ => lifted
  rename Shared => s1
  rename List Int => scr
  rename News _ _ _ _ => N1
  have F2 := fr_as (m' := fun y => if y = Str.ofString "script" then some (.ref _) else none) F1 (by funext y; rfl)
  rename (_ : Obj).data = Data.cell (bindC _ _ _ (Str.ofString "pack")) => d1
  rename (_ : Obj).data = Data.cell (bindC _ _ _ (Str.ofString "first")) => d2
  rename (_ : Obj).data = Data.cell (bindC _ _ _ (Str.ofString "gap")) => d3
  rename (_ : Obj).data = Data.cell (bindC _ _ _ (Str.ofString "left")) => d4
  rename (_ : Obj).data = Data.cell (bindC _ _ _ (Str.ofString "goes")) => d5
  rename (_ : Obj).data = Data.cell (bindC _ _ _ (Str.ofString "now")) => d6
  rename (_ : Obj).data = Data.cell (bindC _ _ _ (Str.ofString "turns")) => d7
  replace d1 := cell_as (b := none) d1 (by kernel_rfl)
  replace d2 := cell_as (b := none) d2 (by kernel_rfl)
  replace d3 := cell_as (b := none) d3 (by kernel_rfl)
  replace d4 := cell_as (b := none) d4 (by kernel_rfl)
  replace d5 := cell_as (b := none) d5 (by kernel_rfl)
  replace d6 := cell_as (b := none) d6 (by kernel_rfl)
  replace d7 := cell_as (b := none) d7 (by kernel_rfl)
  dsimp only
  refine wpAny_mono (Q := LawEnd (ghostOf s1.heap [(547, 543)]) s1.heap.objs.size s1) (E := fun _ _ => False) ?main ?fin (fun _ _ h => h.elim)
  case fin =>
    rintro f s' ⟨rfl, m, h', tk', ps, rest, rfl, F, N, ht⟩
    clear F1 F2 N1
    k_steps
  clear F1
  try (rename Ground _ _ _ _ _ _ _ _ _ => q1; clear q1)
  try (rename Hook.says _ _ _ => q1; clear q1)
  try (rename CellsAre _ _ _ => q1; clear q1)
  try (rename Dflts _ _ _ _ _ _ => q1; clear q1)
  try (rename Top hd01.view_1 _ _ _ _ _ => q1; clear q1)
  try (rename Tables _ _ _ _ => q1; clear q1)
  try (rename TopE _ _ _ _ => q1; clear q1)
  try (rename TopW _ _ _ => q1; clear q1)
  try (rename Flt.MathXP _ _ _ => q1; clear q1)
  try (rename LooseAre _ _ _ => q1; clear q1)
  try (rename ReadsAll _ _ _ _ => q1; clear q1)
  try (rename Well _ _ _ _ => q1; clear q1)
  try (rename Reads _ _ _ _ => q1; clear q1)
  try (rename ReadsAllW _ _ _ _ _ _ => q1; clear q1)
  try (rename TabsAt _ _ => q1; clear q1)
  try (rename Shape.has _ _ = _ => q1; clear q1)
  try (rename PyData.layable0 _ = _ => q1; clear q1)
  try (rename Heap.CodeRec _ _ _ => q1; clear q1)
  try (rename Heap.get? _ _ = some _ => q1; clear q1)
  clear hT8
  generalize ghostOf s1.heap [(547, 543)] = h0 at *
  generalize s1.heap.objs.size = L at *
  have mi : MyMarkIf := ⟨trivial⟩
  k_steps
  refine ⟨?_⟩
  refine gen_state (P := fun s => wpAny _ _ _ _ _ s) (R0 h0 L s1) ?r0 ?_
  case r0 =>
    walk_at "my split"
    rename News _ _ _ _ => kN
    rename Fr _ _ _ _ => kF
    rename _ < (4 : Int) => hx4
    obtain ⟨nn, hnn, hn4⟩ := many_is _ (by assumption) hx4
    refine' ⟨_, _, _, _, _, _, ?pv, ?cv, ?lv, ?pn, ?cn, ?ln, List.take 15 scr, _, _, _, _, _, nn, _, _, _, _, _, _, _, _, _, _, _, _, _, rfl, kF,
      kst_newsOf kN (List.forall_mem_cons.mpr ⟨?s1, List.forall_mem_cons.mpr ⟨?s2, List.forall_mem_cons.mpr ⟨?s3, List.forall_mem_cons.mpr ⟨?s4, List.forall_mem_cons.mpr ⟨?s5, List.forall_mem_cons.mpr ⟨?s6, List.forall_mem_cons.mpr ⟨?s7, List.forall_mem_cons.mpr ⟨?s8, List.forall_mem_cons.mpr ⟨?s9, List.forall_mem_cons.mpr ⟨?s10, List.forall_mem_cons.mpr ⟨?s11, List.forall_mem_nil _⟩⟩⟩⟩⟩⟩⟩⟩⟩⟩⟩),
      tabOk_nil, rfl, ?many, rfl, rfl, ?c1, ?c2, ?c3, ?c4, ?c5, ?c6, ?c7, ?b1, ?b2, ?b3, ?b4, ?b5, ?i1, ?b6, ?b7, ?i2, ?i3, ?a1, ?a2, ?a3, ?a4, ?a5, ?a6⟩
    (case s1 => k_mem); (case s2 => k_mem); (case s3 => k_mem); (case s4 => k_mem); (case s5 => k_mem); (case s6 => k_mem); (case s7 => k_mem); (case s8 => k_mem)
    (case c1 => assumption); (case c2 => assumption); (case c3 => assumption); (case c4 => assumption); (case c5 => assumption); (case c6 => assumption); (case c7 => assumption)
    (case s9 => k_mem); (case s10 => k_mem); (case s11 => k_mem)
    case many => rw [hnn]; rfl
    case b1 => constructor <;> assumption
    case b2 => exact hn4
    case b3 => constructor <;> omega
    case b4 => constructor <;> omega
    case b5 => constructor <;> omega
    case i1 => assumption
    case b6 => constructor <;> decide
    case b7 => simp only [List.length_take]; omega
    case i2 => rename IntsAre _ (List.map _ (rangeKs _ _)) => q; rw [rk_nat, ← hnn, Int.toNat_natCast] at q; exact q
    case i3 => rename IntsAre _ (rangeKs _ _) => q; rw [rk_nz, ← hnn, Int.toNat_natCast] at q; exact q
    (case a1 => k_ne); (case a2 => k_ne); (case a3 => k_ne)
    (case a4 => refine ⟨?_, ?_, ?_, ?_, ?_, ?_, ?_, ?_⟩ <;> k_ne)
    (case a5 => refine ⟨?_, ?_, ?_, ?_, ?_, ?_, ?_, ?_⟩ <;> k_ne)
    (case a6 => refine ⟨?_, ?_, ?_, ?_, ?_, ?_, ?_, ?_⟩ <;> k_ne)
  intro s hR0
  walk_at "my wipe"
  have hLK : 543 < L ∧ True := ⟨by assumption, trivial⟩
  walk_at "my scrub"
  obtain ⟨l0, -⟩ := hLK
  refine cut_stmt (R5 h0 L s1) ?r5 ?_
  case r5 =>
    obtain ⟨h, tk, m, pa, ca, la, pv, cv, lv, pn, cn, ln, ms, k, form, first, gap, goal, n, t1, t2, t3, t4, t5, o1, o2, o3, o4, o5, o6, o7, ps, rfl, F1, N1, hT, m1, m2, m3, m4, c1, c2, c3, c4, c5, c6, c7, ⟨b1, b1'⟩, b2, ⟨b3, b3'⟩, b4, b5, i1, ⟨b6, b6'⟩, b7, i2, i3, a1, a2, a3, a4, a5, a6⟩ := hR0
    unfold Free at a4 a5 a6
    have F2 := fr_known F1 m1
    have F3 := fr_known (x := Str.ofString "many") F2 ((if_neg (by decide)).trans m2)
    clear F1 F2
    have mc : MyMarkC := ⟨trivial⟩
    k_steps
    · refine ⟨?_⟩
      have hn10 : 4 ≤ n ∧ n ≤ 10 := by omega
      refine LCg.CompSrc.range (n := n) rfl (by k_asm) (by k_asm) (by assumption) ?sm ?rs ?sz ?_
      case sm => exact small0 (by omega)
      case rs => exact size0
      case sz => rw [sizeLine_eq]; omega
      intro g
      rename News _ _ _ _ => N2
      rename Fr _ _ _ _ => F4
      refine comp_ind (fun i ys nx => ∃ pv pn lv ln pl ls, nx = led0 L o1 o2 o3 o4 o5 o6 o7 ps ++ [(pa, listOf (List.toArray pv) pn), (ca, listOf cv.toArray cn), (la, listOf (List.toArray lv) ln)] ∧ IntsAre pv (ms ++ [k + (i : Int)]) ∧ IntsAre lv (nz ls) ∧ IntsAre ys (nz pl) ∧ pl.length = i ∧ ls.length + i = n ∧ (pl ++ ls).Perm (List.range n)) ?hi ?turn ?fin
      case hi => exact ⟨pv, pn, lv, ln, [], List.range n, rfl, by rw [show k + ((0 : Nat) : Int) = k by omega]; exact i1, i3, .nil, rfl, by rw [List.length_range]; rfl, List.Perm.refl _⟩
      case turn =>
        intro i ys nx v I oI C oC D m₂ h9 tk9 E' hlt hJ hP hNs hx F5 N5 off ne
        obtain ⟨pv, pn, lv, ln, pl, ls, rfl, j1, j2, j3, j4, j5, j6⟩ := hJ
        obtain ⟨t9, rfl⟩ := hP
        simp only [List.cons_append, List.nil_append, LCg.Off3, and_true] at off N5
        have zl : lv.length = ls.length := by rw [j2.length, nz_length]
        have zn := nz_length (l := ls)
        obtain ⟨e1, e2, e3⟩ := ne
        walk_at "my split"
        dsimp only
        k_steps
        rename Int => x9
        rename IntsAre _ (ms ++ [_ + 1]) => hI9
        have hx9 : x9.toNat < ls.length := by omega
        k_dflt (refine' pop_nat (ls := ls) ?F ?N ?U ?hi ?h0 ?h1 ?hz ?_)
        (case F => k_asm); (case N => k_asm)
        (case U => k_upd)
        (case hi => assumption); (case h0 => assumption)
        (case h1 => (rw [zl]; assumption)); (case hz => omega)
        intro h' t' F' N' hI'
        k_unfold
        have hget : ls.getD x9.toNat 0 = ls[x9.toNat] := by rw [List.getD_eq_getElem?_getD, List.getElem?_eq_getElem hx9]; rfl
        refine' LCg.CompEnd.intro F' N' (led0 L o1 o2 o3 o4 o5 o6 o7 ps ++ [(pa, listOf (List.toArray ?u1) ?u2), (ca, listOf cv.toArray cn), (la, listOf (List.toArray ?u3) ?u4)]) ?sub ?off trivial ⟨?u1, ?u2, ?u3, ?u4, pl ++ [ls.getD x9.toNat 0], ls.eraseIdx x9.toNat, rfl, ?p1, hI', ?p2, ?p3, ?p4, ?p5⟩
        case sub => walk_at "my sub"
        case off => simp only [List.cons_append, List.nil_append]; lcg_off
        case p1 => rw [show k + ((i + 1 : Nat) : Int) = k + (i : Int) + 1 by omega]; exact hI9
        case p2 => rw [nz_append]; exact ints_snoc j3
        case p3 => rw [List.length_append, j4]; rfl
        case p4 => rw [List.length_eraseIdx, if_pos hx9]; omega
        case p5 =>
          refine List.Perm.trans ?_ j6
          rw [List.append_assoc, hget]
          exact (erase_perm ls x9.toNat hx9).append_left pl
      case fin =>
        rintro ys nx ⟨pv, pn, lv, ln, pl, ls, rfl, j1, j2, j3, j4, j5, j6⟩
        have e0 : ls = [] := List.eq_nil_of_length_eq_zero (by omega)
        subst e0
        rw [List.append_nil] at j6
        obtain ⟨hP1, hP2⟩ := IsPerm.of_perm j6
        k_steps
        rename Fr _ _ _ _ => kF
        rename News _ _ _ _ => kN
        rename LCg.Off1 _ _ => ko
        rename (_ : Obj).data = Data.cell (some (Value.ref _)) => kd
        simp only [List.cons_append, List.nil_append, LCg.Off1, and_true] at ko
        walk_at "my split"
        refine' ⟨_, _, _, _, ca, la, ys, cv, lv, _, cn, ln, pl, form, first, gap, goal, n, _, t2, _, _, _, o1, o2, o3, o4, _, o6, o7, ps, rfl, kF, kst_newsOf kN ?sub2, hT, rfl, rfl, m3, m4, c2, c3, c4, kd, c6, c7, ⟨b1, b1'⟩, b2, ⟨b3, b3'⟩, ⟨by assumption, by assumption⟩, ⟨by assumption, by assumption⟩, hP1, hP2, j3, i2, fun h => absurd ‹form = 0› h, fun h => absurd (h.symm.trans ‹form = 0›) (by decide), fun h => absurd (h.symm.trans ‹form = 0›) (by decide), a1, ?n1, ?n2, ?f1, ?f2, ?f3⟩
        case sub2 => walk_at "my sub"
        (case n1 => k_ne); (case n2 => k_ne)
        (case f1 => refine ⟨?_, ?_, ?_, ?_, ?_, ?_, ?_, ?_⟩ <;> k_ne)
        (case f2 => refine ⟨?_, ?_, ?_, ?_, ?_, ?_, ?_, ?_⟩ <;> k_ne)
        (case f3 => refine ⟨?_, ?_, ?_, ?_, ?_, ?_, ?_, ?_⟩ <;> k_ne)
    all_goals
      refine ⟨?_⟩
      clear mc
      intro r chg new h' tk' F' N' o' hp
      obtain ⟨ga, gv, gn, rfl, hg, rfl, rfl⟩ := hp
      simp only [List.cons_append, List.nil_append, Mine.off_cons, Mine.off_nil, List.forall_mem_cons, and_true] at N' o'
      walk_at "my split"
      k_steps
      rename Fr _ _ _ _ => kF
      rename News _ _ _ _ => kN
      rename (_ : Obj).data = Data.cell (some (Value.ref ga)) => kd
    · have hP := outer_perm b2
      rw [outer_eq b2] at hg
      refine' ⟨_, _, _, ga, ca, la, gv, cv, lv, gn, cn, ln, outerL n, form, first, gap, goal, n, _, t2, _, _, _, o1, o2, o3, o4, _, o6, o7, ps, rfl, kF, kst_newsOf kN ?sub3, hT, rfl, rfl, m3, m4, c2, c3, c4, kd, c6, c7, ⟨b1, b1'⟩, b2, ⟨b3, b3'⟩, ⟨by assumption, by assumption⟩, ⟨by assumption, by assumption⟩, hP.1, hP.2, hg, i2, fun _ => i3, fun _ => rfl, fun h => absurd (h.symm.trans ‹form = 1›) (by decide), a1, ?n1, ?n2, ?f1, ?f2, ?f3⟩
      case sub3 => walk_at "my sub"
      (case n1 => k_ne); (case n2 => k_ne)
      (case f1 => refine ⟨?_, ?_, ?_, ?_, ?_, ?_, ?_, ?_⟩ <;> k_ne)
      (case f2 => refine ⟨?_, ?_, ?_, ?_, ?_, ?_, ?_, ?_⟩ <;> k_ne)
      (case f3 => refine ⟨?_, ?_, ?_, ?_, ?_, ?_, ?_, ?_⟩ <;> k_ne)
    · have hP := inner_perm b2
      rw [inner_eq b2] at hg
      refine' ⟨_, _, _, ga, ca, la, gv, cv, lv, gn, cn, ln, innerL n, form, first, gap, goal, n, _, t2, _, _, _, o1, o2, o3, o4, _, o6, o7, ps, rfl, kF, kst_newsOf kN ?sub3, hT, rfl, rfl, m3, m4, c2, c3, c4, kd, c6, c7, ⟨b1, b1'⟩, b2, ⟨b3, b3'⟩, ⟨by assumption, by assumption⟩, ⟨by assumption, by assumption⟩, hP.1, hP.2, hg, i2, fun _ => i3, fun h => absurd h (by assumption), fun _ => rfl, a1, ?n1, ?n2, ?f1, ?f2, ?f3⟩
      case sub3 => walk_at "my sub"
      (case n1 => k_ne); (case n2 => k_ne)
      (case f1 => refine ⟨?_, ?_, ?_, ?_, ?_, ?_, ?_, ?_⟩ <;> k_ne)
      (case f2 => refine ⟨?_, ?_, ?_, ?_, ?_, ?_, ?_, ?_⟩ <;> k_ne)
      (case f3 => refine ⟨?_, ?_, ?_, ?_, ?_, ?_, ?_, ?_⟩ <;> k_ne)
  clear hR0
  intro s hR5
  (try dsimp only)
  have ma : MyMarkA := ⟨trivial⟩
  k_steps
  refine ⟨?_⟩
  refine cut_stmt (R7 h0 L s1) ?r6 ?_
  case r6 =>
    obtain ⟨h, tk, m, ga, ca, la, gv, cv, lv, gn, cn, ln, gl, form, first, gap, goal, n, t1, t2, t3, t4, t5, o1, o2, o3, o4, o5, o6, o7, ps, rfl, F1, N1, hT, m1, m2, m3, m4, c2, c3, c4, c5, c6, c7, ⟨b1, b1'⟩, b2, ⟨b3, b3'⟩, b4, b5, hP, hgl, hg, hc, hl0, hl1, hl2, a1, a2, a3, a4, a5, a6⟩ := hR5
    unfold Free at a4 a5 a6
    have hn10 : 4 ≤ n ∧ n ≤ 10 := by omega
    k_steps
    refine ⟨?_⟩
    intro r chg new h' tk' F' N' o' hp
    obtain ⟨wl, wv, wn, rfl, hw, rfl, rfl⟩ := hp
    simp only [List.cons_append, List.nil_append, Mine.off_cons, Mine.off_nil, List.forall_mem_cons, and_true] at N' o'
    walk_at "my split"
    k_steps
    refine ⟨?_⟩
    intro r chg new h' tk' F' N' o' hp
    obtain ⟨rl, rv, rn, tl, rfl, hr, rfl, rfl, ho⟩ := hp
    simp only [List.cons_append, List.nil_append] at N'
    simp only [List.cons_append, List.nil_append, Mine.off_cons, Mine.off_nil, List.forall_mem_cons, and_true] at o'
    obtain ⟨p0, pT⟩ := o'
    walk_at "my split"
    k_steps
    all_goals (try exact trivial)
    rename News _ _ _ _ => kN3
    rename Fr _ _ _ _ => kF3
    refine' ⟨_, _, _, ga, ca, la, rl, wl, gv, cv, lv, rv, wv, gn, cn, ln, rn, wn, tl, gl, form, first, gap, goal, n, t1, t2, t3, t4, t5, o1, o2, o3, o4, o5, o6, o7, ps, rfl, kF3, kst_newsOf kN3 ?sub2, hT, m1, m2, m3, m4, rfl, rfl, c2, c3, c4, c5, c6, c7, ⟨b1, b1'⟩, b2, ⟨b3, b3'⟩, ⟨by assumption, by assumption⟩, ⟨by assumption, by assumption⟩, hP, hgl, hg, hc, hl0, hl1, hl2, hr, hw, a1, a2, a3, ?n1, ?n2, ?n3, ?n4, ?f1, ?f2, ?f3, ?f4, ?f6, ?f5⟩
    case sub2 => walk_at "my sub"
    (case n1 => k_ne); (case n2 => k_ne); (case n3 => k_ne); (case n4 => refine ⟨?_, ?_, ?_, ?_⟩ <;> k_ne)
    (case f1 => refine ⟨?_, ?_, ?_, ?_, ?_, ?_, ?_, ?_⟩ <;> k_ne)
    (case f2 => refine ⟨?_, ?_, ?_, ?_, ?_, ?_, ?_, ?_⟩ <;> k_ne)
    (case f3 => refine ⟨?_, ?_, ?_, ?_, ?_, ?_, ?_, ?_⟩ <;> k_ne)
    (case f4 => refine ⟨?_, ?_, ?_, ?_, ?_, ?_, ?_, ?_⟩ <;> k_ne)
    (case f6 => refine ⟨?_, ?_, ?_, ?_, ?_, ?_, ?_, ?_⟩ <;> k_ne)
    case f5 =>
      unfold OffT
      simp only [List.forall_mem_cons]
      refine ⟨?_, ?_, ?_, ?_, ?_, ?_, ?_, ?_, ?_, ?_, ?_, ?_, ?_, fun _ h => nomatch h⟩
      all_goals (first | exact ho | (intro q hq; have zq := pT q hq; walk_at "my split"; k_ne))
  clear hR5
  intro s hR7
  (try dsimp only)
  have mi : MyMarkIf := ⟨trivial⟩
  k_steps
  refine ⟨?_⟩
  refine cut_stmt (R7 h0 L s1) ?r7 ?_
  case r7 =>
    obtain ⟨h, tk, m, ga, ca, la, rl, wl, gv, cv, lv, rv, wv, gn, cn, ln, rn, wn, tl, gl, form, first, gap, goal, n, t1, t2, t3, t4, t5, o1, o2, o3, o4, o5, o6, o7, ps, rfl, F1, N1, hT, m1, m2, m3, m4, m5, m6, c2, c3, c4, c5, c6, c7, ⟨b1, b1'⟩, b2, ⟨b3, b3'⟩, ⟨b4, b4'⟩, ⟨b5, b5'⟩, hP, hgl, hg, hc, hl0, hl1, hl2, hr, hw, a1, a2, a3, a4, a5, a6, a7, f1, f2, f3, f4, f5, oT⟩ := hR7
    have hn10 : 4 ≤ n ∧ n ≤ 10 := by omega
    have F2 := fr_known F1 m5
    have F3 := fr_known (x := Str.ofString "words") F2 ((if_neg (by decide)).trans m6)
    clear F1 F2
    simp only [List.cons_append, List.nil_append] at N1
    have zw := hw.length
    rw [List.length_map, movesOf_length] at zw
    have zr := hr.length
    have zr2 : (rings gl).length ≤ _ := ringsUpto_len (gl := gl) gl.length
    have zr3 : (rings gl).flatten.length ≤ _ := ringsUpto_flat hP gl.length (Nat.le_refl _)
    have zr4 : gl.length * gl.length ≤ 10 * 10 := Nat.mul_le_mul (by omega) (by omega)
    rw [List.length_flatten] at zr3
    have mc : MyMarkC := ⟨trivial⟩
    k_steps
    refine ⟨?_⟩
    rename News _ _ _ _ => kN
    rename Fr _ _ _ _ => kF
    have kN2 := kst_newsOf (l' := led0 L o1 o2 o3 o4 o5 o6 o7 ps ++ ([(ga, listOf gv.toArray gn), (ca, listOf cv.toArray cn), (la, listOf lv.toArray ln), (rl, listOf rv.toArray rn), (wl, listOf wv.toArray wn)] ++ tl)) kN (by walk_at "my sub")
    have zrv : rv.length ≤ 1000 := by omega
    refine LCg.CompSrc.ledger (ax := rl) (its := rv.toArray) (k := rn) rfl kF kN2 (by k_mem) (by rw [sizeLine_eq, List.size_toArray]; omega) ?_
    intro g
    refine comp_ind (fun i ys nx => nx = led0 L o1 o2 o3 o4 o5 o6 o7 ps ++ ([(ga, listOf gv.toArray gn), (ca, listOf cv.toArray cn), (la, listOf lv.toArray ln), (rl, listOf rv.toArray rn), (wl, listOf wv.toArray wn)] ++ tl) ∧ IntsAre ys (lenL ((rings gl).take i))) ?hi ?turn ?fin
    case hi => exact ⟨rfl, .nil⟩
    case turn =>
      intro i ys nx v I oI C oC D m₂ h9 tk9 E' hlt hJ hv hNs hx F5 N5 off ne
      obtain ⟨rfl, j1⟩ := hJ
      (try dsimp only at hv)
      rw [List.getElem?_toArray] at hv
      obtain ⟨d, ivs, c, r, hri, rfl, hdm, hiv⟩ := hr.get hv
      have zi : ivs.length = r.length := by rw [hiv.length, nz_length]
      have zj : r.length ≤ 100 := by
        obtain ⟨x, hx, e⟩ := (ringsUpto_are hP gl.length (Nat.le_refl _)).ring r (List.mem_of_getElem? hri)
        have := per_le hP hx
        rw [e, orb_length]; omega
      simp only [List.cons_append, List.nil_append] at N5
      (try dsimp only)
      k_steps
      (try k_unfold)
      rename Fr _ _ _ _ => kF2
      rename News _ _ _ _ => kN2
      refine' LCg.CompEnd.intro kF2 kN2 (led0 L o1 o2 o3 o4 o5 o6 o7 ps ++ ([(ga, listOf gv.toArray gn), (ca, listOf cv.toArray cn), (la, listOf lv.toArray ln), (rl, listOf rv.toArray rn), (wl, listOf wv.toArray wn)] ++ tl)) ?sub off (Or.inr ⟨_, by k_mem, rfl, _, rfl⟩) ⟨rfl, ?p1⟩
      case sub => walk_at "my sub"
      case p1 =>
        unfold lenL
        rw [List.take_add_one, hri, List.map_append]
        exact ints_snoc j1
    case fin =>
      rintro ys nx ⟨rfl, j1⟩
      rw [List.size_toArray, zr, List.take_length] at j1
      unfold LCg.FinE
      intro D9 h9 tk9 F9 N9 o9
      simp only [List.cons_append, List.nil_append] at N9
      (try dsimp only)
      have zy := j1.length
      rw [List.length_map] at zy
      have zs := lenL_sum (rs := rings gl)
      k_steps
      all_goals (try (exfalso; omega))
      all_goals
        rename News _ _ _ _ => kN3
        rename Fr _ _ _ _ => kF3
        exact ⟨_, _, _, ga, ca, la, rl, wl, gv, cv, lv, rv, wv, gn, cn, ln, rn, wn, tl, gl, form, first, gap, goal, n, t1, t2, t3, t4, t5, o1, o2, o3, o4, o5, o6, o7, ps, rfl, kF3, kst_newsOf kN3 (by walk_at "my sub"), hT, m1, m2, m3, m4, rfl, rfl, c2, c3, c4, c5, c6, c7, ⟨b1, b1'⟩, b2, ⟨b3, b3'⟩, ⟨b4, b4'⟩, ⟨b5, b5'⟩, hP, hgl, hg, hc, hl0, hl1, hl2, hr, hw, a1, a2, a3, a4, a5, a6, a7, f1, f2, f3, f4, f5, oT⟩
  clear hR7
  intro s hR7
  (try dsimp only)
  have ma : MyMarkA := ⟨trivial⟩
  k_steps
  refine ⟨?_⟩
  refine cut_stmt (R8 h0 L s1) ?r8 ?_
  case r8 =>
    obtain ⟨h, tk, m, ga, ca, la, rl, wl, gv, cv, lv, rv, wv, gn, cn, ln, rn, wn, tl, gl, form, first, gap, goal, n, t1, t2, t3, t4, t5, o1, o2, o3, o4, o5, o6, o7, ps, rfl, F1, N1, hT, m1, m2, m3, m4, m5, m6, c2, c3, c4, c5, c6, c7, ⟨b1, b1'⟩, b2, ⟨b3, b3'⟩, ⟨b4, b4'⟩, ⟨b5, b5'⟩, hP, hgl, hg, hc, hl0, hl1, hl2, hr, hw, a1, a2, a3, a4, a5, a6, a7, f1, f2, f3, f4, f5, oT⟩ := hR7
    unfold Free at f1 f2 f3 f4 f5
    have oT' := oT
    unfold OffT at oT
    simp only [List.forall_mem_cons] at oT
    have hn10 : 4 ≤ n ∧ n ≤ 10 := by omega
    walk_at "my split"
    have F2 := fr_known F1 m1
    have F3 := fr_known (x := Str.ofString "many") F2 ((if_neg (by decide)).trans m2)
    have F4 := fr_known (x := Str.ofString "cards") F3 ((if_neg (by decide)).trans ((if_neg (by decide)).trans m4))
    clear F1 F2 F3
    simp only [List.cons_append, List.nil_append] at N1
    k_steps
    all_goals (try exact trivial)
    all_goals
      rename News _ _ _ _ => kN
      rename Fr _ _ _ _ => kF
      rename (_ : Obj).data = Data.cell (some (Value.ref ca)) => kd6
      rename (_ : Obj).data = Data.cell (some (Value.int 0 _)) => kd7
      walk_at "my split"
    · have hl0' := hl0 (by omega)
      refine' ⟨_, _, _, ga, ca, la, rl, wl, gv, cv, lv, rv, wv, gn, cn, ln, rn, wn, tl, gl, form, first, gap, goal, n, t1, t2, t3, t4, t5, _, o1, o2, o3, o4, o5, _, _, ps, rfl, kF, kst_newsOf kN ?sub2, hT, rfl, rfl, m3, rfl, m5, m6, rfl, c2, c3, c5, kd6, kd7, ⟨b1, b1'⟩, b2, ⟨b3, b3'⟩, ⟨b4, b4'⟩, ⟨b5, b5'⟩, hP, hgl, hg, hc, hl0', hl1, hl2, hr, hw, a1, a2, a3, a4, a5, a6, ⟨?_, ?_, ?_, ?_⟩, ?f1, ?f2, ?f3, ?f4, ?f6, oT'⟩
      case sub2 => walk_at "my sub"
      (case f1 => refine ⟨?_, ?_, ?_, ?_, ?_, ?_, ?_, ?_⟩ <;> k_ne)
      (case f2 => refine ⟨?_, ?_, ?_, ?_, ?_, ?_, ?_, ?_⟩ <;> k_ne)
      (case f3 => refine ⟨?_, ?_, ?_, ?_, ?_, ?_, ?_, ?_⟩ <;> k_ne)
      (case f4 => refine ⟨?_, ?_, ?_, ?_, ?_, ?_, ?_, ?_⟩ <;> k_ne)
      (case f6 => refine ⟨?_, ?_, ?_, ?_, ?_, ?_, ?_, ?_⟩ <;> k_ne)
      all_goals k_ne
    · rename IntsAre _ (nz (List.range n)) => hpl
      refine' ⟨_, _, _, ga, ca, _, rl, wl, gv, cv, _, rv, wv, gn, cn, _, rn, wn, tl, gl, form, first, gap, goal, n, t1, t2, t3, t4, t5, _, o1, o2, o3, o4, o5, _, _, ps, rfl, kF, kst_newsOf kN ?sub2, hT, rfl, rfl, m3, rfl, m5, m6, rfl, c2, c3, c5, kd6, kd7, ⟨b1, b1'⟩, b2, ⟨b3, b3'⟩, ⟨b4, b4'⟩, ⟨b5, b5'⟩, hP, hgl, hg, hc, hpl, hl1, hl2, hr, hw, ?_, ?_, a3, a4, a5, ?_, ⟨?_, ?_, ?_, ?_⟩, ?f1, ?f2, ?f3, ?f4, ?f6, ?oT⟩
      case sub2 => walk_at "my sub"
      (case f1 => refine ⟨?_, ?_, ?_, ?_, ?_, ?_, ?_, ?_⟩ <;> k_ne)
      (case f2 => refine ⟨?_, ?_, ?_, ?_, ?_, ?_, ?_, ?_⟩ <;> k_ne)
      (case f3 => refine ⟨?_, ?_, ?_, ?_, ?_, ?_, ?_, ?_⟩ <;> k_ne)
      (case f4 => refine ⟨?_, ?_, ?_, ?_, ?_, ?_, ?_, ?_⟩ <;> k_ne)
      (case f6 => refine ⟨?_, ?_, ?_, ?_, ?_, ?_, ?_, ?_⟩ <;> k_ne)
      case oT =>
        unfold OffT
        simp only [List.forall_mem_cons]
        refine ⟨?_, ?_, ?_, ?_, ?_, ?_, ?_, ?_, ?_, ?_, ?_, ?_, ?_, fun _ h => nomatch h⟩
        all_goals (walk_at "my offleaf")
      all_goals k_ne
  clear hR7
  intro s hR8
  (try dsimp only)
  k_steps
  refine ⟨?_⟩
  refine gen_state (P := fun s => wpAny _ _ _ _ _ s) (R8c h0 L s1) hR8.small ?_
  clear hR8
  rintro s ⟨c, gl, first, gap, hCF, hRL⟩
  refine cut_stmt (R9 h0 L s1) ?r9 ?_
  case r9 =>
    obtain ⟨⟨b1, b1'⟩, b2, ⟨b3, b3'⟩, ⟨b4, b4'⟩, ⟨b5, b5'⟩, hP, hgl, hg, hc, hl1, hl2, hr, hw, c5, a1, fga, fwl, fca, oT⟩ := hCF
    rcases c with ⟨ga, ca, rl, wl, gv, cv, rv, wv, gn, cn, rn, wn, tl, o5, form, goal, n⟩
    dsimp only at *
    unfold FreeW at fga fwl fca
    have hn10 : 4 ≤ n ∧ n ≤ 10 := by omega
    let c : LoopC := ⟨ga, ca, rl, wl, gv, cv, rv, wv, gn, cn, rn, wn, tl, o5, form, goal, n⟩
    obtain ⟨h, tk, m, nx, rfl, F1, N1, hJ⟩ := hRL
    refine' While_inv2 (n₀ := 41) (fun q m nx => ∃ t : Nat, t ≤ 40 ∧ q = 41 - t ∧ JL L c gl first gap false t m nx) F1 (kst_newsOf N1 ?sub) ?hj ?turn
    case hj => exact ⟨0, by omega, rfl, hJ⟩
    case sub => exact fun _ h => h
    case turn =>
      clear hJ N1 F1
      intro q m9 nx h9 tk9 F9 N9 hJ
      obtain ⟨t, ht, rfl, hJ⟩ := hJ
      refine wpAny_mono (Q := fun b s₂ => (b = true → t < 40) ∧ RL h0 L s1 c gl first gap false t s₂) (E := fun _ _ => False) ?test ?body (fun _ _ h => h.elim)
      case test =>
        obtain ⟨pl, nl, pv, nv, pn, nn, tx, o6, o7, ps, t1, t2, t3, t6, rfl, hT, m1, m2, m3, m4, m5, m6, m7, c6, c7, hpv, hnv, hpa, hpf, hnf, hpo, hsub, hfr⟩ := hJ
        dsimp only [c] at *
        have F2 := fr_known F9 m2
        have F3 := fr_known (x := Str.ofString "places") F2 ((if_neg (by decide)).trans m7)
        clear F9 F2
        simp only [List.cons_append, List.nil_append] at N9
        k_steps
        all_goals (try omega)
        all_goals (try exact absurd ‹false = true› (by decide))
        all_goals
          rename News _ _ _ _ => kN
          rename Fr _ _ _ _ => kF
          refine ⟨_, _, _, _, rfl, kF, kst_newsOf kN ?_, pl, nl, pv, nv, pn, nn, tx, o6, o7, ps, t1, t2, t3, t6, rfl, hT, m1, rfl, m3, m4, m5, m6, rfl, c6, c7, hpv, hnv, hpa, hpf, hnf, hpo, hsub, hfr⟩
          walk_at "my sub"
      case body =>
        clear hJ N9 F9
        rintro b s2 ⟨hb, hRL⟩
        cases b with
        | false =>
          obtain ⟨h8, tk8, m8, nx, rfl, F8, N8, pl, nl, pv, nv, pn, nn, tx, o6, o7, ps, t1, t2, t3, t6, rfl, hT, m1, m2, m3, m4, m5, m6, m7, c6, c7, hpv, hnv, hpa, hpf, hnf, hpo, hsub, hfr⟩ := hRL
          simp only [Bool.false_eq_true, if_false]
          refine ⟨by first | exact rfl | exact trivial, h8, tk8, m8, ca, cv, cn, first, gap, goal, n, t2, t3, o6, ps, _, rfl, F8, kst_newsOf N8 ?_, hT, m2, m3, m4, c6, b2, ⟨b3, b3'⟩, ⟨b5, b5'⟩, ⟨b4, b4'⟩, hc, fca.2.1, fca.2.2.2⟩
          dsimp only [c]
          refine List.forall_mem_cons.mpr ⟨by k_mem, List.forall_mem_cons.mpr ⟨by k_mem, List.forall_mem_cons.mpr ⟨?_, List.forall_mem_nil _⟩⟩⟩
          have z := hsub _ (List.Mem.head _)
          rcases List.mem_cons.mp z with z | z
          · rw [z]; k_mem
          · exact List.mem_append_right _ (List.mem_append_right _ z)
        | true =>
          have ht40 := hb rfl
          simp only [if_true]
          have ma : MyMarkA := ⟨trivial⟩
          k_steps
          refine ⟨?_⟩
          refine cut_stmt (RL h0 L s1 c gl first gap true (t + 1)) ?first ?rest
          case first =>
            obtain ⟨h8, tk8, m8, nx, rfl, F8, N8, pl, nl, pv, nv, pn, nn, tx, o6, o7, ps, t1, t2, t3, t6, rfl, hT, m1, m2, m3, m4, m5, m6, m7, c6, c7, hpv, hnv, hpa, hpf, hnf, hpo, hsub, hfr⟩ := hRL
            clear hfr
            unfold FreeW at hpf hnf
            unfold OffT at hpo
            dsimp only [c] at *
            simp only [List.forall_mem_cons, List.not_mem_nil, false_implies, implies_true, and_true] at hpo
            have F2 := fr_known F8 m6
            have F3 := fr_known (x := Str.ofString "places") F2 ((if_neg (by decide)).trans m7)
            clear F8 F2 hr fca
            walk_at "my split"
            have zpv := hpv.length
            rw [nz_length, List.length_map, List.length_range] at zpv
            have zgv := hg.length
            rw [nz_length] at zgv
            simp only [List.cons_append, List.nil_append] at N8
            have mc : MyMarkC := ⟨trivial⟩
            k_steps
            refine ⟨?_⟩
            rename News _ _ _ _ => kN
            rename Fr _ _ _ _ => kF
            have zpv2 : pv.length ≤ 1000 := by omega
            have kN2 := kst_newsOf (l' := ledW L o5 o6 o7 ps ++ ([(ga, listOf gv.toArray gn), (nl, listOf nv.toArray nn), (pl, listOf pv.toArray pn), (wl, listOf wv.toArray wn)] ++ tx)) kN (by walk_at "my sub")
            refine LCg.CompSrc.ledger (ax := pl) (its := pv.toArray) (k := pn) rfl kF kN2 (by k_mem) (by rw [sizeLine_eq, List.size_toArray]; omega) ?_
            intro g
            clear kN2
            (try clear kN kF); (try clear N8); (try clear F3)
            refine comp_ind (fun i ys nx => nx = ledW L o5 o6 o7 ps ++ ([(ga, listOf gv.toArray gn), (nl, listOf nv.toArray nn), (pl, listOf pv.toArray pn), (wl, listOf wv.toArray wn)] ++ tx) ∧ IntsAre ys (nz ((plL gl (t + 1)).take i))) ?hi ?turn2 ?fin2
            case hi => exact ⟨rfl, .nil⟩
            case turn2 =>
              intro i ys nx v I oI C oC D m₂ h7 tk7 E' hlt hJ hv hNs hx F5 N5 off ne
              obtain ⟨rfl, j1⟩ := hJ
              rw [List.size_toArray] at hlt
              (try dsimp only at hv)
              rw [List.getElem?_toArray] at hv
              obtain ⟨tv, ev⟩ := ints_get hpv i hlt
              rw [List.getD_eq_getElem?_getD, hv] at ev
              rw [nz_getD, pl_at (by omega)] at ev
              have ev' : v = .int ((it (gI gl) t i : Nat) : Int) tv := ev
              subst ev'
              have hb1 := it_gI_lt hP (show i < gl.length by omega) t
              simp only [List.cons_append, List.nil_append] at N5
              (try dsimp only)
              k_steps
              rename Fr _ _ _ _ => kF3
              rename News _ _ _ _ => kN3
              refine LCg.CompEnd.intro kF3 kN3 (ledW L o5 o6 o7 ps ++ ([(ga, listOf gv.toArray gn), (nl, listOf nv.toArray nn), (pl, listOf pv.toArray pn), (wl, listOf wv.toArray wn)] ++ tx)) (by walk_at "my sub") off (Or.inr ⟨_, by k_mem, rfl, _, rfl⟩) ⟨rfl, ?_⟩
              rw [nz_at, pl_next (by omega), nz_append]
              exact ints_snoc j1
            case fin2 =>
              rintro ys nx ⟨rfl, j1⟩
              rw [List.size_toArray, List.take_of_length_le (by rw [List.length_map, List.length_range]; omega)] at j1
              unfold LCg.FinE
              intro D9 h9 tk9 F9 N9 o9
              simp only [List.cons_append, List.nil_append] at N9
              simp only [List.cons_append, List.nil_append, LCg.Off1, and_true] at o9
              walk_at "my split"
              (try dsimp only)
              k_steps
              refine ⟨?_⟩
              have zn : (nowL first gap gl t).length = gl.length := by rw [List.length_map, List.length_range]
              k_dflt (refine' CSpec.use ?B ?F ?X ?N ?T ?P (run_walk (mv := movesOf gl.length (rings gl)) hw hnv ?c1 ?c2 ?c3 ?ab ?a5 ?b5 hT) ?hk ?ho ?hd ?hu ?_)
              (case B => k_asm); (case F => k_asm); (case X => k_asm); (case N => k_asm); (case T => k_asm); (case P => walk_at "my pick")
              case c1 => omega
              case c2 => have := moves_few hP (by omega); omega
              case c3 => rw [zn]; exact moves_le hP
              (case ab => k_ne); (case a5 => k_ne); (case b5 => k_ne)
              (case hk => first | exact rfl | assumption)
              (case ho => walk_at "my off"); (case hd => ktr_room); (case hu => ktr_units)
              k_whole
              intro r chg new h6 tk6 F6 N6 o6x hp
              obtain ⟨R, rn2, ps2, rfl, hT2, rfl, rfl⟩ := hp
              simp only [List.cons_append, List.nil_append] at N6
              simp only [List.forall_mem_cons, List.cons_append, List.nil_append, Mine.off_cons, Mine.off_append] at o6x
              obtain ⟨o6y, -⟩ := o6x
              walk_at "my split"
              have hnow := now_step hP hnv
              k_steps
              all_goals (try exact trivial)
              rename Fr _ _ _ _ => kF7
              rename News _ _ _ _ => kN7
              rename (_ : Obj).data = Data.cell (some (Value.ref R)) => kd6
              rename (_ : Obj).data = Data.cell (some (Value.int ((t : Int) + 1) _)) => kd7
              refine' ⟨_, _, _, _, rfl, kF7, kst_newsOf kN7 ?sub7, D9, R, ys, _, _, _, keepL ca rl cv rv cn rn tl, _, _, ps2, t1, t2, t3, _, rfl, hT2, m1, m2, m3, m4, m5, rfl, rfl, kd6, kd7, j1, hnow, ?q1, ?q2, ?q3, ?q4, fun p hp => List.mem_cons_of_mem _ hp, fun _ => rfl⟩
              case sub7 =>
                refine List.forall_mem_append.mpr ⟨?_, List.forall_mem_append.mpr ⟨?_, fun p hp => ?_⟩⟩
                · walk_at "my sub"
                · walk_at "my sub"
                · rcases List.mem_cons.mp (hsub p hp) with rfl | hp
                  · k_mem
                  · walk_at "my in"
              case q1 => (try dsimp only); refine ⟨?_, ?_, ?_, ?_, ?_⟩ <;> k_ne
              case q2 => refine ⟨?_, ?_, ?_, ?_⟩ <;> k_ne
              case q3 => refine ⟨?_, ?_, ?_, ?_⟩ <;> k_ne
              case q4 =>
                unfold OffT at oT ⊢
                simp only [List.forall_mem_cons, List.not_mem_nil, false_implies, implies_true, and_true] at oT ⊢
                obtain ⟨u1, u2, u3, u4, u5, u6⟩ := oT
                refine ⟨u1, u2, u3, u4, u5, u6, ?_, ?_⟩
                all_goals
                  refine Off.sub (l := (nl, listOf nv.toArray nn) :: tx) (Off.cons ?_ ?_) hsub
                  · k_ne
                  · walk_at "my offleaf"
          case rest =>
            clear hRL
            intro s3 hRL
            obtain ⟨h8, tk8, m8, nx, rfl, F8, N8, pl, nl, pv, nv, pn, nn, tx, o6, o7, ps, t1, t2, t3, t6, rfl, hT, m1, m2, m3, m4, m5, m6, m7, c6, c7, hpv, hnv, hpa, hpf, hnf, hpo, hsub, hfr⟩ := hRL
            have hfr := hfr rfl
            subst hfr
            clear hsub
            dsimp only [c] at *
            have F2 := fr_known F8 m1
            have F3 := fr_known (x := Str.ofString "many") F2 ((if_neg (by decide)).trans m2)
            have F4 := fr_known (x := Str.ofString "cards") F3 ((if_neg (by decide)).trans ((if_neg (by decide)).trans m4))
            have F5 := fr_known (x := Str.ofString "rings") F4 ((if_neg (by decide)).trans ((if_neg (by decide)).trans ((if_neg (by decide)).trans m5)))
            have F6 := fr_known (x := Str.ofString "places") F5 ((if_neg (by decide)).trans ((if_neg (by decide)).trans ((if_neg (by decide)).trans ((if_neg (by decide)).trans m7))))
            clear F8 F2 F3 F4 F5
            have zpv := hpv.length
            rw [nz_length, List.length_map, List.length_range] at zpv
            have znv := hnv.length
            rw [List.length_map, List.length_range] at znv
            have zcv := hc.length
            rw [List.length_map, List.length_range] at zcv
            have znn : nv.length = n := by omega
            unfold keepL at N8
            simp only [List.cons_append, List.nil_append] at N8
            have mc : MyMarkC := ⟨trivial⟩
            k_steps
            all_goals (try (exfalso; omega))
            refine ⟨?_⟩
            rename News _ _ _ _ => kN
            rename Fr _ _ _ _ => kF
            have zpv2 : pv.length ≤ 1000 := by omega
            have kN2 := kst_newsOf (l' := ledW L o5 o6 o7 ps ++ ([(ga, listOf gv.toArray gn), (nl, listOf nv.toArray nn), (pl, listOf pv.toArray pn), (wl, listOf wv.toArray wn), (ca, listOf cv.toArray cn), (rl, listOf rv.toArray rn)] ++ tl)) kN (by walk_at "my sub")
            refine LCg.CompSrc.ledger (ax := pl) (its := pv.toArray) (k := pn) rfl kF kN2 (by k_mem) (by rw [sizeLine_eq, List.size_toArray]; omega) ?_
            intro g
            clear kN2
            (try clear kN kF); (try clear N8); (try clear F6)
            refine comp_ind (fun i ys nx => nx = ledW L o5 o6 o7 ps ++ ([(ga, listOf gv.toArray gn), (nl, listOf nv.toArray nn), (pl, listOf pv.toArray pn), (wl, listOf wv.toArray wn), (ca, listOf cv.toArray cn), (rl, listOf rv.toArray rn)] ++ tl) ∧ IntsAre ys ((cardL first gap n).take i)) ?hi ?turn2 ?fin2
            case hi => exact ⟨rfl, .nil⟩
            case turn2 =>
              intro i ys nx v I oI C oC D m₂ h7 tk7 E' hlt hJ hv hNs hx F5 N5 off ne
              obtain ⟨rfl, j1⟩ := hJ
              rw [List.size_toArray] at hlt
              (try dsimp only at hv)
              rw [List.getElem?_toArray] at hv
              obtain ⟨tv, ev⟩ := ints_get hpv i hlt
              rw [List.getD_eq_getElem?_getD, hv] at ev
              rw [nz_getD, pl_at (by omega)] at ev
              have ev' : v = .int ((it (gI gl) (t + 1) i : Nat) : Int) tv := ev
              subst ev'
              have hb1 := it_gI_lt hP (show i < gl.length by omega) (t + 1)
              simp only [List.cons_append, List.nil_append] at N5
              (try dsimp only)
              k_steps
              rename Fr _ _ _ _ => kF3
              rename News _ _ _ _ => kN3
              refine LCg.CompEnd.intro kF3 kN3 (ledW L o5 o6 o7 ps ++ ([(ga, listOf gv.toArray gn), (nl, listOf nv.toArray nn), (pl, listOf pv.toArray pn), (wl, listOf wv.toArray wn), (ca, listOf cv.toArray cn), (rl, listOf rv.toArray rn)] ++ tl)) (by walk_at "my sub") off (Or.inr ⟨_, by k_mem, rfl, _, rfl⟩) ⟨rfl, ?_⟩
              rw [Int.toNat_natCast, now_at hP (show i < gl.length by omega), card_next (by omega)]
              exact ints_snoc j1
            case fin2 =>
              rintro ys nx ⟨rfl, j1⟩
              rw [List.size_toArray, List.take_of_length_le (by rw [List.length_map, List.length_range]; omega)] at j1
              unfold LCg.FinE
              intro D9 h9 tk9 F9 N9 o9
              simp only [List.cons_append, List.nil_append] at N9
              clear o9
              (try dsimp only)
              have ma : MyMarkA := ⟨trivial⟩
              k_steps
              refine ⟨?_⟩
              refine cut_stmt (RLB h0 L s1 c gl first gap (t + 1) (if form = 1 then (n : Int) - 1 else (n : Int) + 1)) ?by1 ?next
              case by1 =>
                k_steps
                all_goals (try exact trivial)
                all_goals
                  rename Fr _ _ _ _ => kF7
                  rename News _ _ _ _ => kN7
                  refine' ⟨_, _, _, _, rfl, kF7, kst_newsOf kN7 (by walk_at "my sub"), ⟨pl, nl, pv, nv, pn, nn, _, o6, o7, ps, t1, t2, t3, t6, rfl, hT, rfl, rfl, m3, rfl, rfl, m6, rfl, c6, c7, hpv, hnv, hpa, hpf, hnf, hpo, fun p hp => List.mem_cons_of_mem _ hp, fun _ => rfl⟩, _, ?by2⟩
                  case by2 => first | (rw [(if_pos (by assumption) : (if form = 1 then (n : Int) - 1 else (n : Int) + 1) = (n : Int) - 1)]; rfl) | (rw [(if_neg (by assumption) : (if form = 1 then (n : Int) - 1 else (n : Int) + 1) = (n : Int) + 1)]; rfl)
              case next => 
                clear j1
                intro s4 hRLB
                (try dsimp only)
                have mi : MyMarkIf := ⟨trivial⟩
                k_steps
                refine ⟨?_⟩
                refine cut_stmt (RL h0 L s1 c gl first gap true (t + 1)) ?pw ?last
                case pw =>
                  obtain ⟨h8, tk8, m8, nx, rfl, F8, N8, ⟨pl, nl, pv, nv, pn, nn, tx, o6, o7, ps, t1, t2, t3, t6, rfl, hT, m1, m2, m3, m4, m5, m6, m7, c6, c7, hpv, hnv, hpa, hpf, hnf, hpo, hsub, hfr⟩, tb, m8⟩ := hRLB
                  have hfr := hfr rfl
                  subst hfr
                  dsimp only [c] at *
                  have F2 := fr_known F8 m1
                  have F3 := fr_known (x := Str.ofString "by") F2 ((if_neg (by decide)).trans m8)
                  have F4 := fr_known (x := Str.ofString "cards") F3 ((if_neg (by decide)).trans ((if_neg (by decide)).trans m4))
                  clear F8 F2 F3
                  have znv := hnv.length
                  rw [List.length_map, List.length_range] at znv
                  unfold keepL at N8
                  simp only [List.cons_append, List.nil_append] at N8
                  generalize hby : (if form = 1 then (n : Int) - 1 else (n : Int) + 1) = byv at *
                  have hby1 : 1 < byv := by rw [← hby]; split <;> omega
                  have hpw := pow_law (first := first) (gap := gap) (t := t + 1) hP hgl b5 b2 (by omega) hl1 hl2 b1' hby
                  k_steps
                  all_goals (try exact trivial)
                  all_goals (try exact Bool.noConfusion ((hpw (by omega)).symm.trans (by assumption)))
                  all_goals
                    rename Fr _ _ _ _ => kF7
                    rename News _ _ _ _ => kN7
                    refine' ⟨_, _, _, _, rfl, kF7, kst_newsOf kN7 (by walk_at "my sub"), ⟨pl, nl, pv, nv, pn, nn, _, o6, o7, ps, t1, t2, t3, t6, rfl, hT, rfl, m2, m3, rfl, m5, m6, m7, c6, c7, hpv, hnv, hpa, hpf, hnf, hpo, fun p hp => List.mem_cons_of_mem _ hp, fun _ => rfl⟩⟩
                case last =>
                  clear hRLB
                  intro s5 hRL
                  obtain ⟨h8, tk8, m8, nx, rfl, F8, N8, pl, nl, pv, nv, pn, nn, tx, o6, o7, ps, t1, t2, t3, t6, rfl, hT, m1, m2, m3, m4, m5, m6, m7, c6, c7, hpv, hnv, hpa, hpf, hnf, hpo, hsub, hfr⟩ := hRL
                  have hfr := hfr rfl
                  subst hfr
                  dsimp only [c] at *
                  have F2 := fr_known F8 m5
                  have F4 := fr_known (x := Str.ofString "cards") F2 ((if_neg (by decide)).trans m4)
                  clear F8 F2
                  unfold keepL at N8
                  simp only [List.cons_append, List.nil_append] at N8
                  have zr := hr.length
                  have zr2 : (rings gl).length ≤ _ := ringsUpto_len (gl := gl) gl.length
                  have mc : MyMarkC := ⟨trivial⟩
                  k_steps
                  refine ⟨?_⟩
                  rename News _ _ _ _ => kN
                  rename Fr _ _ _ _ => kF
                  have zrv : rv.length ≤ 1000 := by omega
                  have kN2 := kst_newsOf (l' := ledW L o5 o6 o7 ps ++ ([(ga, listOf gv.toArray gn), (nl, listOf nv.toArray nn), (pl, listOf pv.toArray pn), (wl, listOf wv.toArray wn), (ca, listOf cv.toArray cn), (rl, listOf rv.toArray rn)] ++ tl)) kN (by walk_at "my sub")
                  refine LCt.CompSrcT.ledger (ax := rl) (its := rv.toArray) (k := rn) rfl kF kN2 (by k_mem) (by rw [sizeLine_eq, List.size_toArray]; omega) ?_
                  intro g
                  clear kN2
                  (try clear kN kF); (try clear N8); (try clear F4)
                  refine compT_ind (fun i ys nx => nx = ledW L o5 o6 o7 ps ++ ([(ga, listOf gv.toArray gn), (nl, listOf nv.toArray nn), (pl, listOf pv.toArray pn), (wl, listOf wv.toArray wn), (ca, listOf cv.toArray cn), (rl, listOf rv.toArray rn)] ++ tl) ∧ DivAre ((rings gl).take i) (t + 1) ys) ?hi3 ?turn3 ?fin3
                  case hi3 => exact ⟨rfl, div_nil⟩
                  case turn3 =>
                    intro i ys nx v I oI C oC D m₂ h7 tk7 E' hlt hJ hv hNs hx F5 N5 off ne
                    obtain ⟨rfl, j1⟩ := hJ
                    (try dsimp only at hv)
                    rw [List.getElem?_toArray] at hv
                    obtain ⟨d, ivs, c9, r, hri, rfl, hdm, hiv⟩ := hr.get hv
                    have zi : ivs.length = r.length := by rw [hiv.length, nz_length]
                    obtain ⟨zj, zk⟩ := rings_pos hP (List.mem_of_getElem? hri)
                    have zm : r.length ≤ 100 := by omega
                    simp only [List.cons_append, List.nil_append] at N5
                    (try dsimp only)
                    k_steps
                    · rename _ ≠ (0 : Int) => hne
                      rw [fmod_div zj] at hne
                      refine LCg.CompEnd.intro F5 N5 (ledW L o5 o6 o7 ps ++ ([(ga, listOf gv.toArray gn), (nl, listOf nv.toArray nn), (pl, listOf pv.toArray pn), (wl, listOf wv.toArray wn), (ca, listOf cv.toArray cn), (rl, listOf rv.toArray rn)] ++ tl)) (by walk_at "my sub") off (Or.inr ⟨_, by k_mem, rfl, _, rfl⟩) ⟨rfl, div_snoc hri ?_⟩
                      omega
                    · rename _ = (0 : Int) => hne
                      rw [fmod_div zj] at hne
                      refine LCg.CompEnd.intro F5 N5 (ledW L o5 o6 o7 ps ++ ([(ga, listOf gv.toArray gn), (nl, listOf nv.toArray nn), (pl, listOf pv.toArray pn), (wl, listOf wv.toArray wn), (ca, listOf cv.toArray cn), (rl, listOf rv.toArray rn)] ++ tl)) (by walk_at "my sub") off (Or.inr ⟨_, by k_mem, rfl, _, rfl⟩) ⟨rfl, div_keep j1 hri ?_⟩
                      omega
                  case fin3 =>
                    rintro ys nx ⟨rfl, j1⟩
                    rw [List.size_toArray, zr, List.take_length] at j1
                    unfold LCg.FinE
                    intro D9 h9 tk9 F9 N9 o9
                    simp only [List.cons_append, List.nil_append] at N9
                    clear o9
                    (try dsimp only)
                    have hlaw := ring_law (first := first) hP hgl b5 j1
                    k_steps
                    rename Fr _ _ _ _ => kF7
                    rename News _ _ _ _ => kN7
                    refine ⟨_, _, _, _, 41 - (t + 1), rfl, kF7, kst_newsOf kN7 (by walk_at "my sub"), by omega, t + 1, by omega, rfl, pl, nl, pv, nv, pn, nn, _, o6, o7, ps, t1, t2, t3, t6, rfl, hT, m1, m2, m3, rfl, rfl, m6, m7, c6, c7, hpv, hnv, hpa, hpf, hnf, hpo, fun p hp => List.mem_cons_of_mem _ hp, fun h => nomatch h⟩
  intro s hR9
  (try dsimp only)
  have ma : MyMarkA := ⟨trivial⟩
  k_steps
  refine ⟨?_⟩
  refine cut_stmt (RF0 h0 L s1) ?r10 ?_
  case r10 =>
    obtain ⟨h, tk, m, ca, cv, cn, first, gap, goal, n, t2, t3, o6, ps, v6, rfl, F1, N1, hT, m2, m3, m4, c6, b2, ⟨b3, b3'⟩, b5, b4, hc, fc⟩ := hR9
    obtain ⟨g, rfl⟩ : ∃ g : Nat, goal = (g : Int) := ⟨goal.toNat, by omega⟩
    have F2 := fr_known F1 m3
    clear F1
    k_steps
    all_goals (try exact trivial)
    rename Fr _ _ _ _ => kF
    rename News _ _ _ _ => kN
    have hbits : ([] : List (Nat × Nat)).length + 110 * bits g ≤ 440 := by rw [List.length_nil, Nat.zero_add]; exact bits_le _ (by omega)
    refine ⟨⟨ca, cv, cn, first, gap, g, n⟩, ⟨b2, by dsimp only; omega, b5, b4, hc, fc⟩, _, _, _, _, rfl, kF, kst_newsOf kN (by walk_at "my sub"), _, [], _, [], id, o6, ps, v6, t2, t3, _, rfl, hT, m2, rfl, m4, rfl, rfl, c6, .nil, Carry.nil, rfl, hbits, by dsimp only; omega, ?_, ?_, ?_⟩
    all_goals k_ne
  clear hR9
  rintro s ⟨c, hCFF, hRF⟩
  (try dsimp only)
  k_steps
  refine ⟨?_⟩
  refine cut_stmt (RF h0 L s1 c 0) ?r11 ?_
  case r11 =>
    obtain ⟨b2, hgn, ⟨b5, b5'⟩, ⟨b4, b4'⟩, hc, fc1, fc2⟩ := hCFF
    rcases c with ⟨ca, cv, cn, first, gap, g, n⟩
    dsimp only at *
    have hn10 : 4 ≤ n ∧ n ≤ 10 := by omega
    let c : FC := ⟨ca, cv, cn, first, gap, g, n⟩
    obtain ⟨h, tk, m, nx, rfl, F1, N1, hJ⟩ := hRF
    refine' While_inv2 (n₀ := g) (fun q m nx => JF L c q m nx) F1 (kst_newsOf N1 (fun _ h => h)) hJ ?turn
    case turn =>
      clear hJ N1 F1
      intro f m9 nx h9 tk9 F9 N9 hJ
      obtain ⟨wl, wv, wn, mv, σ, o6, ps, v6, t2, t3, t4, rfl, hT, m2, m3, m4, m5, m6, c6, hw, hC, hs, hlen, hf, ⟨fw1, fw2, fw3⟩⟩ := hJ
      dsimp only [c] at *
      have F2 := fr_known F9 m2
      have F3 := fr_known (x := Str.ofString "words") F2 ((if_neg (by decide)).trans m5)
      have F4 := fr_known (x := Str.ofString "figures") F3 ((if_neg (by decide)).trans ((if_neg (by decide)).trans m6))
      clear F9 F2 F3
      k_steps
      · refine ⟨?_⟩
        intro r chg new h' tk' F' N' o' hp
        obtain ⟨ga, gv, gn, rfl, hg, rfl, rfl⟩ := hp
        simp only [List.cons_append, List.nil_append, Mine.off_cons, Mine.off_nil, List.forall_mem_cons, and_true] at N' o'
        obtain ⟨hP, hgl⟩ := inner_perm b2
        rw [inner_eq b2] at hg
        walk_at "my split"
        k_steps
        refine ⟨?_⟩
        intro r chg new h' tk' F' N' o' hp
        obtain ⟨xl, xv, xn, rfl, hx, rfl, rfl⟩ := hp
        simp only [List.cons_append, List.nil_append, Mine.off_cons, Mine.off_nil, List.forall_mem_cons, and_true] at N' o'
        walk_at "my split"
        have z1 := encs_len (l := mv)
        have z2 := encs_len (l := movesOf (innerL n).length (rings (innerL n)))
        have z3 := moves_few hP (by omega)
        have hhalf : hI (innerL n) f = f / 2 := half_in b2 f hf (by omega) (by have := fmod2 (f := f); omega)
        obtain ⟨n1, n2, n3⟩ := hC.next hP hgl hs (by omega) (by omega) hlen (by omega) hhalf
        k_steps
        rename News _ _ _ _ => kN
        rename Fr _ _ _ _ => kF
        rename IntsAre _ _ => hI9
        rename _ = encs _ ++ encs mv => he9
        rw [he9, encs_append] at hI9
        walk_at "my split"
        refine ⟨_, _, _, _, f / 2, rfl, kF, kst_newsOf kN (by walk_at "my sub"), by omega, _, _, _, movesOf (innerL n).length (rings (innerL n)) ++ mv, fun y => hI (innerL n) (σ y), o6, ps, v6, t2, t3, _, rfl, hT, rfl, m3, m4, rfl, (by show some (Value.int ((f : Int).fdiv 2) _) = _; rw [fdiv2]), c6, hI9, n1, n2, n3, by (try dsimp only); omega, ?_, ?_, ?_⟩
        all_goals k_ne
      · refine ⟨?_⟩
        intro r chg new h' tk' F' N' o' hp
        obtain ⟨ga, gv, gn, rfl, hg, rfl, rfl⟩ := hp
        simp only [List.cons_append, List.nil_append, Mine.off_cons, Mine.off_nil, List.forall_mem_cons, and_true] at N' o'
        obtain ⟨hP, hgl⟩ := outer_perm b2
        rw [outer_eq b2] at hg
        walk_at "my split"
        k_steps
        refine ⟨?_⟩
        intro r chg new h' tk' F' N' o' hp
        obtain ⟨xl, xv, xn, rfl, hx, rfl, rfl⟩ := hp
        simp only [List.cons_append, List.nil_append, Mine.off_cons, Mine.off_nil, List.forall_mem_cons, and_true] at N' o'
        walk_at "my split"
        have z1 := encs_len (l := mv)
        have z2 := encs_len (l := movesOf (outerL n).length (rings (outerL n)))
        have z3 := moves_few hP (by omega)
        have hhalf : hI (outerL n) f = f / 2 := half_out b2 f hf (by omega) (by have := fmod2 (f := f); omega)
        obtain ⟨n1, n2, n3⟩ := hC.next hP hgl hs (by omega) (by omega) hlen (by omega) hhalf
        k_steps
        rename News _ _ _ _ => kN
        rename Fr _ _ _ _ => kF
        rename IntsAre _ _ => hI9
        rename _ = encs _ ++ encs mv => he9
        rw [he9, encs_append] at hI9
        walk_at "my split"
        refine ⟨_, _, _, _, f / 2, rfl, kF, kst_newsOf kN (by walk_at "my sub"), by omega, _, _, _, movesOf (outerL n).length (rings (outerL n)) ++ mv, fun y => hI (outerL n) (σ y), o6, ps, v6, t2, t3, _, rfl, hT, rfl, m3, m4, rfl, (by show some (Value.int ((f : Int).fdiv 2) _) = _; rw [fdiv2]), c6, hI9, n1, n2, n3, by (try dsimp only); omega, ?_, ?_, ?_⟩
        all_goals k_ne
      · rename News _ _ _ _ => kN
        rename Fr _ _ _ _ => kF
        obtain rfl : f = 0 := by omega
        refine ⟨_, _, _, _, rfl, kF, kst_newsOf kN (by walk_at "my sub"), wl, wv, wn, mv, σ, o6, ps, v6, t2, t3, t4, rfl, hT, rfl, m3, m4, rfl, rfl, c6, hw, hC, hs, hlen, hf, fw1, fw2, fw3⟩
  clear hRF
  intro s hRF
  obtain ⟨b2, hgn, ⟨b5, b5'⟩, ⟨b4, b4'⟩, hc, fc1, fc2⟩ := hCFF
  rcases c with ⟨ca, cv, cn, first, gap, g, n⟩
  obtain ⟨h, tk, m, nx, rfl, F1, N1, wl, wv, wn, mv, σ, o6, ps, v6, t2, t3, t4, rfl, hT, m2, m3, m4, m5, m6, c6, hw, hC, hs, hlen, hf, fw1, fw2, fw3⟩ := hRF
  dsimp only at *
  have F2 := fr_known F1 m3
  have F3 := fr_known (x := Str.ofString "words") F2 ((if_neg (by decide)).trans m5)
  have F4 := fr_known (x := Str.ofString "cards") F3 ((if_neg (by decide)).trans ((if_neg (by decide)).trans m4))
  clear F1 F2 F3
  have hn10 : 4 ≤ n ∧ n ≤ 10 := by omega
  have zn : (cardL first gap n).length = n := by rw [List.length_map, List.length_range]
  k_steps
  refine ⟨?_⟩
  k_dflt (refine' CSpec.use ?B ?F ?X ?N ?T ?P (run_walk (mv := mv) hw hc ?c1 ?c2 ?c3 ?ab ?a5 ?b5 hT) ?hk ?ho ?hd ?hu ?_)
  (case B => k_asm); (case F => k_asm); (case X => k_asm); (case N => k_asm); (case T => k_asm); (case P => walk_at "my pick")
  case c1 => omega
  case c2 => omega
  case c3 => rw [zn]; exact hC.le
  (case ab => k_ne); (case a5 => k_ne); (case b5 => k_ne)
  (case hk => first | exact rfl | assumption)
  (case ho => walk_at "my off"); (case hd => ktr_room); (case hu => ktr_units)
  k_whole
  intro r chg new h6 tk6 F6 N6 o6x hp
  obtain ⟨R, rn2, ps2, rfl, hT2, rfl, rfl⟩ := hp
  simp only [List.cons_append, List.nil_append] at N6
  simp only [List.forall_mem_cons, List.cons_append, List.nil_append, Mine.off_cons, Mine.off_append] at o6x
  obtain ⟨o6y, -⟩ := o6x
  walk_at "my split"
  have hnow := hC.ints hc
  have hnl := hnow.length
  obtain ⟨hm1, hm2⟩ := hC.found (first := first) b5 hgn hs
  k_steps
  have hcz : (cardL first gap n).getD (Int.toNat 0) 0 = first := card_zero (by omega)
  rw [hcz]
  rename News _ _ _ _ => kN
  refine idx_ints kN (by k_mem) hnow hm1 (by rw [List.length_map, List.length_range]; omega) ?_
  intro u9
  rw [hm2]
  k_steps
  rename Fr _ _ _ _ => kF
  exact ⟨by rw [beq_self_eq_true], _, _, _, ps2, [], rfl, kF, kst_newsOf kN (by walk_at "my sub"), hT2⟩)

end
end
end Mine
theorem PySem.Challenge.cw_xm0628_01_holds : PySem.Challenge.rw_xm0628_01.Holds := by
  exact Mine.foo
